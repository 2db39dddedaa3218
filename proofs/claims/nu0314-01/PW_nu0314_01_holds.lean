import PyProof.Rows.All
import Wide.All
import OpenK.AllK
import Wide.FinOn
import PySem.Challenge.RW_nu0314_01
open PySem PySem.W PyProof.Rows
set_option Elab.async false
set_option maxRecDepth 100000
set_option maxHeartbeats 8000000
set_option compiler.extract_closed false
namespace Mine
noncomputable def hd.view_39 : Program := by
  refine (?f : ∀ s0 s1 s2 s3 s4 s5 s6 s7 s8 s9 s10 s11 s12 s13 s14 s15 : Stmt, Challenge.pw_nu0314_01.main.body = [s0, s1, s2, s3, s4, s5, s6, s7, s8, s9, s10, s11, s12, s13, s14, s15] → Program) _ _ _ _ _ _ _ _ _ _ _ _ _ _ _ _ rfl
  exact fun s0 s1 s2 s3 s4 s5 s6 s7 s8 s9 s10 s11 s12 s13 s14 s15 _ => { Challenge.pw_nu0314_01 with main := { Challenge.pw_nu0314_01.main with body := [s1, s2, s3, s4, s6, s7, s8, s10, s11, s12, s13, s14, s15] } }
noncomputable def hd.heap_39 : Params → Frag := by
  refine (?f : ∀ (p0 : Arguments) (b0 : List Stmt) (s0 : Scope) (p1 : Arguments) (b1 : List Stmt) (s1 : Scope) (p2 : Arguments) (b2 : List Stmt) (s2 : Scope) (p3 : Arguments) (b3 : List Stmt) (s3 : Scope) (p4 : Arguments) (b4 : List Stmt) (s4 : Scope) (p5 : Arguments) (b5 : List Stmt) (s5 : Scope) (p6 : Arguments) (b6 : List Stmt) (s6 : Scope) (p7 : Arguments) (b7 : List Stmt) (s7 : Scope) (p8 : Arguments) (b8 : List Stmt) (s8 : Scope) (p9 : Arguments) (b9 : List Stmt) (s9 : Scope) (p10 : Arguments) (b10 : List Stmt) (s10 : Scope) (p11 : Arguments) (b11 : List Stmt) (s11 : Scope) (p12 : Arguments) (b12 : List Stmt) (s12 : Scope) (p13 : Arguments) (b13 : List Stmt) (s13 : Scope) (x1 : Stmt) (x2 : Str) (x3 : List Expr) (x4 : Option Expr) (x5 : List TypeParam) (x6 : Option Scope) (x7 : Str) (x8 : Pos) (x9 : Str) (x10 : List Expr) (x11 : Option Expr) (x12 : List TypeParam) (x13 : Option Scope) (x14 : Str) (x15 : Pos) (x16 : Str) (x17 : List Expr) (x18 : Option Expr) (x19 : List TypeParam) (x20 : Option Scope) (x21 : Str) (x22 : Pos) (x23 : Str) (x24 : List Expr) (x25 : Option Expr) (x26 : List TypeParam) (x27 : Option Scope) (x28 : Str) (x29 : Pos) (x30 : Stmt) (x31 : Str) (x32 : List Expr) (x33 : List Keyword) (x34 : Str) (x35 : List Expr) (x36 : Option Expr) (x37 : List TypeParam) (x38 : Option Scope) (x39 : Str) (x40 : Pos) (x41 : List Expr) (x42 : List TypeParam) (x43 : Scope) (x44 : Option Scope) (x45 : Str) (x46 : List Str) (x47 : Pos) (x48 : Str) (x49 : List Expr) (x50 : List Keyword) (x51 : Str) (x52 : List Expr) (x53 : Option Expr) (x54 : List TypeParam) (x55 : Option Scope) (x56 : Str) (x57 : Pos) (x58 : List Expr) (x59 : List TypeParam) (x60 : Scope) (x61 : Option Scope) (x62 : Str) (x63 : List Str) (x64 : Pos) (x65 : Str) (x66 : List Expr) (x67 : List Keyword) (x68 : Str) (x69 : List Expr) (x70 : Option Expr) (x71 : List TypeParam) (x72 : Option Scope) (x73 : Str) (x74 : Pos) (x75 : Str) (x76 : List Expr) (x77 : Option Expr) (x78 : List TypeParam) (x79 : Option Scope) (x80 : Str) (x81 : Pos) (x82 : Str) (x83 : List Expr) (x84 : Option Expr) (x85 : List TypeParam) (x86 : Option Scope) (x87 : Str) (x88 : Pos) (x89 : List Expr) (x90 : List TypeParam) (x91 : Scope) (x92 : Option Scope) (x93 : Str) (x94 : List Str) (x95 : Pos) (x96 : Stmt) (x97 : Str) (x98 : List Expr) (x99 : Option Expr) (x100 : List TypeParam) (x101 : Option Scope) (x102 : Str) (x103 : Pos) (x104 : Str) (x105 : List Expr) (x106 : Option Expr) (x107 : List TypeParam) (x108 : Option Scope) (x109 : Str) (x110 : Pos) (x111 : Str) (x112 : List Expr) (x113 : Option Expr) (x114 : List TypeParam) (x115 : Option Scope) (x116 : Str) (x117 : Pos) (x118 : Stmt) (x119 : Str) (x120 : List Expr) (x121 : Option Expr) (x122 : List TypeParam) (x123 : Option Scope) (x124 : Str) (x125 : Pos) (x126 : Str) (x127 : List Expr) (x128 : Option Expr) (x129 : List TypeParam) (x130 : Option Scope) (x131 : Str) (x132 : Pos), Challenge.pw_nu0314_01.main.body = [x1, .FunctionDef x2 p0 b0 x3 x4 x5 s0 x6 x7 x8, .FunctionDef x9 p1 b1 x10 x11 x12 s1 x13 x14 x15, .FunctionDef x16 p2 b2 x17 x18 x19 s2 x20 x21 x22, .FunctionDef x23 p3 b3 x24 x25 x26 s3 x27 x28 x29, x30, .ClassDef x31 x32 x33 [.FunctionDef x34 p4 b4 x35 x36 x37 s4 x38 x39 x40] x41 x42 x43 x44 x45 x46 x47, .ClassDef x48 x49 x50 [.FunctionDef x51 p5 b5 x52 x53 x54 s5 x55 x56 x57] x58 x59 x60 x61 x62 x63 x64, .ClassDef x65 x66 x67 [.FunctionDef x68 p6 b6 x69 x70 x71 s6 x72 x73 x74, .FunctionDef x75 p7 b7 x76 x77 x78 s7 x79 x80 x81, .FunctionDef x82 p8 b8 x83 x84 x85 s8 x86 x87 x88] x89 x90 x91 x92 x93 x94 x95, x96, .FunctionDef x97 p9 b9 x98 x99 x100 s9 x101 x102 x103, .FunctionDef x104 p10 b10 x105 x106 x107 s10 x108 x109 x110, .FunctionDef x111 p11 b11 x112 x113 x114 s11 x115 x116 x117, x118, .FunctionDef x119 p12 b12 x120 x121 x122 s12 x123 x124 x125, .FunctionDef x126 p13 b13 x127 x128 x129 s13 x130 x131 x132] → Params → Frag) _ _ _ _ _ _ _ _ _ _ _ _ _ _ _ _ _ _ _ _ _ _ _ _ _ _ _ _ _ _ _ _ _ _ _ _ _ _ _ _ _ _ _ _ _ _ _ _ _ _ _ _ _ _ _ _ _ _ _ _ _ _ _ _ _ _ _ _ _ _ _ _ _ _ _ _ _ _ _ _ _ _ _ _ _ _ _ _ _ _ _ _ _ _ _ _ _ _ _ _ _ _ _ _ _ _ _ _ _ _ _ _ _ _ _ _ _ _ _ _ _ _ _ _ _ _ _ _ _ _ _ _ _ _ _ _ _ _ _ _ _ _ _ _ _ _ _ _ _ _ _ _ _ _ _ _ _ _ _ _ _ _ _ _ _ _ _ _ _ _ _ _ _ _ rfl
  exact fun p0 b0 s0 p1 b1 s1 p2 b2 s2 p3 b3 s3 p4 b4 s4 p5 b5 s5 p6 b6 s6 p7 b7 s7 p8 b8 s8 p9 b9 s9 p10 b10 s10 p11 b11 s11 p12 b12 s12 p13 b13 s13 _ _ _ _ _ _ _ _ _ _ _ _ _ _ _ _ _ _ _ _ _ _ _ _ _ _ _ _ _ _ _ _ _ _ _ _ _ _ _ _ _ _ _ _ _ _ _ _ _ _ _ _ _ _ _ _ _ _ _ _ _ _ _ _ _ _ _ _ _ _ _ _ _ _ _ _ _ _ _ _ _ _ _ _ _ _ _ _ _ _ _ _ _ _ _ _ _ _ _ _ _ _ _ _ _ _ _ _ _ _ _ _ _ _ _ _ _ _ _ _ _ _ _ _ _ _ _ _ _ _ _ _ _ P =>
((nat_lit 2), (Obj.mk Value.none none (Data.dict (List.toArray []) 0) (List.toArray []))) ::
((nat_lit 3), (Obj.mk (Value.type "dict") none (Data.dict (List.toArray [(DictEntry.mk (PyData.keyHash P (Str.ofString "__name__")) (Value.str (Str.ofString "__name__") 165) (Value.str (Str.ofString "law_nu0314_01") 370)), (DictEntry.mk (PyData.keyHash P (Str.ofString "__doc__")) (Value.str (Str.ofString "__doc__") 166) Value.none), (DictEntry.mk (PyData.keyHash P (Str.ofString "__package__")) (Value.str (Str.ofString "__package__") 167) Value.none), (DictEntry.mk (PyData.keyHash P (Str.ofString "__loader__")) (Value.str (Str.ofString "__loader__") 168) (Value.builtin "__main__.__loader__#opaque")), (DictEntry.mk (PyData.keyHash P (Str.ofString "__spec__")) (Value.str (Str.ofString "__spec__") 169) Value.none), (DictEntry.mk (PyData.keyHash P (Str.ofString "__annotations__")) (Value.str (Str.ofString "__annotations__") 170) (Value.ref 6)), (DictEntry.mk (PyData.keyHash P (Str.ofString "__builtins__")) (Value.str (Str.ofString "__builtins__") 171) (Value.ref 4)), (DictEntry.mk (PyData.keyHash P (Str.ofString "__file__")) (Value.str (Str.ofString "__file__") 173) (Value.str (Str.ofString "/claim/cut.py") 172)), (DictEntry.mk (PyData.keyHash P (Str.ofString "__cached__")) (Value.str (Str.ofString "__cached__") 174) Value.none), (DictEntry.mk (PyData.keyHash P (Str.ofString "same_type")) (Value.str (Str.ofString "same_type") 196) (Value.ref 21)), (DictEntry.mk (PyData.keyHash P (Str.ofString "record_of")) (Value.str (Str.ofString "record_of") 203) (Value.ref 28)), (DictEntry.mk (PyData.keyHash P (Str.ofString "extends")) (Value.str (Str.ofString "extends") 213) (Value.ref 35)), (DictEntry.mk (PyData.keyHash P (Str.ofString "chain_of")) (Value.str (Str.ofString "chain_of") 221) (Value.ref 42)), (DictEntry.mk (PyData.keyHash P (Str.ofString "Type")) (Value.str (Str.ofString "Type") 265) (Value.ref 59)), (DictEntry.mk (PyData.keyHash P (Str.ofString "Obj")) (Value.str (Str.ofString "Obj") 310) (Value.ref 80)), (DictEntry.mk (PyData.keyHash P (Str.ofString "Types")) (Value.str (Str.ofString "Types") 369) (Value.ref 116)), (DictEntry.mk (PyData.keyHash P (Str.ofString "_law_pool")) (Value.str (Str.ofString "_law_pool") 384) (Value.ref 127)), (DictEntry.mk (PyData.keyHash P (Str.ofString "_law_pick")) (Value.str (Str.ofString "_law_pick") 393) (Value.ref 134)), (DictEntry.mk (PyData.keyHash P (Str.ofString "_law_world")) (Value.str (Str.ofString "_law_world") 414) (Value.ref 141)), (DictEntry.mk (PyData.keyHash P (Str.ofString "_law_alike")) (Value.str (Str.ofString "_law_alike") 427) (Value.ref 148)), (DictEntry.mk (PyData.keyHash P (Str.ofString "_law_above")) (Value.str (Str.ofString "_law_above") 438) (Value.ref 155)), (DictEntry.mk (PyData.keyHash P (Str.ofString "law")) (Value.str (Str.ofString "law") 444) (Value.ref 160))]) 22) (List.toArray []))) ::
((nat_lit 15), (Obj.mk (Value.type "tuple") none (Data.seq (List.toArray []) 0) (List.toArray []))) ::
((nat_lit 17), (Obj.mk (Value.type "tuple") none (Data.seq (List.toArray [(Value.str (Str.ofString "a") 192), (Value.str (Str.ofString "b") 193)]) 0) (List.toArray []))) ::
((nat_lit 18), (Obj.mk (Value.type "tuple") none (Data.seq (List.toArray []) 0) (List.toArray []))) ::
((nat_lit 20), (Obj.mk (Value.type "code") none (Data.fields (List.toArray [(Value.str (Str.ofString "same_type") 189), (Value.str (Str.ofString "same_type") 190), (Value.str (Str.ofString "/claim/cut.py") 191), (Value.int (@OfNat.ofNat Int (nat_lit 2) (@instOfNat (nat_lit 2))) 0), (Value.int (@OfNat.ofNat Int (nat_lit 2) (@instOfNat (nat_lit 2))) 0), (Value.int (@OfNat.ofNat Int (nat_lit 0) (@instOfNat (nat_lit 0))) 0), (Value.int (@OfNat.ofNat Int (nat_lit 0) (@instOfNat (nat_lit 0))) 0), (Value.int (@OfNat.ofNat Int (nat_lit 3) (@instOfNat (nat_lit 3))) 0), (Value.ref 15), (Value.bool Bool.true), (Value.int (@OfNat.ofNat Int (nat_lit 181) (@instOfNat (nat_lit 181))) 0), (Value.ref 16), Value.none, (Value.ref 17), (Value.ref 18), (Value.ref 19), (Value.int (@OfNat.ofNat Int (nat_lit 194) (@instOfNat (nat_lit 194))) 0), (Value.int (@OfNat.ofNat Int (nat_lit 2) (@instOfNat (nat_lit 2))) 0), (Value.str (Str.ofString "/claim/cut.py") 195)])) (List.toArray []))) ::
((nat_lit 21), (Obj.mk (Value.type "function") none (Data.func (FuncData.mk (Str.ofString "same_type") (Str.ofString "same_type") p0 (FuncBody.stmts b0) s0 3 [] Value.none Value.none Value.none (Value.str (Str.ofString "moduleyard.typerel") 187) none (Value.ref 20) Value.none 0)) (List.toArray []))) ::
((nat_lit 22), (Obj.mk (Value.type "tuple") none (Data.seq (List.toArray []) 0) (List.toArray []))) ::
((nat_lit 24), (Obj.mk (Value.type "tuple") none (Data.seq (List.toArray [(Value.str (Str.ofString "t") 200)]) 0) (List.toArray []))) ::
((nat_lit 25), (Obj.mk (Value.type "tuple") none (Data.seq (List.toArray []) 0) (List.toArray []))) ::
((nat_lit 27), (Obj.mk (Value.type "code") none (Data.fields (List.toArray [(Value.str (Str.ofString "record_of") 197), (Value.str (Str.ofString "record_of") 198), (Value.str (Str.ofString "/claim/cut.py") 199), (Value.int (@OfNat.ofNat Int (nat_lit 4) (@instOfNat (nat_lit 4))) 0), (Value.int (@OfNat.ofNat Int (nat_lit 1) (@instOfNat (nat_lit 1))) 0), (Value.int (@OfNat.ofNat Int (nat_lit 0) (@instOfNat (nat_lit 0))) 0), (Value.int (@OfNat.ofNat Int (nat_lit 0) (@instOfNat (nat_lit 0))) 0), (Value.int (@OfNat.ofNat Int (nat_lit 3) (@instOfNat (nat_lit 3))) 0), (Value.ref 22), (Value.bool Bool.true), (Value.int (@OfNat.ofNat Int (nat_lit 181) (@instOfNat (nat_lit 181))) 0), (Value.ref 23), Value.none, (Value.ref 24), (Value.ref 25), (Value.ref 26), (Value.int (@OfNat.ofNat Int (nat_lit 201) (@instOfNat (nat_lit 201))) 0), (Value.int (@OfNat.ofNat Int (nat_lit 4) (@instOfNat (nat_lit 4))) 0), (Value.str (Str.ofString "/claim/cut.py") 202)])) (List.toArray []))) ::
((nat_lit 28), (Obj.mk (Value.type "function") none (Data.func (FuncData.mk (Str.ofString "record_of") (Str.ofString "record_of") p1 (FuncBody.stmts b1) s1 3 [] Value.none Value.none Value.none (Value.str (Str.ofString "moduleyard.typerel") 187) none (Value.ref 27) Value.none 0)) (List.toArray []))) ::
((nat_lit 29), (Obj.mk (Value.type "tuple") none (Data.seq (List.toArray []) 0) (List.toArray []))) ::
((nat_lit 31), (Obj.mk (Value.type "tuple") none (Data.seq (List.toArray [(Value.str (Str.ofString "a") 207), (Value.str (Str.ofString "b") 208), (Value.str (Str.ofString "one") 209), (Value.str (Str.ofString "wanted") 210)]) 0) (List.toArray []))) ::
((nat_lit 32), (Obj.mk (Value.type "tuple") none (Data.seq (List.toArray []) 0) (List.toArray []))) ::
((nat_lit 34), (Obj.mk (Value.type "code") none (Data.fields (List.toArray [(Value.str (Str.ofString "extends") 204), (Value.str (Str.ofString "extends") 205), (Value.str (Str.ofString "/claim/cut.py") 206), (Value.int (@OfNat.ofNat Int (nat_lit 10) (@instOfNat (nat_lit 10))) 0), (Value.int (@OfNat.ofNat Int (nat_lit 2) (@instOfNat (nat_lit 2))) 0), (Value.int (@OfNat.ofNat Int (nat_lit 0) (@instOfNat (nat_lit 0))) 0), (Value.int (@OfNat.ofNat Int (nat_lit 0) (@instOfNat (nat_lit 0))) 0), (Value.int (@OfNat.ofNat Int (nat_lit 3) (@instOfNat (nat_lit 3))) 0), (Value.ref 29), (Value.bool Bool.true), (Value.int (@OfNat.ofNat Int (nat_lit 181) (@instOfNat (nat_lit 181))) 0), (Value.ref 30), Value.none, (Value.ref 31), (Value.ref 32), (Value.ref 33), (Value.int (@OfNat.ofNat Int (nat_lit 211) (@instOfNat (nat_lit 211))) 0), (Value.int (@OfNat.ofNat Int (nat_lit 10) (@instOfNat (nat_lit 10))) 0), (Value.str (Str.ofString "/claim/cut.py") 212)])) (List.toArray []))) ::
((nat_lit 35), (Obj.mk (Value.type "function") none (Data.func (FuncData.mk (Str.ofString "extends") (Str.ofString "extends") p2 (FuncBody.stmts b2) s2 3 [] Value.none Value.none Value.none (Value.str (Str.ofString "moduleyard.typerel") 187) none (Value.ref 34) Value.none 0)) (List.toArray []))) ::
((nat_lit 36), (Obj.mk (Value.type "tuple") none (Data.seq (List.toArray []) 0) (List.toArray []))) ::
((nat_lit 38), (Obj.mk (Value.type "tuple") none (Data.seq (List.toArray [(Value.str (Str.ofString "record") 217), (Value.str (Str.ofString "found") 218)]) 0) (List.toArray []))) ::
((nat_lit 39), (Obj.mk (Value.type "tuple") none (Data.seq (List.toArray []) 0) (List.toArray []))) ::
((nat_lit 41), (Obj.mk (Value.type "code") none (Data.fields (List.toArray [(Value.str (Str.ofString "chain_of") 214), (Value.str (Str.ofString "chain_of") 215), (Value.str (Str.ofString "/claim/cut.py") 216), (Value.int (@OfNat.ofNat Int (nat_lit 22) (@instOfNat (nat_lit 22))) 0), (Value.int (@OfNat.ofNat Int (nat_lit 1) (@instOfNat (nat_lit 1))) 0), (Value.int (@OfNat.ofNat Int (nat_lit 0) (@instOfNat (nat_lit 0))) 0), (Value.int (@OfNat.ofNat Int (nat_lit 0) (@instOfNat (nat_lit 0))) 0), (Value.int (@OfNat.ofNat Int (nat_lit 3) (@instOfNat (nat_lit 3))) 0), (Value.ref 36), (Value.bool Bool.true), (Value.int (@OfNat.ofNat Int (nat_lit 181) (@instOfNat (nat_lit 181))) 0), (Value.ref 37), Value.none, (Value.ref 38), (Value.ref 39), (Value.ref 40), (Value.int (@OfNat.ofNat Int (nat_lit 219) (@instOfNat (nat_lit 219))) 0), (Value.int (@OfNat.ofNat Int (nat_lit 22) (@instOfNat (nat_lit 22))) 0), (Value.str (Str.ofString "/claim/cut.py") 220)])) (List.toArray []))) ::
((nat_lit 42), (Obj.mk (Value.type "function") none (Data.func (FuncData.mk (Str.ofString "chain_of") (Str.ofString "chain_of") p3 (FuncBody.stmts b3) s3 3 [] Value.none Value.none Value.none (Value.str (Str.ofString "moduleyard.typerel") 187) none (Value.ref 41) Value.none 0)) (List.toArray []))) ::
((nat_lit 50), (Obj.mk (Value.type "tuple") none (Data.seq (List.toArray []) 0) (List.toArray []))) ::
((nat_lit 52), (Obj.mk (Value.type "tuple") none (Data.seq (List.toArray [(Value.str (Str.ofString "self") 239), (Value.str (Str.ofString "number") 240), (Value.str (Str.ofString "form") 241), (Value.str (Str.ofString "size") 242)]) 0) (List.toArray []))) ::
((nat_lit 53), (Obj.mk (Value.type "tuple") none (Data.seq (List.toArray []) 0) (List.toArray []))) ::
((nat_lit 55), (Obj.mk (Value.type "code") none (Data.fields (List.toArray [(Value.str (Str.ofString "__init__") 236), (Value.str (Str.ofString "Type.__init__") 237), (Value.str (Str.ofString "/claim/cut.py") 238), (Value.int (@OfNat.ofNat Int (nat_lit 32) (@instOfNat (nat_lit 32))) 0), (Value.int (@OfNat.ofNat Int (nat_lit 4) (@instOfNat (nat_lit 4))) 0), (Value.int (@OfNat.ofNat Int (nat_lit 0) (@instOfNat (nat_lit 0))) 0), (Value.int (@OfNat.ofNat Int (nat_lit 0) (@instOfNat (nat_lit 0))) 0), (Value.int (@OfNat.ofNat Int (nat_lit 3) (@instOfNat (nat_lit 3))) 0), (Value.ref 50), (Value.bool Bool.true), (Value.int (@OfNat.ofNat Int (nat_lit 181) (@instOfNat (nat_lit 181))) 0), (Value.ref 51), Value.none, (Value.ref 52), (Value.ref 53), (Value.ref 54), (Value.int (@OfNat.ofNat Int (nat_lit 243) (@instOfNat (nat_lit 243))) 0), (Value.int (@OfNat.ofNat Int (nat_lit 32) (@instOfNat (nat_lit 32))) 0), (Value.str (Str.ofString "/claim/cut.py") 244)])) (List.toArray []))) ::
((nat_lit 56), (Obj.mk (Value.type "function") none (Data.func (FuncData.mk (Str.ofString "__init__") (Str.ofString "Type.__init__") p4 (FuncBody.stmts b4) s4 3 [] Value.none Value.none Value.none (Value.str (Str.ofString "moduleyard.types") 222) none (Value.ref 55) Value.none 0)) (List.toArray []))) ::
((nat_lit 57), (Obj.mk (Value.type "tuple") none (Data.seq (List.toArray [(Value.str (Str.ofString "base") 246), (Value.str (Str.ofString "exno") 247), (Value.str (Str.ofString "fields") 248), (Value.str (Str.ofString "form") 249), (Value.str (Str.ofString "hidden") 250), (Value.str (Str.ofString "label") 251), (Value.str (Str.ofString "length") 252), (Value.str (Str.ofString "level") 253), (Value.str (Str.ofString "module") 254), (Value.str (Str.ofString "number") 255), (Value.str (Str.ofString "params") 256), (Value.str (Str.ofString "size") 257)]) 0) (List.toArray []))) ::
((nat_lit 58), (Obj.mk (Value.type "dict") none (Data.dict (List.toArray [(DictEntry.mk (PyData.keyHash P (Str.ofString "__module__")) (Value.str (Str.ofString "__module__") 231) (Value.str (Str.ofString "moduleyard.types") 222)), (DictEntry.mk (PyData.keyHash P (Str.ofString "__firstlineno__")) (Value.str (Str.ofString "__firstlineno__") 235) (Value.int (@OfNat.ofNat Int (nat_lit 30) (@instOfNat (nat_lit 30))) 234)), (DictEntry.mk (PyData.keyHash P (Str.ofString "__init__")) (Value.str (Str.ofString "__init__") 245) (Value.ref 56)), (DictEntry.mk (PyData.keyHash P (Str.ofString "__static_attributes__")) (Value.str (Str.ofString "__static_attributes__") 258) (Value.ref 57)), (DictEntry.mk (PyData.keyHash P (Str.ofString "__dict__")) (Value.str (Str.ofString "__dict__") 260) (Value.ref 60)), (DictEntry.mk (PyData.keyHash P (Str.ofString "__weakref__")) (Value.str (Str.ofString "__weakref__") 262) (Value.ref 61)), (DictEntry.mk (PyData.keyHash P (Str.ofString "__doc__")) (Value.str (Str.ofString "__doc__") 263) Value.none)]) 4) (List.toArray []))) ::
((nat_lit 59), (Obj.mk (Value.type "type") none (Data.cls (ClassData.mk (Str.ofString "Type") [(Value.type "object")] [(Value.ref 59), (Value.type "object")] 58 (Str.ofString "Type") Bool.true [] [] Bool.false none Bool.false)) (List.toArray [none, none, (some (Value.str (Str.ofString "Type") 224)), (some (Value.str (Str.ofString "Type") 232)), (some (Value.builtin "object.__new__")), (some (Value.bool Bool.true))]))) ::
((nat_lit 60), (Obj.mk (Value.type "getset_descriptor") none (Data.fields (List.toArray [(Value.str (Str.ofString "__dict__") 259), (Value.ref 59), (Value.builtin "function.__dict__"), (Value.builtin "function.__dict__#set")])) (List.toArray []))) ::
((nat_lit 61), (Obj.mk (Value.type "getset_descriptor") none (Data.fields (List.toArray [(Value.str (Str.ofString "__weakref__") 261), (Value.ref 59), (Value.builtin "ExceptionGroup.__weakref__"), Value.none])) (List.toArray []))) ::
((nat_lit 71), (Obj.mk (Value.type "tuple") none (Data.seq (List.toArray []) 0) (List.toArray []))) ::
((nat_lit 73), (Obj.mk (Value.type "tuple") none (Data.seq (List.toArray [(Value.str (Str.ofString "self") 281), (Value.str (Str.ofString "name") 282), (Value.str (Str.ofString "kind") 283), (Value.str (Str.ofString "type_of") 284), (Value.str (Str.ofString "place") 285)]) 0) (List.toArray []))) ::
((nat_lit 74), (Obj.mk (Value.type "tuple") none (Data.seq (List.toArray []) 0) (List.toArray []))) ::
((nat_lit 76), (Obj.mk (Value.type "code") none (Data.fields (List.toArray [(Value.str (Str.ofString "__init__") 278), (Value.str (Str.ofString "Obj.__init__") 279), (Value.str (Str.ofString "/claim/cut.py") 280), (Value.int (@OfNat.ofNat Int (nat_lit 47) (@instOfNat (nat_lit 47))) 0), (Value.int (@OfNat.ofNat Int (nat_lit 5) (@instOfNat (nat_lit 5))) 0), (Value.int (@OfNat.ofNat Int (nat_lit 0) (@instOfNat (nat_lit 0))) 0), (Value.int (@OfNat.ofNat Int (nat_lit 0) (@instOfNat (nat_lit 0))) 0), (Value.int (@OfNat.ofNat Int (nat_lit 3) (@instOfNat (nat_lit 3))) 0), (Value.ref 71), (Value.bool Bool.true), (Value.int (@OfNat.ofNat Int (nat_lit 181) (@instOfNat (nat_lit 181))) 0), (Value.ref 72), Value.none, (Value.ref 73), (Value.ref 74), (Value.ref 75), (Value.int (@OfNat.ofNat Int (nat_lit 286) (@instOfNat (nat_lit 286))) 0), (Value.int (@OfNat.ofNat Int (nat_lit 47) (@instOfNat (nat_lit 47))) 0), (Value.str (Str.ofString "/claim/cut.py") 287)])) (List.toArray []))) ::
((nat_lit 77), (Obj.mk (Value.type "function") none (Data.func (FuncData.mk (Str.ofString "__init__") (Str.ofString "Obj.__init__") p5 (FuncBody.stmts b5) s5 3 [] Value.none Value.none Value.none (Value.str (Str.ofString "moduleyard.types") 222) none (Value.ref 76) Value.none 0)) (List.toArray []))) ::
((nat_lit 78), (Obj.mk (Value.type "tuple") none (Data.seq (List.toArray [(Value.str (Str.ofString "exported") 289), (Value.str (Str.ofString "isparam") 290), (Value.str (Str.ofString "kind") 291), (Value.str (Str.ofString "level") 292), (Value.str (Str.ofString "module") 293), (Value.str (Str.ofString "name") 294), (Value.str (Str.ofString "narrowed") 295), (Value.str (Str.ofString "number") 296), (Value.str (Str.ofString "offset") 297), (Value.str (Str.ofString "place") 298), (Value.str (Str.ofString "readonly") 299), (Value.str (Str.ofString "slot") 300), (Value.str (Str.ofString "type") 301), (Value.str (Str.ofString "value") 302)]) 0) (List.toArray []))) ::
((nat_lit 79), (Obj.mk (Value.type "dict") none (Data.dict (List.toArray [(DictEntry.mk (PyData.keyHash P (Str.ofString "__module__")) (Value.str (Str.ofString "__module__") 273) (Value.str (Str.ofString "moduleyard.types") 222)), (DictEntry.mk (PyData.keyHash P (Str.ofString "__firstlineno__")) (Value.str (Str.ofString "__firstlineno__") 277) (Value.int (@OfNat.ofNat Int (nat_lit 45) (@instOfNat (nat_lit 45))) 276)), (DictEntry.mk (PyData.keyHash P (Str.ofString "__init__")) (Value.str (Str.ofString "__init__") 288) (Value.ref 77)), (DictEntry.mk (PyData.keyHash P (Str.ofString "__static_attributes__")) (Value.str (Str.ofString "__static_attributes__") 303) (Value.ref 78)), (DictEntry.mk (PyData.keyHash P (Str.ofString "__dict__")) (Value.str (Str.ofString "__dict__") 305) (Value.ref 81)), (DictEntry.mk (PyData.keyHash P (Str.ofString "__weakref__")) (Value.str (Str.ofString "__weakref__") 307) (Value.ref 82)), (DictEntry.mk (PyData.keyHash P (Str.ofString "__doc__")) (Value.str (Str.ofString "__doc__") 308) Value.none)]) 4) (List.toArray []))) ::
((nat_lit 80), (Obj.mk (Value.type "type") none (Data.cls (ClassData.mk (Str.ofString "Obj") [(Value.type "object")] [(Value.ref 80), (Value.type "object")] 79 (Str.ofString "Obj") Bool.true [] [] Bool.false none Bool.false)) (List.toArray [none, none, (some (Value.str (Str.ofString "Obj") 266)), (some (Value.str (Str.ofString "Obj") 274)), (some (Value.builtin "object.__new__")), (some (Value.bool Bool.true))]))) ::
((nat_lit 81), (Obj.mk (Value.type "getset_descriptor") none (Data.fields (List.toArray [(Value.str (Str.ofString "__dict__") 304), (Value.ref 80), (Value.builtin "function.__dict__"), (Value.builtin "function.__dict__#set")])) (List.toArray []))) ::
((nat_lit 82), (Obj.mk (Value.type "getset_descriptor") none (Data.fields (List.toArray [(Value.str (Str.ofString "__weakref__") 306), (Value.ref 80), (Value.builtin "ExceptionGroup.__weakref__"), Value.none])) (List.toArray []))) ::
((nat_lit 92), (Obj.mk (Value.type "tuple") none (Data.seq (List.toArray []) 0) (List.toArray []))) ::
((nat_lit 94), (Obj.mk (Value.type "tuple") none (Data.seq (List.toArray [(Value.str (Str.ofString "self") 326)]) 0) (List.toArray []))) ::
((nat_lit 95), (Obj.mk (Value.type "tuple") none (Data.seq (List.toArray []) 0) (List.toArray []))) ::
((nat_lit 97), (Obj.mk (Value.type "code") none (Data.fields (List.toArray [(Value.str (Str.ofString "__init__") 323), (Value.str (Str.ofString "Types.__init__") 324), (Value.str (Str.ofString "/claim/cut.py") 325), (Value.int (@OfNat.ofNat Int (nat_lit 64) (@instOfNat (nat_lit 64))) 0), (Value.int (@OfNat.ofNat Int (nat_lit 1) (@instOfNat (nat_lit 1))) 0), (Value.int (@OfNat.ofNat Int (nat_lit 0) (@instOfNat (nat_lit 0))) 0), (Value.int (@OfNat.ofNat Int (nat_lit 0) (@instOfNat (nat_lit 0))) 0), (Value.int (@OfNat.ofNat Int (nat_lit 3) (@instOfNat (nat_lit 3))) 0), (Value.ref 92), (Value.bool Bool.true), (Value.int (@OfNat.ofNat Int (nat_lit 181) (@instOfNat (nat_lit 181))) 0), (Value.ref 93), Value.none, (Value.ref 94), (Value.ref 95), (Value.ref 96), (Value.int (@OfNat.ofNat Int (nat_lit 327) (@instOfNat (nat_lit 327))) 0), (Value.int (@OfNat.ofNat Int (nat_lit 64) (@instOfNat (nat_lit 64))) 0), (Value.str (Str.ofString "/claim/cut.py") 328)])) (List.toArray []))) ::
((nat_lit 98), (Obj.mk (Value.type "function") none (Data.func (FuncData.mk (Str.ofString "__init__") (Str.ofString "Types.__init__") p6 (FuncBody.stmts b6) s6 3 [] Value.none Value.none Value.none (Value.str (Str.ofString "moduleyard.types") 222) none (Value.ref 97) Value.none 0)) (List.toArray []))) ::
((nat_lit 99), (Obj.mk (Value.type "tuple") none (Data.seq (List.toArray [(Value.str (Str.ofString "") 330), (Value.str (Str.ofString "") 331)]) 0) (List.toArray []))) ::
((nat_lit 100), (Obj.mk (Value.type "tuple") none (Data.seq (List.toArray []) 0) (List.toArray []))) ::
((nat_lit 102), (Obj.mk (Value.type "tuple") none (Data.seq (List.toArray [(Value.str (Str.ofString "self") 335), (Value.str (Str.ofString "form") 336), (Value.str (Str.ofString "size") 337), (Value.str (Str.ofString "module") 338), (Value.str (Str.ofString "label") 339), (Value.str (Str.ofString "made") 340)]) 0) (List.toArray []))) ::
((nat_lit 103), (Obj.mk (Value.type "tuple") none (Data.seq (List.toArray []) 0) (List.toArray []))) ::
((nat_lit 105), (Obj.mk (Value.type "code") none (Data.fields (List.toArray [(Value.str (Str.ofString "new") 332), (Value.str (Str.ofString "Types.new") 333), (Value.str (Str.ofString "/claim/cut.py") 334), (Value.int (@OfNat.ofNat Int (nat_lit 75) (@instOfNat (nat_lit 75))) 0), (Value.int (@OfNat.ofNat Int (nat_lit 5) (@instOfNat (nat_lit 5))) 0), (Value.int (@OfNat.ofNat Int (nat_lit 0) (@instOfNat (nat_lit 0))) 0), (Value.int (@OfNat.ofNat Int (nat_lit 0) (@instOfNat (nat_lit 0))) 0), (Value.int (@OfNat.ofNat Int (nat_lit 3) (@instOfNat (nat_lit 3))) 0), (Value.ref 100), (Value.bool Bool.true), (Value.int (@OfNat.ofNat Int (nat_lit 181) (@instOfNat (nat_lit 181))) 0), (Value.ref 101), Value.none, (Value.ref 102), (Value.ref 103), (Value.ref 104), (Value.int (@OfNat.ofNat Int (nat_lit 341) (@instOfNat (nat_lit 341))) 0), (Value.int (@OfNat.ofNat Int (nat_lit 75) (@instOfNat (nat_lit 75))) 0), (Value.str (Str.ofString "/claim/cut.py") 342)])) (List.toArray []))) ::
((nat_lit 106), (Obj.mk (Value.type "function") none (Data.func (FuncData.mk (Str.ofString "new") (Str.ofString "Types.new") p7 (FuncBody.stmts b7) s7 3 [] (Value.ref 99) Value.none Value.none (Value.str (Str.ofString "moduleyard.types") 222) none (Value.ref 105) Value.none 0)) (List.toArray []))) ::
((nat_lit 107), (Obj.mk (Value.type "tuple") none (Data.seq (List.toArray []) 0) (List.toArray []))) ::
((nat_lit 109), (Obj.mk (Value.type "tuple") none (Data.seq (List.toArray [(Value.str (Str.ofString "self") 347), (Value.str (Str.ofString "length") 348), (Value.str (Str.ofString "made") 349)]) 0) (List.toArray []))) ::
((nat_lit 110), (Obj.mk (Value.type "tuple") none (Data.seq (List.toArray []) 0) (List.toArray []))) ::
((nat_lit 112), (Obj.mk (Value.type "code") none (Data.fields (List.toArray [(Value.str (Str.ofString "string") 344), (Value.str (Str.ofString "Types.string") 345), (Value.str (Str.ofString "/claim/cut.py") 346), (Value.int (@OfNat.ofNat Int (nat_lit 84) (@instOfNat (nat_lit 84))) 0), (Value.int (@OfNat.ofNat Int (nat_lit 2) (@instOfNat (nat_lit 2))) 0), (Value.int (@OfNat.ofNat Int (nat_lit 0) (@instOfNat (nat_lit 0))) 0), (Value.int (@OfNat.ofNat Int (nat_lit 0) (@instOfNat (nat_lit 0))) 0), (Value.int (@OfNat.ofNat Int (nat_lit 3) (@instOfNat (nat_lit 3))) 0), (Value.ref 107), (Value.bool Bool.true), (Value.int (@OfNat.ofNat Int (nat_lit 181) (@instOfNat (nat_lit 181))) 0), (Value.ref 108), Value.none, (Value.ref 109), (Value.ref 110), (Value.ref 111), (Value.int (@OfNat.ofNat Int (nat_lit 350) (@instOfNat (nat_lit 350))) 0), (Value.int (@OfNat.ofNat Int (nat_lit 84) (@instOfNat (nat_lit 84))) 0), (Value.str (Str.ofString "/claim/cut.py") 351)])) (List.toArray []))) ::
((nat_lit 113), (Obj.mk (Value.type "function") none (Data.func (FuncData.mk (Str.ofString "string") (Str.ofString "Types.string") p8 (FuncBody.stmts b8) s8 3 [] Value.none Value.none Value.none (Value.str (Str.ofString "moduleyard.types") 222) none (Value.ref 112) Value.none 0)) (List.toArray []))) ::
((nat_lit 114), (Obj.mk (Value.type "tuple") none (Data.seq (List.toArray [(Value.str (Str.ofString "boolean") 353), (Value.str (Str.ofString "byte") 354), (Value.str (Str.ofString "char") 355), (Value.str (Str.ofString "counter") 356), (Value.str (Str.ofString "integer") 357), (Value.str (Str.ofString "known") 358), (Value.str (Str.ofString "mask") 359), (Value.str (Str.ofString "nil") 360), (Value.str (Str.ofString "none") 361)]) 0) (List.toArray []))) ::
((nat_lit 115), (Obj.mk (Value.type "dict") none (Data.dict (List.toArray [(DictEntry.mk (PyData.keyHash P (Str.ofString "__module__")) (Value.str (Str.ofString "__module__") 318) (Value.str (Str.ofString "moduleyard.types") 222)), (DictEntry.mk (PyData.keyHash P (Str.ofString "__firstlineno__")) (Value.str (Str.ofString "__firstlineno__") 322) (Value.int (@OfNat.ofNat Int (nat_lit 62) (@instOfNat (nat_lit 62))) 321)), (DictEntry.mk (PyData.keyHash P (Str.ofString "__init__")) (Value.str (Str.ofString "__init__") 329) (Value.ref 98)), (DictEntry.mk (PyData.keyHash P (Str.ofString "new")) (Value.str (Str.ofString "new") 343) (Value.ref 106)), (DictEntry.mk (PyData.keyHash P (Str.ofString "string")) (Value.str (Str.ofString "string") 352) (Value.ref 113)), (DictEntry.mk (PyData.keyHash P (Str.ofString "__static_attributes__")) (Value.str (Str.ofString "__static_attributes__") 362) (Value.ref 114)), (DictEntry.mk (PyData.keyHash P (Str.ofString "__dict__")) (Value.str (Str.ofString "__dict__") 364) (Value.ref 117)), (DictEntry.mk (PyData.keyHash P (Str.ofString "__weakref__")) (Value.str (Str.ofString "__weakref__") 366) (Value.ref 118)), (DictEntry.mk (PyData.keyHash P (Str.ofString "__doc__")) (Value.str (Str.ofString "__doc__") 367) Value.none)]) 4) (List.toArray []))) ::
((nat_lit 116), (Obj.mk (Value.type "type") none (Data.cls (ClassData.mk (Str.ofString "Types") [(Value.type "object")] [(Value.ref 116), (Value.type "object")] 115 (Str.ofString "Types") Bool.true [] [] Bool.false none Bool.false)) (List.toArray [none, none, (some (Value.str (Str.ofString "Types") 311)), (some (Value.str (Str.ofString "Types") 319)), (some (Value.builtin "object.__new__")), (some (Value.bool Bool.true))]))) ::
((nat_lit 117), (Obj.mk (Value.type "getset_descriptor") none (Data.fields (List.toArray [(Value.str (Str.ofString "__dict__") 363), (Value.ref 116), (Value.builtin "function.__dict__"), (Value.builtin "function.__dict__#set")])) (List.toArray []))) ::
((nat_lit 118), (Obj.mk (Value.type "getset_descriptor") none (Data.fields (List.toArray [(Value.str (Str.ofString "__weakref__") 365), (Value.ref 116), (Value.builtin "ExceptionGroup.__weakref__"), Value.none])) (List.toArray []))) ::
((nat_lit 121), (Obj.mk (Value.type "tuple") none (Data.seq (List.toArray []) 0) (List.toArray []))) ::
((nat_lit 123), (Obj.mk (Value.type "tuple") none (Data.seq (List.toArray [(Value.str (Str.ofString "script") 375), (Value.str (Str.ofString "figures") 376), (Value.str (Str.ofString "mix") 377), (Value.str (Str.ofString "cell") 378), (Value.str (Str.ofString "big") 379), (Value.str (Str.ofString "rest") 380), (Value.str (Str.ofString "step") 381)]) 0) (List.toArray []))) ::
((nat_lit 124), (Obj.mk (Value.type "tuple") none (Data.seq (List.toArray []) 0) (List.toArray []))) ::
((nat_lit 126), (Obj.mk (Value.type "code") none (Data.fields (List.toArray [(Value.str (Str.ofString "_law_pool") 372), (Value.str (Str.ofString "_law_pool") 373), (Value.str (Str.ofString "/claim/cut.py") 374), (Value.int (@OfNat.ofNat Int (nat_lit 90) (@instOfNat (nat_lit 90))) 0), (Value.int (@OfNat.ofNat Int (nat_lit 1) (@instOfNat (nat_lit 1))) 0), (Value.int (@OfNat.ofNat Int (nat_lit 0) (@instOfNat (nat_lit 0))) 0), (Value.int (@OfNat.ofNat Int (nat_lit 0) (@instOfNat (nat_lit 0))) 0), (Value.int (@OfNat.ofNat Int (nat_lit 3) (@instOfNat (nat_lit 3))) 0), (Value.ref 121), (Value.bool Bool.true), (Value.int (@OfNat.ofNat Int (nat_lit 181) (@instOfNat (nat_lit 181))) 0), (Value.ref 122), Value.none, (Value.ref 123), (Value.ref 124), (Value.ref 125), (Value.int (@OfNat.ofNat Int (nat_lit 382) (@instOfNat (nat_lit 382))) 0), (Value.int (@OfNat.ofNat Int (nat_lit 90) (@instOfNat (nat_lit 90))) 0), (Value.str (Str.ofString "/claim/cut.py") 383)])) (List.toArray []))) ::
((nat_lit 127), (Obj.mk (Value.type "function") none (Data.func (FuncData.mk (Str.ofString "_law_pool") (Str.ofString "_law_pool") p9 (FuncBody.stmts b9) s9 3 [] Value.none Value.none Value.none (Value.str (Str.ofString "law_nu0314_01") 370) none (Value.ref 126) Value.none 0)) (List.toArray []))) ::
((nat_lit 128), (Obj.mk (Value.type "tuple") none (Data.seq (List.toArray []) 0) (List.toArray []))) ::
((nat_lit 130), (Obj.mk (Value.type "tuple") none (Data.seq (List.toArray [(Value.str (Str.ofString "pool") 388), (Value.str (Str.ofString "bound_x") 389), (Value.str (Str.ofString "figure") 390)]) 0) (List.toArray []))) ::
((nat_lit 131), (Obj.mk (Value.type "tuple") none (Data.seq (List.toArray []) 0) (List.toArray []))) ::
((nat_lit 133), (Obj.mk (Value.type "code") none (Data.fields (List.toArray [(Value.str (Str.ofString "_law_pick") 385), (Value.str (Str.ofString "_law_pick") 386), (Value.str (Str.ofString "/claim/cut.py") 387), (Value.int (@OfNat.ofNat Int (nat_lit 105) (@instOfNat (nat_lit 105))) 0), (Value.int (@OfNat.ofNat Int (nat_lit 2) (@instOfNat (nat_lit 2))) 0), (Value.int (@OfNat.ofNat Int (nat_lit 0) (@instOfNat (nat_lit 0))) 0), (Value.int (@OfNat.ofNat Int (nat_lit 0) (@instOfNat (nat_lit 0))) 0), (Value.int (@OfNat.ofNat Int (nat_lit 3) (@instOfNat (nat_lit 3))) 0), (Value.ref 128), (Value.bool Bool.true), (Value.int (@OfNat.ofNat Int (nat_lit 181) (@instOfNat (nat_lit 181))) 0), (Value.ref 129), Value.none, (Value.ref 130), (Value.ref 131), (Value.ref 132), (Value.int (@OfNat.ofNat Int (nat_lit 391) (@instOfNat (nat_lit 391))) 0), (Value.int (@OfNat.ofNat Int (nat_lit 105) (@instOfNat (nat_lit 105))) 0), (Value.str (Str.ofString "/claim/cut.py") 392)])) (List.toArray []))) ::
((nat_lit 134), (Obj.mk (Value.type "function") none (Data.func (FuncData.mk (Str.ofString "_law_pick") (Str.ofString "_law_pick") p10 (FuncBody.stmts b10) s10 3 [] Value.none Value.none Value.none (Value.str (Str.ofString "law_nu0314_01") 370) none (Value.ref 133) Value.none 0)) (List.toArray []))) ::
((nat_lit 135), (Obj.mk (Value.type "tuple") none (Data.seq (List.toArray []) 0) (List.toArray []))) ::
((nat_lit 137), (Obj.mk (Value.type "tuple") none (Data.seq (List.toArray [(Value.str (Str.ofString "pool") 397), (Value.str (Str.ofString "types") 398), (Value.str (Str.ofString "rows") 399), (Value.str (Str.ofString "homes") 400), (Value.str (Str.ofString "step") 401), (Value.str (Str.ofString "above") 402), (Value.str (Str.ofString "made") 403), (Value.str (Str.ofString "home") 404), (Value.str (Str.ofString "inner") 405), (Value.str (Str.ofString "count") 406), (Value.str (Str.ofString "sides") 407), (Value.str (Str.ofString "turn") 408), (Value.str (Str.ofString "way") 409), (Value.str (Str.ofString "side") 410), (Value.str (Str.ofString "back") 411)]) 0) (List.toArray []))) ::
((nat_lit 138), (Obj.mk (Value.type "tuple") none (Data.seq (List.toArray []) 0) (List.toArray []))) ::
((nat_lit 140), (Obj.mk (Value.type "code") none (Data.fields (List.toArray [(Value.str (Str.ofString "_law_world") 394), (Value.str (Str.ofString "_law_world") 395), (Value.str (Str.ofString "/claim/cut.py") 396), (Value.int (@OfNat.ofNat Int (nat_lit 115) (@instOfNat (nat_lit 115))) 0), (Value.int (@OfNat.ofNat Int (nat_lit 1) (@instOfNat (nat_lit 1))) 0), (Value.int (@OfNat.ofNat Int (nat_lit 0) (@instOfNat (nat_lit 0))) 0), (Value.int (@OfNat.ofNat Int (nat_lit 0) (@instOfNat (nat_lit 0))) 0), (Value.int (@OfNat.ofNat Int (nat_lit 3) (@instOfNat (nat_lit 3))) 0), (Value.ref 135), (Value.bool Bool.true), (Value.int (@OfNat.ofNat Int (nat_lit 181) (@instOfNat (nat_lit 181))) 0), (Value.ref 136), Value.none, (Value.ref 137), (Value.ref 138), (Value.ref 139), (Value.int (@OfNat.ofNat Int (nat_lit 412) (@instOfNat (nat_lit 412))) 0), (Value.int (@OfNat.ofNat Int (nat_lit 115) (@instOfNat (nat_lit 115))) 0), (Value.str (Str.ofString "/claim/cut.py") 413)])) (List.toArray []))) ::
((nat_lit 141), (Obj.mk (Value.type "function") none (Data.func (FuncData.mk (Str.ofString "_law_world") (Str.ofString "_law_world") p11 (FuncBody.stmts b11) s11 3 [] Value.none Value.none Value.none (Value.str (Str.ofString "law_nu0314_01") 370) none (Value.ref 140) Value.none 0)) (List.toArray []))) ::
((nat_lit 149), (Obj.mk (Value.type "tuple") none (Data.seq (List.toArray []) 0) (List.toArray []))) ::
((nat_lit 151), (Obj.mk (Value.type "tuple") none (Data.seq (List.toArray [(Value.str (Str.ofString "rows") 431), (Value.str (Str.ofString "one") 432), (Value.str (Str.ofString "two") 433), (Value.str (Str.ofString "first") 434), (Value.str (Str.ofString "second") 435)]) 0) (List.toArray []))) ::
((nat_lit 152), (Obj.mk (Value.type "tuple") none (Data.seq (List.toArray []) 0) (List.toArray []))) ::
((nat_lit 154), (Obj.mk (Value.type "code") none (Data.fields (List.toArray [(Value.str (Str.ofString "_law_above") 428), (Value.str (Str.ofString "_law_above") 429), (Value.str (Str.ofString "/claim/cut.py") 430), (Value.int (@OfNat.ofNat Int (nat_lit 166) (@instOfNat (nat_lit 166))) 0), (Value.int (@OfNat.ofNat Int (nat_lit 3) (@instOfNat (nat_lit 3))) 0), (Value.int (@OfNat.ofNat Int (nat_lit 0) (@instOfNat (nat_lit 0))) 0), (Value.int (@OfNat.ofNat Int (nat_lit 0) (@instOfNat (nat_lit 0))) 0), (Value.int (@OfNat.ofNat Int (nat_lit 3) (@instOfNat (nat_lit 3))) 0), (Value.ref 149), (Value.bool Bool.true), (Value.int (@OfNat.ofNat Int (nat_lit 181) (@instOfNat (nat_lit 181))) 0), (Value.ref 150), Value.none, (Value.ref 151), (Value.ref 152), (Value.ref 153), (Value.int (@OfNat.ofNat Int (nat_lit 436) (@instOfNat (nat_lit 436))) 0), (Value.int (@OfNat.ofNat Int (nat_lit 166) (@instOfNat (nat_lit 166))) 0), (Value.str (Str.ofString "/claim/cut.py") 437)])) (List.toArray []))) ::
((nat_lit 155), (Obj.mk (Value.type "function") none (Data.func (FuncData.mk (Str.ofString "_law_above") (Str.ofString "_law_above") p12 (FuncBody.stmts b12) s12 3 [] Value.none Value.none Value.none (Value.str (Str.ofString "law_nu0314_01") 370) none (Value.ref 154) Value.none 0)) (List.toArray []))) ::
((nat_lit 156), (Obj.mk (Value.type "tuple") none (Data.seq (List.toArray []) 0) (List.toArray []))) ::
((nat_lit 159), (Obj.mk (Value.type "code") none (Data.fields (List.toArray [(Value.str (Str.ofString "law") 439), (Value.str (Str.ofString "law") 440), (Value.str (Str.ofString "/claim/cut.py") 441), (Value.int (@OfNat.ofNat Int (nat_lit 177) (@instOfNat (nat_lit 177))) 0), (Value.int (@OfNat.ofNat Int (nat_lit 1) (@instOfNat (nat_lit 1))) 0), (Value.int (@OfNat.ofNat Int (nat_lit 0) (@instOfNat (nat_lit 0))) 0), (Value.int (@OfNat.ofNat Int (nat_lit 0) (@instOfNat (nat_lit 0))) 0), (Value.int (@OfNat.ofNat Int (nat_lit 3) (@instOfNat (nat_lit 3))) 0), (Value.ref 156), (Value.bool Bool.true), (Value.int (@OfNat.ofNat Int (nat_lit 181) (@instOfNat (nat_lit 181))) 0), (Value.ref 157), Value.none, Value.none, Value.none, (Value.ref 158), (Value.int (@OfNat.ofNat Int (nat_lit 442) (@instOfNat (nat_lit 442))) 0), (Value.int (@OfNat.ofNat Int (nat_lit 177) (@instOfNat (nat_lit 177))) 0), (Value.str (Str.ofString "/claim/cut.py") 443)])) (List.toArray []))) ::
((nat_lit 160), (Obj.mk (Value.type "function") none (Data.func (FuncData.mk (Str.ofString "law") (Str.ofString "law") p13 (FuncBody.stmts b13) s13 3 [] Value.none Value.none Value.none (Value.str (Str.ofString "law_nu0314_01") 370) none (Value.ref 159) Value.none 0)) (List.toArray []))) :: []
noncomputable def hd.adrs : List Addr := 2 :: 3 :: 15 :: 17 :: 18 :: 20 :: 21 :: 22 :: 24 :: 25 :: 27 :: 28 :: 29 :: 31 :: 32 :: 34 :: 35 :: 36 :: 38 :: 39 :: 41 :: 42 :: 50 :: 52 :: 53 :: 55 :: 56 :: 57 :: 58 :: 59 :: 60 :: 61 :: 71 :: 73 :: 74 :: 76 :: 77 :: 78 :: 79 :: 80 :: 81 :: 82 :: 92 :: 94 :: 95 :: 97 :: 98 :: 99 :: 100 :: 102 :: 103 :: 105 :: 106 :: 107 :: 109 :: 110 :: 112 :: 113 :: 114 :: 115 :: 116 :: 117 :: 118 :: 121 :: 123 :: 124 :: 126 :: 127 :: 128 :: 130 :: 131 :: 133 :: 134 :: 135 :: 137 :: 138 :: 140 :: 141 :: 149 :: 151 :: 152 :: 154 :: 155 :: 156 :: 159 :: 160 :: []
theorem left_of {p q : Program} {loose : List Str} {Xt : Shared → Bool} {α : Type} {Yf : Shared → α} {Ya : World → α} {N : Nat} {g0 : Bool} {H₀ : Params → Heap} {gs₀ : Array GenState} {d₀ : Drawn} {k₀ : Nat}
    (o : ∀ w : World, (fencedOpening treeTable p w N).map (fun s => (s.heap, s.gens, s.drawn, s.toks)) = some (H₀ w.params, gs₀, d₀, k₀))
    (t : ∀ (w : World) (os : OsState), (topFrom treeTable p w N ⟨H₀ w.params, gs₀, d₀, k₀, os⟩).map (fun s => (openSeen q loose (importedModules p.main.body) Xt g0 s, Yf s)) = some (openGood q loose, Ya w)) : LeftO p q loose Xt Yf Ya N g0 := fun w => by
  obtain ⟨⟨h, gs, d, k, os⟩, e, e'⟩ := Option.map_eq_some_iff.mp (o w)
  obtain ⟨rfl, rfl, rfl, rfl⟩ : h = H₀ w.params ∧ gs = gs₀ ∧ d = d₀ ∧ k = k₀ := by simpa using e'
  unfold openEnds
  rw [e]
  exact t w os
theorem hd.boot1 : opening Challenge.pw_nu0314_01 = plainProg Challenge.pw_nu0314_01.main.scope.names := by kernel_rfl
theorem hd.boot2 : ∀ s, fenceModules? Challenge.pw_nu0314_01 s = some s := fun _ => by kernel_rfl
theorem hd.top : ∀ (w : World) (os : OsState), (topFrom treeTable Challenge.rw_nu0314_01.row.prog w 2376 ⟨boot_heap w.params, Array.mk [], boot_drawn, boot_toks, os⟩).map (fun s => (openSeen hd.view_39 [] (importedModules Challenge.rw_nu0314_01.row.prog.main.body) (fun s => xlAt hd.view_39 [] s && recOk (RowW.records Challenge.rw_nu0314_01.row.toRowW) s) true s, Hook.obs (kHook hd.heap_39 hd.adrs (fun _ => by kernel_rfl)) s)) = some (openGood hd.view_39 [], Hook.val (kHook hd.heap_39 hd.adrs (fun _ => by kernel_rfl)) w) := fun w os => by
  delta topFrom
  rw [PySem.W.Fast.te14082659384304107361, PySem.W.Fast.te14364793385576792824]
  kernel_rfl
theorem hd.left : LeftO Challenge.rw_nu0314_01.row.prog hd.view_39 [] (fun s => xlAt hd.view_39 [] s && recOk (RowW.records Challenge.rw_nu0314_01.row.toRowW) s) (Hook.obs (kHook hd.heap_39 hd.adrs (fun _ => by kernel_rfl))) (Hook.val (kHook hd.heap_39 hd.adrs (fun _ => by kernel_rfl))) 2376 :=
  left_of (boot_open hd.boot1 (by rfl) hd.boot2) hd.top
theorem hd.ok : OpenLaw.wellSaid Challenge.rw_nu0314_01 = true := by
  rw [PySem.W.Fast.te9446332074065402090]; kernel_rfl
end Mine
namespace Mine
theorem and1 {p r : Prop} (h : p ∧ r) : p := h.1
theorem and2 {a p r : Prop} (h : a ∧ p ∧ r) : p := h.2.1
theorem and3 {a b p r : Prop} (h : a ∧ b ∧ p ∧ r) : p := h.2.2.1
theorem and4 {a b c p r : Prop} (h : a ∧ b ∧ c ∧ p ∧ r) : p := h.2.2.2.1
theorem and5 {a b c d p r : Prop} (h : a ∧ b ∧ c ∧ d ∧ p ∧ r) : p := h.2.2.2.2.1
theorem and6 {a b c d e p r : Prop} (h : a ∧ b ∧ c ∧ d ∧ e ∧ p ∧ r) : p := h.2.2.2.2.2.1
theorem and7 {a b c d e f p r : Prop} (h : a ∧ b ∧ c ∧ d ∧ e ∧ f ∧ p ∧ r) : p := h.2.2.2.2.2.2.1
theorem and8 {a b c d e f g p r : Prop} (h : a ∧ b ∧ c ∧ d ∧ e ∧ f ∧ g ∧ p ∧ r) : p := h.2.2.2.2.2.2.2.1
theorem and9 {a b c d e f g i p r : Prop} (h : a ∧ b ∧ c ∧ d ∧ e ∧ f ∧ g ∧ i ∧ p ∧ r) : p := h.2.2.2.2.2.2.2.2.1
theorem leT {a b c : Nat} (h : a ≤ b) (e : Nat.ble b c = true) : a ≤ c := Nat.le_trans h (Nat.le_of_ble_eq_true e)
theorem ltT {a b c : Nat} (h : a < b) (e : Nat.ble b c = true) : a < c := Nat.lt_of_lt_of_le h (Nat.le_of_ble_eq_true e)
theorem ltK {a b k c : Nat} (h : a < b) (e : Nat.ble (b + k) c = true) : a + k < c := Nat.lt_of_lt_of_le (Nat.add_lt_add_right h k) (Nat.le_of_ble_eq_true e)
theorem ltK2 {a b k j c : Nat} (h : a < b) (e : Nat.ble (b + k + j) c = true) : a + k + j < c := Nat.lt_of_lt_of_le (Nat.add_lt_add_right (Nat.add_lt_add_right h k) j) (Nat.le_of_ble_eq_true e)
theorem cl_lt {a : Nat} (e : Nat.ble (a + 1) 9900 = true) : a < cLine := by
  rw [cLine_is]; exact Nat.le_of_ble_eq_true e
theorem ne_pm {a b c : Addr} (h : @LT.lt Nat _ a b) (g : @LT.lt Nat _ b c) : @Ne Addr a c := Nat.ne_of_lt (Nat.lt_trans h g)
theorem chain_ne {a b c d e : Addr} (h1 : @LT.lt Nat _ a b) (h2 : @LT.lt Nat _ b c) (h3 : @LT.lt Nat _ c d) (h4 : @LT.lt Nat _ d e) : @Ne Addr a b ∧ @Ne Addr a c ∧ @Ne Addr a d ∧ @Ne Addr a e ∧ @Ne Addr b c ∧ @Ne Addr b d ∧ @Ne Addr b e ∧ @Ne Addr c d ∧ @Ne Addr c e ∧ @Ne Addr d e :=
  ⟨Nat.ne_of_lt h1, Nat.ne_of_lt (Nat.lt_trans h1 h2), Nat.ne_of_lt (Nat.lt_trans h1 (Nat.lt_trans h2 h3)), Nat.ne_of_lt (Nat.lt_trans h1 (Nat.lt_trans h2 (Nat.lt_trans h3 h4))), Nat.ne_of_lt h2, Nat.ne_of_lt (Nat.lt_trans h2 h3), Nat.ne_of_lt (Nat.lt_trans h2 (Nat.lt_trans h3 h4)), Nat.ne_of_lt h3, Nat.ne_of_lt (Nat.lt_trans h3 h4), Nat.ne_of_lt h4⟩
end Mine
namespace Mine
open PySem.Calls
theorem fillTop : (Challenge.rw_nu0314_01 = Challenge.rw_nu0314_01) ∧ (hd.heap_39 = hd.heap_39) := by
  k_fill
  exact ⟨rfl, rfl⟩
abbrev PR : Program := (RowW.prog (OpenRow.toRowW (OpenLaw.row Challenge.rw_nu0314_01)))
def CallSpec (w : World) (lim : Nat) (f : Addr) (vs : List Value) (pre : Heap → Prop) (led : List (Addr × Obj)) (post : Value → List (Addr × Obj) → Prop) : Prop :=
  ∀ (mean : ExcName → Option Value) (mg mb : PySem.Str → Option Value) (dp un : Nat) (gd : Option (List Code)) (cn : PySem.Str) (cs : Scope) (a : Addr) (ccd : Value) (cl : List (PySem.Str × Addr)) (outer : List Env) (A₀ : Around) (base h₀ : Heap) (L : Addr) (m : PySem.Str → Option Value) (s : Shared) (Q E : Value → Shared → Prop),
   Below A₀ base outer h₀ → Fr h₀ L s.heap m → (hd.heap_39 w.params).In h₀ → News h₀ L s.heap led → Top hd.view_39 (looseW hd.view_39 []) mean mg mb h₀ → cs.kind = .function → dp < lim → un < lim → pre h₀ →
   (∀ r news' h' tk', Fr h₀ L h' m → News h₀ L h' news' → post r news' → Q r {s with heap := h', toks := tk'}) →
   wpAny (model PR w) (ktrTop dp un gd cn cs L a ccd cl outer) (call (.ref f) vs) Q E s
theorem CallSpec.use {w : World} {lim : Nat} {f : Addr} {vs : List Value} {pre : Heap → Prop} {led : List (Addr × Obj)} {post : Value → List (Addr × Obj) → Prop} (C : CallSpec w lim f vs pre led post)
   {mean : ExcName → Option Value} {mg mb : PySem.Str → Option Value} {dp un : Nat} {gd : Option (List Code)} {cn : PySem.Str} {cs : Scope} {a : Addr} {ccd : Value} {cl : List (PySem.Str × Addr)} {outer : List Env} {A₀ : Around} {base h₀ : Heap} {L : Addr} {m : PySem.Str → Option Value} {s : Shared} {Q E : Value → Shared → Prop}
   (B : Below A₀ base outer h₀) (F : Fr h₀ L s.heap m) (X : (hd.heap_39 w.params).In h₀) (N : News h₀ L s.heap led) (T : Top hd.view_39 (looseW hd.view_39 []) mean mg mb h₀) (hk : cs.kind = .function) (hdp : dp < lim) (hun : un < lim) (hpre : pre h₀)
   (ret : ∀ r news' h' tk', Fr h₀ L h' m → News h₀ L h' news' → post r news' → Q r {s with heap := h', toks := tk'}) :
   wpAny (model PR w) (ktrTop dp un gd cn cs L a ccd cl outer) (call (.ref f) vs) Q E s := C _ _ _ _ _ _ _ _ _ _ _ _ _ _ _ _ _ _ _ _ B F X N T hk hdp hun hpre ret
section
variable {prog : Program} {w : World} {A : Around} {E : Value → Shared → Prop} {s : Shared} {env : Env} {h₀ : Heap} {x : PySem.Str} {body : List Stmt} {Q : Flow → Shared → Prop}

def Stop (P : Prop) : Prop := P
theorem stop_of {P : Prop} (h : Stop P) : P := h

def TurnTo (h₀ : Heap) (L : Addr) (J : (PySem.Str → Option Value) → List (Addr × Obj) → Prop) (I : Addr) (oi : Obj) (s₁ s₂ : Shared) : Prop :=
  ∃ h' tk m' nx, s₂ = { s₁ with heap := h', toks := tk } ∧ Fr h₀ L h' m' ∧ News h₀ L h' ((I, oi) :: nx) ∧ (∀ p ∈ nx, p.1 ≠ I) ∧ J m' nx
def RPost (h₀ : Heap) (L : Addr) (J : (PySem.Str → Option Value) → List (Addr × Obj) → Prop) (I : Addr) (oi : Obj) (s₁ : Shared) (Q : Flow → Shared → Prop) (f : Flow) (s₂ : Shared) : Prop :=
  match f with
  | .ret v => Q (.ret v) s₂
  | .brk => Q .next s₂
  | _ => TurnTo h₀ L J I oi s₁ s₂

theorem over_range {r : Addr} {a₀ b₀ : Int} {t₀ u₀ v₀ : Tok} (n : Nat) {m₀ : PySem.Str → Option Value} {news : List (Addr × Obj)} (J : Nat → (PySem.Str → Option Value) → List (Addr × Obj) → Prop)
    (hh : A.handled = none) (hr : IsRange s.heap r a₀ b₀ 1 t₀ u₀ v₀) (hsmall : Builtin.Range.small a₀ b₀ 1 = true) (hn : Builtin.Range.rangeSize a₀ b₀ 1 = (n : Int))
    (F : Fr h₀ env.locals s.heap m₀) (N : News h₀ env.locals s.heap news) (hj : J 0 m₀ news)
    (turn : ∀ i t m₁ nx h tk I oi, i < n → J i m₁ nx → (∀ p ∈ nx, p.1 ≠ I) → Fr h₀ env.locals h (fun y => if y = x then some (.int (a₀ + (i : Int)) t) else m₁ y) → News h₀ env.locals h ((I, oi) :: nx) →
      wpAny (model prog w) A (execs body env) (RPost h₀ env.locals (J (i + 1)) I oi { s with heap := h, toks := tk } Q) E { s with heap := h, toks := tk })
    (done : ∀ m₁ nx h tk, J n m₁ nx → Fr h₀ env.locals h m₁ → News h₀ env.locals h nx → Q .next { s with heap := h, toks := tk }) :
    wpAny (model prog w) A (pyIter (.ref r)) (fun it s₂ => LoopAtV prog w A h₀ env x body Q E it s₂) E s := by
  refine wpAny_pyIter_range hr hsmall ?_
  have W : Walks prog w A s.heap.objs.size [s.heap.objs.size] [s.heap.objs.size] n (fun i v => i < n ∧ ∃ t, v = .int (a₀ + i * 1) t)
      (fun i h => IsRangeIter h s.heap.objs.size (a₀ + (i : Nat) * 1) ((n : Int) - (i : Nat)) 1) := (Walks.range hh _ a₀ 1 n).bound
  refine ⟨_, _, _, n, _, _, m₀, news, J, rfl, W, ?_, ?_, ?_, (by show IsRangeIter _ _ _ _ _; rw [hn]; simpa using Heap.get?_push_size _ rfl), F.push _, (fun p hp => ⟨Heap.get?_push_of_some _ (N p hp).1, (N p hp).2⟩), hj, ?_, ?_⟩
  · intro hm
    exact absurd F.ns.lt ((List.mem_singleton.mp hm) ▸ Nat.lt_irrefl _)
  · intro b hb
    rw [List.mem_singleton.mp hb]
    exact next_is_new F
  · intro p hp hI
    exact absurd (Heap.lt_size (N p hp).1) ((List.mem_singleton.mp hI) ▸ Nat.lt_irrefl _)
  · rintro i v m₁ nx s₁ own ⟨hh', tk', rfl⟩ hin ⟨_, t, rfl⟩ hJ hoff hown hget hall hst F₁ N₁
    have e1 : a₀ + (i : Int) * 1 = a₀ + (i : Int) := by omega
    rw [e1] at F₁
    obtain ⟨oi, hI⟩ : ∃ oi, hh'.get? s.heap.objs.size = some oi := ⟨_, hst⟩
    have hmem := hall s.heap.objs.size (List.mem_singleton.mpr rfl) (next_is_new F) oi hI
    have hoff' : ∀ p ∈ nx, p.1 ≠ s.heap.objs.size := fun p hp e => hoff p hp (List.mem_singleton.mpr e)
    have N₂ : News h₀ env.locals hh' ((s.heap.objs.size, oi) :: nx) := fun p hp => N₁ p ((List.mem_cons.mp hp).elim (fun e => List.mem_append_left _ (e ▸ hmem)) fun h => List.mem_append_right _ h)
    refine wpAny_mono (turn i t m₁ nx hh' tk' _ oi hin hJ hoff' F₁ N₂) (fun f s₂ p => ?_) fun _ _ e => e
    have fin : TurnTo h₀ env.locals (J (i + 1)) s.heap.objs.size oi { s with heap := hh', toks := tk' } s₂ → LoopStepU h₀ env.locals [s.heap.objs.size] own (J (i + 1)) { s with heap := hh', toks := tk' } .next s₂ := by
      rintro ⟨h', tk, m', nx', e, F', N', hoff2, hm⟩
      refine ⟨rfl, h', tk, m', nx', e, F', fun p hp => ?_, fun p hp hq => hoff2 p hp (List.mem_singleton.mp hq), hm⟩
      rcases List.mem_append.mp hp with hp | hp
      · have h1 := List.mem_singleton.mp (hown p hp)
        have h2 : hh'.get? p.1 = some p.2 := hget p hp
        rw [h1, hI] at h2
        have h3 : p = (s.heap.objs.size, oi) := Prod.ext h1 (Option.some.inj h2).symm
        rw [h3]
        exact N' _ (.head _)
      · exact N' p (.tail _ hp)
    cases f with
    | ret v => exact .ret p
    | brk => exact .brk p
    | next => exact .next (fin p)
    | cont => exact .cont (fin p)
  · rintro h' tk m' nx F' N' _ hJ
    exact done m' nx h' tk hJ F' N'

theorem over_list {l : Addr} {vs : List Value} {nn : Nat} {m₀ : PySem.Str → Option Value} {news : List (Addr × Obj)} (J : Nat → (PySem.Str → Option Value) → List (Addr × Obj) → Prop)
    (hh : A.handled = none) (hl : ∀ i m nx, J i m nx → (l, listOf vs.toArray nn) ∈ nx)
    (F : Fr h₀ env.locals s.heap m₀) (N : News h₀ env.locals s.heap news) (hj : J 0 m₀ news)
    (turn : ∀ i v m₁ nx h tk I oi, vs[i]? = some v → J i m₁ nx → (∀ p ∈ nx, p.1 ≠ I) → Fr h₀ env.locals h (fun y => if y = x then some v else m₁ y) → News h₀ env.locals h ((I, oi) :: nx) →
      wpAny (model prog w) A (execs body env) (RPost h₀ env.locals (J (i + 1)) I oi { s with heap := h, toks := tk } Q) E { s with heap := h, toks := tk })
    (done : ∀ m₁ nx h tk, J vs.length m₁ nx → Fr h₀ env.locals h m₁ → News h₀ env.locals h nx → Q .next { s with heap := h, toks := tk }) :
    wpAny (model prog w) A (pyIter (.ref l)) (fun it s₂ => LoopAtV prog w A h₀ env x body Q E it s₂) E s := by
  have hl0 := hl _ _ _ hj
  have hol : s.heap.get? l = some (listOf vs.toArray nn) := (N _ hl0).1
  have hls : s.heap.IsList l vs.toArray := ⟨_, hol, rfl, nn, rfl⟩
  have hne : l ≠ s.heap.objs.size := Nat.ne_of_lt (Heap.lt_size hol)
  refine wpAny_pyIter_list hls ?_
  have W := Walks.list (prog := prog) (w := w) hh s.heap.objs.size l hne vs.toArray
  have hlen : vs.toArray.size = vs.length := by simp
  rw [hlen] at W
  refine ⟨_, _, _, vs.length, _, _, m₀, news, J, rfl, W, ?_, ?_, ?_, ⟨⟨_, Heap.get?_push_size _ rfl, rfl, rfl⟩, hls.at fun o e => Heap.get?_push_of_some _ e⟩, F.push _, (fun p hp => ⟨Heap.get?_push_of_some _ (N p hp).1, (N p hp).2⟩), hj, ?_, ?_⟩
  · intro hm
    rcases List.mem_cons.mp hm with e | hm
    · exact absurd F.ns.lt (e ▸ Nat.lt_irrefl _)
    · exact (N _ hl0).2.1 ((List.mem_singleton.mp hm).symm)
  · intro b hb
    rw [List.mem_singleton.mp hb]
    exact next_is_new F
  · intro p hp hI
    exact absurd (Heap.lt_size (N p hp).1) ((List.mem_singleton.mp hI) ▸ Nat.lt_irrefl _)
  · rintro i v m₁ nx s₁ own ⟨hh', tk', rfl⟩ hin hP hJ hoff hown hget hall ⟨⟨oi, hoi, _⟩, _⟩ F₁ N₁
    have hv : vs[i]? = some v := by simpa using hP
    have hmem := hall s.heap.objs.size (.head _) (next_is_new F) _ hoi
    have hoff' : ∀ p ∈ nx, p.1 ≠ s.heap.objs.size := fun p hp e => hoff p hp (List.mem_singleton.mpr e)
    have N₂ : News h₀ env.locals hh' ((s.heap.objs.size, oi) :: nx) := fun p hp => N₁ p ((List.mem_cons.mp hp).elim (fun e => List.mem_append_left _ (e ▸ hmem)) fun h => List.mem_append_right _ h)
    have hlo : hh'.get? l = some (listOf vs.toArray nn) := (N₁ _ (List.mem_append_right _ (hl _ _ _ hJ))).1
    refine wpAny_mono (turn i v m₁ nx hh' tk' _ _ hv hJ hoff' F₁ N₂) (fun f s₂ p => ?_) fun _ _ e => e
    have fin : TurnTo h₀ env.locals (J (i + 1)) s.heap.objs.size oi { s with heap := hh', toks := tk' } s₂ → LoopStepU h₀ env.locals [s.heap.objs.size] own (J (i + 1)) { s with heap := hh', toks := tk' } .next s₂ := by
      rintro ⟨h', tk, m', nx', e, F', N', hoff2, hm⟩
      refine ⟨rfl, h', tk, m', nx', e, F', fun p hp => ?_, fun p hp hq => hoff2 p hp (List.mem_singleton.mp hq), hm⟩
      rcases List.mem_append.mp hp with hp | hp
      · have h2 : hh'.get? p.1 = some p.2 := hget p hp
        rcases List.mem_cons.mp (hown p hp) with h1 | h1
        · rw [h1, hoi] at h2
          have h3 : p = (s.heap.objs.size, oi) := Prod.ext h1 (Option.some.inj h2).symm
          rw [h3]
          exact N' _ (.head _)
        · have h1 := List.mem_singleton.mp h1
          rw [h1, hlo] at h2
          have h3 : p = (l, listOf vs.toArray nn) := Prod.ext h1 (Option.some.inj h2).symm
          rw [h3]
          exact N' _ (.tail _ (hl _ _ _ hm))
      · exact N' p (.tail _ hp)
    cases f with
    | ret v => exact .ret p
    | brk => exact .brk p
    | next => exact .next (fin p)
    | cont => exact .cont (fin p)
  · rintro h' tk m' nx F' N' _ hJ
    exact done m' nx h' tk hJ F' N'
end
theorem fr_see {h₀ h : Heap} {L : Addr} {m : PySem.Str → Option Value} (x : PySem.Str) {v : Value} (F : Fr h₀ L h m) (hx : m x = some v) : Fr h₀ L h (fun y => if y = x then some v else m y) := by
  have e : (fun y => if y = x then some v else m y) = m := by
    funext y
    by_cases h : y = x
    · subst h; simp [hx]
    · simp [h]
  rw [e]; exact F
theorem ne_of_allLt {d : Addr} {l : List (Addr × Obj)} (h : AllLt d l) : ∀ p ∈ l, p.1 ≠ d := by
  induction l with
  | nil => exact fun _ hp => nomatch hp
  | cons q r ih =>
    intro p hp
    rcases List.mem_cons.mp hp with rfl | hp
    · exact Nat.ne_of_lt h.1
    · exact ih h.2 p hp
theorem lt_of_allLt {d : Addr} {l : List (Addr × Obj)} (h : AllLt d l) : ∀ p ∈ l, p.1 < d := by
  induction l with
  | nil => exact fun _ hp => nomatch hp
  | cons q r ih =>
    intro p hp
    rcases List.mem_cons.mp hp with rfl | hp
    · exact h.1
    · exact ih h.2 p hp
theorem news_sub {h₀ h : Heap} {L : Addr} {l l' : List (Addr × Obj)} (N : News h₀ L h l) (hs : ∀ p ∈ l', p ∈ l) : News h₀ L h l' := fun p hp => N p (hs p hp)
section
variable {prog : Program} {w : World} {A : Around} {E : Value → Shared → Prop} {s : Shared} {h₀ : Heap} {L D : Addr} {m : PySem.Str → Option Value} {news news' : List (Addr × Obj)}
theorem append_my {vs : List Value} {n : Nat} {x : Value} {Q : Value → Shared → Prop} (F : Fr h₀ L s.heap m) (N : News h₀ L s.heap news) (U : Upd D (listOf vs.toArray n) (listOf (vs ++ [x]).toArray (n + 1)) news news')
    (hsz : vs.length ≤ 2000) (h : ∀ h', Fr h₀ L h' m → News h₀ L h' news' → Q .none { s with heap := h' }) : wpAny (model prog w) A (call (.builtin "list.append") [.ref D, x]) Q E s := by
  rw [← List.push_toArray] at U
  exact append_K F N U h (by rw [List.size_toArray, PySem.sizeLine_eq]; omega)
end
theorem offs {I a : Addr} {o : Obj} {r : List (Addr × Obj)} (h : ∀ p ∈ (a, o) :: r, p.1 ≠ I) : a ≠ I ∧ ∀ p ∈ r, p.1 ≠ I := List.forall_mem_cons.mp h
theorem ints_snoc {vs : List Value} {ns : List Int} (h : IntsAre vs ns) (x : Int) (t : Tok) : IntsAre (vs ++ [.int x t]) (ns ++ [x]) := by
  induction h with
  | nil => exact .cons _ _ .nil
  | cons i t' _ ih => exact .cons _ _ ih
local macro_rules | `(tactic| k_mem) => `(tactic| assumption)
local macro_rules | `(tactic| tb_start) => `(tactic| first | with_reducible assumption | exact and1 (by with_reducible assumption) | exact and2 (by with_reducible assumption) | exact and3 (by with_reducible assumption) | exact and4 (by with_reducible assumption) | exact and5 (by with_reducible assumption) | exact and6 (by with_reducible assumption) | exact and7 (by with_reducible assumption) | exact and8 (by with_reducible assumption) | exact and9 (by with_reducible assumption) | fail "LTN")
local macro_rules | `(tactic| walk_at "OM") => `(tactic| first | with_reducible assumption | decide | exact leT (by with_reducible assumption) (by rfl) | exact ltT (by with_reducible assumption) (by rfl) | exact ltK (by with_reducible assumption) (by rfl) | exact ltK2 (by with_reducible assumption) (by rfl) | exact Int.natCast_nonneg _ | omega)
local macro_rules | `(tactic| k_ne) => `(tactic| (refine neN ?_; (try dsimp only); first | with_reducible assumption | exact Ne.symm (by with_reducible assumption) | exact Nat.ne_of_lt (by tb_start) | exact Nat.ne_of_gt (by tb_start) | omega))
local macro_rules | `(tactic| is_list) => `(tactic| first | exact News.isList (by assumption) (by k_mem) | fail "is_list")
local macro_rules | `(tactic| k_all) => `(tactic| first | with_reducible assumption | exact ne_of_allLt (by with_reducible assumption) | exact List.forall_mem_nil _ | (refine' List.forall_mem_cons.mpr ⟨?a, ?b⟩; (case a => k_ne); (case b => k_all)) | fail "k_all")
local macro_rules | `(tactic| k_allIn) => `(tactic| first | exact List.forall_mem_nil _ | (intro p hp; k_ownIn) | (refine List.forall_mem_cons.mpr ⟨by k_mem, ?_⟩; k_allIn))
local macro_rules | `(tactic| walk_at "pyIter ref") => `(tactic| ((with_reducible show wpAny _ _ (pyIter (Value.ref _)) (fun it s₂ => LoopAtV _ _ _ _ _ _ _ _ _ it s₂) _ _); refine stop_of ?_))
local macro_rules | `(tactic| walk_at "FOR") => `(tactic| (k_here; (rename Fr _ _ _ _ => lF'); (with_unfolding_all refine' For_invVF lF' ?k1 ?k2 ?_; (case k1 | k2 => exact rfl); k_whole)))
local macro_rules | `(tactic| walk_at "exec For Name Call cons nil") => `(tactic| walk_at "FOR")
local macro_rules | `(tactic| walk_at "exec For Name Subscript cons nil") => `(tactic| walk_at "FOR")
local macro_rules | `(tactic| walk_at "RPost") => `(tactic| (dsimp only [RPost]))
local macro_rules | `(tactic| walk_at "call builtin:list.append") => `(tactic| (k_here; k_dflt (refine' append_my ?k1 ?k2 ?k3 ?z ?_; (case k1 | k2 => k_asm); (case k3 => k_upd); (case z => first | walk_at "OM" | walk_at "LENR"); k_whole); intro h' F' N'; (try k_sweep)))

def poolO (fg : Addr) (i x : Int) (ti tx : Tok) (n : Nat) : Obj := listOf #[.ref fg, .int i ti, .int x tx] n
def Figs (rest : List (Addr × Obj)) (fg : Addr) : Prop := ∃ fv fs nf, (fg, listOf fv.toArray nf) ∈ rest ∧ IntsAre fv fs ∧ (∀ f ∈ fs, 0 ≤ f) ∧ fs.length ≤ 1000
theorem Figs.sub {l l' : List (Addr × Obj)} {fg : Addr} (h : Figs l fg) (hs : ∀ p ∈ l, p ∈ l') : Figs l' fg := by
  obtain ⟨fv, fs, nf, a, b, c, d⟩ := h
  exact ⟨fv, fs, nf, hs _ a, b, c, d⟩

theorem pick_spec (w : World) (pl fg : Addr) (i x b : Int) (ti tx tb : Tok) (n : Nat) (rest : List (Addr × Obj))
   (hrest : ∀ p ∈ rest, p.1 ≠ pl) (hf : Figs rest fg) (h0 : 0 ≤ i) (hx0 : 0 ≤ x) (hx : x < 1009) (hb : 0 < b) (hb2 : b < 1000) :
   CallSpec w 900 134 [.ref pl, .int b tb] (fun _ => True) ((pl, listOf #[.ref fg, .int i ti, .int x tx] n) :: rest)
     (fun r news' => ∃ r' tr i' ti' x' tx', r = .int r' tr ∧ 0 ≤ r' ∧ r' < b ∧ 0 ≤ i' ∧ 0 ≤ x' ∧ x' < 1009 ∧ news' = ((pl, listOf #[.ref fg, .int i' ti', .int x' tx'] n) :: rest)) := by
  unfold CallSpec
  intro mean mg mb dp un gd cn cs a ccd cl outer A₀ base h₀ L m s Q E B F X N T hk hdp hun _ hret
  obtain ⟨fv, fs, nf, hfg, hi, hfs, hl⟩ := hf
  refine wpAny_call ?_
  k_dflt ktr_enter
  k_steps
  all_goals (rename Fr h₀ _ _ _ => kF; rename News h₀ _ _ _ => kN)
  · exact hret _ _ _ _ kF kN ⟨_, _, _, _, _, _, rfl, Int.fmod_nonneg_of_pos _ hb, Int.fmod_lt_of_pos _ hb, by omega, hx0, hx, rfl⟩
  · exact hret _ _ _ _ kF kN ⟨_, _, _, _, _, _, rfl, Int.fmod_nonneg_of_pos _ hb, Int.fmod_lt_of_pos _ hb, h0, hx0, hx, rfl⟩
  · exact hret _ _ _ _ kF kN ⟨_, _, _, _, _, _, rfl, Int.fmod_nonneg_of_pos _ hb, Int.fmod_lt_of_pos _ hb, h0, Int.fmod_nonneg_of_pos _ (by decide), Int.fmod_lt_of_pos _ (by decide), rfl⟩
def PoolJ (fg D : Addr) (ws : List Value) (rest : List (Addr × Obj)) (m : PySem.Str → Option Value) (nx : List (Addr × Obj)) (fv : List Value) (fs : List Int) (nf : Nat) (mix : Int) (tm : Tok) (k : Nat) : Prop :=
  m "figures" = some (.ref fg) ∧ m "mix" = some (.int mix tm) ∧ 0 ≤ mix ∧ mix < 1009 ∧ nx = (D, listOf ws.toArray 0) :: (fg, listOf fv.toArray nf) :: rest ∧ IntsAre fv fs ∧ (∀ f ∈ fs, 0 ≤ f) ∧ fs.length ≤ k

theorem pool_spec (w : World) (sl : Addr) (ns : List Int) (vs : List Value) (rest : List (Addr × Obj)) (hi : IntsAre vs ns) (hlen : ns.length < 64) :
   CallSpec w 900 127 [.ref sl] (fun h => h.IsList sl vs.toArray) rest
     (fun r news' => ∃ pl fg fs fv x tx t0 n nf, r = .ref pl ∧ news' = ((pl, listOf #[.ref fg, .int 0 t0, .int x tx] n) :: (fg, listOf fv.toArray nf) :: rest) ∧ IntsAre fv fs ∧ (∀ f ∈ fs, 0 ≤ f) ∧ fs.length ≤ 1000 ∧ 0 ≤ x ∧ x < 1009 ∧ fg ≠ pl ∧ ∀ p ∈ rest, p.1 ≠ pl) := by
  unfold CallSpec
  intro mean mg mb dp un gd cn cs a ccd cl outer A₀ base h₀ L m s Q E B F X N T hk hdp hun hpre hret
  refine wpAny_call ?_
  k_dflt ktr_enter
  rename Fr h₀ _ _ _ => FG
  have hpre' := hpre.at fun o e => FG.keep _ _ e
  k_steps
  rename Fr _ _ _ _ => F1
  rename News _ _ _ _ => N1
  rename IntsAre _ (List.take 40 ns) => hI1
  rename _ ∧ AllLt _ _ => hlt
  rename_i fg _ hrest _ _ D ws _ _ _
  have hrest' : ∀ p ∈ rest, p.1 ≠ fg := fun p hp => Nat.ne_of_lt (hrest p hp)
  dsimp only at F1 N1
  refine over_list (nn := 0) (vs := ws) (fun i m nx => ∃ fv fs nf mix tm, PoolJ fg D ws rest m nx fv fs nf mix tm 400) rfl ?_ F1 N1 ?_ ?_ ?_
  · rintro i m nx ⟨fv, fs, nf, mix, tm, _, _, _, _, rfl, _⟩
    exact .head _
  · exact ⟨[], [], 0, 5, _, rfl, rfl, by decide, by decide, rfl, .nil, (fun _ h => nomatch h), Nat.zero_le _⟩
  · rintro i v m₁ nx h tk1 I oi hv ⟨fv, fs, nf, mix, tm, h1, h2, h3, h4, rfl, h5, h6, h7⟩ hoff F2 N2
    obtain ⟨c, tc, rfl⟩ : ∃ c tc, v = .int c tc := by
      have hlt' : i < ws.length := (List.getElem?_eq_some_iff.mp hv).1
      rw [hI1.length] at hlt'
      obtain ⟨t, ht⟩ := hI1.get i (List.take 40 ns)[i] (List.getElem?_eq_getElem hlt')
      rw [ht] at hv
      exact ⟨_, _, (Option.some.inj hv).symm⟩
    replace F2 := fr_see "figures" F2 (by exact h1)
    replace F2 := fr_see "mix" F2 (by exact h2)
    clear F1 N1
    show wpAny _ _ _ _ _ _
    k_fold
    k_steps
    rename IsRange _ _ _ _ _ _ _ _ => hR
    rename Fr _ _ _ _ => F3
    rename News _ _ _ _ => N3
    dsimp only at F3 N3
    have hm1 := Int.fmod_nonneg_of_pos (mix * 31 + c) (b := 1009) (by decide)
    have hm2 := Int.fmod_lt_of_pos (mix * 31 + c) (b := 1009) (by decide)
    refine over_range 60 (fun k m nx => ∃ fv fs nf r tr tm nx', nx = (I, oi) :: nx' ∧ PoolJ fg D ws rest m nx' fv fs nf (Int.fmod (mix * 31 + c) 1009) tm (400 + k) ∧ m "rest" = some (.int r tr) ∧ 0 ≤ r) rfl hR (by decide) (by decide) F3 N3 ?_ ?_ ?_
    · exact ⟨fv, fs, nf, _, _, _, _, rfl, ⟨rfl, rfl, hm1, hm2, rfl, h5, h6, h7⟩, rfl, by split <;> omega⟩
    · rintro k t m₂ nx₂ h₂ tk₂ I₂ oi₂ hk ⟨fv', fs', nf', r, tr, tm', nx', rfl, ⟨g1, g2, g3, g4, rfl, g6, g7, g8⟩, g9, g10⟩ hoff₂ F4 N4
      replace F4 := fr_see "figures" F4 (by exact g1)
      replace F4 := fr_see "mix" F4 (by exact g2)
      replace F4 := fr_see "rest" F4 (by exact g9)
      clear F3 N3 F2 N2
      obtain ⟨o1, hoff₃⟩ := offs hoff
      obtain ⟨o2, hoff₃⟩ := offs hoff₃
      obtain ⟨n1, hoff₂⟩ := offs hoff₂
      obtain ⟨n2, hoff₂⟩ := offs hoff₂
      obtain ⟨n3, hoff₂⟩ := offs hoff₂
      have n4 : fv'.length ≤ 2000 := by rw [g6.length]; omega
      have g7' : ∀ f ∈ fs' ++ [Int.fmod r 840], 0 ≤ f := by
        intro f hf
        rcases List.mem_append.mp hf with hf | hf
        · exact g7 f hf
        · rw [List.mem_singleton.mp hf]; exact Int.fmod_nonneg_of_pos _ (by decide)
      show wpAny _ _ _ _ _ _
      k_fold
      k_steps
      · rename Fr h₀ _ _ _ => kF
        rename News h₀ _ _ _ => kN
        rename _ ∧ _ ∧ _ ∧ _ ∧ AllLt _ _ => hl
        exact hret _ _ _ _ kF (news_sub kN (by k_allIn)) ⟨_, fg, _, _, _, tm', _, _, _, rfl, rfl, ints_snoc g6 _ _, g7', by simp; omega, g3, g4, Nat.ne_of_lt hl.2.2.2.1, ne_of_allLt hl.2.2.2.2⟩
      · rename Fr _ _ _ _ => F5
        rename News _ _ _ _ => N5
        rename ¬ _ => hno
        exact ⟨_, _, _, _, rfl, F5, news_sub N5 (by k_allIn), by k_all, _, _, _, _, tm', rfl, rfl, g3, g4, rfl, ints_snoc g6 _ _, g7', by simp; omega⟩
      · rename Fr _ _ _ _ => F5
        rename News _ _ _ _ => N5
        exact ⟨_, _, _, _, rfl, F5, news_sub N5 (by k_allIn), by k_all, _, _, _, _, _, tm', _, rfl, ⟨rfl, rfl, g3, g4, rfl, ints_snoc g6 _ _, g7', by simp; omega⟩, rfl, Int.fdiv_nonneg g10 (by decide)⟩
    · rintro m₂ nx₂ h₂ tk₂ ⟨fv', fs', nf', r, tr, tm', nx', rfl, ⟨g1, g2, g3, g4, rfl, g6, g7, g8⟩, g9, g10⟩ F4 N4
      replace F4 := fr_see "figures" F4 (by exact g1)
      replace F4 := fr_see "mix" F4 (by exact g2)
      clear F3 N3 F2 N2
      dsimp only
      k_steps
      · rename Fr h₀ _ _ _ => kF
        rename News h₀ _ _ _ => kN
        rename _ ∧ _ ∧ _ ∧ AllLt _ _ => hl
        exact hret _ _ _ _ kF (news_sub kN (List.forall_mem_cons.mpr ⟨.head _, List.forall_mem_cons.mpr ⟨.tail _ (.tail _ (.tail _ (.head _))), fun p hp => .tail _ (.tail _ (.tail _ (.tail _ hp)))⟩⟩)) ⟨_, fg, fs', fv', _, tm', _, _, _, rfl, rfl, g6, g7, by omega, g3, g4, Nat.ne_of_lt hl.2.2.1, ne_of_allLt hl.2.2.2⟩
      · exact ⟨_, _, _, _, rfl, F4, N4, List.forall_mem_cons.mpr ⟨hoff _ (.head _), List.forall_mem_cons.mpr ⟨hoff (fg, listOf fv.toArray nf) (.tail _ (.head _)), fun p hp => hoff p (.tail _ (.tail _ hp))⟩⟩, fv', fs', nf', _, tm', rfl, rfl, g3, g4, rfl, g6, g7, by omega⟩
  · rintro m₁ nx h tk1 ⟨fv, fs, nf, mix, tm, h1, h2, h3, h4, rfl, h5, h6, h7⟩ F2 N2
    replace F2 := fr_see "figures" F2 (by exact h1)
    replace F2 := fr_see "mix" F2 (by exact h2)
    clear F1 N1
    dsimp only
    k_steps
    rename Fr h₀ _ _ _ => kF
    rename News h₀ _ _ _ => kN
    rename _ ∧ _ ∧ AllLt _ _ => hl
    exact hret _ _ _ _ kF (news_sub kN (List.forall_mem_cons.mpr ⟨.head _, List.forall_mem_cons.mpr ⟨.tail _ (.tail _ (.head _)), fun p hp => .tail _ (.tail _ (.tail _ hp))⟩⟩)) ⟨_, fg, fs, fv, mix, tm, _, _, _, rfl, rfl, h5, h6, by omega, h3, h4, Nat.ne_of_lt hl.2.1, ne_of_allLt hl.2.2⟩
theorem getL_putL_self (name : PySem.Str) (hs : Int) (t : Tok) (v : Value) : ∀ es : List DictEntry, getL name (putL name hs (.str name t) v es) = some (some v)
  | [] => by simp [putL, getL, Value.isStr]
  | e :: r => by
    unfold putL
    by_cases h : e.key.isStr name = true
    · rw [if_pos h]
      simp [getL, h]
    · rw [if_neg h]
      have ih := getL_putL_self name hs t v r
      unfold getL at ih ⊢
      simp only [List.find?_cons, Bool.not_eq_true] at h ⊢
      rw [h]
      simp only
      cases hf : List.find? (fun x => x.key.isStr name) (putL name hs (.str name t) v r) with
      | some x => rw [hf] at ih; exact ih
      | none =>
        rw [hf] at ih
        simp only at ih
        split at ih <;> cases ih
theorem refKey_putL (name : PySem.Str) (hs : Int) (t : Tok) (v : Value) : ∀ es : List DictEntry, (putL name hs (.str name t) v es).any (·.refKey) = es.any (·.refKey)
  | [] => rfl
  | e :: r => by
    unfold putL
    by_cases h : e.key.isStr name = true
    · rw [if_pos h]; rfl
    · rw [if_neg h, List.any_cons, List.any_cons, refKey_putL name hs t v r]
theorem isStr_ne {v : Value} {a b : PySem.Str} (h : v.isStr a = true) (hn : a ≠ b) : v.isStr b = false := by
  cases hb : v.isStr b with
  | false => rfl
  | true => exact absurd (Value.isStr_inj v a b h hb) hn
theorem find_putL_ne {name name' : PySem.Str} (hn : name ≠ name') (hs : Int) (t : Tok) (v : Value) : ∀ es : List DictEntry, ((putL name hs (.str name t) v es).find? (·.key.isStr name')).map (·.val) = (es.find? (·.key.isStr name')).map (·.val)
  | [] => by
    have : (Value.str name t).isStr name' = false := isStr_ne (a := name) (by simp [Value.isStr]) hn
    simp [putL, this]
  | e :: r => by
    unfold putL
    by_cases h : e.key.isStr name = true
    · rw [if_pos h]
      have h' := isStr_ne h hn
      simp [List.find?_cons, h']
    · rw [if_neg h]
      simp only [List.find?_cons]
      cases e.key.isStr name' with
      | true => rfl
      | false => exact find_putL_ne hn hs t v r
theorem getL_putL_ne {name name' : PySem.Str} (hn : name ≠ name') (hs : Int) (t : Tok) (v : Value) (es : List DictEntry) : getL name' (putL name hs (.str name t) v es) = getL name' es := by
  have h1 := find_putL_ne hn hs t v es
  have h2 := refKey_putL name hs t v es
  unfold getL
  rw [h2]
  cases ha : List.find? (fun x => x.key.isStr name') (putL name hs (.str name t) v es) with
  | none =>
    cases hb : List.find? (fun x => x.key.isStr name') es with
    | none => rfl
    | some y => rw [ha, hb] at h1; cases h1
  | some x =>
    cases hb : List.find? (fun x => x.key.isStr name') es with
    | none => rw [ha, hb] at h1; cases h1
    | some y =>
      rw [ha, hb] at h1
      simp only [Option.map_some, Option.some.injEq] at h1
      simp only [h1]
theorem putL_length (name : PySem.Str) (hs : Int) (k v : Value) : ∀ es : List DictEntry, (putL name hs k v es).length ≤ es.length + 1
  | [] => Nat.le_refl _
  | e :: r => by
    unfold putL
    by_cases h : e.key.isStr name = true
    · rw [if_pos h]; simp
    · rw [if_neg h]; simp only [List.length_cons]; have := putL_length name hs k v r; omega

section
variable {prog : Program} {w : World} {A : Around} {E : Value → Shared → Prop} {s : Shared} {h₀ : Heap} {L d tk : Addr} {m : PySem.Str → Option Value} {rest : List (Addr × Obj)} {K : Type} [DecidableEq K] {knd : KeyKind prog w K}

abbrev tupO (items : Array Value) (n : Nat) : Obj := { cls := .type "tuple", data := .seq items n }
def dictT (knd : KeyKind prog w K) (xs : List (List K × Addr × Value)) (n : Nat) : Obj := dictOf (xs.map (entryOfKey (tupleKind knd))) n
def KeyIn (knd : KeyKind prog w K) (rest : List (Addr × Obj)) (k : List K) (a : Addr) : Prop := ∃ items n, (a, tupO items n) ∈ rest ∧ ItemsAre knd k items.toList
theorem KeyIn.sub {l l' : List (Addr × Obj)} {k : List K} {a : Addr} (h : KeyIn knd l k a) (hs : ∀ p ∈ l, p ∈ l') : KeyIn knd l' k a := let ⟨i, n, a, b⟩ := h; ⟨i, n, hs _ a, b⟩
structure DictT (knd : KeyKind prog w K) (rest : List (Addr × Obj)) (xs : List (List K × Addr × Value)) : Prop where
  keys : ∀ x ∈ xs, KeyIn knd rest x.1 x.2.1
  nodup : (xs.map (·.1)).Nodup
theorem DictT.sub {l l' : List (Addr × Obj)} {xs : List (List K × Addr × Value)} (h : DictT knd l xs) (hs : ∀ p ∈ l, p ∈ l') : DictT knd l' xs := ⟨fun x hx => (h.keys x hx).sub hs, h.nodup⟩

theorem KeyIn.is {h : Heap} {k : List K} {a : Addr} (x : KeyIn knd rest k a) (N : News h₀ L h rest) : IsTupleKey knd h k a := let ⟨i, n, a, b⟩ := x; ⟨_, i, n, (N _ a).1, rfl, rfl, b⟩
theorem DictT.of {h : Heap} {xs : List (List K × Addr × Value)} {n : Nat} (x : DictT knd rest xs) (N : News h₀ L h ((d, dictT knd xs n) :: rest)) : h.DictOfH (tupleKind knd) d xs :=
  ⟨_, (xs.map (entryOfKey (tupleKind knd))).toArray, n, (N _ (.head _)).1, ⟨rfl, rfl, rfl⟩, rfl, rfl, fun y hy => (x.keys y hy).is (fun p hp => N p (.tail _ hp)), x.nodup⟩

theorem storedH_len (xs : List (List K × Addr × Value)) (k : List K) (a : Addr) (v : Value) : (storedH xs k a v).length ≤ xs.length + 1 := by
  unfold storedH
  split <;> simp

theorem setItem_T {xs : List (List K × Addr × Value)} {n nn : Nat} {it : Array Value} {k : List K} {v : Value} {rest0 : List (Addr × Obj)} {Q : Unit → Shared → Prop} (hu : A.units + 1 < cLine) (F : Fr h₀ L s.heap m) (N : News h₀ L s.heap ((d, dictT knd xs n) :: rest)) (hd : ∀ p ∈ rest, p.1 ≠ d)
    (hT0 : DictT knd rest0 xs) (hsub : ∀ p ∈ rest0, p ∈ rest) (hkm : (tk, tupO it nn) ∈ rest) (hki : ItemsAre knd k it.toList) (hl : xs.length ≤ 2000)
    (h : ∀ h' n' tks, Fr h₀ L h' m → News h₀ L h' ((d, dictT knd (storedH xs k tk v) n') :: rest) → DictT knd ((tk, tupO it nn) :: rest0) (storedH xs k tk v) → Q () { s with heap := h', toks := tks }) :
    wpAny (model prog w) A (setItem (.ref d) (.ref tk) v) Q E s := by
  have N0 := N _ (.head _)
  have hT := hT0.sub hsub
  have hk : KeyIn knd rest k tk := ⟨it, nn, hkm, hki⟩
  refine wpAny_setItem_heap (knd := tupleKind knd) (hsz := by rw [PySem.sizeLine_eq]; omega) (tupleKind_room_in1 hu) (hk.is fun p hp => N p (.tail _ hp)) (hT.of N) fun h' hm hs => ?_
  obtain ⟨o, es, ep, ho, ⟨c1, c2, c3⟩, hdt, hes, _, hnd⟩ := hm
  have e : o = dictT knd (storedH xs k tk v) ep := by
    obtain ⟨oc, od, odt, osl⟩ := o
    dsimp only at c1 c2 c3 hdt
    subst c1 c2 c3 hdt
    unfold dictT dictOf
    rw [← hes, Array.toArray_toList]
  refine h h' ep _ (F.change hs N0.2.1 N0.2.2) (fun p hp => ?_) ⟨fun x hx => ?_, hnd⟩
  · rcases List.mem_cons.mp hp with rfl | hp
    · exact ⟨e ▸ ho, N0.2⟩
    · exact ⟨(hs.2 _ (hd p hp)).trans (N p (.tail _ hp)).1, (N p (.tail _ hp)).2⟩
  · unfold storedH at hx
    split at hx
    · obtain ⟨y, hy, rfl⟩ := List.mem_map.mp hx
      have := (hT0.keys y hy).sub (l' := (tk, tupO it nn) :: rest0) fun p hp => .tail _ hp
      unfold putAt
      split <;> exact this
    · rcases List.mem_append.mp hx with hx | hx
      · exact (hT0.keys x hx).sub fun p hp => .tail _ hp
      · rw [List.mem_singleton.mp hx]; exact ⟨it, nn, .head _, hki⟩

theorem getItem_T {xs : List (List K × Addr × Value)} {n : Nat} {k : List K} {p : Addr × Value} {Q : Value → Shared → Prop} (hu : A.units + 1 < cLine) (N : News h₀ L s.heap ((d, dictT knd xs n) :: rest))
    (hT : DictT knd rest xs) (hk : KeyIn knd rest k tk) (hp : atKey xs k = some p)
    (h : ∀ tks, Q p.2 { s with toks := tks }) :
    wpAny (model prog w) A (getItem (.ref d) (.ref tk)) Q E s :=
  wpAny_getItem_heap (knd := tupleKind knd) (tupleKind_room_in1 hu) (hk.is fun p hp => N p (.tail _ hp)) (hT.of N) hp (h _)
theorem newDict_my (knd : KeyKind prog w K) {env : Env} {pos : Pos} {Q : Value → Shared → Prop} (F : Fr h₀ L s.heap m) (N : News h₀ L s.heap rest)
    (k : ∀ D h', Fr h₀ L h' m → News h₀ L h' ((D, dictT knd [] 0) :: rest) → (∀ p ∈ rest, p.1 < D) → Q (.ref D) { s with heap := h' }) : wpAny (model prog w) A (eval (.Dict [] [] pos) env) Q E s :=
  wpAny_Dict_empty (k _ _ (F.push _) (N.push F _) fun p hp => Heap.lt_size (N p hp).1)
theorem DictT.nil : DictT knd rest [] := ⟨fun _ h => (nomatch h), List.nodup_nil⟩
end
section
variable {h₀ h : Heap} {L : Addr} {x a b c d e f g i j k l : Addr × Obj} {r : List (Addr × Obj)}
theorem pull {l1 : List (Addr × Obj)} (N : News h₀ L h (l1 ++ x :: r)) : News h₀ L h (x :: (l1 ++ r)) := news_sub N fun p hp => by
  rcases List.mem_cons.mp hp with rfl | hp
  · exact List.mem_append_right _ (.head _)
  · rcases List.mem_append.mp hp with hp | hp
    · exact List.mem_append_left _ hp
    · exact List.mem_append_right _ (.tail _ hp)
theorem pull1 (N : News h₀ L h (a :: x :: r)) : News h₀ L h (x :: a :: r) := pull (l1 := [a]) N
theorem pull2 (N : News h₀ L h (a :: b :: x :: r)) : News h₀ L h (x :: a :: b :: r) := pull (l1 := [a, b]) N
theorem pull3 (N : News h₀ L h (a :: b :: c :: x :: r)) : News h₀ L h (x :: a :: b :: c :: r) := pull (l1 := [a, b, c]) N
theorem pull4 (N : News h₀ L h (a :: b :: c :: d :: x :: r)) : News h₀ L h (x :: a :: b :: c :: d :: r) := pull (l1 := [a, b, c, d]) N
theorem pull5 (N : News h₀ L h (a :: b :: c :: d :: e :: x :: r)) : News h₀ L h (x :: a :: b :: c :: d :: e :: r) := pull (l1 := [a, b, c, d, e]) N
theorem pull6 (N : News h₀ L h (a :: b :: c :: d :: e :: f :: x :: r)) : News h₀ L h (x :: a :: b :: c :: d :: e :: f :: r) := pull (l1 := [a, b, c, d, e, f]) N
theorem pull7 (N : News h₀ L h (a :: b :: c :: d :: e :: f :: g :: x :: r)) : News h₀ L h (x :: a :: b :: c :: d :: e :: f :: g :: r) := pull (l1 := [a, b, c, d, e, f, g]) N
theorem pull8 (N : News h₀ L h (a :: b :: c :: d :: e :: f :: g :: i :: x :: r)) : News h₀ L h (x :: a :: b :: c :: d :: e :: f :: g :: i :: r) := pull (l1 := [a, b, c, d, e, f, g, i]) N
theorem pull9 (N : News h₀ L h (a :: b :: c :: d :: e :: f :: g :: i :: j :: x :: r)) : News h₀ L h (x :: a :: b :: c :: d :: e :: f :: g :: i :: j :: r) := pull (l1 := [a, b, c, d, e, f, g, i, j]) N
end
theorem isSome_of {name : PySem.Str} {es : List DictEntry} {x : Option Value} (h : getL name es = some x) : (getL name es).isSome = true := by rw [h]; rfl
theorem putLe {name : PySem.Str} {hs : Int} {key v : Value} {es : List DictEntry} {k : Nat} (h : es.length ≤ k) : (putL name hs key v es).length ≤ k + 1 := Nat.le_trans (putL_length _ _ _ _ _) (Nat.succ_le_succ h)
theorem getL_ne {name name' : PySem.Str} (hn : name ≠ name') {hs : Int} {t : Tok} {v : Value} {es : List DictEntry} {r} (h : getL name' es = r) : getL name' (putL name hs (.str name t) v es) = r := (getL_putL_ne hn hs t v es).trans h
theorem keyStr {w : World} {prog : Program} {x y : PySem.Str} {tx ty : Tok} {it : Array Value} (hi : it.toList = [.str x tx, .str y ty]) : ItemsAre (strKind prog w) [x, y] it.toList := by
  rw [hi]; exact .cons (by show (x == x) = true; simp) (.cons (by show (y == y) = true; simp) .nil)

def Sub (a b : List (Addr × Obj)) : Prop := ∀ p ∈ a, p ∈ b
theorem Sub.use {a b : List (Addr × Obj)} (h : Sub a b) {p : Addr × Obj} (hp : p ∈ a) : p ∈ b := h p hp
structure TypeD (ex : List DictEntry) (num : Int) (form md lb : PySem.Str) (base : Value) (pm : Addr) : Prop where
  number : ∃ t, getL "number" ex = some (some (.int num t))
  form : ∃ t, getL "form" ex = some (some (.str form t))
  module : ∃ t, getL "module" ex = some (some (.str md t))
  label : ∃ t, getL "label" ex = some (some (.str lb t))
  base : getL "base" ex = some (some base)
  level : ∃ i t, getL "level" ex = some (some (.int i t))
  length : ∃ v, getL "length" ex = some (some v)
  params : getL "params" ex = some (some (.ref pm))
  len : ex.length ≤ 40


def NewPost (w : World) (td kd : Addr) (rest R0 : List (Addr × Obj)) (es : List DictEntry) (xs : List (List PySem.Str × Addr × Value)) (c : Int) (form md lb : PySem.Str) (r : Value) (news' : List (Addr × Obj)) : Prop :=
  ∃ n' xs' kn' x dx ex nx pm tl tc tk1, r = .ref x ∧ news' = (td, dictOf (putL (PySem.Str.ofString "counter") (PyData.keyHash w.params (PySem.Str.ofString "counter")) (.str (PySem.Str.ofString "counter") tk1) (.int (c + 1) tc) es) n') :: (kd, dictT (strKind PR w) xs' kn') :: (dx, dictOf ex nx) :: (pm, listOf #[] 0) :: (tl ++ rest) ∧
    DictT (strKind PR w) (tl ++ R0) xs' ∧ xs'.length ≤ xs.length + 1 ∧ TypeD ex (c + 1) form md lb .none pm ∧ ex.length ≤ 30 ∧ (x, instObj 59 dx) ∈ tl ∧
    (∀ p ∈ rest, p.1 < dx) ∧ @LT.lt Nat _ td dx ∧ @LT.lt Nat _ kd dx ∧ @LT.lt Nat _ dx pm ∧ (∀ q ∈ tl, dx < q.1 ∧ q.1 ≠ pm)

local macro_rules | `(tactic| walk_at "GETL") => `(tactic| first | with_reducible assumption | exact getL_putL_self _ _ _ _ _ | (refine getL_ne (by decide) ?_; walk_at "GETL") | fail "GETL")
local macro_rules | `(tactic| walk_at "LEN") => `(tactic| first | walk_at "OM" | (refine putLe ?_; walk_at "LEN"))
local macro_rules | `(tactic| walk_at "getAttr ref") => `(tactic| (k_here; k_dflt (refine' get_own ?k1 ?k2 ?k3 ?k4 ?k5 ?k6 ?k7 ?k8 ?k9 ?_; (case k1 | k2 => k_asm); (case k3 => k_inst); (case k4 | k5 | k6 | k7 => k_is); (case k8 => walk_at "GETL"); (case k9 => k_handed); k_whole)))
local macro_rules | `(tactic| walk_at "setAttr ref") => `(tactic| (k_here; k_dflt (refine' set_dict ?k1 ?k2 ?k3 ?k4 ?k5 ?k6 ?k7 ?k8 ?k9 ?k10 ?k11 ?k12 ?k13 ?_; (case k1 | k2 | k3 => k_asm); (case k4 => k_inst); (case k5 => exact rfl); (case k6 | k7 | k8 | k9 => k_is); (case k10 => exact isSome_of (by walk_at "GETL")); (case k11 => exact rfl); (case k12 => k_upd); (case k13 => walk_at "LEN"); k_whole; intro h' F' N'; (try k_sweep))))
local macro_rules | `(tactic| walk_at "PULL") => `(tactic| first | k_asm | exact pull1 (by k_asm) | exact pull2 (by k_asm) | exact pull3 (by k_asm) | exact pull4 (by k_asm) | exact pull5 (by k_asm) | exact pull6 (by k_asm) | exact pull7 (by k_asm) | exact pull8 (by k_asm) | exact pull9 (by k_asm) | fail "PULL")
local macro_rules | `(tactic| walk_at "UNITS") => `(tactic| (have hcL9 := cLine_is; (try simp only [units_deeper, units_in1, Around.mark_units, units_caller]); (try dsimp only [ktrTop]); first | exact cl_lt (by rfl) | omega))
local macro_rules | `(tactic| walk_at "SETK") => `(tactic| ((case k0 => walk_at "UNITS"); (case k1 => k_asm); (case k2 => walk_at "PULL"); (case k3 => k_all); (case k4 => assumption); (case k7 => (intro p hp; first | k_ownIn | (replace hp := Sub.use (by assumption) hp; k_ownIn))); (case k8 => k_mem); (case k6 => walk_at "OM")))
local macro_rules | `(tactic| walk_at "setItem ref ref") => `(tactic| (k_here; k_dflt (refine' setItem_T (knd := strKind _ _) ?k0 ?k1 ?k2 ?k3 ?k4 ?k7 ?k8 ?k5 ?k6 ?_; walk_at "SETK"; (case k5 => exact keyStr rfl); k_whole); intro h' n' tks' F' N' hT'; (try k_sweep)))
local macro_rules | `(tactic| walk_at "ENTER") => `(tactic| (refine' code_def ?k1 ?k2 ?k3 ?k4 ?k5 ?kA ?kF ?kK ?k6 ?k7 ?k8 ?k9 ?kB ?_ ?c2 ?c3 ?c4 ?c5; (case kA | kF => exact rfl); (case kK => first | exact rfl | assumption); (case k1 | k2 | k3 | k4 | k5 => k_asm); (case k6 | k7 => k_is); (case k8 => ktr_room); (case k9 => first | exact BindsTo.of_eq rfl | exact binds_K (by k_in) rfl (by k_is) rfl rfl rfl); (case c5 => decide); (case kB => exact locs rfl); (case c2 | c3 | c4 => exact rfl); k_whole; intro g' L' h' FG' F' N' B' X' T'; (try dsimp only); (try k_fold)))
local macro_rules | `(tactic| walk_at "CLS") => `(tactic| (k_dflt (refine' call_cls ?k1 ?k2 ?k3 ?k4 ?k5 ?k6 ?_; (case k1 | k2 | k3 => k_asm); (case k4 | k5 | k6 => k_is); k_whole; intro x' d' h' F' N' l1 l2; (try k_lt l1); (try k_lt2 l2); (try k_sweep); walk_at "ENTER")))
local macro_rules | `(tactic| walk_at "call ref") => `(tactic| (k_here; refine stop_of ?_))
local macro_rules | `(tactic| walk_at "call ref") => `(tactic| (k_here; (with_reducible show wpAny _ _ (call (Value.ref 59) _) _ _ _); walk_at "CLS"))
local macro_rules | `(tactic| walk_at "call ref") => `(tactic| (k_here; (with_reducible show wpAny _ _ (call (Value.ref 80) _) _ _ _); walk_at "CLS"))
local macro_rules | `(tactic| walk_at "ROOM") => `(tactic| ((try simp only [depth_under_make, depth_under_kw, depth_in1, depth_deeper, depth_caller]); (try simp only [units_under_make, units_in1, units_deeper, Around.mark_units, units_caller]); (try dsimp only [ktrTop]); walk_at "OM"))
local macro_rules | `(tactic| walk_at "USE") => `(tactic| ((case B | F | X => k_asm); (case N => walk_at "PULL"); (case T => k_asm); (case hkk => first | exact rfl | assumption); (case hdp | hun => walk_at "ROOM")))
section
variable {w : World} {td kd x dx lf pm lh tkx : Addr} {rest R0 : List (Addr × Obj)} {es ex : List DictEntry} {xs xs' : List (List PySem.Str × Addr × Value)} {c : Int} {tc tc' : Tok} {form md lb : PySem.Str} {n' nx kn' : Nat} {ot : Obj}
theorem newsT {h₀ h : Heap} {L : Addr} {o1 o2 o3 o4 o5 o6 o7 o8 : Obj} (N : News h₀ L h ((kd, o1) :: (tkx, o2) :: (lh, o3) :: (pm, o4) :: (lf, o5) :: (x, o6) :: (dx, o7) :: (td, o8) :: rest)) :
    News h₀ L h ((td, o8) :: (kd, o1) :: (dx, o7) :: (pm, o4) :: ([(x, o6), (lf, o5), (lh, o3), (tkx, o2)] ++ rest)) := news_sub N (by
  intro p hp; simp only [List.cons_append, List.nil_append, List.mem_cons] at hp ⊢; grind)
theorem newsU {h₀ h : Heap} {L : Addr} {o1 o3 o4 o5 o6 o7 o8 : Obj} (N : News h₀ L h ((lh, o3) :: (pm, o4) :: (lf, o5) :: (x, o6) :: (dx, o7) :: (td, o8) :: (kd, o1) :: rest)) :
    News h₀ L h ((td, o8) :: (kd, o1) :: (dx, o7) :: (pm, o4) :: ([(x, o6), (lf, o5), (lh, o3)] ++ rest)) := news_sub N (by
  intro p hp; simp only [List.cons_append, List.nil_append, List.mem_cons] at hp ⊢; grind)
theorem newPost_mk (ol : Obj)
    (hT : DictT (strKind PR w) ([(x, instObj 59 dx), (lf, ol), (lh, ol)] ++ R0) xs') (hxs : xs'.length ≤ xs.length + 1) (hex : TypeD ex (c + 1) form md lb .none pm) (hexl : ex.length ≤ 30)
    (o1 : AllLt dx rest) (o2 : @LT.lt Nat _ td dx) (o3 : @LT.lt Nat _ kd dx) (o4 : @LT.lt Nat _ dx x) (o5 : @LT.lt Nat _ x lf) (o6 : @LT.lt Nat _ lf pm) (o7 : @LT.lt Nat _ pm lh) :
    NewPost w td kd rest R0 es xs c form md lb (.ref x) ((td, dictOf (putL (PySem.Str.ofString "counter") (PyData.keyHash w.params (PySem.Str.ofString "counter")) (.str (PySem.Str.ofString "counter") tc') (.int (c + 1) tc) es) n') :: (kd, dictT (strKind PR w) xs' kn') :: (dx, dictOf ex nx) :: (pm, listOf #[] 0) :: ([(x, instObj 59 dx), (lf, ol), (lh, ol)] ++ rest)) := by
  refine ⟨n', xs', kn', x, dx, ex, nx, pm, _, tc, tc', rfl, rfl, hT, hxs, hex, hexl, .head _, lt_of_allLt o1, o2, o3, by omega, ?_⟩
  intro q hq
  simp only [List.mem_cons, List.not_mem_nil, or_false] at hq
  rcases hq with rfl | rfl | rfl <;> refine ⟨?_, ?_⟩ <;> (try show @LT.lt Nat _ _ _) <;> (try show @Ne Nat _ _) <;> omega
theorem newPost_mkT (ol : Obj)
    (hT : DictT (strKind PR w) ([(x, instObj 59 dx), (lf, ol), (lh, ol), (tkx, ot)] ++ R0) xs') (hxs : xs'.length ≤ xs.length + 1) (hex : TypeD ex (c + 1) form md lb .none pm) (hexl : ex.length ≤ 30)
    (o1 : AllLt dx rest) (o2 : @LT.lt Nat _ td dx) (o3 : @LT.lt Nat _ kd dx) (o4 : @LT.lt Nat _ dx x) (o5 : @LT.lt Nat _ x lf) (o6 : @LT.lt Nat _ lf pm) (o7 : @LT.lt Nat _ pm lh) (o8 : @LT.lt Nat _ lh tkx) :
    NewPost w td kd rest R0 es xs c form md lb (.ref x) ((td, dictOf (putL (PySem.Str.ofString "counter") (PyData.keyHash w.params (PySem.Str.ofString "counter")) (.str (PySem.Str.ofString "counter") tc') (.int (c + 1) tc) es) n') :: (kd, dictT (strKind PR w) xs' kn') :: (dx, dictOf ex nx) :: (pm, listOf #[] 0) :: ([(x, instObj 59 dx), (lf, ol), (lh, ol), (tkx, ot)] ++ rest)) := by
  refine ⟨n', xs', kn', x, dx, ex, nx, pm, _, tc, tc', rfl, rfl, hT, hxs, hex, hexl, .head _, lt_of_allLt o1, o2, o3, by omega, ?_⟩
  intro q hq
  simp only [List.mem_cons, List.not_mem_nil, or_false] at hq
  rcases hq with rfl | rfl | rfl | rfl <;> refine ⟨?_, ?_⟩ <;> (try show @LT.lt Nat _ _ _) <;> (try show @Ne Nat _ _) <;> omega
end

theorem new_spec5 (w : World) (ty td kd : Addr) (form md lb : PySem.Str) (size : Int) (tf ts tm tlb : Tok) (es : List DictEntry) (n : Nat) (c : Int) (tc : Tok) (xs : List (List PySem.Str × Addr × Value)) (kn : Nat) (rest R0 : List (Addr × Obj)) (hsub : Sub R0 rest)
   (hty : (ty, instObj 116 td) ∈ rest) (hc : getL "counter" es = some (some (.int c tc))) (hk : getL "known" es = some (some (.ref kd))) (hes : es.length ≤ 100) (hT : DictT (strKind PR w) R0 xs) (hxs : xs.length ≤ 500) (htk : @Ne Nat td kd)
   (hr1 : ∀ p ∈ rest, p.1 ≠ td) (hr2 : ∀ p ∈ rest, p.1 ≠ kd) :
   CallSpec w 900 106 [.ref ty, .str form tf, .int size ts, .str md tm, .str lb tlb] (fun _ => True) ((td, dictOf es n) :: (kd, dictT (strKind PR w) xs kn) :: rest) (NewPost w td kd rest R0 es xs c form md lb) := by
  unfold CallSpec
  intro mean mg mb dp un gd cn cs a ccd cl outer A₀ base h₀ L m s Q E B F X N T hk dh hun _ hret
  refine wpAny_call ?_
  k_dflt (walk_at "ENTER")
  k_steps
  all_goals (rename Fr h₀ _ _ _ => kF; rename News h₀ _ _ _ => kN)
  all_goals (rename _ ∧ _ ∧ AllLt _ rest => hlt)
  · rename DictT _ (_ :: _) _ => hT'
    refine' hret _ _ _ _ kF (newsT kN) (newPost_mkT _ (hT'.sub ?_) (storedH_len _ _ _ _) ⟨⟨_, rfl⟩, ⟨_, rfl⟩, ⟨_, rfl⟩, ⟨_, rfl⟩, rfl, ⟨_, _, rfl⟩, ⟨_, rfl⟩, rfl, ?_⟩ ?_ hlt.2.2 hlt.1 hlt.2.1 ?_ ?_ ?_ ?_ ?_)
    · intro p hp; simp only [List.cons_append, List.nil_append, List.mem_cons] at hp ⊢; grind
    all_goals (first | exact Nat.le_of_ble_eq_true rfl | omega)
  · refine' hret _ _ _ _ kF (newsU kN) (newPost_mk _ (hT.sub ?_) (Nat.le_succ _) ⟨⟨_, rfl⟩, ⟨_, rfl⟩, ⟨_, rfl⟩, ⟨_, rfl⟩, rfl, ⟨_, _, rfl⟩, ⟨_, rfl⟩, rfl, ?_⟩ ?_ hlt.2.2 hlt.1 hlt.2.1 ?_ ?_ ?_ ?_)
    · intro p hp; simp only [List.cons_append, List.nil_append, List.mem_cons] at hp ⊢; grind
    all_goals (first | exact Nat.le_of_ble_eq_true rfl | omega)
theorem new_spec3 (w : World) (ty td kd : Addr) (form : PySem.Str) (size : Int) (tf ts : Tok) (es : List DictEntry) (n : Nat) (c : Int) (tc : Tok) (xs : List (List PySem.Str × Addr × Value)) (kn : Nat) (rest R0 : List (Addr × Obj)) (hsub : Sub R0 rest)
   (hty : (ty, instObj 116 td) ∈ rest) (hc : getL "counter" es = some (some (.int c tc))) (hk : getL "known" es = some (some (.ref kd))) (hes : es.length ≤ 100) (hT : DictT (strKind PR w) R0 xs) (hxs : xs.length ≤ 500) (htk : @Ne Nat td kd)
   (hr1 : ∀ p ∈ rest, p.1 ≠ td) (hr2 : ∀ p ∈ rest, p.1 ≠ kd) :
   CallSpec w 900 106 [.ref ty, .str form tf, .int size ts] (fun _ => True) ((td, dictOf es n) :: (kd, dictT (strKind PR w) xs kn) :: rest) (NewPost w td kd rest R0 es xs c form (PySem.Str.ofString "") (PySem.Str.ofString "")) := by
  unfold CallSpec
  intro mean mg mb dp un gd cn cs a ccd cl outer A₀ base h₀ L m s Q E B F X N T hk dh hun _ hret
  refine wpAny_call ?_
  k_dflt (walk_at "ENTER")
  k_steps
  all_goals (rename Fr h₀ _ _ _ => kF; rename News h₀ _ _ _ => kN)
  all_goals (rename _ ∧ _ ∧ AllLt _ rest => hlt)
  · refine' hret _ _ _ _ kF (newsU kN) (newPost_mk _ (hT.sub ?_) (Nat.le_succ _) ⟨⟨_, rfl⟩, ⟨_, rfl⟩, ⟨_, rfl⟩, ⟨_, rfl⟩, rfl, ⟨_, _, rfl⟩, ⟨_, rfl⟩, rfl, ?_⟩ ?_ hlt.2.2 hlt.1 hlt.2.1 ?_ ?_ ?_ ?_)
    · intro p hp; simp only [List.cons_append, List.nil_append, List.mem_cons] at hp ⊢; grind
    all_goals (first | exact Nat.le_of_ble_eq_true rfl | omega)
def MadeIn (R : List (Addr × Obj)) (x : Addr) (num : Int) (form md lb : PySem.Str) (base : Value) : Prop :=
  ∃ dx ex nx pm, (x, instObj 59 dx) ∈ R ∧ (dx, dictOf ex nx) ∈ R ∧ TypeD ex num form md lb base pm
theorem MadeIn.sub {R R' : List (Addr × Obj)} {x : Addr} {num : Int} {form md lb : PySem.Str} {base : Value} (h : MadeIn R x num form md lb base) (hs : ∀ p ∈ R, p ∈ R') : MadeIn R' x num form md lb base := by
  obtain ⟨dx, ex, nx, pm, a, b, c⟩ := h
  exact ⟨dx, ex, nx, pm, hs _ a, hs _ b, c⟩
theorem CallSpec.mono {w : World} {lim : Nat} {f : Addr} {vs : List Value} {pre : Heap → Prop} {led : List (Addr × Obj)} {post post' : Value → List (Addr × Obj) → Prop} (C : CallSpec w lim f vs pre led post)
    (h : ∀ r n, post r n → post' r n) : CallSpec w lim f vs pre led post' := by
  intro mean mg mb dp un gd cn cs a ccd cl outer A₀ base h₀ L m s Q E B F X N T hk hdp hun hpre hret
  exact C.use B F X N T hk hdp hun hpre fun r n h' t F' N' p => hret r n h' t F' N' (h r n p)
def putC (w : World) (tk1 tc : Tok) (c : Int) (es : List DictEntry) : List DictEntry := putL (PySem.Str.ofString "counter") (PyData.keyHash w.params (PySem.Str.ofString "counter")) (.str (PySem.Str.ofString "counter") tk1) (.int (c + 1) tc) es
def NewR (w : World) (td kd : Addr) (R : List (Addr × Obj)) (es : List DictEntry) (xs : List (List PySem.Str × Addr × Value)) (c : Int) (form md lb : PySem.Str) (r : Value) (news' : List (Addr × Obj)) : Prop :=
  ∃ n' xs' kn' R' x tc tk1, r = .ref x ∧ news' = (td, dictOf (putL (PySem.Str.ofString "counter") (PyData.keyHash w.params (PySem.Str.ofString "counter")) (.str (PySem.Str.ofString "counter") tk1) (.int (c + 1) tc) es) n') :: (kd, dictT (strKind PR w) xs' kn') :: R' ∧
    (∀ p ∈ R, p ∈ R') ∧ (∀ p ∈ R', p.1 ≠ td) ∧ (∀ p ∈ R', p.1 ≠ kd) ∧ (∀ p ∈ R', p ∈ R ∨ td < p.1) ∧ DictT (strKind PR w) R' xs' ∧ xs'.length ≤ xs.length + 1 ∧ MadeIn R' x (c + 1) form md lb .none
theorem NewPost.toR {w : World} {td kd : Addr} {R : List (Addr × Obj)} {es : List DictEntry} {xs : List (List PySem.Str × Addr × Value)} {c : Int} {form md lb : PySem.Str} {r : Value} {news' : List (Addr × Obj)}
    (hr1 : ∀ p ∈ R, p.1 ≠ td) (hr2 : ∀ p ∈ R, p.1 ≠ kd) (h : NewPost w td kd R R es xs c form md lb r news') : NewR w td kd R es xs c form md lb r news' := by
  obtain ⟨n', xs', kn', x, dx, ex, nx, pm, tl, tc, tk1, rfl, rfl, hT, hxs, hex, _, hx, o1, o2, o3, o4, o5⟩ := h
  have hs : ∀ p ∈ tl ++ R, p ∈ (dx, dictOf ex nx) :: (pm, listOf #[] 0) :: (tl ++ R) := fun p hp => .tail _ (.tail _ hp)
  have hlt : ∀ p ∈ (dx, dictOf ex nx) :: (pm, listOf #[] 0) :: (tl ++ R), p ∈ R ∨ (td < p.1 ∧ kd < p.1) := by
    intro p hp
    rcases List.mem_cons.mp hp with rfl | hp
    · exact .inr ⟨o2, o3⟩
    · rcases List.mem_cons.mp hp with rfl | hp
      · exact .inr ⟨Nat.lt_trans o2 o4, Nat.lt_trans o3 o4⟩
      · rcases List.mem_append.mp hp with hp | hp
        · have := (o5 p hp).1
          exact .inr ⟨Nat.lt_trans o2 this, Nat.lt_trans o3 this⟩
        · exact .inl hp
  refine ⟨n', xs', kn', _, x, tc, tk1, rfl, rfl, fun p hp => hs p (List.mem_append_right _ hp), fun p hp => ?_, fun p hp => ?_, fun p hp => (hlt p hp).imp id (·.1), hT.sub hs, hxs, dx, ex, nx, pm, hs _ (List.mem_append_left _ hx), .head _, hex⟩
  · exact (hlt p hp).elim (hr1 p) fun h => Nat.ne_of_gt h.1
  · exact (hlt p hp).elim (hr2 p) fun h => Nat.ne_of_gt h.2
theorem new_step3 (w : World) (ty td kd : Addr) (form : PySem.Str) (size : Int) (tf ts : Tok) (es : List DictEntry) (n : Nat) (c : Int) (tc : Tok) (xs : List (List PySem.Str × Addr × Value)) (kn : Nat) (rest : List (Addr × Obj))
   (hty : (ty, instObj 116 td) ∈ rest) (hc : getL "counter" es = some (some (.int c tc))) (hk : getL "known" es = some (some (.ref kd))) (hes : es.length ≤ 100) (hT : DictT (strKind PR w) rest xs) (hxs : xs.length ≤ 500) (htk : @Ne Nat td kd)
   (hr1 : ∀ p ∈ rest, p.1 ≠ td) (hr2 : ∀ p ∈ rest, p.1 ≠ kd) :
   CallSpec w 900 106 [.ref ty, .str form tf, .int size ts] (fun _ => True) ((td, dictOf es n) :: (kd, dictT (strKind PR w) xs kn) :: rest) (NewR w td kd rest es xs c form (PySem.Str.ofString "") (PySem.Str.ofString "")) :=
  (new_spec3 w ty td kd form size tf ts es n c tc xs kn rest rest (fun _ h => h) hty hc hk hes hT hxs htk hr1 hr2).mono fun _ _ h => h.toR hr1 hr2


local macro_rules | `(tactic| walk_at "GETL") => `(tactic| first | with_reducible assumption | with_reducible exact getL_putL_self _ _ _ _ _ | (refine getL_ne (by decide) ?_; walk_at "GETL") | exact rfl | fail "GETL")
local macro_rules | `(tactic| walk_at "LEN") => `(tactic| first | (refine putLe ?_; walk_at "LEN") | walk_at "OM")
local macro_rules | `(tactic| walk_at "eval Dict nil nil") => `(tactic| (k_here; k_dflt (refine' newDict_my (strKind _ _) ?k1 ?k2 ?_; (case k1 | k2 => k_asm); k_whole); intro d' h' F' N' l1; (try k_lt l1); (try k_sweep)))
local macro_rules | `(tactic| walk_at "getMethod ref") => `(tactic| (k_here; k_dflt (refine' method_inst ?k1 ?k2 ?k3 ?k4 ?k5 ?k6 ?k7 ?_; (case k1 | k2 => k_asm); (case k3 => k_inst); (case k4 | k5 | k6 => k_is); (case k7 => walk_at "GETL"); k_whole)))
structure TypesD (es : List DictEntry) (c : Int) (kd : Addr) : Prop where
  counter : ∃ t, getL "counter" es = some (some (.int c t))
  known : getL "known" es = some (some (.ref kd))
  new : getL "new" es = some none
  len : es.length ≤ 60
structure TypesPost (w : World) (rest : List (Addr × Obj)) (ty td kd : Addr) (es : List DictEntry) (xs : List (List PySem.Str × Addr × Value)) (R : List (Addr × Obj)) (x1 x2 x3 x4 x5 x6 x7 : Addr) : Prop where
  inst : (ty, instObj 116 td) ∈ R
  d : TypesD es 7 kd
  T : DictT (strKind PR w) R xs
  lx : xs.length ≤ 7
  sub : ∀ p ∈ rest, p ∈ R
  offd : ∀ p ∈ R, p.1 ≠ td
  offk : ∀ p ∈ R, p.1 ≠ kd
  up : ∀ p ∈ R, p ∈ rest ∨ td < p.1
  low : ∀ p ∈ rest, p.1 < td
  lt : @LT.lt Nat _ td kd
  a1 : getL "boolean" es = some (some (.ref x1))
  a2 : getL "char" es = some (some (.ref x2))
  a3 : getL "byte" es = some (some (.ref x3))
  a4 : getL "integer" es = some (some (.ref x4))
  a5 : getL "mask" es = some (some (.ref x5))
  a6 : getL "nil" es = some (some (.ref x6))
  a7 : getL "none" es = some (some (.ref x7))
  m1 : MadeIn R x1 1 "boolean" "" "" .none
  m2 : MadeIn R x2 2 "char" "" "" .none
  m3 : MadeIn R x3 3 "byte" "" "" .none
  m4 : MadeIn R x4 4 "integer" "" "" .none
  m5 : MadeIn R x5 5 "set" "" "" .none
  m6 : MadeIn R x6 6 "nil" "" "" .none
  m7 : MadeIn R x7 7 "none" "" "" .none
theorem up_trans {R0 R1 R2 : List (Addr × Obj)} {d : Addr} (h1 : ∀ p ∈ R1, p ∈ R0 ∨ d < p.1) (h2 : ∀ p ∈ R2, p ∈ R1 ∨ d < p.1) : ∀ p ∈ R2, p ∈ R0 ∨ d < p.1 := fun p hp => (h2 p hp).elim (h1 p) .inr
theorem sub_trans {R0 R1 R2 : List (Addr × Obj)} (h1 : ∀ p ∈ R0, p ∈ R1) (h2 : ∀ p ∈ R1, p ∈ R2) : ∀ p ∈ R0, p ∈ R2 := fun p hp => h2 p (h1 p hp)
theorem types_spec (w : World) (rest : List (Addr × Obj)) :
   CallSpec w 800 116 [] (fun _ => True) rest (fun r news' => ∃ ty td kd es n xs kn R x1 x2 x3 x4 x5 x6 x7, r = .ref ty ∧ news' = (td, dictOf es n) :: (kd, dictT (strKind PR w) xs kn) :: R ∧ TypesPost w rest ty td kd es xs R x1 x2 x3 x4 x5 x6 x7) := by
  unfold CallSpec
  intro mean mg mb dp un gd cn cs a ccd cl outer A₀ base h₀ L m s Q E B F X N T hk dh hun _ hret
  k_dflt (refine' call_cls ?k1 ?k2 ?k3 ?k4 ?k5 ?k6 ?_; (case k1 => k_asm); (case k2 => k_asm); (case k3 => k_asm); (case k4 => k_is); (case k5 => k_is); (case k6 => k_is); k_whole; intro x' d' h' F' N' l1 l2; (try k_lt2 l2); (try k_sweep); walk_at "ENTER")
  k_steps
  rename _ ∧ _ ∧ AllLt _ rest => hkl
  rename_i kd _ _ _ _
  have hty0 : (x', instObj 116 d') ∈ (x', instObj 116 d') :: rest := .head _
  have hr0 : ∀ p ∈ (x', instObj 116 d') :: rest, p.1 ≠ d' := List.forall_mem_cons.mpr ⟨Nat.ne_of_gt l2, fun p hp => Nat.ne_of_lt (l1 p hp)⟩
  have hq0 : ∀ p ∈ (x', instObj 116 d') :: rest, p.1 ≠ kd := List.forall_mem_cons.mpr ⟨Nat.ne_of_lt hkl.1, ne_of_allLt hkl.2.2⟩
  have hT0 : DictT (strKind PR w) ((x', instObj 116 d') :: rest) [] := DictT.nil
  have hl0 : ∀ p ∈ (x', instObj 116 d') :: rest, p ∈ rest ∨ d' < p.1 := List.forall_mem_cons.mpr ⟨.inr l2, fun p hp => .inl hp⟩
  have hs0 : ∀ p ∈ rest, p ∈ (x', instObj 116 d') :: rest := fun p hp => .tail _ hp
  k_dflt (refine' CallSpec.use (new_step3 w x' d' kd _ _ _ _ _ _ _ _ _ _ _ hty0 ?hc ?hk ?hes hT0 ?hxs (Nat.ne_of_lt hkl.2.1) hr0 hq0) ?B ?F ?X ?N ?T ?hkk ?hdp ?hun trivial ?_)
  case B => k_asm
  case F => k_asm
  case X => k_asm
  case N => walk_at "PULL"
  case T => k_asm
  case hkk => first | exact rfl | assumption
  case hdp => walk_at "ROOM"
  case hun => walk_at "ROOM"
  case hc => walk_at "GETL"
  case hk => walk_at "GETL"
  case hes => walk_at "LEN"
  case hxs => first | omega | exact Nat.zero_le _
  intro r1 nn1 h1 t1 F1 N1 P1
  obtain ⟨n1, xs1, kn1, R1, x1, tc1, tk1, rfl, rfl, hs1, hr1, hq1, hl1, hT1, hn1, hm1⟩ := P1
  replace hn1 : xs1.length ≤ 1 := by exact hn1
  have hty1 := hs1 _ hty0
  have hsy1 := hs1
  replace hs1 := sub_trans hs0 hs1
  replace hl1 := up_trans hl0 hl1
  dsimp only
  k_steps
  rename News _ _ _ _ => NN1
  dsimp only at NN1
  k_dflt (refine' CallSpec.use (new_step3 w x' d' kd _ _ _ _ _ _ _ _ _ _ _ hty1 ?hc ?hk ?hes hT1 ?hxs (Nat.ne_of_lt hkl.2.1) hr1 hq1) ?B ?F ?X ?N ?T ?hkk ?hdp ?hun trivial ?_)
  case B => k_asm
  case F => k_asm
  case X => k_asm
  case N => walk_at "PULL"
  case T => k_asm
  case hkk => first | exact rfl | assumption
  case hdp => walk_at "ROOM"
  case hun => walk_at "ROOM"
  case hc => walk_at "GETL"
  case hk => walk_at "GETL"
  case hes => walk_at "LEN"
  case hxs => first | omega | exact Nat.zero_le _
  intro r2 nn2 h2 t2 F2 N2 P2
  obtain ⟨n2, xs2, kn2, R2, x2, tc2, tk2, rfl, rfl, hs2, hr2, hq2, hl2, hT2, hn2, hm2⟩ := P2
  replace hn2 : xs2.length ≤ 2 := by omega
  have hty2 := hs2 _ hty1
  have hsy2 := hs2
  replace hs2 := sub_trans hs1 hs2
  replace hl2 := up_trans hl1 hl2
  replace hm1 := hm1.sub hsy2
  dsimp only
  k_steps
  rename News _ _ _ _ => NN2
  dsimp only at NN2
  k_dflt (refine' CallSpec.use (new_step3 w x' d' kd _ _ _ _ _ _ _ _ _ _ _ hty2 ?hc ?hk ?hes hT2 ?hxs (Nat.ne_of_lt hkl.2.1) hr2 hq2) ?B ?F ?X ?N ?T ?hkk ?hdp ?hun trivial ?_)
  case B => k_asm
  case F => k_asm
  case X => k_asm
  case N => walk_at "PULL"
  case T => k_asm
  case hkk => first | exact rfl | assumption
  case hdp => walk_at "ROOM"
  case hun => walk_at "ROOM"
  case hc => walk_at "GETL"
  case hk => walk_at "GETL"
  case hes => walk_at "LEN"
  case hxs => first | omega | exact Nat.zero_le _
  intro r3 nn3 h3 t3 F3 N3 P3
  obtain ⟨n3, xs3, kn3, R3, x3, tc3, tk3, rfl, rfl, hs3, hr3, hq3, hl3, hT3, hn3, hm3⟩ := P3
  replace hn3 : xs3.length ≤ 3 := by omega
  have hty3 := hs3 _ hty2
  have hsy3 := hs3
  replace hs3 := sub_trans hs2 hs3
  replace hl3 := up_trans hl2 hl3
  replace hm1 := hm1.sub hsy3
  replace hm2 := hm2.sub hsy3
  dsimp only
  k_steps
  rename News _ _ _ _ => NN3
  dsimp only at NN3
  k_dflt (refine' CallSpec.use (new_step3 w x' d' kd _ _ _ _ _ _ _ _ _ _ _ hty3 ?hc ?hk ?hes hT3 ?hxs (Nat.ne_of_lt hkl.2.1) hr3 hq3) ?B ?F ?X ?N ?T ?hkk ?hdp ?hun trivial ?_)
  case B => k_asm
  case F => k_asm
  case X => k_asm
  case N => walk_at "PULL"
  case T => k_asm
  case hkk => first | exact rfl | assumption
  case hdp => walk_at "ROOM"
  case hun => walk_at "ROOM"
  case hc => walk_at "GETL"
  case hk => walk_at "GETL"
  case hes => walk_at "LEN"
  case hxs => first | omega | exact Nat.zero_le _
  intro r4 nn4 h4 t4 F4 N4 P4
  obtain ⟨n4, xs4, kn4, R4, x4, tc4, tk4, rfl, rfl, hs4, hr4, hq4, hl4, hT4, hn4, hm4⟩ := P4
  replace hn4 : xs4.length ≤ 4 := by omega
  have hty4 := hs4 _ hty3
  have hsy4 := hs4
  replace hs4 := sub_trans hs3 hs4
  replace hl4 := up_trans hl3 hl4
  replace hm1 := hm1.sub hsy4
  replace hm2 := hm2.sub hsy4
  replace hm3 := hm3.sub hsy4
  dsimp only
  k_steps
  rename News _ _ _ _ => NN4
  dsimp only at NN4
  k_dflt (refine' CallSpec.use (new_step3 w x' d' kd _ _ _ _ _ _ _ _ _ _ _ hty4 ?hc ?hk ?hes hT4 ?hxs (Nat.ne_of_lt hkl.2.1) hr4 hq4) ?B ?F ?X ?N ?T ?hkk ?hdp ?hun trivial ?_)
  case B => k_asm
  case F => k_asm
  case X => k_asm
  case N => walk_at "PULL"
  case T => k_asm
  case hkk => first | exact rfl | assumption
  case hdp => walk_at "ROOM"
  case hun => walk_at "ROOM"
  case hc => walk_at "GETL"
  case hk => walk_at "GETL"
  case hes => walk_at "LEN"
  case hxs => first | omega | exact Nat.zero_le _
  intro r5 nn5 h5 t5 F5 N5 P5
  obtain ⟨n5, xs5, kn5, R5, x5, tc5, tk5, rfl, rfl, hs5, hr5, hq5, hl5, hT5, hn5, hm5⟩ := P5
  replace hn5 : xs5.length ≤ 5 := by omega
  have hty5 := hs5 _ hty4
  have hsy5 := hs5
  replace hs5 := sub_trans hs4 hs5
  replace hl5 := up_trans hl4 hl5
  replace hm1 := hm1.sub hsy5
  replace hm2 := hm2.sub hsy5
  replace hm3 := hm3.sub hsy5
  replace hm4 := hm4.sub hsy5
  dsimp only
  k_steps
  rename News _ _ _ _ => NN5
  dsimp only at NN5
  k_dflt (refine' CallSpec.use (new_step3 w x' d' kd _ _ _ _ _ _ _ _ _ _ _ hty5 ?hc ?hk ?hes hT5 ?hxs (Nat.ne_of_lt hkl.2.1) hr5 hq5) ?B ?F ?X ?N ?T ?hkk ?hdp ?hun trivial ?_)
  case B => k_asm
  case F => k_asm
  case X => k_asm
  case N => walk_at "PULL"
  case T => k_asm
  case hkk => first | exact rfl | assumption
  case hdp => walk_at "ROOM"
  case hun => walk_at "ROOM"
  case hc => walk_at "GETL"
  case hk => walk_at "GETL"
  case hes => walk_at "LEN"
  case hxs => first | omega | exact Nat.zero_le _
  intro r6 nn6 h6 t6 F6 N6 P6
  obtain ⟨n6, xs6, kn6, R6, x6, tc6, tk6, rfl, rfl, hs6, hr6, hq6, hl6, hT6, hn6, hm6⟩ := P6
  replace hn6 : xs6.length ≤ 6 := by omega
  have hty6 := hs6 _ hty5
  have hsy6 := hs6
  replace hs6 := sub_trans hs5 hs6
  replace hl6 := up_trans hl5 hl6
  replace hm1 := hm1.sub hsy6
  replace hm2 := hm2.sub hsy6
  replace hm3 := hm3.sub hsy6
  replace hm4 := hm4.sub hsy6
  replace hm5 := hm5.sub hsy6
  dsimp only
  k_steps
  rename News _ _ _ _ => NN6
  dsimp only at NN6
  k_dflt (refine' CallSpec.use (new_step3 w x' d' kd _ _ _ _ _ _ _ _ _ _ _ hty6 ?hc ?hk ?hes hT6 ?hxs (Nat.ne_of_lt hkl.2.1) hr6 hq6) ?B ?F ?X ?N ?T ?hkk ?hdp ?hun trivial ?_)
  case B => k_asm
  case F => k_asm
  case X => k_asm
  case N => walk_at "PULL"
  case T => k_asm
  case hkk => first | exact rfl | assumption
  case hdp => walk_at "ROOM"
  case hun => walk_at "ROOM"
  case hc => walk_at "GETL"
  case hk => walk_at "GETL"
  case hes => walk_at "LEN"
  case hxs => first | omega | exact Nat.zero_le _
  intro r7 nn7 h7 t7 F7 N7 P7
  obtain ⟨n7, xs7, kn7, R7, x7, tc7, tk7, rfl, rfl, hs7, hr7, hq7, hl7, hT7, hn7, hm7⟩ := P7
  replace hn7 : xs7.length ≤ 7 := by omega
  have hty7 := hs7 _ hty6
  have hsy7 := hs7
  replace hs7 := sub_trans hs6 hs7
  replace hl7 := up_trans hl6 hl7
  replace hm1 := hm1.sub hsy7
  replace hm2 := hm2.sub hsy7
  replace hm3 := hm3.sub hsy7
  replace hm4 := hm4.sub hsy7
  replace hm5 := hm5.sub hsy7
  replace hm6 := hm6.sub hsy7
  dsimp only
  k_steps
  rename Fr h₀ _ _ _ => kF
  rename News h₀ _ _ _ => kN
  refine' hret _ _ _ _ kF kN ⟨x', d', kd, _, _, _, _, R7, x1, x2, x3, x4, x5, x6, x7, rfl, rfl, hty7, ⟨⟨tc7, getL_ne (by decide) (getL_putL_self _ _ _ _ _)⟩, ?_, ?_, by walk_at "LEN"⟩, hT7, hn7, hs7, hr7, hq7, hl7, l1, hkl.2.1, ?_, ?_, ?_, ?_, ?_, ?_, ?_, hm1, hm2, hm3, hm4, hm5, hm6, hm7⟩
  all_goals (walk_at "GETL")
theorem strOk_of (s : String) : PyData.strOk (PySem.Str.ofString s) = true := by
  unfold PyData.strOk
  rw [PySem.Str.ofString_eq_toList]
  show Array.all (List.map Char.toNat s.toList).toArray _ = true
  rw [List.all_toArray, List.all_eq_true]
  intro x hx
  obtain ⟨c, _, rfl⟩ := List.mem_map.mp hx
  refine decide_eq_true ?_
  have := c.valid
  show c.toNat < 1114112
  rcases this with h | h
  · exact Nat.lt_trans h (by decide)
  · exact h.2
theorem strOk_app (a b : PySem.Str) (ha : PyData.strOk a = true) (hb : PyData.strOk b = true) : PyData.strOk (a ++ b) = true := by
  unfold PyData.strOk at *
  show Array.all (a.cps ++ b.cps) _ = true
  rw [Array.all_append, ha, hb]; rfl
structure TRow where
  x : Addr
  tp : Addr
  ds : Addr
  num : Int
  form : PySem.Str
  md : PySem.Str
  lb : PySem.Str
  base : Value
  dv : List Value
def RowIn (R : List (Addr × Obj)) (r : TRow) : Prop := MadeIn R r.x r.num r.form r.md r.lb r.base ∧ (r.tp, tupO #[.ref r.x, .ref r.ds] 0) ∈ R ∧ (r.ds, tupO r.dv.toArray 0) ∈ R
theorem RowIn.sub {R R' : List (Addr × Obj)} {r : TRow} (h : RowIn R r) (hs : ∀ p ∈ R, p ∈ R') : RowIn R' r := ⟨h.1.sub hs, hs _ h.2.1, hs _ h.2.2⟩
def rowsV (rs : List TRow) : List Value := rs.map fun r => .ref r.tp
theorem rowsV_snoc (rs : List TRow) (r : TRow) : rowsV (rs ++ [r]) = rowsV rs ++ [.ref r.tp] := by simp [rowsV]
theorem rowsV_len (rs : List TRow) : (rowsV rs).length = rs.length := by simp [rowsV]
inductive RowOk (rs : List TRow) (i : Nat) (r : TRow) : Prop
  | isRec (up : Int) (t t' : Tok) : r.form = "record" → r.md = "M" → r.dv = [.str "rec" t, .int up t'] → ((up = -1 ∧ r.base = .none) ∨ ∃ (j : Nat) (rj : TRow), up = j ∧ j < i ∧ rs[j]? = some rj ∧ rj.form = "record" ∧ r.base = .ref rj.x) → PyData.strOk r.lb = true → RowOk rs i r
  | ptr (home : Nat) (rj : TRow) (t t' : Tok) : r.form = "pointer" → r.dv = [.str "ptr" t, .int home t'] → home < i → rs[home]? = some rj → rj.form = "record" → r.base = .ref rj.x → RowOk rs i r
  | oth (tag : PySem.Str) (t : Tok) (more : List Value) : r.form ≠ "record" → r.form ≠ "pointer" → r.dv = .str tag t :: more → tag ≠ "rec" → tag ≠ "ptr" → RowOk rs i r
theorem getE_app {α : Type} {l l' : List α} {i : Nat} {a : α} (h : l[i]? = some a) : (l ++ l')[i]? = some a := by
  rw [List.getElem?_append_left (List.getElem?_eq_some_iff.mp h).1]; exact h
theorem RowOk.app {rs l : List TRow} {i : Nat} {r : TRow} (h : RowOk rs i r) : RowOk (rs ++ l) i r := by
  cases h with
  | isRec up t t' a b c d e =>
    refine .isRec up t t' a b c (d.imp id ?_) e
    rintro ⟨j, rj, e1, e2, e3, e4, e5⟩
    exact ⟨j, rj, e1, e2, getE_app e3, e4, e5⟩
  | ptr home rj t t' a b c d e f => exact .ptr home rj t t' a b c (getE_app d) e f
  | oth tag t more a b c d e => exact .oth tag t more a b c d e
structure WorldIn (R : List (Addr × Obj)) (rs : List TRow) (c : Int) : Prop where
  rows : ∀ r ∈ rs, RowIn R r
  ok : ∀ i r, rs[i]? = some r → RowOk rs i r
  nums : (rs.map (·.num)).Nodup
  le : ∀ r ∈ rs, r.num ≤ c
theorem WorldIn.sub {R R' : List (Addr × Obj)} {rs : List TRow} {c : Int} (h : WorldIn R rs c) (hs : ∀ p ∈ R, p ∈ R') : WorldIn R' rs c := ⟨fun r hr => (h.rows r hr).sub hs, h.ok, h.nums, h.le⟩
theorem WorldIn.push {R : List (Addr × Obj)} {rs : List TRow} {r : TRow} {c : Int} (h : WorldIn R rs c) (hr : RowIn R r) (ho : RowOk rs rs.length r) (hn : r.num = c + 1) : WorldIn R (rs ++ [r]) (c + 1) := by
  refine ⟨fun q hq => ?_, fun i q hq => ?_, ?_, fun q hq => ?_⟩
  · rcases List.mem_append.mp hq with hq | hq
    · exact h.rows q hq
    · rw [List.mem_singleton.mp hq]; exact hr
  · by_cases hi : i < rs.length
    · rw [List.getElem?_append_left hi] at hq
      exact (h.ok i q hq).app
    · have hl := (List.getElem?_eq_some_iff.mp hq).1
      simp only [List.length_append, List.length_singleton] at hl
      have e : i = rs.length := by omega
      subst e
      simp only [List.getElem?_concat_length, Option.some.injEq] at hq
      subst hq
      exact ho.app
  · rw [List.map_append, List.nodup_append]
    refine ⟨h.nums, by simp, ?_⟩
    intro a ha b hb e
    obtain ⟨q, hq, rfl⟩ := List.mem_map.mp ha
    simp only [List.map_cons, List.map_nil, List.mem_singleton] at hb
    have := h.le q hq
    omega
  · rcases List.mem_append.mp hq with hq | hq
    · have := h.le q hq; omega
    · rw [List.mem_singleton.mp hq, hn]; exact Int.le_refl _

theorem TypeD.setBase {ex : List DictEntry} {num : Int} {form md lb : PySem.Str} {base : Value} {pm : Addr} (h : TypeD ex num form md lb base pm) (hs : Int) (t : Tok) (v : Value) (hl : ex.length ≤ 39) : TypeD (putL (PySem.Str.ofString "base") hs (.str (PySem.Str.ofString "base") t) v ex) num form md lb v pm :=
  ⟨h.number.imp fun _ e => getL_ne (by decide) e, h.form.imp fun _ e => getL_ne (by decide) e, h.module.imp fun _ e => getL_ne (by decide) e, h.label.imp fun _ e => getL_ne (by decide) e, getL_putL_self _ _ _ _ _,
    h.level.imp fun _ x => x.imp fun _ e => getL_ne (by decide) e, h.length.imp fun _ e => getL_ne (by decide) e, getL_ne (by decide) h.params, putLe hl⟩
theorem TypeD.setLevel {ex : List DictEntry} {num : Int} {form md lb : PySem.Str} {base : Value} {pm : Addr} (h : TypeD ex num form md lb base pm) (hs : Int) (t : Tok) (i : Int) (u : Tok) (hl : ex.length ≤ 39) : TypeD (putL (PySem.Str.ofString "level") hs (.str (PySem.Str.ofString "level") t) (.int i u) ex) num form md lb base pm :=
  ⟨h.number.imp fun _ e => getL_ne (by decide) e, h.form.imp fun _ e => getL_ne (by decide) e, h.module.imp fun _ e => getL_ne (by decide) e, h.label.imp fun _ e => getL_ne (by decide) e, getL_ne (by decide) h.base,
    ⟨i, u, getL_putL_self _ _ _ _ _⟩, h.length.imp fun _ e => getL_ne (by decide) e, getL_ne (by decide) h.params, putLe hl⟩
theorem TypeD.setLength {ex : List DictEntry} {num : Int} {form md lb : PySem.Str} {base : Value} {pm : Addr} (h : TypeD ex num form md lb base pm) (hs : Int) (t : Tok) (v : Value) (hl : ex.length ≤ 39) : TypeD (putL (PySem.Str.ofString "length") hs (.str (PySem.Str.ofString "length") t) v ex) num form md lb base pm :=
  ⟨h.number.imp fun _ e => getL_ne (by decide) e, h.form.imp fun _ e => getL_ne (by decide) e, h.module.imp fun _ e => getL_ne (by decide) e, h.label.imp fun _ e => getL_ne (by decide) e, getL_ne (by decide) h.base,
    h.level.imp fun _ x => x.imp fun _ e => getL_ne (by decide) e, ⟨v, getL_putL_self _ _ _ _ _⟩, getL_ne (by decide) h.params, putLe hl⟩

theorem CallSpec.mono2 {w : World} {lim : Nat} {f : Addr} {vs : List Value} {pre : Heap → Prop} {led : List (Addr × Obj)} {post post' : Value → List (Addr × Obj) → Prop} (C : CallSpec w lim f vs pre led post)
    (h : ∀ r n, post r n → ∃ n', post' r n' ∧ ∀ p ∈ n', p ∈ n) : CallSpec w lim f vs pre led post' := by
  intro mean mg mb dp un gd cn cs a ccd cl outer A₀ base h₀ L m s Q E B F X N T hk hdp hun hpre hret
  exact C.use B F X N T hk hdp hun hpre fun r n h' t F' N' p => let ⟨n', a, b⟩ := h r n p; hret r n' h' t F' (news_sub N' b) a
def NewW (w : World) (td kd : Addr) (e1 e2 e3 e4 : Addr × Obj) (R : List (Addr × Obj)) (es : List DictEntry) (xs : List (List PySem.Str × Addr × Value)) (c : Int) (form md lb : PySem.Str) (r : Value) (news' : List (Addr × Obj)) : Prop :=
  ∃ n' xs' kn' R' x dx ex nx pm tc tk1, r = .ref x ∧ news' = (dx, dictOf ex nx) :: (pm, listOf #[] 0) :: (td, dictOf (putL (PySem.Str.ofString "counter") (PyData.keyHash w.params (PySem.Str.ofString "counter")) (.str (PySem.Str.ofString "counter") tk1) (.int (c + 1) tc) es) n') :: (kd, dictT (strKind PR w) xs' kn') :: e1 :: e2 :: e3 :: e4 :: R' ∧
    (∀ p ∈ R, p ∈ R') ∧ DictT (strKind PR w) R' xs' ∧ xs'.length ≤ xs.length + 1 ∧ TypeD ex (c + 1) form md lb .none pm ∧ ex.length ≤ 30 ∧ (x, instObj 59 dx) ∈ R' ∧ (∀ p ∈ R', p ∈ R ∨ (dx < p.1 ∧ p.1 ≠ pm)) ∧ (∀ p ∈ R, p.1 < dx) ∧
    @LT.lt Nat _ dx pm ∧ @LT.lt Nat _ td dx ∧ @LT.lt Nat _ kd dx ∧ @LT.lt Nat _ e1.1 dx ∧ @LT.lt Nat _ e2.1 dx ∧ @LT.lt Nat _ e3.1 dx ∧ @LT.lt Nat _ e4.1 dx
theorem NewPost.toW {w : World} {td kd : Addr} {e1 e2 e3 e4 : Addr × Obj} {R : List (Addr × Obj)} {es : List DictEntry} {xs : List (List PySem.Str × Addr × Value)} {c : Int} {form md lb : PySem.Str} {r : Value} {news' : List (Addr × Obj)}
    (h : NewPost w td kd (e1 :: e2 :: e3 :: e4 :: R) R es xs c form md lb r news') : ∃ n', NewW w td kd e1 e2 e3 e4 R es xs c form md lb r n' ∧ ∀ p ∈ n', p ∈ news' := by
  obtain ⟨n', xs', kn', x, dx, ex, nx, pm, tl, tc, tk1, rfl, rfl, hT, hxs, hex, hexl, hx, o1, o2, o3, o4, o5⟩ := h
  refine ⟨_, ⟨n', xs', kn', tl ++ R, x, dx, ex, nx, pm, tc, tk1, rfl, rfl, fun p hp => List.mem_append_right _ hp, hT, hxs, hex, hexl, List.mem_append_left _ hx, fun p hp => ?_, fun p hp => o1 p (.tail _ (.tail _ (.tail _ (.tail _ hp)))), o4, o2, o3, o1 _ (.head _), o1 _ (.tail _ (.head _)), o1 _ (.tail _ (.tail _ (.head _))), o1 _ (.tail _ (.tail _ (.tail _ (.head _))))⟩, ?_⟩
  · exact (List.mem_append.mp hp).elim (fun h => .inr (o5 p h)) .inl
  · intro p hp
    simp only [List.mem_cons, List.mem_append] at hp ⊢
    grind
theorem new_step5 (w : World) (ty td kd : Addr) (form md lb : PySem.Str) (size : Int) (tf ts tm tlb : Tok) (es : List DictEntry) (n : Nat) (c : Int) (tc : Tok) (xs : List (List PySem.Str × Addr × Value)) (kn : Nat) (e1 e2 e3 e4 : Addr × Obj) (R : List (Addr × Obj))
   (hty : (ty, instObj 116 td) ∈ R) (hc : getL "counter" es = some (some (.int c tc))) (hk : getL "known" es = some (some (.ref kd))) (hes : es.length ≤ 100) (hT : DictT (strKind PR w) R xs) (hxs : xs.length ≤ 500) (htk : @Ne Nat td kd)
   (hr1 : ∀ p ∈ e1 :: e2 :: e3 :: e4 :: R, p.1 ≠ td) (hr2 : ∀ p ∈ e1 :: e2 :: e3 :: e4 :: R, p.1 ≠ kd) :
   CallSpec w 900 106 [.ref ty, .str form tf, .int size ts, .str md tm, .str lb tlb] (fun _ => True) ((td, dictOf es n) :: (kd, dictT (strKind PR w) xs kn) :: e1 :: e2 :: e3 :: e4 :: R) (NewW w td kd e1 e2 e3 e4 R es xs c form md lb) :=
  (new_spec5 w ty td kd form md lb size tf ts tm tlb es n c tc xs kn _ R (fun p hp => .tail _ (.tail _ (.tail _ (.tail _ hp)))) (.tail _ (.tail _ (.tail _ (.tail _ hty)))) hc hk hes hT hxs htk hr1 hr2).mono2 fun _ _ h => h.toW
theorem new_step3w (w : World) (ty td kd : Addr) (form : PySem.Str) (size : Int) (tf ts : Tok) (es : List DictEntry) (n : Nat) (c : Int) (tc : Tok) (xs : List (List PySem.Str × Addr × Value)) (kn : Nat) (e1 e2 e3 e4 : Addr × Obj) (R : List (Addr × Obj))
   (hty : (ty, instObj 116 td) ∈ R) (hc : getL "counter" es = some (some (.int c tc))) (hk : getL "known" es = some (some (.ref kd))) (hes : es.length ≤ 100) (hT : DictT (strKind PR w) R xs) (hxs : xs.length ≤ 500) (htk : @Ne Nat td kd)
   (hr1 : ∀ p ∈ e1 :: e2 :: e3 :: e4 :: R, p.1 ≠ td) (hr2 : ∀ p ∈ e1 :: e2 :: e3 :: e4 :: R, p.1 ≠ kd) :
   CallSpec w 900 106 [.ref ty, .str form tf, .int size ts] (fun _ => True) ((td, dictOf es n) :: (kd, dictT (strKind PR w) xs kn) :: e1 :: e2 :: e3 :: e4 :: R) (NewW w td kd e1 e2 e3 e4 R es xs c form (PySem.Str.ofString "") (PySem.Str.ofString "")) :=
  (new_spec3 w ty td kd form size tf ts es n c tc xs kn _ R (fun p hp => .tail _ (.tail _ (.tail _ (.tail _ hp)))) (.tail _ (.tail _ (.tail _ (.tail _ hty)))) hc hk hes hT hxs htk hr1 hr2).mono2 fun _ _ h => h.toW
theorem off_up {R R' : List (Addr × Obj)} {a dx pm : Addr} (h : ∀ p ∈ R, p.1 ≠ a) (hup : ∀ p ∈ R', p ∈ R ∨ (dx < p.1 ∧ p.1 ≠ pm)) (ha : @LT.lt Nat _ a dx) : ∀ p ∈ R', p.1 ≠ a := fun p hp => (hup p hp).elim (h p) fun x => Nat.ne_of_gt (Nat.lt_trans ha x.1)
theorem off_dx {R R' : List (Addr × Obj)} {dx pm : Addr} (h : ∀ p ∈ R, p.1 < dx) (hup : ∀ p ∈ R', p ∈ R ∨ (dx < p.1 ∧ p.1 ≠ pm)) : ∀ p ∈ R', p.1 ≠ dx := fun p hp => (hup p hp).elim (fun x => Nat.ne_of_lt (h p x)) fun x => Nat.ne_of_gt x.1
theorem off_pm {R R' : List (Addr × Obj)} {dx pm : Addr} (h : ∀ p ∈ R, p.1 < dx) (hup : ∀ p ∈ R', p ∈ R ∨ (dx < p.1 ∧ p.1 ≠ pm)) (hd : @LT.lt Nat _ dx pm) : ∀ p ∈ R', p.1 ≠ pm := fun p hp => (hup p hp).elim (fun x => Nat.ne_of_lt (Nat.lt_trans (h p x) hd)) fun x => x.2

def PtrK (K : Nat) (rs : List TRow) : Prop := ∀ (i : Nat) (r : TRow), rs[i]? = some r → r.form = "pointer" → ∃ (t t' : Tok) (h : Nat), r.dv = [.str "ptr" t, .int h t'] ∧ h + K = i
def HomesAt (hs : List Int) : Prop := ∀ (k : Nat) (h : Int), hs[k]? = some h → h = 6 + (k : Int)
theorem PtrK.snoc {K : Nat} {rs : List TRow} {r : TRow} (h : PtrK K rs) (hr : r.form = "pointer" → ∃ (t t' : Tok) (h : Nat), r.dv = [.str "ptr" t, .int h t'] ∧ h + K = rs.length) : PtrK K (rs ++ [r]) := by
  intro i q hq hp
  by_cases hi : i < rs.length
  · rw [List.getElem?_append_left hi] at hq
    exact h i q hq hp
  · have hl := (List.getElem?_eq_some_iff.mp hq).1
    simp only [List.length_append, List.length_singleton] at hl
    have e : i = rs.length := by omega
    subst e
    simp only [List.getElem?_concat_length, Option.some.injEq] at hq
    subst hq
    exact hr hp
theorem PtrK.snocN {K : Nat} {rs : List TRow} {r : TRow} {form : PySem.Str} (h : PtrK K rs) (hr : r.form = form) (hf : form ≠ "pointer") : PtrK K (rs ++ [r]) := h.snoc fun e => absurd (hr.symm.trans e) hf
theorem HomesAt.snoc {hs : List Int} {x : Int} (h : HomesAt hs) (hx : x = 6 + (hs.length : Int)) : HomesAt (hs ++ [x]) := by
  intro k q hq
  by_cases hi : k < hs.length
  · rw [List.getElem?_append_left hi] at hq
    exact h k q hq
  · have hl := (List.getElem?_eq_some_iff.mp hq).1
    simp only [List.length_append, List.length_singleton] at hl
    have e : k = hs.length := by omega
    subst e
    simp only [List.getElem?_concat_length, Option.some.injEq] at hq
    rw [← hq]; exact hx

structure WC where
  i : Int
  x : Int
  ti : Tok
  tx : Tok
  np : Nat
  es : List DictEntry
  n : Nat
  xs : List (List PySem.Str × Addr × Value)
  kn : Nat
  rs : List TRow
  nr : Nat
  hv : List Value
  hs : List Int
  nh : Nat
  R : List (Addr × Obj)
def WC.led (c : WC) (w : World) (pl fg td kd rl hm : Addr) : List (Addr × Obj) :=
  (pl, listOf #[.ref fg, .int c.i c.ti, .int c.x c.tx] c.np) :: (td, dictOf c.es c.n) :: (kd, dictT (strKind PR w) c.xs c.kn) :: (rl, listOf (rowsV c.rs).toArray c.nr) :: (hm, listOf c.hv.toArray c.nh) :: c.R
structure WC.Ok (c : WC) (w : World) (pl fg td kd rl hm ty xn : Addr) : Prop where
  figs : Figs c.R fg
  i0 : 0 ≤ c.i
  x0 : 0 ≤ c.x
  x1 : c.x < 1009
  inst : (ty, instObj 116 td) ∈ c.R
  counter : ∃ t, getL "counter" c.es = some (some (.int (c.rs.length + 1) t))
  known : getL "known" c.es = some (some (.ref kd))
  new : getL "new" c.es = some none
  none : getL "none" c.es = some (some (.ref xn))
  esl : c.es.length ≤ 60 + c.rs.length
  T : DictT (strKind PR w) c.R c.xs
  xsl : c.xs.length ≤ 10 + c.rs.length
  W : WorldIn c.R c.rs (c.rs.length + 1)
  hsv : IntsAre c.hv c.hs
  homes : ∀ h ∈ c.hs, ∃ k : Nat, h = k ∧ ∃ r, c.rs[k]? = some r ∧ r.form = "record"
  o1 : ∀ p ∈ c.R, p.1 ≠ pl
  o2 : ∀ p ∈ c.R, p.1 ≠ td
  o3 : ∀ p ∈ c.R, p.1 ≠ kd
  o4 : ∀ p ∈ c.R, p.1 ≠ rl
  o5 : ∀ p ∈ c.R, p.1 ≠ hm
section
variable {prog : Program} {w : World} {A : Around} {E : Value → Shared → Prop} {s : Shared} {h₀ : Heap} {L D : Addr} {m : PySem.Str → Option Value} {news R : List (Addr × Obj)}
theorem sub_any {value slice : PySem.Expr} {vs : List Value} {n : Nat} {k : Int} {u : Tok} {Q : Value → Shared → Prop} (N : News h₀ L s.heap news) (hm : (D, listOf vs.toArray n) ∈ news) (h0 : 0 ≤ k) (hk : k < vs.length) (hb : vs.length ≤ 2000)
    (h : ∀ v, vs[k.toNat]? = some v → Q v s)
    (hs : subscripted slice false (.ref D) (.int k u) = operate [.ref D, .int k u] (getItem (.ref D) (.int k u))) : wpAny (model prog w) A (subscriptTail value slice (.ref D) (.int k u)) Q E s := by
  have hl : s.heap.IsList D vs.toArray := N.isList hm
  have hlt : k.toNat < vs.length := by omega
  refine tail_any hl.typeIs slot_list_getitem.lookup (wpAny_getItem_list hl h0 (by omega) (x := vs[k.toNat]) (by simp [hlt]) (h _ (by simp [hlt]))) hs
theorem sub_menu {value slice : PySem.Expr} {vs : List Value} {ns : List Int} {n : Nat} {k : Int} {u : Tok} {Q : Value → Shared → Prop} (N : News h₀ L s.heap news) (hm : (D, listOf vs.toArray n) ∈ news) (hi : IntsAre vs ns) (h0 : 0 ≤ k) (hk : k < ns.length) (hb : ns.length ≤ 2000)
    (h : ∀ v t, v ∈ ns → Q (.int v t) s)
    (hs : subscripted slice false (.ref D) (.int k u) = operate [.ref D, .int k u] (getItem (.ref D) (.int k u))) : wpAny (model prog w) A (subscriptTail value slice (.ref D) (.int k u)) Q E s := by
  refine sub_any N hm h0 (by rw [hi.length]; exact hk) (by rw [hi.length]; exact hb) (fun v hv => ?_) hs
  have hlt : k.toNat < ns.length := by omega
  obtain ⟨t, ht⟩ := hi.get k.toNat ns[k.toNat] (List.getElem?_eq_getElem hlt)
  rw [ht] at hv
  cases hv
  exact h _ _ (List.getElem_mem hlt)
theorem sub_homes {value slice : PySem.Expr} {vs : List Value} {ns : List Int} {rs : List TRow} {n : Nat} {k : Int} {u : Tok} {Q : Value → Shared → Prop} (N : News h₀ L s.heap news) (hm : (D, listOf vs.toArray n) ∈ news) (hi : IntsAre vs ns) (hh : ∀ h ∈ ns, ∃ k : Nat, h = k ∧ ∃ r, rs[k]? = some r ∧ r.form = "record") (h0 : 0 ≤ k) (hk : k < ns.length) (hb : ns.length ≤ 2000)
    (h : ∀ (j : Nat) t r, ns.getD k.toNat 0 = (j : Int) → rs[j]? = some r → r.form = "record" → j < rs.length → Q (.int (ns.getD k.toNat 0) t) s)
    (hs : subscripted slice false (.ref D) (.int k u) = operate [.ref D, .int k u] (getItem (.ref D) (.int k u))) : wpAny (model prog w) A (subscriptTail value slice (.ref D) (.int k u)) Q E s := by
  have hlt : k.toNat < ns.length := by omega
  refine sub_any N hm h0 (by rw [hi.length]; exact hk) (by rw [hi.length]; exact hb) (fun v hv => ?_) hs
  obtain ⟨t, ht⟩ := hi.get k.toNat ns[k.toNat] (List.getElem?_eq_getElem hlt)
  rw [ht] at hv
  cases hv
  obtain ⟨j, e, r, hr, hf⟩ := hh ns[k.toNat] (List.getElem_mem hlt)
  have hg : ns.getD k.toNat 0 = ns[k.toNat] := by simp [List.getD_eq_getElem?_getD, hlt]
  have := h j t r (hg.trans e) hr hf (List.getElem?_eq_some_iff.mp hr).1
  rwa [hg] at this
theorem sub_rows {value slice : PySem.Expr} {rs : List TRow} {c : Int} {n : Nat} {k : Int} {u : Tok} {Q : Value → Shared → Prop} (N : News h₀ L s.heap news) (hm : (D, listOf (rowsV rs).toArray n) ∈ news) (W : WorldIn R rs c) (h0 : 0 ≤ k) (hk : k < rs.length) (hb : rs.length ≤ 2000)
    (h : ∀ r, rs[k.toNat]? = some r → RowIn R r → Q (.ref r.tp) s)
    (hs : subscripted slice false (.ref D) (.int k u) = operate [.ref D, .int k u] (getItem (.ref D) (.int k u))) : wpAny (model prog w) A (subscriptTail value slice (.ref D) (.int k u)) Q E s := by
  refine sub_any N hm h0 (by rw [rowsV_len]; exact hk) (by rw [rowsV_len]; exact hb) (fun v hv => ?_) hs
  have hlt : k.toNat < rs.length := by omega
  have e : v = .ref rs[k.toNat].tp := by
    unfold rowsV at hv
    rw [List.getElem?_map, List.getElem?_eq_getElem hlt] at hv
    exact (Option.some.inj hv).symm
  rw [e]
  exact h _ (List.getElem?_eq_getElem hlt) (W.rows _ (List.getElem_mem hlt))
theorem len_my {vs : List Value} {n : Nat} {Q : Value → Shared → Prop} (N : News h₀ L s.heap news) (hm : (D, listOf vs.toArray n) ∈ news) (hb : vs.length ≤ 2000) (h : ∀ t tk', Q (.int vs.length t) { s with toks := tk' }) :
    wpAny (model prog w) A (call (.builtin "len") [.ref D]) Q E s :=
  len_list (N.isList hm) (by simp; omega) (by simpa using h _ _)
theorem len_rows {rs : List TRow} {n : Nat} {Q : Value → Shared → Prop} (N : News h₀ L s.heap news) (hm : (D, listOf (rowsV rs).toArray n) ∈ news) (hb : rs.length ≤ 2000) (h : ∀ t tk', Q (.int rs.length t) { s with toks := tk' }) :
    wpAny (model prog w) A (call (.builtin "len") [.ref D]) Q E s :=
  len_my N hm (by rw [rowsV_len]; exact hb) (by rw [rowsV_len]; exact h)
end
theorem MadeIn.sel {R R' : List (Addr × Obj)} (hsel : ∀ p ∈ R, p.2.cls ≠ .type "list" → p ∈ R') {x : Addr} {num : Int} {form md lb : PySem.Str} {base : Value} (h : MadeIn R x num form md lb base) : MadeIn R' x num form md lb base := by
  obtain ⟨dx, ex, nx, pm, a, b, c⟩ := h
  exact ⟨dx, ex, nx, pm, hsel _ a (fun e => nomatch e), hsel _ b (fun e => absurd (Value.type.inj e) (by decide)), c⟩
theorem types_specP (w : World) (pl : Addr) (its : Array Value) (np : Nat) (rest : List (Addr × Obj)) (hrest : ∀ p ∈ rest, p.1 ≠ pl) :
   CallSpec w 800 116 [] (fun _ => True) ((pl, listOf its np) :: rest) (fun r news' => ∃ ty td kd es n xs kn R x1 x2 x3 x4 x5 x6 x7, r = .ref ty ∧ news' = (td, dictOf es n) :: (kd, dictT (strKind PR w) xs kn) :: (pl, listOf its np) :: R ∧ TypesPost w rest ty td kd es xs R x1 x2 x3 x4 x5 x6 x7 ∧ (∀ p ∈ R, p.1 ≠ pl) ∧ @LT.lt Nat _ pl td) :=
  (types_spec w ((pl, listOf its np) :: rest)).mono2 (by
    rintro r news' ⟨ty, td, kd, es, n, xs, kn, R, x1, x2, x3, x4, x5, x6, x7, rfl, rfl, tp⟩
    obtain ⟨c1, c2, c3, c4, c5, c6, c7, c8, c9, c10, a1, a2, a3, a4, a5, a6, a7, m1, m2, m3, m4, m5, m6, m7⟩ := tp
    have hlt : @LT.lt Nat _ pl td := c9 _ (.head _)
    have hcase : ∀ p ∈ R, p = (pl, listOf its np) ∨ (p.1 ≠ pl ∧ (p ∈ rest ∨ td < p.1)) := by
      intro p hp
      rcases c8 p hp with h | h
      · rcases List.mem_cons.mp h with h | h
        · exact .inl h
        · exact .inr ⟨hrest p h, .inl h⟩
      · exact .inr ⟨Nat.ne_of_gt (Nat.lt_trans hlt h), .inr h⟩
    have hin : ∀ p ∈ R.filter (fun p => decide (p.1 ≠ pl)), p ∈ R ∧ p.1 ≠ pl := fun p hp => ⟨(List.mem_filter.mp hp).1, of_decide_eq_true (List.mem_filter.mp hp).2⟩
    have hsel : ∀ p ∈ R, p.2.cls ≠ .type "list" → p ∈ R.filter (fun p => decide (p.1 ≠ pl)) := by
      intro p hp hne
      refine List.mem_filter.mpr ⟨hp, decide_eq_true ?_⟩
      rcases hcase p hp with rfl | h
      · exact absurd rfl hne
      · exact h.1
    refine ⟨_, ⟨ty, td, kd, es, n, xs, kn, R.filter (fun p => decide (p.1 ≠ pl)), x1, x2, x3, x4, x5, x6, x7, rfl, rfl, ⟨hsel _ c1 (fun e => by cases e), c2, ⟨fun y hy => ?_, c3.nodup⟩, c4, fun p hp => ?_, fun p hp => c6 p (hin p hp).1, fun p hp => c7 p (hin p hp).1, fun p hp => ?_, fun p hp => c9 p (.tail _ hp), c10, a1, a2, a3, a4, a5, a6, a7, m1.sel hsel, m2.sel hsel, m3.sel hsel, m4.sel hsel, m5.sel hsel, m6.sel hsel, m7.sel hsel⟩, fun p hp => (hin p hp).2, hlt⟩, ?_⟩
    · obtain ⟨it, nn, q1, q2⟩ := c3.keys y hy
      exact ⟨it, nn, hsel _ q1 (fun e => absurd (Value.type.inj e) (by decide)), q2⟩
    · exact List.mem_filter.mpr ⟨c5 p (.tail _ hp), decide_eq_true (hrest p hp)⟩
    · rcases hcase p (hin p hp).1 with h | h
      · exact absurd (by rw [h]) (hin p hp).2
      · exact h.2
    · intro p hp
      rcases List.mem_cons.mp hp with rfl | hp
      · exact .head _
      · rcases List.mem_cons.mp hp with rfl | hp
        · exact .tail _ (.head _)
        · rcases List.mem_cons.mp hp with rfl | hp
          · exact .tail _ (.tail _ (c5 _ (.head _)))
          · exact .tail _ (.tail _ (hin p hp).1))
theorem RowIn.mk {R : List (Addr × Obj)} {x q p : Addr} {num : Int} {form md lb : PySem.Str} {base : Value} {dv : List Value} (m : MadeIn R x num form md lb base) (h1 : (q, tupO #[.ref x, .ref p] 0) ∈ R) (h2 : (p, tupO dv.toArray 0) ∈ R) : RowIn R ⟨x, q, p, num, form, md, lb, base, dv⟩ := ⟨m, h1, h2⟩
theorem world_init {w : World} {h₀ h : Heap} {L pl fg td kd rl hm ty x1 x2 x3 x4 x5 x6 x7 p1 q1 p2 q2 p3 q3 p4 q4 p5 q5 p6 q6 : Addr} {i x : Int} {ti tx t1 t2 t3 t4 t5 t6 : Tok} {np n kn : Nat} {es : List DictEntry} {xs : List (List PySem.Str × Addr × Value)} {rest R : List (Addr × Obj)}
    (N : News h₀ L h ((hm, listOf #[] 0) :: (rl, listOf #[.ref q1, .ref q2, .ref q3, .ref q4, .ref q5, .ref q6] 0) :: (q6, tupO #[.ref x6, .ref p6] 0) :: (p6, tupO #[.str (PySem.Str.ofString "nil") t6] 0) :: (q5, tupO #[.ref x5, .ref p5] 0) :: (p5, tupO #[.str (PySem.Str.ofString "set") t5] 0) ::
      (q4, tupO #[.ref x1, .ref p4] 0) :: (p4, tupO #[.str (PySem.Str.ofString "bool") t4] 0) :: (q3, tupO #[.ref x2, .ref p3] 0) :: (p3, tupO #[.str (PySem.Str.ofString "char") t3] 0) :: (q2, tupO #[.ref x3, .ref p2] 0) :: (p2, tupO #[.str (PySem.Str.ofString "byte") t2] 0) ::
      (q1, tupO #[.ref x4, .ref p1] 0) :: (p1, tupO #[.str (PySem.Str.ofString "int") t1] 0) :: (td, dictOf es n) :: (kd, dictT (strKind PR w) xs kn) :: (pl, listOf #[.ref fg, .int i ti, .int x tx] np) :: R))
    (tp : TypesPost w rest ty td kd es xs R x1 x2 x3 x4 x5 x6 x7) (hRp : ∀ p ∈ R, p.1 ≠ pl) (hf : Figs rest fg) (i0 : 0 ≤ i) (hx0 : 0 ≤ x) (hx : x < 1009) (l0 : AllLt p1 R) (a0 : @LT.lt Nat _ pl td) (a1 : @LT.lt Nat _ td kd) (a2 : @LT.lt Nat _ kd p1) (a3 : @LT.lt Nat _ p1 q1) (a4 : @LT.lt Nat _ q1 p2) (a5 : @LT.lt Nat _ p2 q2) (a6 : @LT.lt Nat _ q2 p3) (a7 : @LT.lt Nat _ p3 q3) (a8 : @LT.lt Nat _ q3 p4) (a9 : @LT.lt Nat _ p4 q4) (a10 : @LT.lt Nat _ q4 p5) (a11 : @LT.lt Nat _ p5 q5) (a12 : @LT.lt Nat _ q5 p6) (a13 : @LT.lt Nat _ p6 q6) (a14 : @LT.lt Nat _ q6 rl) (a15 : @LT.lt Nat _ rl hm) :
    ∃ c : WC, News h₀ L h (c.led w pl fg td kd rl hm) ∧ c.Ok w pl fg td kd rl hm ty x7 ∧ c.rs.length = 6 ∧ c.hs = [] ∧ (∀ p ∈ rest, p ∈ c.R) ∧ ∀ K, PtrK K c.rs := by
  obtain ⟨c1, c2, c3, c4, c5, c6, c7, c8, c9, c10, b1, b2, b3, b4, b5, b6, b7, m1, m2, m3, m4, m5, m6, m7⟩ := tp
  have lt := lt_of_allLt l0
  let T12 : List (Addr × Obj) := [(q6, tupO #[.ref x6, .ref p6] 0), (p6, tupO #[.str (PySem.Str.ofString "nil") t6] 0), (q5, tupO #[.ref x5, .ref p5] 0), (p5, tupO #[.str (PySem.Str.ofString "set") t5] 0),
      (q4, tupO #[.ref x1, .ref p4] 0), (p4, tupO #[.str (PySem.Str.ofString "bool") t4] 0), (q3, tupO #[.ref x2, .ref p3] 0), (p3, tupO #[.str (PySem.Str.ofString "char") t3] 0), (q2, tupO #[.ref x3, .ref p2] 0), (p2, tupO #[.str (PySem.Str.ofString "byte") t2] 0),
      (q1, tupO #[.ref x4, .ref p1] 0), (p1, tupO #[.str (PySem.Str.ofString "int") t1] 0)]
  have hT12 : ∀ p ∈ T12, @LT.lt Nat _ kd p.1 ∧ @LT.lt Nat _ p.1 rl := by
    intro p hp
    simp only [T12, List.mem_cons, List.not_mem_nil, or_false] at hp
    rcases hp with rfl | rfl | rfl | rfl | rfl | rfl | rfl | rfl | rfl | rfl | rfl | rfl <;> (constructor <;> dsimp only <;> omega)
  have hsub : ∀ p ∈ R, p ∈ T12 ++ R := fun p hp => List.mem_append_right _ hp
  have hin : ∀ p ∈ T12, p ∈ T12 ++ R := fun p hp => List.mem_append_left _ hp
  have off : ∀ a : Addr, (∀ p ∈ R, p.1 ≠ a) → (@LE.le Nat _ a kd ∨ @LE.le Nat _ rl a) → ∀ p ∈ T12 ++ R, p.1 ≠ a := by
    intro a h1 h2 p hp
    rcases List.mem_append.mp hp with hp | hp
    · have := hT12 p hp
      show @Ne Nat _ _
      omega
    · exact h1 p hp
  let rs : List TRow := [⟨x4, q1, p1, 4, "integer", "", "", .none, [.str (PySem.Str.ofString "int") t1]⟩, ⟨x3, q2, p2, 3, "byte", "", "", .none, [.str (PySem.Str.ofString "byte") t2]⟩, ⟨x2, q3, p3, 2, "char", "", "", .none, [.str (PySem.Str.ofString "char") t3]⟩,
    ⟨x1, q4, p4, 1, "boolean", "", "", .none, [.str (PySem.Str.ofString "bool") t4]⟩, ⟨x5, q5, p5, 5, "set", "", "", .none, [.str (PySem.Str.ofString "set") t5]⟩, ⟨x6, q6, p6, 6, "nil", "", "", .none, [.str (PySem.Str.ofString "nil") t6]⟩]
  refine ⟨⟨i, x, ti, tx, np, es, n, xs, kn, rs, 0, [], [], 0, T12 ++ R⟩, news_sub N ?_, ⟨(hf.sub c5).sub hsub, i0, hx0, hx, hsub _ c1, c2.counter, c2.known, c2.new, b7, ?_, c3.sub hsub, ?_, ⟨?_, ?_, ?_, ?_⟩, .nil, fun _ h => (nomatch h), off _ hRp (.inl (by omega)), off _ c6 (.inl (by omega)), off _ c7 (.inl (Nat.le_refl _)), off _ (fun p hp => ?_) (.inr (Nat.le_refl _)), off _ (fun p hp => ?_) (.inr (by omega))⟩, rfl, rfl, fun p hp => hsub p (c5 p hp), fun K k r hk hp => ?_⟩
  · intro p hp
    simp only [WC.led, rowsV, rs, T12, List.map_cons, List.map_nil, List.mem_cons, List.mem_append, List.not_mem_nil, or_false] at hp ⊢
    grind
  · have := c2.len; show es.length ≤ 60 + 6; omega
  · show xs.length ≤ 10 + 6; omega
  · intro r hr
    simp only [rs, List.mem_cons, List.not_mem_nil, or_false] at hr
    rcases hr with rfl | rfl | rfl | rfl | rfl | rfl
    · exact .mk (m4.sub hsub) (hin _ (by simp [T12])) (hin _ (by simp [T12]))
    · exact .mk (m3.sub hsub) (hin _ (by simp [T12])) (hin _ (by simp [T12]))
    · exact .mk (m2.sub hsub) (hin _ (by simp [T12])) (hin _ (by simp [T12]))
    · exact .mk (m1.sub hsub) (hin _ (by simp [T12])) (hin _ (by simp [T12]))
    · exact .mk (m5.sub hsub) (hin _ (by simp [T12])) (hin _ (by simp [T12]))
    · exact .mk (m6.sub hsub) (hin _ (by simp [T12])) (hin _ (by simp [T12]))
  · intro k r hk
    have hr : r ∈ rs := List.mem_of_getElem? hk
    simp only [rs, List.mem_cons, List.not_mem_nil, or_false] at hr
    rcases hr with rfl | rfl | rfl | rfl | rfl | rfl <;> exact .oth _ _ _ (by dsimp only; decide) (by dsimp only; decide) rfl (by decide) (by decide)
  · simp [rs]
  · intro r hr
    simp only [rs, List.mem_cons, List.not_mem_nil, or_false] at hr
    rcases hr with rfl | rfl | rfl | rfl | rfl | rfl <;> simp [rs]
  · exact Nat.ne_of_lt (Nat.lt_trans (lt p hp) (by omega))
  · exact Nat.ne_of_lt (Nat.lt_trans (lt p hp) (by omega))
  · have hr : r ∈ rs := List.mem_of_getElem? hk
    simp only [rs, List.mem_cons, List.not_mem_nil, or_false] at hr
    rcases hr with rfl | rfl | rfl | rfl | rfl | rfl <;> exact absurd hp (by dsimp only; decide)
theorem push_row {w : World} {h₀ h' : Heap} {L pl fg td kd rl hm ty xn I q p dx pm xm : Addr} {oi : Obj} {i x : Int} {ti tx tk1 tc : Tok} {np n' nx' kn' nr nh : Nat} {ex es : List DictEntry} {xs xs' : List (List PySem.Str × Addr × Value)} {rs : List TRow} {hv : List Value} {hs : List Int} {R : List (Addr × Obj)} {form md lb : PySem.Str} {base : Value} {dv : List Value} {opm : Obj}
    (N : News h₀ L h' ((q, tupO #[.ref xm, .ref p] 0) :: (p, tupO dv.toArray 0) :: (dx, dictOf ex nx') :: (pm, opm) :: (td, dictOf (putL (PySem.Str.ofString "counter") (PyData.keyHash w.params (PySem.Str.ofString "counter")) (.str (PySem.Str.ofString "counter") tk1) (.int ((rs.length : Int) + 1 + 1) tc) es) n') :: (kd, dictT (strKind PR w) xs' kn') :: (pl, listOf #[.ref fg, .int i ti, .int x tx] np) :: (rl, listOf (rowsV rs ++ [Value.ref q]).toArray nr) :: (hm, listOf hv.toArray nh) :: (I, oi) :: R))
    (kf : Figs R fg) (i0 : 0 ≤ i) (x0 : 0 ≤ x) (x1 : x < 1009) (kinst : (ty, instObj 116 td) ∈ R) (kkn : getL "known" es = some (some (.ref kd))) (knew : getL "new" es = some none) (knone : getL "none" es = some (some (.ref xn))) (kesl : es.length ≤ 60 + rs.length)
    (sT : DictT (strKind PR w) R xs') (sx : xs'.length ≤ xs.length + 1) (kxsl : xs.length ≤ 10 + rs.length) (kW : WorldIn R rs (rs.length + 1)) (hsv : IntsAre hv hs) (xin : (xm, instObj 59 dx) ∈ R) (hex : TypeD ex ((rs.length : Int) + 1 + 1) form md lb base pm)
    (homes : ∀ h ∈ hs, ∃ k : Nat, h = k ∧ ((∃ r, rs[k]? = some r ∧ r.form = "record") ∨ (k = rs.length ∧ form = "record")))
    (hok : RowOk rs rs.length ⟨xm, q, p, (rs.length : Int) + 1 + 1, form, md, lb, base, dv⟩)
    (ko1 : ∀ p ∈ R, p.1 ≠ pl) (ko2 : ∀ p ∈ R, p.1 ≠ td) (ko3 : ∀ p ∈ R, p.1 ≠ kd) (ko4 : ∀ p ∈ R, p.1 ≠ rl) (ko5 : ∀ p ∈ R, p.1 ≠ hm) (koI : ∀ p ∈ R, p.1 ≠ I)
    (b1 : @LT.lt Nat _ pl dx) (b2 : @LT.lt Nat _ td dx) (b3 : @LT.lt Nat _ kd dx) (b4 : @LT.lt Nat _ rl dx) (b5 : @LT.lt Nat _ hm dx) (bI : @LT.lt Nat _ I dx) (b6 : @LT.lt Nat _ dx pm) (b7 : @LT.lt Nat _ dx p) (b8 : @LT.lt Nat _ dx q)
    (n1 : @Ne Nat pl I) (n2 : @Ne Nat td I) (n3 : @Ne Nat kd I) (n4 : @Ne Nat rl I) (n5 : @Ne Nat hm I) :
    ∃ (c : WC) (row : TRow), News h₀ L h' ((I, oi) :: c.led w pl fg td kd rl hm) ∧ (∀ p ∈ c.led w pl fg td kd rl hm, p.1 ≠ I) ∧ c.Ok w pl fg td kd rl hm ty xn ∧ c.rs = rs ++ [row] ∧ c.hs = hs ∧ c.hv = hv ∧ (∀ p ∈ R, p ∈ c.R) ∧ row.form = form ∧ row.dv = dv := by
  let T : List (Addr × Obj) := [(q, tupO #[.ref xm, .ref p] 0), (p, tupO dv.toArray 0), (dx, dictOf ex nx'), (pm, opm)]
  have hT : ∀ y ∈ T, @LE.le Nat _ dx y.1 := by
    intro y hy
    simp only [T, List.mem_cons, List.not_mem_nil, or_false] at hy
    rcases hy with rfl | rfl | rfl | rfl <;> dsimp only <;> omega
  have off : ∀ a : Addr, (∀ p ∈ R, p.1 ≠ a) → @LT.lt Nat _ a dx → ∀ p ∈ T ++ R, p.1 ≠ a := by
    intro a h1 h2 y hy
    rcases List.mem_append.mp hy with hy | hy
    · have := hT y hy
      show @Ne Nat _ _
      omega
    · exact h1 y hy
  have hsub : ∀ p ∈ R, p ∈ T ++ R := fun p hp => List.mem_append_right _ hp
  let row : TRow := ⟨xm, q, p, (rs.length : Int) + 1 + 1, form, md, lb, base, dv⟩
  have hrow : RowIn (T ++ R) row := ⟨⟨dx, ex, nx', pm, hsub _ xin, List.mem_append_left _ (by simp [T]), hex⟩, List.mem_append_left _ (by simp [T, row]), List.mem_append_left _ (by simp [T, row])⟩
  have hlen : ((rs ++ [row]).length : Int) + 1 = (rs.length : Int) + 1 + 1 := by simp
  refine ⟨⟨i, x, ti, tx, np, putL (PySem.Str.ofString "counter") (PyData.keyHash w.params (PySem.Str.ofString "counter")) (.str (PySem.Str.ofString "counter") tk1) (.int ((rs.length : Int) + 1 + 1) tc) es, n', xs', kn', rs ++ [row], nr, hv, hs, nh, T ++ R⟩, row, news_sub N ?_, ?_, ⟨kf.sub hsub, i0, x0, x1, hsub _ kinst, ⟨tc, ?_⟩, getL_ne (by decide) kkn, getL_ne (by decide) knew, getL_ne (by decide) knone, ?_, sT.sub hsub, ?_, ?_, hsv, ?_, off _ ko1 b1, off _ ko2 b2, off _ ko3 b3, off _ ko4 b4, off _ ko5 b5⟩, rfl, rfl, rfl, hsub, rfl, rfl⟩
  · intro y hy
    simp only [WC.led, rowsV_snoc, T, List.mem_cons, List.mem_append, List.not_mem_nil, or_false, row] at hy ⊢
    grind
  · have := off _ koI bI
    intro y hy
    simp only [WC.led, List.mem_cons] at hy
    rcases hy with rfl | rfl | rfl | rfl | rfl | hy
    · exact n1
    · exact n2
    · exact n3
    · exact n4
    · exact n5
    · exact this y hy
  · dsimp only; rw [hlen]; exact getL_putL_self _ _ _ _ _
  · dsimp only
    have := putL_length (PySem.Str.ofString "counter") (PyData.keyHash w.params (PySem.Str.ofString "counter")) (.str (PySem.Str.ofString "counter") tk1) (.int ((rs.length : Int) + 1 + 1) tc) es
    simp only [List.length_append, List.length_singleton]
    omega
  · dsimp only; simp only [List.length_append, List.length_singleton]; omega
  · dsimp only; rw [hlen]; exact (kW.sub hsub).push hrow hok rfl
  · intro h hh
    obtain ⟨k, e, hk⟩ := homes h hh
    refine ⟨k, e, ?_⟩
    rcases hk with ⟨r, a, b⟩ | ⟨rfl, b⟩
    · exact ⟨r, getE_app a, b⟩
    · exact ⟨row, by simp, b⟩
theorem WC.Ok.addR {c : WC} {w : World} {pl fg td kd rl hm ty xn D : Addr} {o : Obj} (h : c.Ok w pl fg td kd rl hm ty xn) (a1 : @Ne Nat D pl) (a2 : @Ne Nat D td) (a3 : @Ne Nat D kd) (a4 : @Ne Nat D rl) (a5 : @Ne Nat D hm) :
    WC.Ok ⟨c.i, c.x, c.ti, c.tx, c.np, c.es, c.n, c.xs, c.kn, c.rs, c.nr, c.hv, c.hs, c.nh, (D, o) :: c.R⟩ w pl fg td kd rl hm ty xn := by
  have hs : ∀ p ∈ c.R, p ∈ (D, o) :: c.R := fun p hp => .tail _ hp
  exact ⟨h.figs.sub hs, h.i0, h.x0, h.x1, hs _ h.inst, h.counter, h.known, h.new, h.none, h.esl, h.T.sub hs, h.xsl, h.W.sub hs, h.hsv, h.homes, List.forall_mem_cons.mpr ⟨a1, h.o1⟩, List.forall_mem_cons.mpr ⟨a2, h.o2⟩, List.forall_mem_cons.mpr ⟨a3, h.o3⟩, List.forall_mem_cons.mpr ⟨a4, h.o4⟩, List.forall_mem_cons.mpr ⟨a5, h.o5⟩⟩
theorem home_at {rs : List TRow} {hs : List Int} {k : Int} {r9 : TRow} (hh : ∀ h ∈ hs, ∃ k : Nat, h = k ∧ ∃ r, rs[k]? = some r ∧ r.form = "record") (h0 : 0 ≤ k) (hk : k < hs.length) (hr : rs[(hs.getD k.toNat 0).toNat]? = some r9) :
    ∃ j : Nat, hs.getD k.toNat 0 = j ∧ j < rs.length ∧ rs[j]? = some r9 ∧ r9.form = "record" := by
  have hlt : k.toNat < hs.length := by omega
  have hg : hs.getD k.toNat 0 = hs[k.toNat] := by simp [List.getD_eq_getElem?_getD, hlt]
  obtain ⟨j, e, r, a, b⟩ := hh hs[k.toNat] (List.getElem_mem hlt)
  rw [hg, e, Int.toNat_natCast] at hr
  rw [hr] at a
  cases a
  exact ⟨j, hg.trans e, (List.getElem?_eq_some_iff.mp hr).1, hr, b⟩
theorem homes_snoc {rs : List TRow} {hs : List Int} (hh : ∀ h ∈ hs, ∃ k : Nat, h = k ∧ ∃ r, rs[k]? = some r ∧ r.form = "record") : ∀ h ∈ hs ++ [(rs.length : Int)], ∃ k : Nat, h = k ∧ ((∃ r, rs[k]? = some r ∧ r.form = "record") ∨ (k = rs.length ∧ PySem.Str.ofString "record" = "record")) := by
  intro h hm
  rcases List.mem_append.mp hm with hm | hm
  · obtain ⟨k, e, x⟩ := hh h hm; exact ⟨k, e, .inl x⟩
  · exact ⟨rs.length, List.mem_singleton.mp hm, .inr ⟨rfl, rfl⟩⟩
theorem homes_keep {rs : List TRow} {hs : List Int} {P : Nat → Prop} (hh : ∀ h ∈ hs, ∃ k : Nat, h = k ∧ ∃ r, rs[k]? = some r ∧ r.form = "record") : ∀ h ∈ hs, ∃ k : Nat, h = k ∧ ((∃ r, rs[k]? = some r ∧ r.form = "record") ∨ P k) := by
  intro h hm
  obtain ⟨k, e, x⟩ := hh h hm; exact ⟨k, e, .inl x⟩
theorem getD_app {hs l : List Int} {k : Int} (h0 : 0 ≤ k) (hk : k < hs.length) : (hs ++ l).getD k.toNat 0 = hs.getD k.toNat 0 := by
  have hlt : k.toNat < hs.length := by omega
  simp [List.getD_eq_getElem?_getD, List.getElem?_append_left hlt]
section
variable {prog : Program} {w : World} {A : Around} {E : Value → Shared → Prop} {s : Shared} {h₀ : Heap} {L b : Addr} {m : PySem.Str → Option Value} {news : List (Addr × Obj)}
theorem listOf_my {vs : List Value} {n : Nat} {Q : Value → Shared → Prop} (F : Fr h₀ L s.heap m) (N : News h₀ L s.heap news) (hb : (b, listOf vs.toArray n) ∈ news) (hz : vs.length ≤ 2000)
    (h : ∀ D c h', Fr h₀ L h' m → News h₀ L h' ((D, listOf vs.toArray c) :: news) → AllLt D news → Q (.ref D) { s with heap := h' }) : wpAny (model prog w) A (call (.type "list") [.ref b]) Q E s :=
  list_copyK F N (N.isList hb) (fun D c h' F' N' l1 => h D c h' F' N' (allLt_of l1)) (by simp [PySem.sizeLine_eq]; omega)
theorem home0 {rs : List TRow} {hs : List Int} (hh : ∀ h ∈ hs, ∃ k : Nat, h = k ∧ ∃ r, rs[k]? = some r ∧ r.form = "record") (h0 : 1 ≤ hs.length) : 0 ≤ hs.getD (Int.toNat 0) 0 ∧ hs.getD (Int.toNat 0) 0 < rs.length := by
  cases hs with
  | nil => exact absurd h0 (by decide)
  | cons a l =>
    obtain ⟨k, e, r, a, b⟩ := hh _ (.head _)
    have := (List.getElem?_eq_some_iff.mp a).1
    show 0 ≤ _ ∧ _ < _
    simp only [Int.toNat_zero, List.getD_cons_zero]
    omega
theorem swap5 {h : Heap} {a b c d e f : Addr × Obj} {R : List (Addr × Obj)} (N : News h₀ L h (f :: a :: b :: c :: d :: e :: R)) : News h₀ L h (a :: b :: c :: d :: e :: f :: R) := news_sub N (by
  intro p hp
  simp only [List.mem_cons] at hp ⊢
  grind)
theorem home_v {rs : List TRow} {vs : List Value} {hs : List Int} {k : Nat} {v : Value} (hi : IntsAre vs hs) (hv : vs[k]? = some v) (hh : ∀ h ∈ hs, ∃ k : Nat, h = k ∧ ∃ r, rs[k]? = some r ∧ r.form = "record") :
    ∃ (h : Int) (t : Tok), v = .int h t ∧ ∃ (j : Nat) (r : TRow), h = j ∧ rs[j]? = some r ∧ r.form = "record" ∧ hs[k]? = some h := by
  have hlt : k < hs.length := by rw [← hi.length]; exact (List.getElem?_eq_some_iff.mp hv).1
  obtain ⟨t, ht⟩ := hi.get k hs[k] (List.getElem?_eq_getElem hlt)
  rw [ht] at hv
  cases hv
  obtain ⟨j, e, r, a, b⟩ := hh hs[k] (List.getElem_mem hlt)
  exact ⟨_, t, rfl, j, r, e, a, b, List.getElem?_eq_getElem hlt⟩
end


local macro_rules | `(tactic| walk_at "CLR") => `(tactic| (repeat (first | (rename @LT.lt Int _ _ _ => z; clear z) | (rename @LE.le Int _ _ _ => z; clear z))))
local macro_rules | `(tactic| walk_at "LENR") => `(tactic| (simp only [rowsV_len]; walk_at "OM"))
local macro_rules | `(tactic| walk_at "call ref") => `(tactic| (k_here; (with_reducible show wpAny _ _ (call (Value.ref 134) [_, _]) _ _ _); k_dflt (refine' CallSpec.use (pick_spec _ _ _ _ _ _ _ _ _ _ _ ?hr ?hf ?h0 ?hx0 ?hx ?hb ?hb2) ?B ?F ?X ?N ?T ?hkk ?hdp ?hun trivial ?_; walk_at "USE"; (case hr => k_all); (case hf => exact Figs.sub (by assumption) (by k_allIn)); (case h0 | hx0 | hx | hb | hb2 => walk_at "OM"); k_whole); intro r9 n9 h9 t9 F9 N9 P9; obtain ⟨r8, tr9, i9, ti9, x9, tx9, hE1, p1, p2, p3, p4, p5, hE2⟩ := P9; subst hE1 hE2; (try dsimp only); (try k_sweep)))
local macro_rules | `(tactic| walk_at "call type:list") => `(tactic| (k_here; refine stop_of ?_))
local macro_rules | `(tactic| walk_at "call type:range") => `(tactic| ((rename Fr _ _ _ _ => F'); (rename News _ _ _ _ => N'); (with_unfolding_all refine range1_rows F' N' ?_; intro _ _ _ _ _ _ _ _ _)))
local macro_rules | `(tactic| walk_at "call builtin:len") => `(tactic| (k_here; k_dflt (refine' len_rows ?k1 ?k2 ?k3 ?_; (case k1 => k_asm); (case k2 => k_mem); (case k3 => walk_at "OM"); k_whole); intro t9 tk9; (try dsimp only)))
local macro_rules | `(tactic| walk_at "BND") => `(tactic| first | walk_at "OM" | ((simp only [List.length_cons, List.length_nil]); walk_at "OM"))
local macro_rules | `(tactic| walk_at "SUBK") => `(tactic| ((case k1 => k_asm); (case k2 => k_mem); (try (case k3 => first | with_reducible assumption | l_intsW)); (case k4 | k6 => walk_at "BND"); (case k7 => with_unfolding_all rfl)))
local macro_rules | `(tactic| walk_at "SUBS") => `(tactic| (k_dflt (refine' sub_any ?k1 ?k2 ?k4 ?k5 ?k6 ?_ ?k7; walk_at "SUBK"; (case k5 => walk_at "BND"); k_whole); intro v9 hv9))
local macro_rules | `(tactic| walk_at "SUBS") => `(tactic| (k_dflt (refine' sub_menu ?k1 ?k2 ?k3 ?k4 ?k5 ?k6 ?_ ?k7; walk_at "SUBK"; (case k5 => walk_at "BND"); k_whole); intro v9 t9 hv9; (try simp only [List.mem_cons, List.not_mem_nil, or_false] at hv9)))
local macro_rules | `(tactic| walk_at "SUBS") => `(tactic| (k_dflt (refine' sub_homes ?k1 ?k2 ?k3 ?kh ?k4 ?k5 ?k6 ?_ ?k7; walk_at "SUBK"; (case kh => with_reducible assumption); (case k5 => walk_at "BND"); k_whole); intro j9 t9 r9 he9 hr9 hf9 hl9))
local macro_rules | `(tactic| walk_at "SUBS") => `(tactic| (k_dflt (refine' sub_rows ?k1 ?k2 ?kW ?k4 ?k5 ?k6 ?_ ?k7; walk_at "SUBK"; (case kW => with_reducible assumption); (case k5 => walk_at "BND"); k_whole); intro r9 hr9 hin9; obtain ⟨⟨dx9, ex9, nx9, pm9, hx1, hx2, hx3⟩, htp9, hds9⟩ := hin9; obtain ⟨lv9, tlv9, hlv9⟩ := hx3.level))
local macro_rules | `(tactic| walk_at "SUBI") => `(tactic| (k_here; (with_reducible show wpAny _ _ (subscriptTail _ _ (Value.ref _) (Value.int _ _)) _ _ _); walk_at "SUBS"))
local macro_rules | `(tactic| walk_at "subscriptTail") => `(tactic| walk_at "SUBI")
local macro_rules | `(tactic| walk_at "subscriptTail Name Name ref int") => `(tactic| walk_at "SUBI")
local macro_rules | `(tactic| walk_at "subscriptTail Name Constant ref int") => `(tactic| walk_at "SUBI")
def J1 (w : World) (pl fg td kd rl hm ty xn : Addr) (rest : List (Addr × Obj)) (P : List TRow → List Int → Prop) (b k : Nat) (m : PySem.Str → Option Value) (nx : List (Addr × Obj)) (c : WC) : Prop :=
  nx = c.led w pl fg td kd rl hm ∧ c.Ok w pl fg td kd rl hm ty xn ∧ c.rs.length = b ∧ c.hs.length = k ∧ (∀ p ∈ rest, p ∈ c.R) ∧ P c.rs c.hs ∧ m "pool" = some (.ref pl) ∧ m "types" = some (.ref ty) ∧ m "rows" = some (.ref rl) ∧ m "homes" = some (.ref hm)
theorem world_spec (w : World) (pl fg : Addr) (i x : Int) (ti tx : Tok) (n : Nat) (rest : List (Addr × Obj)) (hrest : ∀ p ∈ rest, p.1 ≠ pl) (hf : Figs rest fg) (h0 : 0 ≤ i) (hx0 : 0 ≤ x) (hx : x < 1009) :
   CallSpec w 700 141 [.ref pl] (fun _ => True) ((pl, listOf #[.ref fg, .int i ti, .int x tx] n) :: rest) (fun r news' => ∃ tu ty rl rs nr i' x' ti' tx' n' R c, r = .ref tu ∧ news' = (tu, tupO #[.ref ty, .ref rl] 0) :: (pl, listOf #[.ref fg, .int i' ti', .int x' tx'] n') :: (rl, listOf (rowsV rs).toArray nr) :: R ∧ 0 ≤ i' ∧ 0 ≤ x' ∧ x' < 1009 ∧ Figs R fg ∧ WorldIn R rs c ∧ 6 ≤ rs.length ∧ rs.length ≤ 24 ∧ (∀ p ∈ rest, p ∈ R) ∧ (∀ p ∈ R, p.1 ≠ pl) ∧ @Ne Nat rl pl ∧ @Ne Nat tu pl ∧ ∃ K, PtrK K rs) := by
  unfold CallSpec
  intro mean mg mb dp un gd cn cs a ccd cl outer A₀ base h₀ L m s Q E B F X N T hk hdp hun _ hret
  refine wpAny_call ?_
  k_dflt (walk_at "ENTER")
  k_steps
  k_dflt (refine' CallSpec.use (types_specP w pl _ _ rest hrest) ?B ?F ?X ?N ?T ?hkk ?hdp ?hun trivial ?_)
  case B => k_asm
  case F => k_asm
  case X => k_asm
  case N => k_asm
  case T => k_asm
  case hkk => first | exact rfl | assumption
  case hdp => walk_at "ROOM"
  case hun => walk_at "ROOM"
  intro r1 nn1 h1 t1 F1 N1 P1
  obtain ⟨ty, td, kd, es, n1, xs, kn, R, x1, x2, x3, x4, x5, x6, x7, rfl, rfl, tp, hRp, hpt⟩ := P1
  dsimp only
  have htk := tp.lt
  have a1 := tp.a1
  have a2 := tp.a2
  have a3 := tp.a3
  have a4 := tp.a4
  have a5 := tp.a5
  have a6 := tp.a6
  have hty := tp.inst
  k_steps
  rename Fr _ _ _ _ => F2
  rename News _ _ _ _ => N2
  dsimp only at F2 N2
  rename _ ∧ _ ∧ _ ∧ AllLt _ R => hl0
  obtain ⟨c, N3, ok, hlen, hhs, hsubr, hP⟩ := world_init N2 tp hRp hf h0 hx0 hx hl0.2.2.2 hpt htk hl0.2.1 (by omega) (by omega) (by omega) (by omega) (by omega) (by omega) (by omega) (by omega) (by omega) (by omega) (by omega) (by omega) (by omega)
  rename_i rl _ _ _ _ hm _ _ _
  have hkr : @LT.lt Nat _ kd rl := by omega
  have hrh : @LT.lt Nat _ rl hm := by omega
  obtain ⟨w1, w2, w3, w4, w5, w6, w7, w8, w9, w10⟩ := chain_ne hpt htk hkr hrh
  repeat (rename (_ ∧ _) => z; clear z)
  clear N2 tp hty a1 a2 a3 a4 a5 a6 hRp hf h0 hx0 hx hrest
  have hrest := hsubr
  clear hsubr
  obtain ⟨ci, cx, cti, ctx, cnp, ces, cn, cxs, ckn, crs, cnr, chv, chs, cnh, cR⟩ := c
  obtain ⟨kf, ki, kx0, kx1, kinst, ⟨kct, kc⟩, kkn, knew, knone, kesl, kT, kxsl, kW, khsv, khomes, ko1, ko2, ko3, ko4, ko5⟩ := ok
  dsimp only [WC.led] at N3 kf ki kx0 kx1 kinst kc kkn knew knone kesl kT kxsl kW khsv khomes ko1 ko2 ko3 ko4 ko5 hlen hhs hrest hP
  have hcl := khsv.length
  unfold Stop
  k_steps
  rename IsRange _ _ _ _ _ _ _ _ => hR
  rename Fr _ _ _ _ => F3
  rename News _ _ _ _ => N4
  try dsimp only at F3 N4
  refine over_range _ (fun k m nx => ∃ c, J1 w pl fg td kd rl hm ty x7 rest (fun rs hs => (∀ K, PtrK K rs) ∧ HomesAt hs) (6 + k) k m nx c) rfl hR (small_one (by omega) (by omega) (by omega) (by omega)) (rangeSize_nat _ _) F3 N4 ?_ ?_ ?_
  · exact ⟨⟨_, _, _, _, cnp, ces, cn, cxs, ckn, crs, cnr, chv, chs, cnh, cR⟩, rfl, ⟨kf, by assumption, by assumption, by assumption, kinst, ⟨kct, kc⟩, kkn, knew, knone, kesl, kT, kxsl, kW, khsv, khomes, ko1, ko2, ko3, ko4, ko5⟩, hlen, by rw [hhs]; rfl, hrest, ⟨hP, by rw [hhs]; exact fun k h e => by cases k <;> cases e⟩, rfl, rfl, rfl, rfl⟩
  · clear kf ki kx0 kx1 kinst kc kkn knew knone kesl kT kxsl kW khsv khomes ko1 ko2 ko3 ko4 ko5 hlen hhs hrest hP F3 N4
    rintro k t m₁ nx h tk1 I oi hk ⟨c, rfl, ok, hlen, hhs, hrest, hP, g1, g2, g3, g4⟩ hoff F4 N4
    obtain ⟨ci, cx, cti, ctx, cnp, ces, cn, cxs, ckn, crs, cnr, chv, chs, cnh, cR⟩ := c
    obtain ⟨kf, ki, kx0, kx1, kinst, ⟨kct, kc⟩, kkn, knew, knone, kesl, kT, kxsl, kW, khsv, khomes, ko1, ko2, ko3, ko4, ko5⟩ := ok
    dsimp only [WC.led] at N4 hoff kf ki kx0 kx1 kinst kc kkn knew knone kesl kT kxsl kW khsv khomes ko1 ko2 ko3 ko4 ko5 hlen hhs hrest hP
    have hcl := khsv.length
    obtain ⟨i1, hoff⟩ := offs hoff
    obtain ⟨i2, hoff⟩ := offs hoff
    obtain ⟨i3, hoff⟩ := offs hoff
    obtain ⟨i4, hoff⟩ := offs hoff
    obtain ⟨i5, hoff⟩ := offs hoff
    replace F4 := fr_see "pool" F4 (by exact g1)
    replace F4 := fr_see "types" F4 (by exact g2)
    replace F4 := fr_see "rows" F4 (by exact g3)
    replace F4 := fr_see "homes" F4 (by exact g4)

    clear g1 g2 g3 g4
    have hk9 : k ≤ 3 := by omega
    clear hk
    have hb8 : crs.length ≤ 30 := by omega
    have hb7 : chs.length ≤ 30 := by omega
    have hb6 : chv.length ≤ 30 := by omega
    have kk9 := And.intro ki (And.intro kx0 kx1)
    walk_at "CLR"
    obtain ⟨ki, kx0, kx1⟩ := kk9
    show wpAny _ _ _ _ _ _
    k_fold
    k_steps
    k_dflt (refine' CallSpec.use (new_step5 w ty td kd _ _ _ _ _ _ _ _ ces cn _ _ cxs ckn (pl, _) (rl, _) (hm, _) (I, oi) cR kinst kc kkn ?hes kT ?hxs ?htk ?hr1 ?hr2) ?B ?F ?X ?N ?T ?hkk ?hdp ?hun trivial ?_)
    case B => k_asm
    case F => k_asm
    case X => k_asm
    case N => exact news_sub (by k_asm) (by k_allIn)
    case T => k_asm
    case hkk => first | exact rfl | assumption
    case hdp => walk_at "ROOM"
    case hun => walk_at "ROOM"
    case hes => omega
    case hxs => omega
    case htk => exact Nat.ne_of_lt htk
    case hr1 => k_all
    case hr2 => k_all
    intro r1 nn1 h1 t1 F5 N5 P5
    obtain ⟨n', xs', kn', R', xm, dx, ex, nx', pm, tc', tk', rfl, rfl, sR, sT, sx, sD, sl, sm, sup, slow, q1, q2, q3, q4, q5, q6, q7⟩ := P5
    dsimp only at q4 q5 q6 q7
    dsimp only
    replace ko1 := off_up ko1 sup q4
    replace ko2 := off_up ko2 sup q2
    replace ko3 := off_up ko3 sup q3
    replace ko4 := off_up ko4 sup q5
    replace ko5 := off_up ko5 sup q6
    replace hoff := off_up hoff sup q7
    have od := off_dx slow sup
    have op := off_pm slow sup q1
    have v1 := ne_pm q4 q1
    have v2 := ne_pm q2 q1
    have v3 := ne_pm q3 q1
    have v4 := ne_pm q5 q1
    have v5 := ne_pm q6 q1
    have v6 := ne_pm q7 q1
    replace kW := kW.sub sR
    replace kf := kf.sub sR
    replace kinst := sR _ kinst
    replace hrest := sub_trans hrest sR
    have sD1 := sD.base
    obtain ⟨lv0, tl0, sD2⟩ := sD.level
    obtain ⟨ln0, sD4⟩ := sD.length
    have sD3 := sD.params
    clear sR slow sup
    k_steps
    · rename Fr _ _ _ _ => F6
      rename News _ _ _ _ => N6
      rename (crs[Int.toNat (List.getD chs _ 0)]? = some _) => hrA
      obtain ⟨j, e1, e2, e3, e4⟩ := home_at khomes (by omega) (by omega) hrA
      obtain ⟨c', row, Q1, Q2, Q3, Q4, Q5, Q6, Q7, Q8, Q9⟩ := push_row N6 kf (by assumption) (by assumption) (by assumption) kinst kkn knew knone kesl sT sx kxsl kW (ints_snoc khsv _ _) sm ((sD.setBase _ _ _ (by omega)).setLevel _ _ _ _ (Nat.le_trans (putL_length _ _ _ _ _) (by omega))) (homes_snoc khomes) (.isRec _ _ _ rfl rfl rfl (.inr ⟨j, _, (getD_app (by omega) (by omega)).trans e1, e2, e3, e4, rfl⟩) (strOk_app _ _ (strOk_of _) (strOk_of _))) ko1 ko2 ko3 ko4 ko5 hoff q4 q2 q3 q5 q6 q7 q1 (by omega) (by omega) i1 i2 i3 i4 i5
      exact ⟨_, _, _, _, rfl, F6, Q1, Q2, c', rfl, Q3, by rw [Q4, List.length_append, hlen]; rfl, by rw [Q5, List.length_append, hhs]; rfl, fun p hp => Q7 p (hrest p hp), ⟨fun K => by rw [Q4]; exact (hP.1 K).snocN Q8 (by decide), by rw [Q5]; exact hP.2.snoc (by omega)⟩, rfl, rfl, rfl, rfl⟩
    · rename Fr _ _ _ _ => F6
      rename News _ _ _ _ => N6
      obtain ⟨c', row, Q1, Q2, Q3, Q4, Q5, Q6, Q7, Q8, Q9⟩ := push_row N6 kf (by assumption) (by assumption) (by assumption) kinst kkn knew knone kesl sT sx kxsl kW (ints_snoc khsv _ _) sm sD (homes_snoc khomes) (.isRec _ _ _ rfl rfl rfl (.inl ⟨rfl, rfl⟩) (strOk_app _ _ (strOk_of _) (strOk_of _))) ko1 ko2 ko3 ko4 ko5 hoff q4 q2 q3 q5 q6 q7 q1 (by omega) (by omega) i1 i2 i3 i4 i5
      exact ⟨_, _, _, _, rfl, F6, Q1, Q2, c', rfl, Q3, by rw [Q4, List.length_append, hlen]; rfl, by rw [Q5, List.length_append, hhs]; rfl, fun p hp => Q7 p (hrest p hp), ⟨fun K => by rw [Q4]; exact (hP.1 K).snocN Q8 (by decide), by rw [Q5]; exact hP.2.snoc (by omega)⟩, rfl, rfl, rfl, rfl⟩
  · clear kf ki kx0 kx1 kinst kc kkn knew knone kesl kT kxsl kW khsv khomes ko1 ko2 ko3 ko4 ko5 hlen hhs hrest hP F3 N4
    rintro m₁ nx h tk1 ⟨c, rfl, ok, hlen, hhs, hrest, hP, g1, g2, g3, g4⟩ F4 N4
    obtain ⟨ci, cx, cti, ctx, cnp, ces, cn, cxs, ckn, crs, cnr, chv, chs, cnh, cR⟩ := c
    obtain ⟨kf, ki, kx0, kx1, kinst, ⟨kct, kc⟩, kkn, knew, knone, kesl, kT, kxsl, kW, khsv, khomes, ko1, ko2, ko3, ko4, ko5⟩ := ok
    dsimp only [WC.led] at N4 kf ki kx0 kx1 kinst kc kkn knew knone kesl kT kxsl kW khsv khomes ko1 ko2 ko3 ko4 ko5 hlen hhs hrest hP
    have hcl := khsv.length
    replace F4 := fr_see "pool" F4 (by exact g1)
    replace F4 := fr_see "types" F4 (by exact g2)
    replace F4 := fr_see "rows" F4 (by exact g3)
    replace F4 := fr_see "homes" F4 (by exact g4)
    clear g1 g2 g3 g4
    k_steps
    rename Fr _ _ _ _ => F5
    rename News _ _ _ _ => N5
    refine listOf_my F5 N5 (.tail _ (.tail _ (.tail _ (.tail _ (.head _))))) (by omega) ?_
    intro D nD hD FD ND lD
    have lD1 : @LT.lt Nat _ hm D := lD.2.2.2.2.1
    have hDpl : @LT.lt Nat _ pl D := lD.1
    have hDtd : @LT.lt Nat _ td D := lD.2.1
    have hDkd : @LT.lt Nat _ kd D := lD.2.2.1
    have hDrl : @LT.lt Nat _ rl D := lD.2.2.2.1
    clear lD F5 N5
    k_steps
    rename Fr _ _ _ _ => F5
    rename News _ _ _ _ => N5
    replace N5 := swap5 N5
    have hb1 : chs.length ≤ 4 := by omega
    have hb2 : crs.length = 6 + chs.length := by omega
    have hb3 : 1 ≤ chs.length := by omega
    have kk9 := And.intro ki (And.intro kx0 kx1)
    walk_at "CLR"
    obtain ⟨ki, kx0, kx1⟩ := kk9
    have hI0 := khsv
    have hH0 := khomes
    have hHA := hP.2
    refine over_list (l := D) (vs := chv) (nn := nD) (fun k m nx => ∃ c, J1 w pl fg td kd rl hm ty x7 rest (fun rs _ => PtrK chs.length rs) (crs.length + k) chs.length m nx c ∧ c.hs = chs ∧ (D, listOf chv.toArray nD) ∈ c.R) rfl ?hl F5 N5 ?hj ?turn ?done
    case hl => rintro k m nx ⟨c, ⟨rfl, _⟩, _, hD⟩; exact .tail _ (.tail _ (.tail _ (.tail _ (.tail _ hD))))
    case hj =>
      have ok2 := WC.Ok.addR (D := D) (o := listOf chv.toArray nD) (c := ⟨ci, cx, cti, ctx, cnp, ces, cn, cxs, ckn, crs, cnr, chv, chs, cnh, cR⟩) ⟨kf, ki, kx0, kx1, kinst, ⟨kct, kc⟩, kkn, knew, knone, kesl, kT, kxsl, kW, khsv, khomes, ko1, ko2, ko3, ko4, ko5⟩ (by omega) (by omega) (by omega) (by omega) (by omega)
      exact ⟨_, ⟨rfl, ok2, rfl, rfl, fun p hp => .tail _ (hrest p hp), hP.1 _, rfl, rfl, rfl, rfl⟩, rfl, .head _⟩
    case turn =>
      clear kf ki kx0 kx1 kinst kc kkn knew knone kesl kT kxsl kW khsv khomes ko1 ko2 ko3 ko4 ko5 hrest hP F5 N5
      rintro k v m₁ nx h tk1 I oi hv ⟨c, ⟨rfl, ok, hlen2, hhs, hrest, hP, g1, g2, g3, g4⟩, hs1, hD1⟩ hoff F4 N4
      obtain ⟨ci, cx, cti, ctx, cnp, ces, cn, cxs, ckn, crs, cnr, chv, chs, cnh, cR⟩ := c
      obtain ⟨kf, ki, kx0, kx1, kinst, ⟨kct, kc⟩, kkn, knew, knone, kesl, kT, kxsl, kW, khsv, khomes, ko1, ko2, ko3, ko4, ko5⟩ := ok
      dsimp only [WC.led] at N4 hs1 hD1 hoff kf ki kx0 kx1 kinst kc kkn knew knone kesl kT kxsl kW khsv khomes ko1 ko2 ko3 ko4 ko5 hlen2 hhs hrest hP
      have hcl := khsv.length
      obtain ⟨i1, hoff⟩ := offs hoff
      obtain ⟨i2, hoff⟩ := offs hoff
      obtain ⟨i3, hoff⟩ := offs hoff
      obtain ⟨i4, hoff⟩ := offs hoff
      obtain ⟨i5, hoff⟩ := offs hoff
      replace F4 := fr_see "pool" F4 (by exact g1)
      replace F4 := fr_see "types" F4 (by exact g2)
      replace F4 := fr_see "rows" F4 (by exact g3)
      replace F4 := fr_see "homes" F4 (by exact g4)
      obtain ⟨hh, th, hk1, j, r, hr1, hr2, hr3, hr4⟩ := home_v hI0 hv (hs1 ▸ khomes)
      have hk4 : k < chs.length := by rw [hhs, ← hI0.length]; exact (List.getElem?_eq_some_iff.mp hv).1
      have hj1 : j < crs.length := (List.getElem?_eq_some_iff.mp hr2).1
      subst hk1 hr1
      have hr5 := hHA _ _ hr4
      clear g1 g2 g3 g4
      have hb8 : crs.length ≤ 30 := by omega
      have kk9 := And.intro ki (And.intro kx0 kx1)
      walk_at "CLR"
      obtain ⟨ki, kx0, kx1⟩ := kk9
      show wpAny _ _ _ _ _ _
      k_fold
      k_steps
      k_dflt (refine' CallSpec.use (new_step5 w ty td kd _ _ _ _ _ _ _ _ ces cn _ _ cxs ckn (pl, _) (rl, _) (hm, _) (I, oi) cR kinst kc kkn ?hes kT ?hxs ?htk ?hr1 ?hr2) ?B ?F ?X ?N ?T ?hkk ?hdp ?hun trivial ?_)
      case B => k_asm
      case F => k_asm
      case X => k_asm
      case N => exact news_sub (by k_asm) (by k_allIn)
      case T => k_asm
      case hkk => first | exact rfl | assumption
      case hdp => walk_at "ROOM"
      case hun => walk_at "ROOM"
      case hes => omega
      case hxs => omega
      case htk => exact Nat.ne_of_lt htk
      case hr1 => k_all
      case hr2 => k_all
      intro r1 nn1 h1 t1 F5 N5 P5
      obtain ⟨n', xs', kn', R', xm, dx, ex, nx', pm, tc', tk', rfl, rfl, sR, sT, sx, sD, sl, sm, sup, slow, q1, q2, q3, q4, q5, q6, q7⟩ := P5
      dsimp only at q4 q5 q6 q7
      dsimp only
      replace ko1 := off_up ko1 sup q4
      replace ko2 := off_up ko2 sup q2
      replace ko3 := off_up ko3 sup q3
      replace ko4 := off_up ko4 sup q5
      replace ko5 := off_up ko5 sup q6
      replace hoff := off_up hoff sup q7
      have od := off_dx slow sup
      have op := off_pm slow sup q1
      have v1 := ne_pm q4 q1
      have v2 := ne_pm q2 q1
      have v3 := ne_pm q3 q1
      have v4 := ne_pm q5 q1
      have v5 := ne_pm q6 q1
      have v6 := ne_pm q7 q1
      replace kW := kW.sub sR
      replace kf := kf.sub sR
      replace kinst := sR _ kinst
      replace hrest := sub_trans hrest sR
      replace hD1 := sR _ hD1
      have sD1 := sD.base
      obtain ⟨lv0, tl0, sD2⟩ := sD.level
      obtain ⟨ln0, sD4⟩ := sD.length
      have sD3 := sD.params
      clear sR slow sup
      k_steps
      rename Fr _ _ _ _ => F6
      rename News _ _ _ _ => N6
      rename (crs[Int.toNat _]? = some _) => hrA
      rw [Int.toNat_natCast, hr2] at hrA
      cases hrA
      obtain ⟨c', row, Q1, Q2, Q3, Q4, Q5, Q6, Q7, Q8, Q9⟩ := push_row N6 kf (by assumption) (by assumption) (by assumption) kinst kkn knew knone kesl sT sx kxsl kW khsv sm (sD.setBase _ _ _ (by omega)) (homes_keep khomes) (.ptr j _ _ _ rfl rfl hj1 hr2 hr3 rfl) ko1 ko2 ko3 ko4 ko5 hoff q4 q2 q3 q5 q6 q7 q1 (by omega) (by omega) i1 i2 i3 i4 i5
      exact ⟨_, _, _, _, rfl, F6, Q1, Q2, c', ⟨rfl, Q3, by rw [Q4, List.length_append, hlen2]; rfl, by rw [Q5, hhs], fun p hp => Q7 p (hrest p hp), by rw [Q4]; exact hP.snoc (fun _ => ⟨_, _, j, Q9, by omega⟩), rfl, rfl, rfl, rfl⟩, by rw [Q5, hs1], Q7 _ hD1⟩
    case done =>
      clear kf ki kx0 kx1 kinst kc kkn knew knone kesl kT kxsl kW khsv khomes ko1 ko2 ko3 ko4 ko5 hrest hP F5 N5
      rintro m₁ nx h tk1 ⟨c, ⟨rfl, ok, hlen2, hhs, hrest, hP, g1, g2, g3, g4⟩, hs1, hD1⟩ F4 N4
      obtain ⟨ci, cx, cti, ctx, cnp, ces, cn, cxs, ckn, crs, cnr, chv, chs, cnh, cR⟩ := c
      obtain ⟨kf, ki, kx0, kx1, kinst, ⟨kct, kc⟩, kkn, knew, knone, kesl, kT, kxsl, kW, khsv, khomes, ko1, ko2, ko3, ko4, ko5⟩ := ok
      dsimp only [WC.led] at N4 hs1 kf ki kx0 kx1 kinst kc kkn knew knone kesl kT kxsl kW khsv khomes ko1 ko2 ko3 ko4 ko5 hlen2 hhs hrest hP
      have hcl := khsv.length
      replace F4 := fr_see "pool" F4 (by exact g1)
      replace F4 := fr_see "types" F4 (by exact g2)
      replace F4 := fr_see "rows" F4 (by exact g3)
      replace F4 := fr_see "homes" F4 (by exact g4)
      have hb4 : crs.length ≤ 14 := by omega
      have hb5 : 7 ≤ crs.length := by omega
      have hb6 : 1 ≤ chs.length := by omega
      have kk9 := And.intro ki (And.intro kx0 kx1)
      walk_at "CLR"
      obtain ⟨ki, kx0, kx1⟩ := kk9
      obtain ⟨K, hP⟩ : ∃ K, PtrK K crs := ⟨_, hP⟩
      clear hlen2 hhs hb1 hb2 hb3 hI0 hH0 hHA hs1 hD1 hDpl hDtd hDkd hDrl lD1
      clear g1 g2 g3 g4
      k_steps
      rename IsRange _ _ _ _ _ _ _ _ => hR
      rename Fr _ _ _ _ => F3
      rename News _ _ _ _ => N3
      try dsimp only at F3 N3
      refine over_range _ (fun k m nx => ∃ c, J1 w pl fg td kd rl hm ty x7 rest (fun rs _ => PtrK K rs) (crs.length + k) chs.length m nx c) rfl hR (small_one (by omega) (by omega) (by omega) (by omega)) (rangeSize_nat _ _) F3 N3 ?hj3 ?turn3 ?done3
      case hj3 => exact ⟨⟨_, _, _, _, cnp, ces, cn, cxs, ckn, crs, cnr, chv, chs, cnh, cR⟩, rfl, ⟨kf, by assumption, by assumption, by assumption, kinst, ⟨kct, kc⟩, kkn, knew, knone, kesl, kT, kxsl, kW, khsv, khomes, ko1, ko2, ko3, ko4, ko5⟩, rfl, rfl, hrest, hP, rfl, rfl, rfl, rfl⟩
      case turn3 =>
        clear kf ki kx0 kx1 kinst kc kkn knew knone kesl kT kxsl kW khsv khomes ko1 ko2 ko3 ko4 ko5 hrest hP F3 N3
        rintro k t m₁ nx h tk1 I oi hk ⟨c, rfl, ok, hlen, hhs, hrest, hP, g1, g2, g3, g4⟩ hoff F4 N4
        obtain ⟨ci, cx, cti, ctx, cnp, ces, cn, cxs, ckn, crs, cnr, chv, chs, cnh, cR⟩ := c
        obtain ⟨kf, ki, kx0, kx1, kinst, ⟨kct, kc⟩, kkn, knew, knone, kesl, kT, kxsl, kW, khsv, khomes, ko1, ko2, ko3, ko4, ko5⟩ := ok
        dsimp only [WC.led] at N4 hoff kf ki kx0 kx1 kinst kc kkn knew knone kesl kT kxsl kW khsv khomes ko1 ko2 ko3 ko4 ko5 hlen hhs hrest hP
        have hcl := khsv.length
        obtain ⟨i1, hoff⟩ := offs hoff
        obtain ⟨i2, hoff⟩ := offs hoff
        obtain ⟨i3, hoff⟩ := offs hoff
        obtain ⟨i4, hoff⟩ := offs hoff
        obtain ⟨i5, hoff⟩ := offs hoff
        replace F4 := fr_see "pool" F4 (by exact g1)
        replace F4 := fr_see "types" F4 (by exact g2)
        replace F4 := fr_see "rows" F4 (by exact g3)
        replace F4 := fr_see "homes" F4 (by exact g4)
        clear g1 g2 g3 g4
        have hz := home0 khomes (by omega)
        have hk9 : k ≤ 5 := by omega
        clear hk
        have hb8 : crs.length ≤ 30 := by omega
        have kk9 := And.intro ki (And.intro kx0 kx1)
        walk_at "CLR"
        obtain ⟨ki, kx0, kx1⟩ := kk9
        show wpAny _ _ _ _ _ _
        k_fold
        k_steps
        k_dflt (refine' CallSpec.use (new_step5 w ty td kd _ _ _ _ _ _ _ _ ces cn _ _ cxs ckn (pl, _) (rl, _) (hm, _) (I, oi) cR kinst kc kkn ?hes kT ?hxs ?htk ?hr1 ?hr2) ?B ?F ?X ?N ?T ?hkk ?hdp ?hun trivial ?_)
        case B => k_asm
        case F => k_asm
        case X => k_asm
        case N => exact news_sub (by k_asm) (by k_allIn)
        case T => k_asm
        case hkk => first | exact rfl | assumption
        case hdp => walk_at "ROOM"
        case hun => walk_at "ROOM"
        case hes => omega
        case hxs => omega
        case htk => exact Nat.ne_of_lt htk
        case hr1 => k_all
        case hr2 => k_all
        intro r1 nn1 h1 t1 F5 N5 P5
        obtain ⟨n', xs', kn', R', xm, dx, ex, nx', pm, tc', tk', rfl, rfl, sR, sT, sx, sD, sl, sm, sup, slow, q1, q2, q3, q4, q5, q6, q7⟩ := P5
        dsimp only at q4 q5 q6 q7
        dsimp only
        replace ko1 := off_up ko1 sup q4
        replace ko2 := off_up ko2 sup q2
        replace ko3 := off_up ko3 sup q3
        replace ko4 := off_up ko4 sup q5
        replace ko5 := off_up ko5 sup q6
        replace hoff := off_up hoff sup q7
        have od := off_dx slow sup
        have op := off_pm slow sup q1
        have v1 := ne_pm q4 q1
        have v2 := ne_pm q2 q1
        have v3 := ne_pm q3 q1
        have v4 := ne_pm q5 q1
        have v5 := ne_pm q6 q1
        have v6 := ne_pm q7 q1
        replace kW := kW.sub sR
        replace kf := kf.sub sR
        replace kinst := sR _ kinst
        replace hrest := sub_trans hrest sR
        have sD1 := sD.base
        obtain ⟨lv0, tl0, sD2⟩ := sD.level
        obtain ⟨ln0, sD4⟩ := sD.length
        have sD3 := sD.params
        clear sR slow sup
        k_steps
        rename Fr _ _ _ _ => F6
        rename News _ _ _ _ => N6
        obtain ⟨c', row, Q1, Q2, Q3, Q4, Q5, Q6, Q7, Q8, Q9⟩ := push_row N6 kf (by assumption) (by assumption) (by assumption) kinst kkn knew knone kesl sT sx kxsl kW khsv sm ((sD.setBase _ _ _ (by omega)).setLength _ _ _ (Nat.le_trans (putL_length _ _ _ _ _) (by omega))) (homes_keep khomes) (.oth _ _ _ (by dsimp only; decide) (by dsimp only; decide) rfl (by decide) (by decide)) ko1 ko2 ko3 ko4 ko5 hoff q4 q2 q3 q5 q6 q7 q1 (by omega) (by omega) i1 i2 i3 i4 i5
        exact ⟨_, _, _, _, rfl, F6, Q1, Q2, c', rfl, Q3, by rw [Q4, List.length_append, hlen]; rfl, by rw [Q5, hhs], fun p hp => Q7 p (hrest p hp), by rw [Q4]; exact hP.snocN Q8 (by decide), rfl, rfl, rfl, rfl⟩
      case done3 =>
        clear kf ki kx0 kx1 kinst kc kkn knew knone kesl kT kxsl kW khsv khomes ko1 ko2 ko3 ko4 ko5 hrest hP F3 N3
        rintro m₁ nx h tk1 ⟨c, rfl, ok, hlen, hhs, hrest, hP, g1, g2, g3, g4⟩ F4 N4
        obtain ⟨ci, cx, cti, ctx, cnp, ces, cn, cxs, ckn, crs, cnr, chv, chs, cnh, cR⟩ := c
        obtain ⟨kf, ki, kx0, kx1, kinst, ⟨kct, kc⟩, kkn, knew, knone, kesl, kT, kxsl, kW, khsv, khomes, ko1, ko2, ko3, ko4, ko5⟩ := ok
        dsimp only [WC.led] at N4 kf ki kx0 kx1 kinst kc kkn knew knone kesl kT kxsl kW khsv khomes ko1 ko2 ko3 ko4 ko5 hlen hhs hrest hP
        have hcl := khsv.length
        replace F4 := fr_see "pool" F4 (by exact g1)
        replace F4 := fr_see "types" F4 (by exact g2)
        replace F4 := fr_see "rows" F4 (by exact g3)
        replace F4 := fr_see "homes" F4 (by exact g4)
        have hc4 : crs.length ≤ 20 := by omega
        have hc5 : 7 ≤ crs.length := by omega
        have hc6 : 1 ≤ chs.length := by omega
        have kk9 := And.intro ki (And.intro kx0 kx1)
        walk_at "CLR"
        obtain ⟨ki, kx0, kx1⟩ := kk9
        clear hlen hhs hb4 hb5 hb6
        clear g1 g2 g3 g4
        k_steps
        rename IsRange _ _ _ _ _ _ _ _ => hR
        rename Fr _ _ _ _ => F3
        rename News _ _ _ _ => N3
        try dsimp only at F3 N3
        refine over_range _ (fun k m nx => ∃ c, J1 w pl fg td kd rl hm ty x7 rest (fun rs _ => PtrK K rs) (crs.length + k) chs.length m nx c) rfl hR (small_one (by omega) (by omega) (by omega) (by omega)) (rangeSize_nat _ _) F3 N3 ?hj4 ?turn4 ?done4
        case hj4 => exact ⟨⟨_, _, _, _, cnp, ces, cn, cxs, ckn, crs, cnr, chv, chs, cnh, cR⟩, rfl, ⟨kf, by assumption, by assumption, by assumption, kinst, ⟨kct, kc⟩, kkn, knew, knone, kesl, kT, kxsl, kW, khsv, khomes, ko1, ko2, ko3, ko4, ko5⟩, rfl, rfl, hrest, hP, rfl, rfl, rfl, rfl⟩
        case turn4 =>
          clear kf ki kx0 kx1 kinst kc kkn knew knone kesl kT kxsl kW khsv khomes ko1 ko2 ko3 ko4 ko5 hrest hP F3 N3
          rintro k t m₁ nx h tk1 I oi hk ⟨c, rfl, ok, hlen, hhs, hrest, hP, g1, g2, g3, g4⟩ hoff F4 N4
          obtain ⟨ci, cx, cti, ctx, cnp, ces, cn, cxs, ckn, crs, cnr, chv, chs, cnh, cR⟩ := c
          obtain ⟨kf, ki, kx0, kx1, kinst, ⟨kct, kc⟩, kkn, knew, knone, kesl, kT, kxsl, kW, khsv, khomes, ko1, ko2, ko3, ko4, ko5⟩ := ok
          dsimp only [WC.led] at N4 hoff kf ki kx0 kx1 kinst kc kkn knew knone kesl kT kxsl kW khsv khomes ko1 ko2 ko3 ko4 ko5 hlen hhs hrest hP
          have hcl := khsv.length
          obtain ⟨i1, hoff⟩ := offs hoff
          obtain ⟨i2, hoff⟩ := offs hoff
          obtain ⟨i3, hoff⟩ := offs hoff
          obtain ⟨i4, hoff⟩ := offs hoff
          obtain ⟨i5, hoff⟩ := offs hoff
          replace F4 := fr_see "pool" F4 (by exact g1)
          replace F4 := fr_see "types" F4 (by exact g2)
          replace F4 := fr_see "rows" F4 (by exact g3)
          replace F4 := fr_see "homes" F4 (by exact g4)
          clear g1 g2 g3 g4
          have hz := home0 khomes (by omega)
          have hk9 : k ≤ 3 := by omega
          clear hk
          have hb8 : crs.length ≤ 30 := by omega
          have kk9 := And.intro ki (And.intro kx0 kx1)
          walk_at "CLR"
          obtain ⟨ki, kx0, kx1⟩ := kk9
          show wpAny _ _ _ _ _ _
          k_fold
          k_steps
          k_dflt (refine' CallSpec.use (new_step3w w ty td kd _ _ _ _ ces cn _ _ cxs ckn (pl, _) (rl, _) (hm, _) (I, oi) cR kinst kc kkn ?hes kT ?hxs ?htk ?hr1 ?hr2) ?B ?F ?X ?N ?T ?hkk ?hdp ?hun trivial ?_)
          case B => k_asm
          case F => k_asm
          case X => k_asm
          case N => exact news_sub (by k_asm) (by k_allIn)
          case T => k_asm
          case hkk => first | exact rfl | assumption
          case hdp => walk_at "ROOM"
          case hun => walk_at "ROOM"
          case hes => omega
          case hxs => omega
          case htk => exact Nat.ne_of_lt htk
          case hr1 => k_all
          case hr2 => k_all
          intro r1 nn1 h1 t1 F5 N5 P5
          obtain ⟨n', xs', kn', R', xm, dx, ex, nx', pm, tc', tk', rfl, rfl, sR, sT, sx, sD, sl, sm, sup, slow, q1, q2, q3, q4, q5, q6, q7⟩ := P5
          dsimp only at q4 q5 q6 q7
          dsimp only
          replace ko1 := off_up ko1 sup q4
          replace ko2 := off_up ko2 sup q2
          replace ko3 := off_up ko3 sup q3
          replace ko4 := off_up ko4 sup q5
          replace ko5 := off_up ko5 sup q6
          replace hoff := off_up hoff sup q7
          have od := off_dx slow sup
          have op := off_pm slow sup q1
          have v1 := ne_pm q4 q1
          have v2 := ne_pm q2 q1
          have v3 := ne_pm q3 q1
          have v4 := ne_pm q5 q1
          have v5 := ne_pm q6 q1
          have v6 := ne_pm q7 q1
          replace kW := kW.sub sR
          replace kf := kf.sub sR
          replace kinst := sR _ kinst
          replace hrest := sub_trans hrest sR
          have sD1 := sD.base
          obtain ⟨lv0, tl0, sD2⟩ := sD.level
          obtain ⟨ln0, sD4⟩ := sD.length
          have sD3 := sD.params
          clear sR slow sup
          k_steps
          rename IsRange _ _ _ _ _ _ _ _ => hR5
          rename Fr _ _ _ _ => F7
          rename News _ _ _ _ => N7
          try dsimp only at F7 N7
          rename (_ ∧ _ ∧ _ ∧ _ ∧ _ ∧ _ ∧ _ ∧ _ ∧ AllLt _ R') => lS
          obtain ⟨sd, hsd, lS⟩ : ∃ z, z = _ ∧ (dx < z ∧ pm < z ∧ td < z ∧ kd < z ∧ pl < z ∧ rl < z ∧ hm < z ∧ I < z ∧ AllLt z R') := ⟨_, rfl, lS⟩
          subst hsd
          obtain ⟨s1, s2, s3, s4, s5, s6, s7, s8, s9⟩ := lS
          replace s9 := ne_of_allLt s9
          refine over_range _ (fun j m nx => ∃ i x ti tx sv sn pv pn, nx = (pl, listOf #[.ref fg, .int i ti, .int x tx] cnp) :: (sd, listOf sv.toArray sn) :: (dx, dictOf ex nx') :: (pm, listOf pv.toArray pn) :: (td, dictOf (putL (PySem.Str.ofString "counter") (PyData.keyHash w.params (PySem.Str.ofString "counter")) (.str (PySem.Str.ofString "counter") tk') (.int ((crs.length : Int) + 1 + 1) tc') ces) n') :: (kd, dictT (strKind PR w) xs' kn') :: (rl, listOf (rowsV crs).toArray cnr) :: (hm, listOf chv.toArray cnh) :: (I, oi) :: R' ∧ 0 ≤ i ∧ 0 ≤ x ∧ x < 1009 ∧ List.length sv = j ∧ List.length pv = j ∧ m "pool" = some (.ref pl) ∧ m "types" = some (.ref ty) ∧ m "rows" = some (.ref rl) ∧ m "homes" = some (.ref hm) ∧ m "made" = some (.ref xm) ∧ m "sides" = some (.ref sd)) rfl hR5 (small_one (by omega) (by omega) (by omega) (by omega)) (rangeSize_nat _ _) F7 N7 ?hj5 ?turn5 ?done5
          case hj5 => exact ⟨_, _, _, _, [], 0, [], 0, rfl, by assumption, by assumption, by assumption, rfl, rfl, rfl, rfl, rfl, rfl, rfl, rfl⟩
          case turn5 =>
            clear F7 N7
            rintro j t5 m₅ nx5 h5 tk5 I5 oi5 hj ⟨ci, cx, cti, ctx, sv, sn, pv, pn, rfl, ki, kx0, kx1, hsv5, hpv5, g1, g2, g3, g4, g5, g6⟩ hoff5 F8 N8
            obtain ⟨j1, hoff5⟩ := offs hoff5
            obtain ⟨j2, hoff5⟩ := offs hoff5
            obtain ⟨j3, hoff5⟩ := offs hoff5
            obtain ⟨j4, hoff5⟩ := offs hoff5
            obtain ⟨j5, hoff5⟩ := offs hoff5
            obtain ⟨j6, hoff5⟩ := offs hoff5
            obtain ⟨j7, hoff5⟩ := offs hoff5
            obtain ⟨j8, hoff5⟩ := offs hoff5
            obtain ⟨j9, hoff5⟩ := offs hoff5
            replace F8 := fr_see "pool" F8 (by exact g1)
            replace F8 := fr_see "types" F8 (by exact g2)
            replace F8 := fr_see "rows" F8 (by exact g3)
            replace F8 := fr_see "homes" F8 (by exact g4)
            replace F8 := fr_see "made" F8 (by exact g5)
            replace F8 := fr_see "sides" F8 (by exact g6)
            clear g1 g2 g3 g4 g5 g6
            have hj9 : j ≤ 1 := by omega
            clear hj
            have hb8 : sv.length ≤ 30 := by omega
            have hb7 : pv.length ≤ 30 := by omega
            have kk9 := And.intro ki (And.intro kx0 kx1)
            walk_at "CLR"
            obtain ⟨ki, kx0, kx1⟩ := kk9
            show wpAny _ _ _ _ _ _
            k_fold
            k_steps
            rename Fr _ _ _ _ => F6
            rename News _ _ _ _ => N6
            exact ⟨_, _, _, _, rfl, F6, news_sub N6 (by k_allIn), by k_all, _, _, _, _, _, _, _, _, rfl, by assumption, by assumption, by assumption, by simp [hsv5], by simp [hpv5], rfl, rfl, rfl, rfl, rfl, rfl⟩
          case done5 =>
            clear F7 N7
            rintro m₅ nx5 h5 tk5 ⟨ci, cx, cti, ctx, sv, sn, pv, pn, rfl, ki, kx0, kx1, hsv5, hpv5, g1, g2, g3, g4, g5, g6⟩ F8 N8
            replace F8 := fr_see "pool" F8 (by exact g1)
            replace F8 := fr_see "types" F8 (by exact g2)
            replace F8 := fr_see "rows" F8 (by exact g3)
            replace F8 := fr_see "homes" F8 (by exact g4)
            replace F8 := fr_see "made" F8 (by exact g5)
            replace F8 := fr_see "sides" F8 (by exact g6)
            clear g1 g2 g3 g4 g5 g6
            k_steps
            all_goals (rename Fr _ _ _ _ => F6; rename News _ _ _ _ => N6)
            all_goals (
              obtain ⟨c', row, Q1, Q2, Q3, Q4, Q5, Q6, Q7, Q8, Q9⟩ := push_row (R := (sd, listOf sv.toArray sn) :: R') (news_sub N6 (by k_allIn)) (kf.sub (fun p hp => .tail _ hp)) (by assumption) (by assumption) (by assumption) (.tail _ kinst) kkn knew knone kesl (sT.sub (fun p hp => .tail _ hp)) sx kxsl (kW.sub (fun p hp => .tail _ hp)) khsv (.tail _ sm) (sD.setBase _ _ _ (by omega)) (homes_keep khomes) (.oth _ _ _ (by dsimp only; decide) (by dsimp only; decide) rfl (by decide) (by decide)) (List.forall_mem_cons.mpr ⟨by k_ne, ko1⟩) (List.forall_mem_cons.mpr ⟨by k_ne, ko2⟩) (List.forall_mem_cons.mpr ⟨by k_ne, ko3⟩) (List.forall_mem_cons.mpr ⟨by k_ne, ko4⟩) (List.forall_mem_cons.mpr ⟨by k_ne, ko5⟩) (List.forall_mem_cons.mpr ⟨by k_ne, hoff⟩) q4 q2 q3 q5 q6 q7 q1 (by omega) (by omega) i1 i2 i3 i4 i5
              exact ⟨_, _, _, _, rfl, F6, Q1, Q2, c', rfl, Q3, by rw [Q4, List.length_append, hlen]; rfl, by rw [Q5, hhs], fun p hp => Q7 p (.tail _ (hrest p hp)), by rw [Q4]; exact hP.snocN Q8 (by decide), rfl, rfl, rfl, rfl⟩)
        case done4 =>
          clear kf ki kx0 kx1 kinst kc kkn knew knone kesl kT kxsl kW khsv khomes ko1 ko2 ko3 ko4 ko5 hrest hP F3 N3
          rintro m₁ nx h tk1 ⟨c, rfl, ok, hlen, hhs, hrest, hP, g1, g2, g3, g4⟩ F4 N4
          obtain ⟨ci, cx, cti, ctx, cnp, ces, cn, cxs, ckn, crs, cnr, chv, chs, cnh, cR⟩ := c
          obtain ⟨kf, ki, kx0, kx1, kinst, ⟨kct, kc⟩, kkn, knew, knone, kesl, kT, kxsl, kW, khsv, khomes, ko1, ko2, ko3, ko4, ko5⟩ := ok
          dsimp only [WC.led] at N4 kf ki kx0 kx1 kinst kc kkn knew knone kesl kT kxsl kW khsv khomes ko1 ko2 ko3 ko4 ko5 hlen hhs hrest hP
          have hcl := khsv.length
          replace F4 := fr_see "pool" F4 (by exact g1)
          replace F4 := fr_see "types" F4 (by exact g2)
          replace F4 := fr_see "rows" F4 (by exact g3)
          replace F4 := fr_see "homes" F4 (by exact g4)
          have hd4 : crs.length ≤ 24 := by omega
          have hd5 : 7 ≤ crs.length := by omega
          clear hlen hhs hc4 hc5 hc6
          clear g1 g2 g3 g4
          k_steps
          rename Fr h₀ _ _ _ => kF
          rename News h₀ _ _ _ => kN
          rename (_ ∧ _ ∧ _ ∧ _ ∧ _ ∧ AllLt _ cR) => l1
          have htu := l1.1
          refine hret _ ((_, tupO #[.ref ty, .ref rl] 0) :: (pl, listOf #[.ref fg, .int ci cti, .int cx ctx] cnp) :: (rl, listOf (rowsV crs).toArray cnr) :: cR) _ _ kF (news_sub kN ?_) ⟨_, ty, rl, crs, cnr, ci, cx, cti, ctx, cnp, cR, _, rfl, rfl, ki, kx0, kx1, kf, kW, by omega, hd4, hrest, ko1, ?_, ?_, K, hP⟩
          · intro p hp
            rcases List.mem_cons.mp hp with rfl | hp
            · exact .head _
            rcases List.mem_cons.mp hp with rfl | hp
            · exact .tail _ (.head _)
            rcases List.mem_cons.mp hp with rfl | hp
            · exact .tail _ (.tail _ (.tail _ (.tail _ (.head _))))
            · exact .tail _ (.tail _ (.tail _ (.tail _ (.tail _ (.tail _ hp)))))
          · omega
          · omega
section
variable {prog : Program} {w : World} {A : Around} {E : Value → Shared → Prop} {Q : Flow → Shared → Prop} {s : Shared} {env : Env} {h₀ : Heap} {L : Addr}
def WTurn (h₀ : Heap) (L : Addr) (s : Shared) (J : Nat → (PySem.Str → Option Value) → List (Addr × Obj) → Prop) (n : Nat) (s₃ : Shared) : Prop :=
  ∃ h' tk m₂ news₂ n', s₃ = { s with heap := h', toks := tk } ∧ Fr h₀ L h' m₂ ∧ News h₀ L h' news₂ ∧ n' < n ∧ J n' m₂ news₂
def WPost (h₀ : Heap) (L : Addr) (s : Shared) (J : Nat → (PySem.Str → Option Value) → List (Addr × Obj) → Prop) (Q : Flow → Shared → Prop) (n : Nat) (f : Flow) (s₃ : Shared) : Prop :=
  match f with
  | .ret v => Q (.ret v) s₃
  | .brk => Q .next s₃
  | _ => WTurn h₀ L s J n s₃
theorem while_my {test : PySem.Expr} {body : List Stmt} {pos : Pos} {m : PySem.Str → Option Value} {news : List (Addr × Obj)} (J : Nat → (PySem.Str → Option Value) → List (Addr × Obj) → Prop) {n₀ : Nat}
    (F : Fr h₀ L s.heap m) (N : News h₀ L s.heap news) (hJ : J n₀ m news)
    (turn : ∀ n m₁ news₁ h₁ tk₁, Fr h₀ L h₁ m₁ → News h₀ L h₁ news₁ → J n m₁ news₁ →
      wpAny (model prog w) A (isTrue test env (eval test env)) (fun b s₂ =>
        if b = true then wpAny (model prog w) A (execs body env) (WPost h₀ L s J Q n) E s₂ else Q .next s₂) E { s with heap := h₁, toks := tk₁ })
    (hE : PassesOwn (model prog w) A env E := by passes_own) :
    wpAny (model prog w) A (exec (.While test body [] pos) env) Q E s := by
  refine While_inv2 J F N hJ (fun n m₁ nx h₁ tk₁ F₁ N₁ J₁ => wpAny_mono (turn n m₁ nx h₁ tk₁ F₁ N₁ J₁) (fun b s₂ p => ?_) fun _ _ x => x) hE
  cases b with
  | false => simpa using p
  | true =>
    simp only [if_true] at p ⊢
    refine wpAny_mono p (fun f s₃ q => ?_) fun _ _ x => x
    cases f with
    | ret v => exact q
    | brk => exact q
    | next => exact q
    | cont => exact q
end



local macro_rules | `(tactic| walk_at "WPost") => `(tactic| (dsimp only [WPost]))
local macro_rules | `(tactic| walk_at "exec While Compare cons nil") => `(tactic| (k_here; refine stop_of ?_))
theorem same_spec (w : World) (led : List (Addr × Obj)) (a b : Addr) (n1 n2 : Int) (f1 f2 m1 m2 l1 l2 : PySem.Str) (b1 b2 : Value) (h1 : MadeIn led a n1 f1 m1 l1 b1) (h2 : MadeIn led b n2 f2 m2 l2 b2) :
   CallSpec w 900 21 [.ref a, .ref b] (fun _ => True) led (fun r n => n = led ∧ r = .bool (n1 == n2)) := by
  unfold CallSpec
  intro mean mg mb dp un gd cn cs a ccd cl outer A₀ base h₀ L m s Q E B F X N T hk hdp hun _ hret
  obtain ⟨dx1, ex1, nx1, pm1, g1, g2, g3⟩ := h1
  obtain ⟨dx2, ex2, nx2, pm2, g4, g5, g6⟩ := h2
  obtain ⟨t1, n1⟩ := g3.number
  obtain ⟨t2, n2⟩ := g6.number
  refine wpAny_call ?_
  k_dflt (walk_at "ENTER")
  k_steps
  rename Fr h₀ _ _ _ => kF
  rename News h₀ _ _ _ => kN
  exact hret _ _ _ _ kF kN ⟨rfl, rfl⟩
def recV (form : PySem.Str) (x : Addr) (base : Value) : Value := if form = "record" then .ref x else if form = "pointer" then base else .none
theorem record_spec (w : World) (led : List (Addr × Obj)) (x : Addr) (n1 : Int) (f1 m1 l1 : PySem.Str) (b1 : Value) (h1 : MadeIn led x n1 f1 m1 l1 b1) (hb : f1 ≠ "pointer" ∨ ∃ y, b1 = .ref y) :
   CallSpec w 900 28 [.ref x] (fun _ => True) led (fun r n => n = led ∧ r = recV f1 x b1) := by
  unfold CallSpec
  intro mean mg mb dp un gd cn cs a ccd cl outer A₀ base h₀ L m s Q E B F X N T hk hdp hun _ hret
  obtain ⟨dx1, ex1, nx1, pm1, g1, g2, g3⟩ := h1
  obtain ⟨t1, n1⟩ := g3.form
  have n2 := g3.base
  rcases hb with hb | ⟨y, rfl⟩
  all_goals (refine wpAny_call ?_; k_dflt (walk_at "ENTER"); k_steps)
  · rename Fr h₀ _ _ _ => kF
    rename News h₀ _ _ _ => kN
    rename (_ == _) = true => e
    exact hret _ _ _ _ kF kN ⟨rfl, by rw [recV, if_pos (eq_of_beq e)]⟩
  · rename (_ == PySem.Str.ofString "pointer") = true => e
    exact absurd (eq_of_beq e) hb
  · rename Fr h₀ _ _ _ => kF
    rename News h₀ _ _ _ => kN
    rename (_ == PySem.Str.ofString "record") = false => e
    exact hret _ _ _ _ kF kN ⟨rfl, by rw [recV, if_neg (ne_of_beq_false e), if_neg hb]⟩
  · rename Fr h₀ _ _ _ => kF
    rename News h₀ _ _ _ => kN
    rename (_ == _) = true => e
    exact hret _ _ _ _ kF kN ⟨rfl, by rw [recV, if_pos (eq_of_beq e)]⟩
  · rename Fr h₀ _ _ _ => kF
    rename News h₀ _ _ _ => kN
    rename (_ == PySem.Str.ofString "record") = false => e
    rename (_ == PySem.Str.ofString "pointer") = true => e'
    exact hret _ _ _ _ kF kN ⟨rfl, by rw [recV, if_neg (ne_of_beq_false e), if_pos (eq_of_beq e')]⟩
  · rename Fr h₀ _ _ _ => kF
    rename News h₀ _ _ _ => kN
    rename (_ == PySem.Str.ofString "record") = false => e
    rename (_ == PySem.Str.ofString "pointer") = false => e'
    exact hret _ _ _ _ kF kN ⟨rfl, by rw [recV, if_neg (ne_of_beq_false e), if_neg (ne_of_beq_false e')]⟩
def UpOf (r : TRow) (j : Nat) : Prop := ∃ (tag : PySem.Str) (t t' : Tok), r.dv = [.str tag t, .int (j : Int) t']
theorem UpOf.uniq {r : TRow} {j k : Nat} (h : UpOf r j) (h' : UpOf r k) : j = k := by
  obtain ⟨g, t, t', e⟩ := h
  obtain ⟨g', u, u', e'⟩ := h'
  rw [e] at e'
  simp only [List.cons.injEq, Value.int.injEq] at e'
  omega
inductive Anc (rs : List TRow) : Nat → Nat → Prop
  | refl (i : Nat) : Anc rs i i
  | up (i j k : Nat) (r : TRow) : rs[i]? = some r → r.form = "record" → UpOf r j → j < i → Anc rs j k → Anc rs i k
theorem Anc.le {rs : List TRow} {i k : Nat} (h : Anc rs i k) : k ≤ i := by
  induction h with
  | refl i => exact Nat.le_refl _
  | up i j k r _ _ _ hl _ ih => omega
theorem Anc.trans {rs : List TRow} {i j k : Nat} (h : Anc rs i j) (h' : Anc rs j k) : Anc rs i k := by
  induction h with
  | refl i => exact h'
  | up i j' k' r a b c d _ ih => exact .up i j' k r a b c d (ih h')
def Ext (rs : List TRow) (ri rj : TRow) (i j : Nat) : Prop := (ri.form = "record" ∧ rj.form = "record" ∧ Anc rs i j) ∨ (ri.form = "pointer" ∧ rj.form = "pointer" ∧ ∃ hi hj : Nat, UpOf ri hi ∧ UpOf rj hj ∧ Anc rs hi hj)
theorem ext_cases {led : List (Addr × Obj)} {rs : List TRow} {c : Int} (W : WorldIn led rs c) {i j : Nat} {ri rj : TRow} (hi : rs[i]? = some ri) (hj : rs[j]? = some rj) (hf : ri.form = rj.form) :
    (recV ri.form ri.x ri.base = .none ∧ recV rj.form rj.x rj.base = .none ∧ ¬ Ext rs ri rj i j) ∨
    ∃ (a b : Nat) (ra rb : TRow), recV ri.form ri.x ri.base = .ref ra.x ∧ recV rj.form rj.x rj.base = .ref rb.x ∧ rs[a]? = some ra ∧ rs[b]? = some rb ∧ ra.form = "record" ∧ rb.form = "record" ∧ (Ext rs ri rj i j ↔ Anc rs a b) := by
  cases W.ok i ri hi with
  | isRec up t t' a1 a2 a3 a4 =>
    refine .inr ⟨i, j, ri, rj, by rw [recV, if_pos a1], by rw [recV, if_pos (hf ▸ a1)], hi, hj, a1, hf ▸ a1, ?_, fun h => .inl ⟨a1, hf ▸ a1, h⟩⟩
    rintro (⟨_, _, h⟩ | ⟨h, _⟩)
    · exact h
    · rw [a1] at h; exact absurd h (by decide)
  | ptr home rh t t' a1 a2 a3 a4 a5 a6 =>
    cases W.ok j rj hj with
    | isRec up t t' b1 b2 b3 b4 => rw [hf, b1] at a1; exact absurd a1 (by decide)
    | ptr home2 rh2 u u' b1 b2 b3 b4 b5 b6 =>
      refine .inr ⟨home, home2, rh, rh2, by rw [recV, if_neg (by rw [a1]; decide), if_pos a1, a6], by rw [recV, if_neg (by rw [b1]; decide), if_pos b1, b6], a4, b4, a5, b5, ?_, fun h => .inr ⟨a1, b1, home, home2, ⟨_, _, _, a2⟩, ⟨_, _, _, b2⟩, h⟩⟩
      rintro (⟨h, _, _⟩ | ⟨_, _, x, y, hx, hy, h⟩)
      · rw [a1] at h; exact absurd h (by decide)
      · rw [hx.uniq ⟨_, _, _, a2⟩, hy.uniq ⟨_, _, _, b2⟩] at h; exact h
    | oth tag t more b1 b2 b3 b4 b5 => exact absurd (hf ▸ a1) b2
  | oth tag t more a1 a2 a3 a4 a5 =>
    refine .inl ⟨by rw [recV, if_neg a1, if_neg a2], by rw [recV, if_neg (hf ▸ a1), if_neg (hf ▸ a2)], ?_⟩
    rintro (⟨h, _, _⟩ | ⟨h, _⟩)
    · exact a1 h
    · exact a2 h
theorem ext_form {rs : List TRow} {ri rj : TRow} {i j : Nat} (h : Ext rs ri rj i j) : ri.form = rj.form := by
  rcases h with ⟨a, b, _⟩ | ⟨a, b, _⟩ <;> rw [a, b]
theorem WorldIn.recB {led : List (Addr × Obj)} {rs : List TRow} {c : Int} (W : WorldIn led rs c) {i : Nat} {ri : TRow} (hi : rs[i]? = some ri) : ri.form ≠ "pointer" ∨ ∃ y, ri.base = .ref y := by
  cases W.ok i ri hi with
  | isRec up t t' a1 a2 a3 a4 => exact .inl (by rw [a1]; decide)
  | ptr home rh t t' a1 a2 a3 a4 a5 a6 => exact .inr ⟨_, a6⟩
  | oth tag t more a1 a2 a3 a4 a5 => exact .inl a2
theorem WorldIn.num_inj {led : List (Addr × Obj)} {rs : List TRow} {c : Int} (W : WorldIn led rs c) {i j : Nat} {ri rj : TRow} (hi : rs[i]? = some ri) (hj : rs[j]? = some rj) (h : ri.num = rj.num) : i = j := by
  have h1 : (rs.map (·.num))[i]? = some ri.num := by rw [List.getElem?_map, hi]; rfl
  have h2 : (rs.map (·.num))[j]? = some ri.num := by rw [List.getElem?_map, hj, h]; rfl
  have hl := (List.getElem?_eq_some_iff.mp h1).1
  exact (List.getElem?_inj hl W.nums).mp (h1.trans h2.symm)
theorem WorldIn.made {led : List (Addr × Obj)} {rs : List TRow} {c : Int} (W : WorldIn led rs c) {i : Nat} {ri : TRow} (hi : rs[i]? = some ri) : MadeIn led ri.x ri.num ri.form ri.md ri.lb ri.base := (W.rows _ (List.mem_of_getElem? hi)).1
def ExtJ (led : List (Addr × Obj)) (rs : List TRow) (a b : Nat) (wb : Addr) (m : PySem.Str → Option Value) (nx : List (Addr × Obj)) (n : Nat) : Prop :=
  nx = led ∧ m "wanted" = some (.ref wb) ∧ ((n = 0 ∧ m "one" = some .none ∧ ¬ Anc rs a b) ∨ ∃ k rk, n = k + 1 ∧ m "one" = some (.ref rk.x) ∧ rs[k]? = some rk ∧ rk.form = "record" ∧ (Anc rs a b ↔ Anc rs k b))
theorem extends_spec (w : World) (led : List (Addr × Obj)) (rs : List TRow) (c : Int) (W : WorldIn led rs c) (i j : Nat) (ri rj : TRow) (hi : rs[i]? = some ri) (hj : rs[j]? = some rj) :
   CallSpec w 800 35 [.ref ri.x, .ref rj.x] (fun _ => True) led (fun r n => n = led ∧ ∃ b, r = .bool b ∧ (b = true ↔ Ext rs ri rj i j)) := by
  unfold CallSpec
  intro mean mg mb dp un gd cn cs a ccd cl outer A₀ base h₀ L m s Q E B F X N T hk hdp hun _ hret
  obtain ⟨dx1, ex1, nx1, pm1, g1, g2, g3⟩ := W.made hi
  obtain ⟨dx2, ex2, nx2, pm2, g4, g5, g6⟩ := W.made hj
  obtain ⟨t1, n1⟩ := g3.form
  obtain ⟨t2, n2⟩ := g6.form
  refine wpAny_call ?_
  k_dflt (walk_at "ENTER")
  k_steps
  · rename Fr h₀ _ _ _ => kF
    rename News h₀ _ _ _ => kN
    rename (_ != _) = true => e
    refine hret _ _ _ _ kF kN ⟨rfl, false, rfl, ?_⟩
    constructor
    · exact fun h => by cases h
    · intro h
      rw [ext_form h, bne_self_eq_false] at e
      cases e
  k_dflt (refine' CallSpec.use (record_spec w _ _ _ _ _ _ _ (W.made hi) (W.recB hi)) ?B ?F ?X ?N ?T ?hkk ?hdp ?hun trivial ?_)
  case B => k_asm
  case F => k_asm
  case X => k_asm
  case N => k_asm
  case T => k_asm
  case hkk => first | exact rfl | assumption
  case hdp => walk_at "ROOM"
  case hun => walk_at "ROOM"
  intro r1 nn1 h1 t1 F1 N1 P1
  obtain ⟨hE1, rfl⟩ := P1
  subst nn1
  dsimp only
  (try k_sweep)
  k_steps
  k_dflt (refine' CallSpec.use (record_spec w _ _ _ _ _ _ _ (W.made hj) (W.recB hj)) ?B ?F ?X ?N ?T ?hkk ?hdp ?hun trivial ?_)
  case B => k_asm
  case F => k_asm
  case X => k_asm
  case N => k_asm
  case T => k_asm
  case hkk => first | exact rfl | assumption
  case hdp => walk_at "ROOM"
  case hun => walk_at "ROOM"
  intro r1 nn1 h1 t1 F1 N1 P1
  obtain ⟨hE1, rfl⟩ := P1
  subst nn1
  dsimp only
  (try k_sweep)
  rename (_ != _) = false => e
  have hf : ri.form = rj.form := by
    by_cases h : ri.form = rj.form
    · exact h
    · rw [bne_iff_ne.mpr h] at e; cases e
  clear g1 g2 g3 g4 g5 g6 n1 n2 e
  have hBF : false = true ↔ False := ⟨fun h => (by cases h), False.elim⟩
  rcases ext_cases W hi hj hf with ⟨e1, e2, e3⟩ | ⟨ka, kb, ra, rb, e1, e2, ha, hb, fa, fb, e3⟩
  · rw [e1] at F1
    rw [e2]
    k_steps
    rename Fr h₀ _ _ _ => kF
    rename News h₀ _ _ _ => kN
    exact hret _ _ _ _ kF kN ⟨rfl, false, rfl, hBF.trans ⟨False.elim, e3⟩⟩
  · rw [e1] at F1
    rw [e2]
    k_steps
    rename Fr _ _ _ _ => F2
    rename News _ _ _ _ => N2
    refine stop_of ?_
    refine while_my (fun n m nx => ExtJ led rs ka kb rb.x m nx n) F2 N2 ⟨rfl, rfl, .inr ⟨ka, ra, rfl, rfl, ha, fa, Iff.rfl⟩⟩ ?_
    rintro n m₁ nx h tk1 F3 N3 ⟨hE1, w1, hJ⟩
    subst nx
    clear F2 N2
    replace F3 := fr_see "wanted" F3 (by exact w1)
    rcases hJ with ⟨hn, o1, hno⟩ | ⟨k, rk, hn, o1, hk2, fk, hiff⟩
    · replace F3 := fr_see "one" F3 (by exact o1)
      k_steps
      rename Fr h₀ _ _ _ => kF
      rename News h₀ _ _ _ => kN
      exact hret _ _ _ _ kF kN ⟨rfl, false, rfl, hBF.trans ⟨False.elim, fun h => hno (e3.mp h)⟩⟩
    · replace F3 := fr_see "one" F3 (by exact o1)
      k_steps
      k_dflt (refine' CallSpec.use (same_spec w _ _ _ _ _ _ _ _ _ _ _ _ _ (W.made hk2) (W.made hb)) ?B ?F ?X ?N ?T ?hkk ?hdp ?hun trivial ?_)
      case B => k_asm
      case F => k_asm
      case X => k_asm
      case N => k_asm
      case T => k_asm
      case hkk => first | exact rfl | assumption
      case hdp => walk_at "ROOM"
      case hun => walk_at "ROOM"
      intro r1 nn1 h1 t1 F1 N1 P1
      obtain ⟨hE1, rfl⟩ := P1
      subst nn1
      dsimp only
      (try k_sweep)
      obtain ⟨dx1, ex1, nx1, pm1, g1, g2, g3⟩ := W.made hk2
      have g4 := g3.base
      by_cases hq : k = kb
      · subst hq
        rw [hk2] at hb
        cases hb
        rw [beq_self_eq_true]
        k_steps
        rename Fr h₀ _ _ _ => kF
        rename News h₀ _ _ _ => kN
        exact hret _ _ _ _ kF kN ⟨rfl, true, rfl, fun _ => e3.mpr (hiff.mpr (.refl _)), fun _ => rfl⟩
      · rw [beq_eq_false_iff_ne.mpr fun h => hq (W.num_inj hk2 hb h)]
        cases W.ok k rk hk2 with
        | ptr home rh t t' a1 a2 a3 a4 a5 a6 => rw [a1] at fk; exact absurd fk (by decide)
        | oth tag t more a1 a2 a3 a4 a5 => exact absurd fk a1
        | isRec up t t' a1 a2 a3 a4 =>
          rcases a4 with ⟨rfl, a5⟩ | ⟨j2, rj2, rfl, a6, a7, a8, a9⟩
          · rw [a5] at g4
            k_steps
            rename Fr _ _ _ _ => F5
            rename News _ _ _ _ => N5
            refine ⟨_, _, _, _, 0, rfl, F5, N5, by omega, rfl, rfl, .inl ⟨rfl, rfl, fun h => ?_⟩⟩
            cases hiff.mp h with
            | refl => exact hq rfl
            | up _ j3 _ r3 x1 x2 x3 x4 x5 =>
              obtain ⟨tag3, u3, u4, x3⟩ := x3
              rw [hk2] at x1
              cases x1
              rw [a3] at x3
              simp only [List.cons.injEq, Value.int.injEq] at x3
              omega
          · rw [a9] at g4
            k_steps
            rename Fr _ _ _ _ => F5
            rename News _ _ _ _ => N5
            refine ⟨_, _, _, _, j2 + 1, rfl, F5, N5, by omega, rfl, rfl, .inr ⟨j2, rj2, rfl, rfl, a7, a8, hiff.trans ⟨fun h => ?_, fun h => .up _ j2 _ rk hk2 fk ⟨_, _, _, a3⟩ a6 h⟩⟩⟩
            cases h with
            | refl => exact absurd rfl hq
            | up _ j3 _ r3 x1 x2 x3 x4 x5 =>
              rw [hk2] at x1
              cases x1
              rw [x3.uniq ⟨_, _, _, a3⟩] at x5
              exact x5
section
variable {prog : Program} {w : World} {A : Around} {E : Value → Shared → Prop} {s : Shared} {h₀ : Heap} {L D : Addr} {m : PySem.Str → Option Value} {news R : List (Addr × Obj)}
theorem sub_rows1 {value slice : PySem.Expr} {rs : List TRow} {r : TRow} {n : Nat} {k : Int} {u : Tok} {Q : Value → Shared → Prop} (N : News h₀ L s.heap news) (hm : (D, listOf (rowsV rs).toArray n) ∈ news) (hr : rs[k.toNat]? = some r) (h0 : 0 ≤ k) (hb : rs.length ≤ 2000)
    (h : Q (.ref r.tp) s)
    (hs : subscripted slice false (.ref D) (.int k u) = operate [.ref D, .int k u] (getItem (.ref D) (.int k u))) : wpAny (model prog w) A (subscriptTail value slice (.ref D) (.int k u)) Q E s := by
  have hlt := (List.getElem?_eq_some_iff.mp hr).1
  refine sub_any N hm h0 (by rw [rowsV_len]; omega) (by rw [rowsV_len]; exact hb) (fun v hv => ?_) hs
  unfold rowsV at hv
  rw [List.getElem?_map, hr] at hv
  cases hv
  exact h
theorem sub_tag {value slice : PySem.Expr} {x : Value} {l : List Value} {n : Nat} {u : Tok} {Q : Value → Shared → Prop} (N : News h₀ L s.heap news) (hm : (D, tupO (x :: l).toArray n) ∈ news) (h : Q x s)
    (hs : subscripted slice false (.ref D) (.int 0 u) = operate [.ref D, .int 0 u] (getItem (.ref D) (.int 0 u))) : wpAny (model prog w) A (subscriptTail value slice (.ref D) (.int 0 u)) Q E s := by
  have ht : IsTup s.heap D (x :: l).toArray := ⟨_, (N _ hm).1, rfl, n, rfl⟩
  exact tail_any ht.typeIs slot_tuple_getitem.lookup (getItem_tuple (j := 0) ht (by decide) (by decide) (by rw [seqIndex_of (by decide) (by simp)]; rfl) (by simp) h) hs
end




local macro_rules | `(tactic| walk_at "SUBS") => `(tactic| (k_dflt (refine' sub_rows1 ?k1 ?k2 ?kr ?k4 ?k6 ?_ ?k7; (case kr => with_reducible assumption); walk_at "SUBK"; k_whole)))
local macro_rules | `(tactic| walk_at "SUBS") => `(tactic| ((with_reducible show wpAny _ _ (subscriptTail _ _ (Value.ref _) (Value.int 0 _)) _ _ _); k_dflt (refine' sub_tag ?k1 ?k2 ?_ ?k7; (case k1 => k_asm); (case k2 => k_mem); (case k7 => with_unfolding_all rfl); k_whole)))
def AbvJ (led : List (Addr × Obj)) (rs : List TRow) (rl : Addr) (i j : Nat) (tj : Tok) (m : PySem.Str → Option Value) (nx : List (Addr × Obj)) (n : Nat) : Prop :=
  nx = led ∧ m "rows" = some (.ref rl) ∧ m "two" = some (.int j tj) ∧ ((n = 0 ∧ (∃ t, m "one" = some (.int (-1) t)) ∧ ¬ Anc rs i j) ∨ ∃ k rk t, n = k + 1 ∧ m "one" = some (.int (k : Nat) t) ∧ rs[k]? = some rk ∧ rk.form = "record" ∧ (Anc rs i j ↔ Anc rs k j))
theorem above_rec_spec (w : World) (led : List (Addr × Obj)) (rs : List TRow) (c : Int) (W : WorldIn led rs c) (hb : rs.length ≤ 2000) (rl : Addr) (nr : Nat) (hrl : (rl, listOf (rowsV rs).toArray nr) ∈ led) (i j : Nat) (ri rj : TRow) (hi : rs[i]? = some ri) (hj : rs[j]? = some rj) (fi : ri.form = "record") (fj : rj.form = "record") (ti tj : Tok) :
   CallSpec w 700 155 [.ref rl, .int i ti, .int j tj] (fun _ => True) led (fun r n => n = led ∧ ∃ b, r = .bool b ∧ (b = true ↔ Anc rs i j)) := by
  unfold CallSpec
  intro mean mg mb dp un gd cn cs a ccd cl outer A₀ base h₀ L m s Q E B F X N T hk hdp hun _ hret
  obtain ⟨_, p1, p2⟩ := W.rows _ (List.mem_of_getElem? hi)
  obtain ⟨_, p3, p4⟩ := W.rows _ (List.mem_of_getElem? hj)
  have hi' : rs[Int.toNat (i : Int)]? = some ri := hi
  have hj' : rs[Int.toNat (j : Int)]? = some rj := hj
  obtain ⟨ui, u1, u2, hdi⟩ : ∃ up t t', ri.dv = [.str "rec" t, .int up t'] := by
    cases W.ok i ri hi with
    | isRec up t t' a1 a2 a3 a4 => exact ⟨up, t, t', a3⟩
    | ptr home rh t t' a1 a2 a3 a4 a5 a6 => rw [a1] at fi; exact absurd fi (by decide)
    | oth tag t more a1 a2 a3 a4 a5 => exact absurd fi a1
  obtain ⟨uj, u3, u4, hdj⟩ : ∃ up t t', rj.dv = [.str "rec" t, .int up t'] := by
    cases W.ok j rj hj with
    | isRec up t t' a1 a2 a3 a4 => exact ⟨up, t, t', a3⟩
    | ptr home rh t t' a1 a2 a3 a4 a5 a6 => rw [a1] at fj; exact absurd fj (by decide)
    | oth tag t more a1 a2 a3 a4 a5 => exact absurd fj a1
  rw [hdi] at p2
  rw [hdj] at p4
  refine wpAny_call ?_
  k_dflt (walk_at "ENTER")
  k_steps
  rename Fr _ _ _ _ => F2
  rename News _ _ _ _ => N2
  refine stop_of ?_
  have N3 := news_sub (l' := led) N2 (by k_allIn)
  have hBF : false = true ↔ False := ⟨fun h => (by cases h), False.elim⟩
  refine while_my (fun n m nx => AbvJ led rs rl i j tj m nx n) F2 N3 ⟨rfl, rfl, rfl, .inr ⟨i, ri, ti, rfl, rfl, hi, fi, Iff.rfl⟩⟩ ?_
  rintro n m₁ nx h tk1 F3 N4 ⟨hE1, w1, w2, hJ⟩
  subst nx
  clear F2 N2 N3
  replace F3 := fr_see "rows" F3 (by exact w1)
  replace F3 := fr_see "two" F3 (by exact w2)
  rcases hJ with ⟨hn, ⟨t, o1⟩, hno⟩ | ⟨k, rk, t, hn, o1, hk2, fk, hiff⟩
  · replace F3 := fr_see "one" F3 (by exact o1)
    k_steps
    rename Fr h₀ _ _ _ => kF
    rename News h₀ _ _ _ => kN
    exact hret _ _ _ _ kF kN ⟨rfl, false, rfl, hBF.trans ⟨False.elim, hno⟩⟩
  · replace F3 := fr_see "one" F3 (by exact o1)
    obtain ⟨_, p5, p6⟩ := W.rows _ (List.mem_of_getElem? hk2)
    have hk' : rs[Int.toNat (k : Int)]? = some rk := hk2
    cases W.ok k rk hk2 with
    | ptr home rh t t' a1 a2 a3 a4 a5 a6 => rw [a1] at fk; exact absurd fk (by decide)
    | oth tag t more a1 a2 a3 a4 a5 => exact absurd fk a1
    | isRec up t5 t6 a1 a2 a3 a4 =>
      rw [a3] at p6
      k_steps
      · rename ((k : Int) = (j : Int)) => hq
        have hq : k = j := by omega
        subst hq
        rename Fr h₀ _ _ _ => kF
        rename News h₀ _ _ _ => kN
        exact hret _ _ _ _ kF kN ⟨rfl, true, rfl, fun _ => hiff.mpr (.refl _), fun _ => rfl⟩
      · rename Fr _ _ _ _ => F5
        rename News _ _ _ _ => N5
        rename (¬ (k : Int) = (j : Int)) => hq
        have hq : k ≠ j := by omega
        rcases a4 with ⟨rfl, a5⟩ | ⟨j2, rj2, rfl, a6, a7, a8, a9⟩
        · refine ⟨_, _, _, _, 0, rfl, F5, N5, by omega, rfl, rfl, rfl, .inl ⟨rfl, ⟨_, rfl⟩, fun h => ?_⟩⟩
          cases hiff.mp h with
          | refl => exact hq rfl
          | up _ j3 _ r3 x1 x2 x3 x4 x5 =>
            obtain ⟨tag3, u3, u4, x3⟩ := x3
            rw [hk2] at x1
            cases x1
            rw [a3] at x3
            simp only [List.cons.injEq, Value.int.injEq] at x3
            omega
        · refine ⟨_, _, _, _, j2 + 1, rfl, F5, N5, by omega, rfl, rfl, rfl, .inr ⟨j2, rj2, _, rfl, rfl, a7, a8, hiff.trans ⟨fun h => ?_, fun h => .up _ j2 _ rk hk2 fk ⟨_, _, _, a3⟩ a6 h⟩⟩⟩
          cases h with
          | refl => exact absurd rfl hq
          | up _ j3 _ r3 x1 x2 x3 x4 x5 =>
            rw [hk2] at x1
            cases x1
            rw [x3.uniq ⟨_, _, _, a3⟩] at x5
            exact x5
theorem no_any {tag : PySem.Str} (h1 : tag ≠ "rec") (h2 : tag ≠ "ptr") (h : (List.any [PySem.Str.ofString "rec", PySem.Str.ofString "ptr"] fun x => x == tag) = true) : False := by
  simp only [List.any_cons, List.any_nil, Bool.or_false, Bool.or_eq_true, beq_iff_eq] at h
  rcases h with h | h
  · exact h1 h.symm
  · exact h2 h.symm
theorem no_bne {a b : PySem.Str} (h : a ≠ b) (h' : (a != b) = false) : False := by
  rw [bne_iff_ne.mpr h] at h'; cases h'
theorem above_spec (w : World) (led : List (Addr × Obj)) (rs : List TRow) (c : Int) (W : WorldIn led rs c) (hb : rs.length ≤ 2000) (rl : Addr) (nr : Nat) (hrl : (rl, listOf (rowsV rs).toArray nr) ∈ led) (i j : Nat) (ri rj : TRow) (hi : rs[i]? = some ri) (hj : rs[j]? = some rj) (ti tj : Tok) :
   CallSpec w 600 155 [.ref rl, .int i ti, .int j tj] (fun _ => True) led (fun r n => n = led ∧ ∃ b, r = .bool b ∧ (b = true ↔ Ext rs ri rj i j)) := by
  by_cases fi : ri.form = "record" ∧ rj.form = "record"
  · obtain ⟨fi, fj⟩ := fi
    intro mean mg mb dp un gd cn cs a ccd cl outer A₀ base h₀ L m s Q E B F X N T hk hdp hun _ hret
    refine (above_rec_spec w led rs c W hb rl nr hrl i j ri rj hi hj fi fj ti tj).use B F X N T hk (by omega) (by omega) trivial ?_
    rintro r n h' tk' F' N' ⟨e, b, e2, e3⟩
    refine hret r n h' tk' F' N' ⟨e, b, e2, e3.trans ⟨fun h => .inl ⟨fi, fj, h⟩, ?_⟩⟩
    rintro (⟨_, _, h⟩ | ⟨h, _⟩)
    · exact h
    · rw [fi] at h; exact absurd h (by decide)
  unfold CallSpec
  intro mean mg mb dp un gd cn cs a ccd cl outer A₀ base h₀ L m s Q E B F X N T hk hdp hun _ hret
  obtain ⟨_, p1, p2⟩ := W.rows _ (List.mem_of_getElem? hi)
  obtain ⟨_, p3, p4⟩ := W.rows _ (List.mem_of_getElem? hj)
  have hi' : rs[Int.toNat (i : Int)]? = some ri := hi
  have hj' : rs[Int.toNat (j : Int)]? = some rj := hj
  have hBF : false = true ↔ False := ⟨fun h => (by cases h), False.elim⟩
  by_cases hp : ri.form = "pointer" ∧ rj.form = "pointer"
  · obtain ⟨fp, fq⟩ := hp
    cases W.ok i ri hi with
    | isRec up t t' a1 a2 a3 a4 => rw [a1] at fp; exact absurd fp (by decide)
    | oth tag t more a1 a2 a3 a4 a5 => exact absurd fp a2
    | ptr home rh t t' a1 a2 a3 a4 a5 a6 =>
      cases W.ok j rj hj with
      | isRec up t t' a1 a2 a3 a4 => rw [a1] at fq; exact absurd fq (by decide)
      | oth tag t more a1 a2 a3 a4 a5 => exact absurd fq a2
      | ptr home2 rh2 u u' b1 b2 b3 b4 b5 b6 =>
        rw [a2] at p2
        rw [b2] at p4
        refine wpAny_call ?_
        k_dflt (walk_at "ENTER")
        k_steps
        rename News _ _ _ _ => N2
        have N3 := news_sub (l' := led) N2 (by k_allIn)
        k_dflt (refine' CallSpec.use (above_rec_spec w led rs c W hb rl nr hrl home home2 rh rh2 a4 b4 a5 b5 _ _) ?B ?F ?X ?N ?T ?hkk ?hdp ?hun trivial ?_)
        case B => k_asm
        case F => k_asm
        case X => k_asm
        case N => k_asm
        case T => k_asm
        case hkk => first | exact rfl | assumption
        case hdp => walk_at "ROOM"
        case hun => walk_at "ROOM"
        intro r1 nn1 h1 t1 F1 N1 P1
        obtain ⟨hE1, b, rfl, hb2⟩ := P1
        subst nn1
        dsimp only
        (try k_sweep)
        k_steps
        rename Fr h₀ _ _ _ => kF
        rename News h₀ _ _ _ => kN
        exact hret _ _ _ _ kF kN ⟨rfl, b, rfl, hb2.trans ⟨fun h => .inr ⟨a1, b1, home, home2, ⟨_, _, _, a2⟩, ⟨_, _, _, b2⟩, h⟩, fun h => by rcases h with ⟨h, _, _⟩ | ⟨_, _, x, y, hx, hy, h⟩; (exact absurd ⟨h, by assumption⟩ fi); (rw [hx.uniq ⟨_, _, _, a2⟩, hy.uniq ⟨_, _, _, b2⟩] at h; exact h)⟩⟩
  have hno : ¬ Ext rs ri rj i j := by
    rintro (⟨h1, h2, _⟩ | ⟨h1, h2, _⟩)
    · exact fi ⟨h1, h2⟩
    · exact hp ⟨h1, h2⟩
  cases W.ok i ri hi with
  | isRec up t t' a1 a2 a3 a4 =>
    rw [a3] at p2
    cases W.ok j rj hj with
    | isRec up t t' b1 b2 b3 b4 => exact absurd ⟨a1, b1⟩ fi
    | oth tag t more b1 b2 b3 b4 b5 =>
      rw [b3] at p4
      refine wpAny_call ?_
      k_dflt (walk_at "ENTER")
      k_steps
      all_goals (try (rename Fr h₀ _ _ _ => kF; rename News h₀ _ _ _ => kN; exact hret _ led _ _ kF (news_sub kN (by k_allIn)) ⟨rfl, false, rfl, hBF.trans ⟨False.elim, hno⟩⟩))
      all_goals (exfalso; first | (rename (List.any _ _) = true => e; exact no_any a4 a5 e) | (rename (PySem.Str.ofString "rec" != _) = false => e; exact no_bne (Ne.symm b4) e) | (rename (PySem.Str.ofString "ptr" != _) = false => e; exact no_bne (Ne.symm b5) e))
    | ptr home2 rh2 u u' b1 b2 b3 b4 b5 b6 =>
      rw [b2] at p4
      refine wpAny_call ?_
      k_dflt (walk_at "ENTER")
      k_steps
      all_goals (try (rename Fr h₀ _ _ _ => kF; rename News h₀ _ _ _ => kN; exact hret _ led _ _ kF (news_sub kN (by k_allIn)) ⟨rfl, false, rfl, hBF.trans ⟨False.elim, hno⟩⟩))
      all_goals (exfalso; first | (rename (List.any _ _) = true => e; exact no_any a4 a5 e) | (rename (PySem.Str.ofString "rec" != _) = false => e; exact no_bne (Ne.symm b4) e) | (rename (PySem.Str.ofString "ptr" != _) = false => e; exact no_bne (Ne.symm b5) e))
  | ptr home rh t t' a1 a2 a3 a4 a5 a6 =>
    rw [a2] at p2
    cases W.ok j rj hj with
    | isRec up t t' b1 b2 b3 b4 =>
      rw [b3] at p4
      refine wpAny_call ?_
      k_dflt (walk_at "ENTER")
      k_steps
      all_goals (try (rename Fr h₀ _ _ _ => kF; rename News h₀ _ _ _ => kN; exact hret _ led _ _ kF (news_sub kN (by k_allIn)) ⟨rfl, false, rfl, hBF.trans ⟨False.elim, hno⟩⟩))
      all_goals (exfalso; first | (rename (List.any _ _) = true => e; exact no_any a4 a5 e) | (rename (PySem.Str.ofString "rec" != _) = false => e; exact no_bne (Ne.symm b4) e) | (rename (PySem.Str.ofString "ptr" != _) = false => e; exact no_bne (Ne.symm b5) e))
    | oth tag t more b1 b2 b3 b4 b5 =>
      rw [b3] at p4
      refine wpAny_call ?_
      k_dflt (walk_at "ENTER")
      k_steps
      all_goals (try (rename Fr h₀ _ _ _ => kF; rename News h₀ _ _ _ => kN; exact hret _ led _ _ kF (news_sub kN (by k_allIn)) ⟨rfl, false, rfl, hBF.trans ⟨False.elim, hno⟩⟩))
      all_goals (exfalso; first | (rename (List.any _ _) = true => e; exact no_any a4 a5 e) | (rename (PySem.Str.ofString "rec" != _) = false => e; exact no_bne (Ne.symm b4) e) | (rename (PySem.Str.ofString "ptr" != _) = false => e; exact no_bne (Ne.symm b5) e))
    | ptr home2 rh2 u u' b1 b2 b3 b4 b5 b6 => exact absurd ⟨a1, b1⟩ hp
  | oth tag t more a1 a2 a3 a4 a5 =>
    rw [a3] at p2
    cases W.ok j rj hj with
    | isRec up t t' b1 b2 b3 b4 =>
      rw [b3] at p4
      refine wpAny_call ?_
      k_dflt (walk_at "ENTER")
      k_steps
      all_goals (try (rename Fr h₀ _ _ _ => kF; rename News h₀ _ _ _ => kN; exact hret _ led _ _ kF (news_sub kN (by k_allIn)) ⟨rfl, false, rfl, hBF.trans ⟨False.elim, hno⟩⟩))
      all_goals (exfalso; first | (rename (List.any _ _) = true => e; exact no_any a4 a5 e) | (rename (PySem.Str.ofString "rec" != _) = false => e; exact no_bne (Ne.symm b4) e) | (rename (PySem.Str.ofString "ptr" != _) = false => e; exact no_bne (Ne.symm b5) e))
    | oth tag2 t2 more2 b1 b2 b3 b4 b5 =>
      rw [b3] at p4
      refine wpAny_call ?_
      k_dflt (walk_at "ENTER")
      k_steps
      all_goals (try (rename Fr h₀ _ _ _ => kF; rename News h₀ _ _ _ => kN; exact hret _ led _ _ kF (news_sub kN (by k_allIn)) ⟨rfl, false, rfl, hBF.trans ⟨False.elim, hno⟩⟩))
      all_goals (exfalso; first | (rename (List.any _ _) = true => e; exact no_any a4 a5 e) | (rename (PySem.Str.ofString "rec" != _) = false => e; exact no_bne (Ne.symm b4) e) | (rename (PySem.Str.ofString "ptr" != _) = false => e; exact no_bne (Ne.symm b5) e))
    | ptr home2 rh2 u u' b1 b2 b3 b4 b5 b6 =>
      rw [b2] at p4
      refine wpAny_call ?_
      k_dflt (walk_at "ENTER")
      k_steps
      all_goals (try (rename Fr h₀ _ _ _ => kF; rename News h₀ _ _ _ => kN; exact hret _ led _ _ kF (news_sub kN (by k_allIn)) ⟨rfl, false, rfl, hBF.trans ⟨False.elim, hno⟩⟩))
      all_goals (exfalso; first | (rename (List.any _ _) = true => e; exact no_any a4 a5 e) | (rename (PySem.Str.ofString "rec" != _) = false => e; exact no_bne (Ne.symm b4) e) | (rename (PySem.Str.ofString "ptr" != _) = false => e; exact no_bne (Ne.symm b5) e))
section
variable {prog : Program} {w : World} {A : Around} {E : Value → Shared → Prop} {s : Shared} {h₀ : Heap} {L D : Addr} {m : PySem.Str → Option Value} {news news' : List (Addr × Obj)}
theorem reverse_my {vs : List Value} {n : Nat} {Q : Value → Shared → Prop} (F : Fr h₀ L s.heap m) (N : News h₀ L s.heap news) (U : Upd D (listOf vs.toArray n) (listOf vs.reverse.toArray n) news news')
    (hsz : vs.length ≤ 2000) (h : ∀ h', Fr h₀ L h' m → News h₀ L h' news' → Q .none { s with heap := h' }) : wpAny (model prog w) A (call (.builtin "list.reverse") [.ref D]) Q E s :=
  kl_reverse F N (by simp) U (by simp [PySem.sizeLine_eq]; omega) h
end





local macro_rules | `(tactic| walk_at "call builtin:list.reverse") => `(tactic| (k_here; k_dflt (refine' reverse_my ?k1 ?k2 ?k3 ?z ?_; (case k1 | k2 => k_asm); (case k3 => k_upd); (case z => walk_at "OM"); k_whole); intro h' F' N'; (try k_sweep)))
inductive PairsIn (R : List (Addr × Obj)) : List Value → List (PySem.Str × PySem.Str) → Prop
  | nil : PairsIn R [] []
  | cons (q : Addr) (a b : PySem.Str) (ta tb : Tok) (n : Nat) (vs : List Value) (ps : List (PySem.Str × PySem.Str)) : (q, tupO #[.str a ta, .str b tb] n) ∈ R → PairsIn R vs ps → PairsIn R (.ref q :: vs) ((a, b) :: ps)
theorem PairsIn.sub {R R' : List (Addr × Obj)} {vs : List Value} {ps : List (PySem.Str × PySem.Str)} (h : PairsIn R vs ps) (hs : ∀ p ∈ R, p ∈ R') : PairsIn R' vs ps := by
  induction h with
  | nil => exact .nil
  | cons q a b ta tb n vs ps h _ ih => exact .cons q a b ta tb n vs ps (hs _ h) ih
theorem PairsIn.app {R : List (Addr × Obj)} {vs vs' : List Value} {ps ps' : List (PySem.Str × PySem.Str)} (h : PairsIn R vs ps) (h' : PairsIn R vs' ps') : PairsIn R (vs ++ vs') (ps ++ ps') := by
  induction h with
  | nil => exact h'
  | cons q a b ta tb n vs ps h _ ih => exact .cons q a b ta tb n _ _ h ih
theorem PairsIn.rev {R : List (Addr × Obj)} {vs : List Value} {ps : List (PySem.Str × PySem.Str)} (h : PairsIn R vs ps) : PairsIn R vs.reverse ps.reverse := by
  induction h with
  | nil => exact .nil
  | cons q a b ta tb n vs ps h _ ih => rw [List.reverse_cons, List.reverse_cons]; exact ih.app (.cons q a b ta tb n [] [] h .nil)
theorem PairsIn.len {R : List (Addr × Obj)} {vs : List Value} {ps : List (PySem.Str × PySem.Str)} (h : PairsIn R vs ps) : vs.length = ps.length := by
  induction h with
  | nil => rfl
  | cons q a b ta tb n vs ps h _ ih => simp [ih]
inductive Labs (rs : List TRow) : Nat → List (PySem.Str × PySem.Str) → Prop
  | top (i : Nat) (r : TRow) (tag : PySem.Str) (t t' : Tok) : rs[i]? = some r → r.dv = [.str tag t, .int (-1) t'] → Labs rs i [(r.md, r.lb)]
  | up (i j : Nat) (r : TRow) (l : List (PySem.Str × PySem.Str)) : rs[i]? = some r → UpOf r j → Labs rs j l → Labs rs i ((r.md, r.lb) :: l)
theorem UpOf.not_top {r : TRow} {j : Nat} {tag : PySem.Str} {t t' : Tok} (h : UpOf r j) (h' : r.dv = [.str tag t, .int (-1) t']) : False := by
  obtain ⟨g, u, u', e⟩ := h
  rw [e] at h'
  simp only [List.cons.injEq, Value.int.injEq] at h'
  omega
theorem Labs.uniq {rs : List TRow} {i : Nat} {l l' : List (PySem.Str × PySem.Str)} (h : Labs rs i l) (h' : Labs rs i l') : l = l' := by
  induction h generalizing l' with
  | top i r tag t t' a b =>
    cases h' with
    | top _ r2 tag2 t2 t2' a2 b2 => rw [a] at a2; cases a2; rfl
    | up _ j r2 l2 a2 b2 c2 => rw [a] at a2; cases a2; exact (b2.not_top b).elim
  | up i j r l a b c ih =>
    cases h' with
    | top _ r2 tag2 t2 t2' a2 b2 => rw [a] at a2; cases a2; exact (b.not_top b2).elim
    | up _ j2 r2 l2 a2 b2 c2 =>
      rw [a] at a2
      cases a2
      rw [b.uniq b2] at ih
      rw [ih c2]
def ChJ (led : List (Addr × Obj)) (rs : List TRow) (i : Nat) (D : Addr) (m : PySem.Str → Option Value) (nx : List (Addr × Obj)) (n : Nat) : Prop :=
  ∃ vs nl R ps, nx = (D, listOf vs.toArray nl) :: R ∧ (∀ p ∈ led, p ∈ R) ∧ (∀ p ∈ R, p.1 ≠ D) ∧ PairsIn R vs ps ∧ vs.length ≤ i + 1 ∧ m "found" = some (.ref D) ∧
    ((n = 0 ∧ m "record" = some .none ∧ Labs rs i ps) ∨ ∃ k rk, n = k + 1 ∧ m "record" = some (.ref rk.x) ∧ rs[k]? = some rk ∧ rk.form = "record" ∧ vs.length + k ≤ i ∧ ∀ l, Labs rs k l → Labs rs i (ps ++ l))
theorem chain_spec (w : World) (led : List (Addr × Obj)) (rs : List TRow) (c : Int) (W : WorldIn led rs c) (hb : rs.length ≤ 1000) (i : Nat) (ri : TRow) (hi : rs[i]? = some ri) (fi : ri.form = "record") :
   CallSpec w 700 42 [.ref ri.x] (fun _ => True) led (fun r n => ∃ D vs nl R l, r = .ref D ∧ n = (D, listOf vs.toArray nl) :: R ∧ (∀ p ∈ led, p ∈ R) ∧ (∀ p ∈ R, p.1 ≠ D) ∧ Labs rs i l ∧ PairsIn R vs l.reverse) := by
  unfold CallSpec
  intro mean mg mb dp un gd cn cs a ccd cl outer A₀ base h₀ L m s Q E B F X N T hk hdp hun _ hret
  have hil := (List.getElem?_eq_some_iff.mp hi).1
  refine wpAny_call ?_
  k_dflt (walk_at "ENTER")
  k_steps
  rename Fr _ _ _ _ => F2
  rename News _ _ _ _ => N2
  rename_i D _ l1 _
  refine stop_of ?_
  refine while_my (fun n m nx => ChJ led rs i D m nx n) F2 N2 ⟨[], 0, led, [], rfl, fun _ h => h, fun p hp => Nat.ne_of_lt (l1 p hp), .nil, Nat.zero_le _, rfl, .inr ⟨i, ri, rfl, rfl, hi, fi, by simp, fun l h => h⟩⟩ ?_
  rintro n m₁ nx h tk1 F3 N3 ⟨vs, nl, R, ps, hE1, hsub, hD, hps, hlv, w1, hJ⟩
  subst nx
  clear F2 N2
  replace F3 := fr_see "found" F3 (by exact w1)
  rcases hJ with ⟨hn, o1, hl⟩ | ⟨k, rk, hn, o1, hk2, fk, hle, hiff⟩
  · replace F3 := fr_see "record" F3 (by exact o1)
    k_steps
    rename Fr h₀ _ _ _ => kF
    rename News h₀ _ _ _ => kN
    exact hret _ _ _ _ kF kN ⟨D, vs.reverse, nl, R, ps, rfl, rfl, hsub, hD, hl, hps.rev⟩
  · replace F3 := fr_see "record" F3 (by exact o1)
    obtain ⟨dx1, ex1, nx1, pm1, g1, g2, g3⟩ := W.made hk2
    replace g1 := hsub _ g1
    replace g2 := hsub _ g2
    have g4 := g3.base
    obtain ⟨t5, g5⟩ := g3.module
    obtain ⟨t6, g6⟩ := g3.label
    cases W.ok k rk hk2 with
    | ptr home rh t t' a1 a2 a3 a4 a5 a6 => rw [a1] at fk; exact absurd fk (by decide)
    | oth tag t more a1 a2 a3 a4 a5 => exact absurd fk a1
    | isRec up t t' a1 a2 a3 a4 =>
      rcases a4 with ⟨rfl, a5⟩ | ⟨j2, rj2, rfl, a6, a7, a8, a9⟩
      · rw [a5] at g4
        k_steps
        rename Fr _ _ _ _ => F5
        rename News _ _ _ _ => N5
        rename _ ∧ AllLt _ R => hq
        obtain ⟨q, hqe, hq⟩ : ∃ q, q = _ ∧ (D < q ∧ AllLt q R) := ⟨_, rfl, hq⟩
        subst hqe
        have hqD : q ≠ D := Nat.ne_of_gt hq.1
        have hps2 : PairsIn ((q, tupO #[.str rk.md t5, .str rk.lb t6] 0) :: R) (vs ++ [.ref q]) (ps ++ [(rk.md, rk.lb)]) := (hps.sub fun p hp => .tail _ hp).app (.cons q _ _ _ _ _ [] [] (.head _) .nil)
        have hD2 : ∀ p ∈ (q, tupO #[.str rk.md t5, .str rk.lb t6] 0) :: R, p.1 ≠ D := List.forall_mem_cons.mpr ⟨hqD, hD⟩
        refine ⟨_, _, _, _, 0, rfl, F5, news_sub N5 (by k_allIn), by omega, vs ++ [.ref q], nl + 1, _, _, rfl, fun p hp => .tail _ (hsub p hp), hD2, hps2, by simp; omega, rfl, .inl ⟨rfl, rfl, ?_⟩⟩
        exact hiff _ (.top k rk _ _ _ hk2 a3)
      · rw [a9] at g4
        k_steps
        rename Fr _ _ _ _ => F5
        rename News _ _ _ _ => N5
        rename _ ∧ AllLt _ R => hq
        obtain ⟨q, hqe, hq⟩ : ∃ q, q = _ ∧ (D < q ∧ AllLt q R) := ⟨_, rfl, hq⟩
        subst hqe
        have hqD : q ≠ D := Nat.ne_of_gt hq.1
        have hps2 : PairsIn ((q, tupO #[.str rk.md t5, .str rk.lb t6] 0) :: R) (vs ++ [.ref q]) (ps ++ [(rk.md, rk.lb)]) := (hps.sub fun p hp => .tail _ hp).app (.cons q _ _ _ _ _ [] [] (.head _) .nil)
        have hD2 : ∀ p ∈ (q, tupO #[.str rk.md t5, .str rk.lb t6] 0) :: R, p.1 ≠ D := List.forall_mem_cons.mpr ⟨hqD, hD⟩
        refine ⟨_, _, _, _, j2 + 1, rfl, F5, news_sub N5 (by k_allIn), by omega, vs ++ [.ref q], nl + 1, _, _, rfl, fun p hp => .tail _ (hsub p hp), hD2, hps2, by simp; omega, rfl, .inr ⟨j2, rj2, rfl, rfl, a7, a8, by simp; omega, fun l hl => ?_⟩⟩
        rw [List.append_assoc]
        exact hiff _ (.up k j2 rk l hk2 ⟨_, _, _, a3⟩ hl)
section
variable {K : Type} [DecidableEq K]
theorem find_putAt {xs : List (K × Addr × Value)} {k k' : K} {v : Value} : (xs.map (putAt k v)).find? (fun x => decide (x.1 = k')) = (xs.find? fun x => decide (x.1 = k')).map (putAt k v) := by
  have h1 : ∀ x : K × Addr × Value, (putAt k v x).1 = x.1 := by
    intro x; unfold putAt; split <;> rfl
  induction xs with
  | nil => rfl
  | cons x r ih =>
    simp only [List.map_cons, List.find?_cons, h1]
    cases decide (x.1 = k') with
    | true => rfl
    | false => exact ih
theorem atKey_stored_self (xs : List (K × Addr × Value)) (k : K) (a : Addr) (v : Value) : ∃ q, atKey (storedH xs k a v) k = some (q, v) := by
  unfold storedH
  cases h : atKey xs k with
  | none =>
    rw [if_neg (by simp)]
    refine ⟨a, ?_⟩
    unfold atKey at h ⊢
    rw [List.find?_append]
    have h2 : xs.find? (fun x => decide (x.1 = k)) = none := by simpa using h
    rw [h2]
    simp
  | some p =>
    rw [if_pos (by simp)]
    unfold atKey at h ⊢
    rw [find_putAt]
    cases h2 : xs.find? (fun x => decide (x.1 = k)) with
    | none => rw [h2] at h; cases h
    | some x =>
      have h3 : x.1 = k := by simpa using List.find?_some h2
      exact ⟨x.2.1, by simp [putAt, h3]⟩
theorem atKey_stored_ne (xs : List (K × Addr × Value)) {k k' : K} (hn : k' ≠ k) (a : Addr) (v : Value) : atKey (storedH xs k a v) k' = atKey xs k' := by
  unfold storedH
  split
  · unfold atKey
    rw [find_putAt]
    cases h2 : xs.find? (fun x => decide (x.1 = k')) with
    | none => rfl
    | some x =>
      have h3 : x.1 = k' := by simpa using List.find?_some h2
      have h4 : ¬ x.1 = k := fun e => hn (h3.symm.trans e)
      simp [putAt, h4]
  · unfold atKey
    rw [List.find?_append]
    cases h2 : xs.find? (fun x => decide (x.1 = k')) with
    | none =>
      have : ¬ k = k' := fun e => hn e.symm
      simp [this]
    | some x => simp
end
theorem ext_anti {rs : List TRow} {K : Nat} (hK : PtrK K rs) {i j : Nat} {ri rj : TRow} (hi : rs[i]? = some ri) (hj : rs[j]? = some rj) (h1 : Ext rs ri rj i j) (h2 : Ext rs rj ri j i) : i = j := by
  rcases h1 with ⟨a1, a2, a3⟩ | ⟨a1, a2, x, y, hx, hy, a3⟩
  · rcases h2 with ⟨_, _, b3⟩ | ⟨b1, _⟩
    · have := a3.le
      have := b3.le
      omega
    · rw [a2] at b1; exact absurd b1 (by decide)
  · rcases h2 with ⟨b1, _, _⟩ | ⟨_, _, x', y', hx', hy', b3⟩
    · rw [a2] at b1; exact absurd b1 (by decide)
    · have e1 := hx.uniq hy'
      have e2 := hy.uniq hx'
      subst e1 e2
      have := a3.le
      have := b3.le
      obtain ⟨t, t', h, d, e⟩ := hK i ri hi a1
      obtain ⟨u, u', g, d', e'⟩ := hK j rj hj a2
      have := hx.uniq ⟨_, _, _, d⟩
      have := hy.uniq ⟨_, _, _, d'⟩
      omega
theorem ext_trans {rs : List TRow} {i j k : Nat} {ri rj rk : TRow} (h1 : Ext rs ri rj i j) (h2 : Ext rs rj rk j k) : Ext rs ri rk i k := by
  rcases h1 with ⟨a1, a2, a3⟩ | ⟨a1, a2, x, y, hx, hy, a3⟩
  · rcases h2 with ⟨_, b2, b3⟩ | ⟨b1, _⟩
    · exact .inl ⟨a1, b2, a3.trans b3⟩
    · rw [a2] at b1; exact absurd b1 (by decide)
  · rcases h2 with ⟨b1, _, _⟩ | ⟨_, b2, x', y', hx', hy', b3⟩
    · rw [a2] at b1; exact absurd b1 (by decide)
    · refine .inr ⟨a1, b2, x, y', hx, hy', ?_⟩
      rw [hy.uniq hx'] at a3
      exact a3.trans b3
def NotCell (o : Obj) : Prop := ∀ v, o.data ≠ .cell v
theorem RowIn.sel {R R' : List (Addr × Obj)} (hsel : ∀ p ∈ R, NotCell p.2 → p ∈ R') {r : TRow} (h : RowIn R r) : RowIn R' r := by
  obtain ⟨⟨dx, ex, nx, pm, a, b, c⟩, d, e⟩ := h
  exact ⟨⟨dx, ex, nx, pm, hsel _ a (fun v e => by cases e), hsel _ b (fun v e => by cases e), c⟩, hsel _ d (fun v e => by cases e), hsel _ e (fun v e => by cases e)⟩
theorem WorldIn.sel {R R' : List (Addr × Obj)} (hsel : ∀ p ∈ R, NotCell p.2 → p ∈ R') {rs : List TRow} {c : Int} (h : WorldIn R rs c) : WorldIn R' rs c := ⟨fun r hr => (h.rows r hr).sel hsel, h.ok, h.nums, h.le⟩
theorem Figs.sel {R R' : List (Addr × Obj)} (hsel : ∀ p ∈ R, NotCell p.2 → p ∈ R') {fg : Addr} (h : Figs R fg) : Figs R' fg := by
  obtain ⟨fv, fs, nf, a, b, c, d⟩ := h
  exact ⟨fv, fs, nf, hsel _ a (fun v e => by cases e), b, c, d⟩
def pairD (p : PySem.Str × PySem.Str) : PyData := .tuple [.str p.1, .str p.2]
theorem pairs_reads {h₀ h : Heap} {L : Addr} {R : List (Addr × Obj)} (N : News h₀ L h R) {vs : List Value} {ps : List (PySem.Str × PySem.Str)} (hp : PairsIn R vs ps) : ∃ as, ReadsAll h vs (ps.map pairD) as := by
  induction hp with
  | nil => exact ⟨_, .nil⟩
  | cons q a b ta tb n vs ps hq _ ih =>
    obtain ⟨as, ih⟩ := ih
    exact ⟨_, .cons (reads_tuple_at (N _ hq).1 rfl rfl (.cons (.str _ _) (.cons (.str _ _) .nil))) ih⟩
theorem pairs_eqv : ∀ ps : List (PySem.Str × PySem.Str), PyData.eqvAll (ps.map pairD) (ps.map pairD) = true
  | [] => by simp [PyData.eqvAll]
  | p :: r => by
    simp only [List.map_cons, PyData.eqvAll, pairs_eqv r, Bool.and_true]
    simp [pairD, PyData.eqv, PyData.eqvAll]
def PairsOk (ps : List (PySem.Str × PySem.Str)) : Prop := ∀ p ∈ ps, PyData.strOk p.1 = true ∧ PyData.strOk p.2 = true
theorem pairs_lay : ∀ ps : List (PySem.Str × PySem.Str), PairsOk ps → PyData.canLayAll0 (ps.map pairD) = true
  | [], _ => rfl
  | p :: r, h => by
    have h1 := h p (.head _)
    have h2 := pairs_lay r fun q hq => h q (.tail _ hq)
    simp [PyData.canLayAll0, PyData.canLay0, h2, pairD, h1.1, h1.2]
theorem pairs_depth : ∀ ps : List (PySem.Str × PySem.Str), PyData.depthAll (ps.map pairD) ≤ 2
  | [] => by simp [PyData.depthAll]
  | _ :: r => by
    have := pairs_depth r
    simp only [List.map_cons, PyData.depthAll, pairD, PyData.depth]
    omega
theorem pairs_shaped (ps : List (PySem.Str × PySem.Str)) (h : PairsOk ps) : SeqAt.shaped (.list (ps.map pairD)) = true := by
  have := pairs_depth ps
  unfold SeqAt.shaped
  refine Bool.and_eq_true_iff.mpr ⟨by simpa [PyData.canLay0] using pairs_lay ps h, decide_eq_true ?_⟩
  show PyData.depthAll (ps.map pairD) + 1 ≤ 64
  omega
theorem PairsOk.rev {ps : List (PySem.Str × PySem.Str)} (h : PairsOk ps) : PairsOk ps.reverse := fun p hp => h p (List.mem_reverse.mp hp)
theorem Labs.pok {R : List (Addr × Obj)} {rs : List TRow} {c : Int} (W : WorldIn R rs c) {i : Nat} {l : List (PySem.Str × PySem.Str)} (h : Labs rs i l) : ∀ ri, rs[i]? = some ri → ri.form = "record" → PairsOk l := by
  induction h with
  | top i r tag t t' a b =>
    intro ri hi hf
    rw [a] at hi
    cases hi
    cases W.ok i r a with
    | isRec up u u' a1 a2 a3 a4 a5 =>
      intro p hp
      rw [List.mem_singleton.mp hp]
      exact ⟨by rw [a2]; exact strOk_of _, a5⟩
    | ptr home rh t t' a1 a2 a3 a4 a5 a6 => rw [a1] at hf; exact absurd hf (by decide)
    | oth tag t more a1 a2 a3 a4 a5 => exact absurd hf a1
  | up i j r l a b c ih =>
    intro ri hi hf
    rw [a] at hi
    cases hi
    cases W.ok i r a with
    | ptr home rh t t' a1 a2 a3 a4 a5 a6 => rw [a1] at hf; exact absurd hf (by decide)
    | oth tag t more a1 a2 a3 a4 a5 => exact absurd hf a1
    | isRec up u u' a1 a2 a3 a4 a5 =>
      intro p hp
      rcases List.mem_cons.mp hp with rfl | hp
      · exact ⟨by rw [a2]; exact strOk_of _, a5⟩
      · rcases a4 with ⟨rfl, _⟩ | ⟨j2, rj, rfl, _, a7, a8, _⟩
        · exact (b.not_top a3).elim
        · rw [b.uniq ⟨_, _, _, a3⟩] at ih
          exact ih rj a7 a8 p hp
section
variable {prog : Program} {w : World} {A : Around} {E : Value → Shared → Prop} {s : Shared} {h₀ : Heap} {L D1 D2 : Addr} {m : PySem.Str → Option Value} {news : List (Addr × Obj)}
theorem ne_pairs {vs1 vs2 : List Value} {n1 n2 : Nat} {ps : List (PySem.Str × PySem.Str)} {Q : Value → Shared → Prop} (N : News h₀ L s.heap news) (ha : (D1, listOf vs1.toArray n1) ∈ news) (hb : (D2, listOf vs2.toArray n2) ∈ news)
    (p1 : PairsIn news vs1 ps) (p2 : PairsIn news vs2 ps) (hok : PairsOk ps) (hu : A.units + 64 < cLine) (h : Q (.bool false) s) : wpAny (model prog w) A (compareOp .NotEq (.ref D1) (.ref D2)) Q E s := by
  obtain ⟨as1, r1⟩ := pairs_reads N p1
  obtain ⟨as2, r2⟩ := pairs_reads N p2
  refine ne_dataH (reads_list_at (N _ ha).1 rfl rfl (by simpa using r1)) (reads_list_at (N _ hb).1 rfl rfl (by simpa using r2)) (pairs_shaped ps hok) (pairs_shaped ps hok) hu ?_
  simp only [PyData.eqv, pairs_eqv, Bool.not_true]
  exact h
end
theorem split_cell {h₀ h : Heap} {L c2 : Addr} {o2 : Obj} {R : List (Addr × Obj)} (N : News h₀ L h R) (hc : (c2, o2) ∈ R) {v : Option Value} (hv : o2.data = .cell v) :
    ∃ R' : List (Addr × Obj), (∀ p ∈ R', p ∈ R) ∧ (∀ p ∈ R', p.1 ≠ c2) ∧ (∀ p ∈ R, NotCell p.2 → p ∈ R') ∧ (∀ p ∈ R, p.1 ≠ c2 → p ∈ R') := by
  refine ⟨R.filter (fun p => decide (p.1 ≠ c2)), fun p hp => (List.mem_filter.mp hp).1, fun p hp => of_decide_eq_true (List.mem_filter.mp hp).2, fun p hp hn => List.mem_filter.mpr ⟨hp, decide_eq_true fun e => ?_⟩, fun p hp hn => List.mem_filter.mpr ⟨hp, decide_eq_true hn⟩⟩
  have h1 := (N p hp).1
  have h2 := (N _ hc).1
  rw [e] at h1
  rw [h1] at h2
  exact hn v (Option.some.inj h2 ▸ hv)
theorem law_split {h₀ h : Heap} {L pl c1 c2 tu ty rl fg : Addr} {o1 o2 P : Obj} {v : Option Value} {nr : Nat} {rs : List TRow} {c : Int} {R rest : List (Addr × Obj)}
    (N : News h₀ L h ((tu, tupO #[.ref ty, .ref rl] 0) :: (pl, P) :: (rl, listOf (rowsV rs).toArray nr) :: R)) (hsub : ∀ p ∈ rest, p ∈ R) (h2 : (c2, o2) ∈ rest) (h1 : (c1, o1) ∈ rest) (h12 : c1 ≠ c2) (hv : o2.data = .cell v)
    (hpl : ∀ p ∈ R, p.1 ≠ pl) (hrl : rl ≠ pl) (htu : tu ≠ pl) (W : WorldIn R rs c) (hf : Figs R fg) :
    ∃ R' : List (Addr × Obj), News h₀ L h ((pl, P) :: (c2, o2) :: R') ∧ (∀ p ∈ R', p.1 ≠ pl) ∧ (∀ p ∈ R', p.1 ≠ c2) ∧ @Ne Nat c2 pl ∧ (c1, o1) ∈ R' ∧ (tu, tupO #[.ref ty, .ref rl] 0) ∈ R' ∧ (rl, listOf (rowsV rs).toArray nr) ∈ R' ∧ WorldIn R' rs c ∧ Figs R' fg := by
  have hc2 := hsub _ h2
  have hs0 : ∀ p ∈ (tu, tupO #[.ref ty, .ref rl] 0) :: (rl, listOf (rowsV rs).toArray nr) :: R, p ∈ (tu, tupO #[.ref ty, .ref rl] 0) :: (pl, P) :: (rl, listOf (rowsV rs).toArray nr) :: R := by
    intro p hp
    rcases List.mem_cons.mp hp with rfl | hp
    · exact .head _
    · exact .tail _ (.tail _ hp)
  obtain ⟨R', q1, q2, q3, q4⟩ := split_cell (news_sub N hs0) (.tail _ (.tail _ hc2)) hv
  refine ⟨R', news_sub N ?_, fun p hp => ?_, q2, hpl _ hc2, q4 _ (.tail _ (.tail _ (hsub _ h1))) h12, q3 _ (.head _) (fun v e => by cases e), q3 _ (.tail _ (.head _)) (fun v e => by cases e), W.sel fun p hp => q3 p (.tail _ (.tail _ hp)), hf.sel fun p hp => q3 p (.tail _ (.tail _ hp))⟩
  · intro p hp
    rcases List.mem_cons.mp hp with rfl | hp
    · exact .tail _ (.head _)
    · rcases List.mem_cons.mp hp with rfl | hp
      · exact .tail _ (.tail _ (.tail _ hc2))
      · exact hs0 p (q1 p hp)
  · rcases List.mem_cons.mp (q1 p hp) with rfl | hp
    · exact htu
    · rcases List.mem_cons.mp hp with rfl | hp
      · exact hrl
      · exact hpl p hp
structure LW (w : World) (pl fg tb rl c1 c2 : Addr) (o1 o2 : Obj) (rs : List TRow) (c : Int) (nr : Nat) (R : List (Addr × Obj)) (xs : List (List Int × Addr × Value)) : Prop where
  W : WorldIn R rs c
  hf : Figs R fg
  c1m : (c1, o1) ∈ R
  c2m : (c2, o2) ∈ R
  rlm : (rl, listOf (rowsV rs).toArray nr) ∈ R
  T : DictT (intKind PR w) R xs
  opl : ∀ p ∈ R, p.1 ≠ pl
  otb : ∀ p ∈ R, p.1 ≠ tb
def Tab (rs : List TRow) (cnt : Nat) (xs : List (List Int × Addr × Value)) (i j : Nat) : Prop :=
  ∀ a b : Nat, ((a < i ∧ b < cnt) ∨ (a = i ∧ b < j)) → ∃ (q : Addr) (bl : Bool), atKey xs [(a : Int), (b : Int)] = some (q, .bool bl) ∧ ∀ ra rb, rs[a]? = some ra → rs[b]? = some rb → (bl = true ↔ Ext rs ra rb a b)
theorem Tab.put {rs : List TRow} {cnt : Nat} {xs : List (List Int × Addr × Value)} {i j : Nat} (h : Tab rs cnt xs i j) {tk : Addr} {bl : Bool} {ri rj : TRow} (hi : rs[i]? = some ri) (hj : rs[j]? = some rj) (hb : bl = true ↔ Ext rs ri rj i j) : Tab rs cnt (storedH xs [(i : Int), (j : Int)] tk (.bool bl)) i (j + 1) := by
  intro a b hab
  by_cases he : a = i ∧ b = j
  · obtain ⟨rfl, rfl⟩ := he
    obtain ⟨q, hq⟩ := atKey_stored_self xs [(a : Int), (b : Int)] tk (.bool bl)
    refine ⟨q, bl, hq, fun ra rb ha hb' => ?_⟩
    rw [hi] at ha
    rw [hj] at hb'
    cases ha
    cases hb'
    exact hb
  · have hn : [(a : Int), (b : Int)] ≠ [(i : Int), (j : Int)] := by
      intro e
      simp only [List.cons.injEq, and_true] at e
      exact he ⟨by omega, by omega⟩
    rw [atKey_stored_ne xs hn]
    exact h a b (by omega)
theorem Tab.row {rs : List TRow} {cnt : Nat} {xs : List (List Int × Addr × Value)} {i : Nat} (h : Tab rs cnt xs i cnt) : Tab rs cnt xs (i + 1) 0 := fun a b hab => h a b (by omega)
theorem keyInt {w : World} {prog : Program} {x y : Int} {tx ty : Tok} {it : Array Value} (hi : it.toList = [.int x tx, .int y ty]) : ItemsAre (intKind prog w) [x, y] it.toList := by
  rw [hi]; exact .cons (by show (x == x) = true; simp) (.cons (by show (y == y) = true; simp) .nil)
section
variable {prog : Program} {w : World} {A : Around} {E : Value → Shared → Prop} {s : Shared} {h₀ : Heap} {L d tk : Addr} {m : PySem.Str → Option Value} {rest : List (Addr × Obj)}
theorem sub_stored {value slice : PySem.Expr} {xs : List (List Int × Addr × Value)} {n nn : Nat} {it : Array Value} {k : List Int} {a : Addr} {v : Value} {rest0 : List (Addr × Obj)} {Q : Value → Shared → Prop} (hu : A.units + 1 < cLine) (N : News h₀ L s.heap ((d, dictT (intKind prog w) (storedH xs k a v) n) :: rest))
    (hT : DictT (intKind prog w) rest0 (storedH xs k a v)) (hsub : ∀ p ∈ rest0, p ∈ rest) (hk : (tk, tupO it nn) ∈ rest) (hki : ItemsAre (intKind prog w) k it.toList)
    (h : ∀ tks, Q v { s with toks := tks })
    (hs : subscripted slice false (.ref d) (.ref tk) = operate [.ref d, .ref tk] (getItem (.ref d) (.ref tk))) : wpAny (model prog w) A (subscriptTail value slice (.ref d) (.ref tk)) Q E s := by
  obtain ⟨q, hq⟩ := atKey_stored_self xs k a v
  have hd : s.TypeIs (.ref d) "dict" := ⟨_, (N _ (.head _)).1, rfl⟩
  exact tail_any hd slot_dict_getitem.lookup (getItem_T hu N (hT.sub hsub) ⟨it, nn, hk, hki⟩ hq h) hs
end
def LJ (w : World) (pl fg tb rl c1 c2 : Addr) (o1 o2 P : Obj) (rs : List TRow) (c : Int) (nr cnt : Nat) (i j : Nat) (m : PySem.Str → Option Value) (nx : List (Addr × Obj)) : Prop :=
  ∃ xs n R, nx = (pl, P) :: (tb, dictT (intKind PR w) xs n) :: R ∧ LW w pl fg tb rl c1 c2 o1 o2 rs c nr R xs ∧ xs.length ≤ 16 * i + j ∧ Tab rs cnt xs i j ∧ m "rows" = some (.ref rl) ∧ m "table" = some (.ref tb)
section
variable {prog : Program} {w : World} {A : Around} {h₀ : Heap} {L : Addr} {m : PySem.Str → Option Value} {env : Env} {elt : PySem.Expr} {x : PySem.Str} {scope : Scope} {cl : List (PySem.Str × Addr)} {s : Shared} {S : List (Addr × Obj) → Prop} {P : Nat → Value → Prop} {Fin : List Value → List (Addr × Obj) → Prop} {news : List (Addr × Obj)}
theorem comp_inv {n : Nat} (J : Nat → List Value → List (Addr × Obj) → Prop) (h0 : J 0 [] news)
    (turn : ∀ i ys nw v I oI C oC D m₂ h tk (E' : Value → Shared → Prop), i < n → J i ys nw → P i v → LCg.NsObj oC m₂ → m₂ x = some v → Fr h₀ L h m → News h₀ L h ((I, oI) :: (C, oC) :: (D, LCg.lst ys) :: nw) → LCg.Off3 I C D nw → ((@Ne Nat I C) ∧ (@Ne Nat I D) ∧ (@Ne Nat C D)) →
      wpAny (model prog w) A (eval elt (compEnvC scope cl C env)) (LCg.CompEnd h₀ L m { s with heap := h, toks := tk } I oI C oC D (LCg.lst ys) S (fun y nw' => J (i + 1) (ys ++ [y]) nw')) E' { s with heap := h, toks := tk })
    (fin : ∀ ys nw, J n ys nw → Fin ys nw) : LCg.CompRest prog w A h₀ L m env elt x scope cl s S P Fin n 0 [] news := by
  have key : ∀ (j i : Nat) (ys : List Value) (nw : List (Addr × Obj)), i + j = n → J i ys nw → LCg.CompRest prog w A h₀ L m env elt x scope cl s S P Fin j i ys nw := by
    intro j
    induction j with
    | zero =>
      intro i ys nw hi hy
      have e : i = n := by omega
      subst e
      exact LCg.CompRest.zero (fin ys nw hy)
    | succ j ih =>
      intro i ys nw hi hy
      refine LCg.CompRest.succ ?_
      intro v I oI C oC D m₂ h tk E' hv hC hx F N off ne
      refine wpAny_mono (turn i ys nw v I oI C oC D m₂ h tk E' (by omega) hy hv hC hx F N off ne) (fun y s₂ hq => ?_) fun _ _ e => e
      obtain ⟨h', tk', nw', e, F', N', off', hS, hJ⟩ := hq
      exact ⟨h', tk', nw', e, F', N', off', hS, ih (i + 1) _ _ (by omega) hJ⟩
  exact key n 0 [] news (by omega) h0
end
def TabV (rs : List TRow) (a b : Nat) (bl : Bool) : Prop := ∀ ra rb, rs[a]? = some ra → rs[b]? = some rb → (bl = true ↔ Ext rs ra rb a b)
section
variable {prog : Program} {w : World} {A : Around} {E : Value → Shared → Prop} {s : Shared} {h₀ : Heap} {L d tk : Addr} {m : PySem.Str → Option Value} {rest : List (Addr × Obj)}
theorem sub_tab {value slice : PySem.Expr} {xs : List (List Int × Addr × Value)} {n nn cnt : Nat} {it : Array Value} {a b : Int} {rs : List TRow} {rest0 : List (Addr × Obj)} {Q : Value → Shared → Prop} (hu : A.units + 1 < cLine) (N : News h₀ L s.heap ((d, dictT (intKind prog w) xs n) :: rest))
    (hT : DictT (intKind prog w) rest0 xs) (hsub : ∀ p ∈ rest0, p ∈ rest) (hk : (tk, tupO it nn) ∈ rest) (hki : ItemsAre (intKind prog w) [a, b] it.toList) (tab : Tab rs cnt xs cnt 0) (a0 : 0 ≤ a) (a1 : a < cnt) (b0 : 0 ≤ b) (b1 : b < cnt)
    (h : ∀ bl tks, TabV rs a.toNat b.toNat bl → Q (.bool bl) { s with toks := tks })
    (hs : subscripted slice false (.ref d) (.ref tk) = operate [.ref d, .ref tk] (getItem (.ref d) (.ref tk))) : wpAny (model prog w) A (subscriptTail value slice (.ref d) (.ref tk)) Q E s := by
  obtain ⟨q, bl, hq, hv⟩ := tab a.toNat b.toNat (.inl ⟨by omega, by omega⟩)
  rw [Int.toNat_of_nonneg a0, Int.toNat_of_nonneg b0] at hq
  have hd : s.TypeIs (.ref d) "dict" := ⟨_, (N _ (.head _)).1, rfl⟩
  exact tail_any hd slot_dict_getitem.lookup (getItem_T hu N (hT.sub hsub) ⟨it, nn, hk, hki⟩ hq fun tks => h bl tks hv) hs
end
section
variable {prog : Program} {w : World} {A : Around} {E : Value → Shared → Prop} {s : Shared} {h₀ : Heap} {L a b : Addr} {m : PySem.Str → Option Value} {news : List (Addr × Obj)}
theorem add_my {vs ws : List Value} {n1 n2 : Nat} {Q : Value → Shared → Prop} (F : Fr h₀ L s.heap m) (N : News h₀ L s.heap news) (ha : (a, listOf vs.toArray n1) ∈ news) (hb : (b, listOf ws.toArray n2) ∈ news) (hz : vs.length + ws.length ≤ 2000)
    (h : ∀ D h', Fr h₀ L h' m → News h₀ L h' ((D, listOf (vs ++ ws).toArray 0) :: news) → (∀ p ∈ news, p.1 < D) → Q (.ref D) { s with heap := h' }) : wpAny (model prog w) A (binaryOp .Add (.ref a) (.ref b)) Q E s :=
  kmk_add_lit F N (N.isList ha) (N.isList hb) (by simp) h (by simp [PySem.sizeLine_eq]; omega)
end
def LabJ (R : List (Addr × Obj)) (I : Addr) (oi : Obj) (rs : List TRow) (rl : Addr) (k : Nat) (tk : Tok) (m : PySem.Str → Option Value) (nx : List (Addr × Obj)) (n : Nat) : Prop :=
  ∃ Lb vs nl R' pre, nx = (I, oi) :: R' ∧ (∀ p ∈ R, p ∈ R') ∧ (∀ p ∈ R', p.1 ≠ I) ∧ (Lb, listOf vs.toArray nl) ∈ R' ∧ PairsIn R' vs pre.reverse ∧ vs.length ≤ k + 1 ∧ m "labels" = some (.ref Lb) ∧ m "rows" = some (.ref rl) ∧ m "spot" = some (.int k tk) ∧
    ((n = 0 ∧ (∃ t, m "at" = some (.int (-1) t)) ∧ Labs rs k pre) ∨ ∃ q rq t, n = q + 1 ∧ m "at" = some (.int (q : Nat) t) ∧ rs[q]? = some rq ∧ rq.form = "record" ∧ vs.length + q ≤ k ∧ ∀ l, Labs rs q l → Labs rs k (pre ++ l))
theorem off3_swap {I C D a : Addr} {o o' : Obj} {l : List (Addr × Obj)} (h : LCg.Off3 I C D ((a, o) :: l)) : LCg.Off3 I C D ((a, o') :: l) := h
theorem ints3 {ys : List Value} {ks : List Int} (h : IntsAre ys ks) (hl : ks.length = 3) : ∃ a b c ta tb tc, ys = [.int a ta, .int b tb, .int c tc] ∧ ks = [a, b, c] := by
  cases h with
  | nil => simp at hl
  | cons a ta h1 =>
    cases h1 with
    | nil => simp at hl
    | cons b tb h2 =>
      cases h2 with
      | nil => simp at hl
      | cons c tc h3 =>
        cases h3 with
        | nil => exact ⟨a, b, c, ta, tb, tc, rfl, rfl⟩
        | cons d td h4 => simp at hl



local macro_rules | `(tactic| walk_at "eval Dict nil nil") => `(tactic| (k_here; k_dflt (refine' newDict_my (intKind _ _) ?k1 ?k2 ?_; (case k1 | k2 => k_asm); k_whole); intro d' h' F' N' l1; (try k_lt l1); (try k_sweep)))
local macro_rules | `(tactic| walk_at "setItem ref ref") => `(tactic| (k_here; k_dflt (refine' setItem_T (knd := intKind _ _) ?k0 ?k1 ?k2 ?k3 ?k4 ?k7 ?k8 ?k5 ?k6 ?_; walk_at "SETK"; (case k5 => exact keyInt rfl); k_whole); intro h' n' tks' F' N' hT'; (try k_sweep)))
local macro_rules | `(tactic| walk_at "SUBD") => `(tactic| refine stop_of ?_)
local macro_rules | `(tactic| walk_at "SUBDK") => `(tactic| ((case k0 => walk_at "UNITS"); (case k1 => walk_at "PULL"); (case k2 => assumption); (case k3 => k_allIn); (case k4 => k_mem); (case k5 => exact keyInt rfl); (case k7 => with_unfolding_all rfl)))
local macro_rules | `(tactic| walk_at "SUBD") => `(tactic| (k_dflt (refine' sub_stored ?k0 ?k1 ?k2 ?k3 ?k4 ?k5 ?_ ?k7; walk_at "SUBDK"; k_whole); intro tks9))
local macro_rules | `(tactic| walk_at "SUBD") => `(tactic| (k_dflt (refine' sub_tab ?k0 ?k1 ?k2 ?k3 ?k4 ?k5 ?k6 ?a0 ?a1 ?b0 ?b1 ?_ ?k7; walk_at "SUBDK"; (case k6 | a0 | a1 | b0 | b1 => assumption); k_whole); intro bl9 tks9 htv9))
local macro_rules | `(tactic| walk_at "subscriptTail Name Tuple ref ref") => `(tactic| (k_here; (with_reducible show wpAny _ _ (subscriptTail _ _ (Value.ref _) (Value.ref _)) _ _ _); walk_at "SUBD"))
local macro_rules | `(tactic| walk_at "CompSrc") => `(tactic| (k_here; refine stop_of ?_))
local macro_rules | `(tactic| walk_at "CompEnd") => `(tactic| (refine stop_of ?_))
local macro_rules | `(tactic| walk_at "binaryOp Add ref ref") => `(tactic| (k_here; k_dflt (refine' add_my ?F ?N ?a ?b ?z ?_; (case F | N => k_asm); (case a | b => k_mem); (case z => ((simp only [List.length_cons, List.length_nil]); walk_at "OM")); k_whole); intro D' h' F' N' l1; (try k_lt l1); (try k_sweep)))
local macro_rules | `(tactic| walk_at "compareOp NotEq ref ref") => `(tactic| (k_here; refine stop_of ?_))
theorem law_walk : Challenge.rw_nu0314_01.Holds := by
  refine holds_law hd.ok fun said => ?_
  refine holds_open (q := hd.view_39) (loose := []) (XP := XL hd.view_39 []) (YP := Hook.says (kHook hd.heap_39 hd.adrs (fun _ => by kernel_rfl))) hd.left (Hook.of (kHook hd.heap_39 hd.adrs (fun _ => by kernel_rfl))) (Hook.keeps (kHook hd.heap_39 hd.adrs (fun _ => by kernel_rfl))) (fun s e => xl_of s (Bool.and_eq_true_iff.mp e).1) XL.keeps (by rfl) (by rfl) (by rfl) (fun s e => recFacts_of (Bool.and_eq_true_iff.mp e).2) (by rfl) said (by decide +kernel) ⟨rfl, rfl, rfl, rfl, rfl, by decide +kernel⟩ ⟨[.list []], by decide +kernel, by decide +kernel⟩ ?_
  clear said
  k_fill
  intro w' s₀ s1' mg mb G Y fa o pm cd doc dV kV ho hd hcd hD hmg hg args vals as hpre hlay hrd hwl hlo
  have KX := kIn_of Y
  have X := (Ground.X G).1
  have V := (Ground.X G).2
  try w_nolog (first | (have GL := glob_more (Ground.glob G (by decide +kernel) (by decide +kernel)) V) | (have GL := glob_more (Ground.glob G (by decide +kernel)) V))
  refine Ground.open G ?_
  intro T B D TE TW
  try (refine guard_noD D (by decide +kernel) ?_; clear D)
  obtain ⟨_, _, M⟩ := bmod_of_top T
  have TA := at_of_top T
  try (obtain ⟨_, _, he, B0⟩ := based_of_top T rfl hmg ho hd; have he' : cd = _ := he; subst he'; clear he)
  clear hmg
  wrow_args hpre hlay hrd hwl hlo
  first | refine callC_kw (enter_call ?_) | refine enter_call ?_ | refine callC_kw (enter_callW ?_) | refine enter_callW ?_ | w_how
  w_top on
  try refine codeAny_mono ?_ (fun _ _ g => GoodW.toG g)
  have K0 := below_caller (Top.heap T)
  w_call any ho hd hcd hD T F
  clear hd TA
  k_drop
  rename World => w
  rename Shared => s1
  (all_goals try k_fold)
  k_steps
  rename IntsAre _ _ => hI
  rename ¬ (((63 : Nat) : Int) < _) => hlen
  rename Heap.IsList _ _ _ => hL
  k_dflt (refine' CallSpec.use (pool_spec _ _ _ _ _ hI (by omega)) ?B ?F ?X ?N ?T ?hkk ?hdp ?hun ?hpre ?_)
  case B => k_asm
  case F => k_asm
  case X => k_asm
  case N => k_asm
  case T => k_asm
  case hkk => first | exact rfl | assumption
  case hdp => walk_at "ROOM"
  case hun => walk_at "ROOM"
  case hpre => exact hL
  intro r1 nn1 h1 t1 F1 N1 P1
  obtain ⟨pl, fg, fs, fv, x0, tx0, t00, np0, nf0, rfl, rfl, hfi, hfs, hfl, hx0, hx1, hfp, hrp⟩ := P1
  dsimp only
  (try k_sweep)
  k_steps
  rename News _ _ _ _ => N1
  rename Obj => o1
  have hrp2 := hrp _ (.tail _ (.head _))
  rename (Obj.data _ = Data.cell (some (Value.ref pl))) => hc1
  rename (Obj.data _ = Data.cell (bindC _ _ _ _)) => hr9
  clear hr9
  rename (Obj.data _ = Data.cell (bindC _ _ _ _)) => hc2
  simp only [List.cons_append, List.nil_append] at N1
  k_dflt (refine' CallSpec.use (world_spec _ pl fg _ _ _ _ _ _ ?hr ?hf ?h0 ?hx0 ?hx) ?B ?F ?X ?N ?T ?hkk ?hdp ?hun trivial ?_)
  case B => k_asm
  case F => k_asm
  case X => k_asm
  case N => k_asm
  case T => k_asm
  case hkk => first | exact rfl | assumption
  case hdp => walk_at "ROOM"
  case hun => walk_at "ROOM"
  case hr => exact List.forall_mem_cons.mpr ⟨hfp, List.forall_mem_cons.mpr ⟨hrp _ (.head _), List.forall_mem_cons.mpr ⟨hrp2, List.forall_mem_nil _⟩⟩⟩
  case hf => exact ⟨fv, fs, nf0, .head _, hfi, hfs, hfl⟩
  case h0 => decide
  case hx0 => assumption
  case hx => assumption
  intro r1 nn1 h1 t1 F1 N1 P1
  obtain ⟨tu, ty, rl, rs, nr, i1, x1, ti1, tx1, np1, R, c, rfl, rfl, hi0, hx2, hx3, hfg, hW, hlo, hhi, hsubr, hRpl, hrlpl, htupl, K, hK⟩ := P1
  dsimp only
  (try k_sweep)
  obtain ⟨R', N2, e1, e2, e3, e4, e5, e6, hW2, hfg2⟩ := law_split N1 hsubr (.tail _ (.head _)) (.tail _ (.tail _ (.head _))) (Nat.ne_of_lt (Nat.lt_succ_self _)) hc2 hRpl hrlpl htupl hW hfg
  clear N1 hsubr hRpl hrlpl htupl hW hfg
  k_steps
  rename IsRange _ _ _ _ _ _ _ _ => hR
  rename Fr _ _ _ _ => F3
  rename News _ _ _ _ => N3
  rename Obj.data _ = Data.cell (some (Value.int _ _)) => hcd
  obtain ⟨cnt, hcnt, hc16, hcr, hc0⟩ : ∃ cnt : Nat, (if 16 < (rs.length : Int) then (16 : Int) else (rs.length : Int)) = (cnt : Int) ∧ cnt ≤ 16 ∧ cnt ≤ rs.length ∧ 1 ≤ cnt := ⟨min 16 rs.length, by split <;> omega, by omega, by omega, by omega⟩
  rw [hcnt] at hR hcd
  try dsimp only at F3 N3
  generalize (if 16 < (rs.length : Int) then _ else _ : Tok) = tcz at hcd
  rename (pl < _ ∧ _ ∧ AllLt _ R') => l1
  obtain ⟨tb, htb, t1, t2, t3⟩ : ∃ z, z = _ ∧ (pl < z ∧ _ < z ∧ AllLt z R') := ⟨_, rfl, l1⟩
  subst htb
  replace t3 := ne_of_allLt t3
  rename Obj => o2
  have hT0 : DictT (intKind PR w) ((Array.size (Heap.objs (Shared.heap s1)) + 1 + 1, o2) :: R') [] := DictT.nil
  have hsx : ∀ p ∈ R', p ∈ (Array.size (Heap.objs (Shared.heap s1)) + 1 + 1, o2) :: R' := fun p hp => .tail _ hp
  have hJ0 : LW w pl fg tb rl (Array.size (Heap.objs (Shared.heap s1)) + 1) (Array.size (Heap.objs (Shared.heap s1)) + 1 + 1) o1 o2 rs c nr ((Array.size (Heap.objs (Shared.heap s1)) + 1 + 1, o2) :: R') [] :=
    ⟨hW2.sub hsx, hfg2.sub hsx, .tail _ e4, .head _, .tail _ e6, hT0, List.forall_mem_cons.mpr ⟨e3, e1⟩, List.forall_mem_cons.mpr ⟨Nat.ne_of_lt t2, t3⟩⟩
  refine stop_of ?_
  refine over_range _ (fun k m nx => LJ w pl fg tb rl (Array.size (Heap.objs (Shared.heap s1)) + 1) (Array.size (Heap.objs (Shared.heap s1)) + 1 + 1) o1 o2 (listOf #[.ref fg, .int i1 ti1, .int x1 tx1] np1) rs c nr cnt k 0 m nx) rfl hR (small_one (by omega) (by omega) (by omega) (by omega)) (rangeSize_nat _ _) F3 (pull1 N3) ?_ ?_ ?_
  · exact ⟨[], 0, _, rfl, hJ0, by simp, fun a b h => by omega, rfl, rfl⟩
  · clear hJ0 hT0 hsx F3 N3 hW2 hfg2 e1 e2 e3 e4 e5 e6 t2 t3 hR
    rintro k t m₁ nx h tk1 I oi hk ⟨xs, xn, R, rfl, ⟨lW, lf, lc1, lc2, lrl, lT, lopl, lotb⟩, lx, ltab, g1, g2⟩ hoff F4 N4
    obtain ⟨a1, hoff⟩ := offs hoff
    obtain ⟨a2, hoff⟩ := offs hoff
    replace F4 := fr_see "rows" F4 (by exact g1)
    replace F4 := fr_see "table" F4 (by exact g2)
    clear g1 g2
    have hk2 : k < rs.length := by omega
    obtain ⟨ri, hri⟩ : ∃ ri, rs[k]? = some ri := ⟨_, List.getElem?_eq_getElem hk2⟩
    show wpAny _ _ _ _ _ _
    k_fold
    k_steps
    rename IsRange _ _ _ _ _ _ _ _ => hR2
    rename Fr _ _ _ _ => F5
    rename News _ _ _ _ => N5
    try dsimp only at F5 N5
    refine stop_of ?_
    refine over_range _ (fun j m nx => ∃ nx', nx = (I, oi) :: nx' ∧ (∀ p ∈ nx', p.1 ≠ I) ∧ (∃ t, m "one" = some (.int (k : Int) t)) ∧ LJ w pl fg tb rl (Array.size (Heap.objs (Shared.heap s1)) + 1) (Array.size (Heap.objs (Shared.heap s1)) + 1 + 1) o1 o2 (listOf #[.ref fg, .int i1 ti1, .int x1 tx1] np1) rs c nr cnt k j m nx') rfl hR2 (small_one (by omega) (by omega) (by omega) (by omega)) (rangeSize_nat _ _) F5 N5 ?_ ?_ ?_
    · exact ⟨_, rfl, List.forall_mem_cons.mpr ⟨a1, List.forall_mem_cons.mpr ⟨a2, hoff⟩⟩, ⟨t, by show some (Value.int (0 + (k : Int)) t) = _; rw [Int.zero_add]⟩, xs, xn, R, rfl, ⟨lW, lf, lc1, lc2, lrl, lT, lopl, lotb⟩, lx, ltab, rfl, rfl⟩
    · clear F5 N5 hR2 lW lf lc1 lc2 lrl lT lopl lotb lx ltab hoff a1 a2
      rintro j t5 m₅ nx5 h5 tk5 I5 oi5 hj ⟨nx', rfl, hoff, ⟨t6, g3⟩, xs, xn, R, rfl, ⟨lW, lf, lc1, lc2, lrl, lT, lopl, lotb⟩, lx, ltab, g1, g2⟩ hoff5 F6 N6
      obtain ⟨a1, hoff⟩ := offs hoff
      obtain ⟨a2, hoff⟩ := offs hoff
      obtain ⟨b0, hoff5⟩ := offs hoff5
      obtain ⟨b1, hoff5⟩ := offs hoff5
      obtain ⟨b2, hoff5⟩ := offs hoff5
      replace F6 := fr_see "rows" F6 (by exact g1)
      replace F6 := fr_see "table" F6 (by exact g2)
      replace F6 := fr_see "one" F6 (by exact g3)
      simp only [Int.zero_add] at F6
      clear g1 g2 g3
      have hj2 : j < rs.length := by omega
      obtain ⟨rj, hrj⟩ : ∃ rj, rs[j]? = some rj := ⟨_, List.getElem?_eq_getElem hj2⟩
      have hri' : rs[Int.toNat (k : Int)]? = some ri := hri
      have hrj' : rs[Int.toNat (j : Int)]? = some rj := hrj
      obtain ⟨_, p1, p2⟩ := lW.rows _ (List.mem_of_getElem? hri)
      obtain ⟨_, p3, p4⟩ := lW.rows _ (List.mem_of_getElem? hrj)
      show wpAny _ _ _ _ _ _
      k_fold
      k_steps
      k_dflt (refine' CallSpec.use (extends_spec w _ rs c (lW.sub ?hs) k j ri rj hri hrj) ?B ?F ?X ?N ?T ?hkk ?hdp ?hun trivial ?_)
      case B => k_asm
      case F => k_asm
      case X => k_asm
      case N => k_asm
      case T => k_asm
      case hkk => first | exact rfl | assumption
      case hdp => walk_at "ROOM"
      case hun => walk_at "ROOM"
      case hs => k_allIn
      intro r1 nn1 h1 t1 F1 N1 P1
      obtain ⟨hE1, b, rfl, hb⟩ := P1
      subst nn1
      dsimp only
      (try k_sweep)
      k_steps
      rename News _ _ _ _ => NN
      (try dsimp only at NN)
      k_dflt (refine' CallSpec.use (above_spec w _ rs c (lW.sub ?hs) (by omega) rl nr ?hrl k j ri rj hri hrj _ _) ?B ?F ?X ?N ?T ?hkk ?hdp ?hun trivial ?_)
      case B => k_asm
      case F => k_asm
      case X => k_asm
      case N => k_asm
      case T => k_asm
      case hkk => first | exact rfl | assumption
      case hdp => walk_at "ROOM"
      case hun => walk_at "ROOM"
      case hs => k_allIn
      case hrl => k_mem
      intro r1 nn1 h1 t1 F1 N1 P1
      obtain ⟨hE1, b2, rfl, hb2⟩ := P1
      subst nn1
      dsimp only
      (try k_sweep)
      obtain rfl : b = b2 := by
        cases b <;> cases b2 <;> first | rfl | exact absurd (hb.mpr (hb2.mp rfl)) (by decide) | exact absurd (hb2.mpr (hb.mp rfl)) (by decide)
      rename DictT _ (_ :: R) _ => hT9
      k_steps
      · k_dflt (refine' CallSpec.use (extends_spec w _ rs c (lW.sub ?hs) j k rj ri hrj hri) ?B ?F ?X ?N ?T ?hkk ?hdp ?hun trivial ?_)
        case B => k_asm
        case F => k_asm
        case X => k_asm
        case N => k_asm
        case T => k_asm
        case hkk => first | exact rfl | assumption
        case hdp => walk_at "ROOM"
        case hun => walk_at "ROOM"
        case hs => k_allIn
        intro r1 nn1 h1 t1 F1 N1 P1
        obtain ⟨hE1, b3, rfl, hb3⟩ := P1
        subst nn1
        dsimp only
        (try k_sweep)
        obtain rfl : b3 = false := by
          cases b3
          · rfl
          · exact absurd (ext_anti hK hri hrj (hb.mp (by assumption)) (hb3.mp rfl)) (by omega)
        k_steps
        rename Fr _ _ _ _ => F8
        rename News _ _ _ _ => N8
        exact ⟨_, _, _, _, rfl, F8, news_sub N8 (by k_allIn), by k_all, _, rfl, by k_all, ⟨_, rfl⟩, _, _, _, rfl, ⟨lW.sub (fun p hp => .tail _ hp), lf.sub (fun p hp => .tail _ hp), .tail _ lc1, .tail _ lc2, .tail _ lrl, hT9, List.forall_mem_cons.mpr ⟨by k_ne, lopl⟩, List.forall_mem_cons.mpr ⟨by k_ne, lotb⟩⟩, Nat.le_trans (storedH_len _ _ _ _) (by omega), ltab.put hri hrj hb, rfl, rfl⟩
      · rename Fr _ _ _ _ => F8
        rename News _ _ _ _ => N8
        exact ⟨_, _, _, _, rfl, F8, news_sub N8 (by k_allIn), by k_all, _, rfl, by k_all, ⟨_, rfl⟩, _, _, _, rfl, ⟨lW.sub (fun p hp => .tail _ hp), lf.sub (fun p hp => .tail _ hp), .tail _ lc1, .tail _ lc2, .tail _ lrl, hT9, List.forall_mem_cons.mpr ⟨by k_ne, lopl⟩, List.forall_mem_cons.mpr ⟨by k_ne, lotb⟩⟩, Nat.le_trans (storedH_len _ _ _ _) (by omega), ltab.put hri hrj hb, rfl, rfl⟩
      · rename Fr _ _ _ _ => F8
        rename News _ _ _ _ => N8
        exact ⟨_, _, _, _, rfl, F8, news_sub N8 (by k_allIn), by k_all, _, rfl, by k_all, ⟨_, rfl⟩, _, _, _, rfl, ⟨lW.sub (fun p hp => .tail _ hp), lf.sub (fun p hp => .tail _ hp), .tail _ lc1, .tail _ lc2, .tail _ lrl, hT9, List.forall_mem_cons.mpr ⟨by k_ne, lopl⟩, List.forall_mem_cons.mpr ⟨by k_ne, lotb⟩⟩, Nat.le_trans (storedH_len _ _ _ _) (by omega), ltab.put hri hrj hb, rfl, rfl⟩
    · clear F5 N5 hR2 lW lf lc1 lc2 lrl lT lopl lotb lx ltab hoff a1 a2
      rintro m₅ nx5 h5 tk5 ⟨nx', rfl, hoff, _, xs, xn, R, rfl, lL, lx, ltab, g1, g2⟩ F6 N6
      have e9 : Int.toNat ((cnt : Int) - 0) = cnt := by omega
      rw [e9] at lx ltab
      dsimp only
      k_steps
      exact ⟨_, _, _, _, rfl, F6, N6, hoff, xs, xn, R, rfl, lL, by omega, ltab.row, g1, g2⟩
  · clear hJ0 hT0 hsx F3 N3 hW2 hfg2 e1 e2 e3 e4 e5 e6 t2 t3 hR
    rintro m₁ nx h tk1 ⟨xs, xn, R, rfl, ⟨lW, lf, lc1, lc2, lrl, lT, lopl, lotb⟩, lx, ltab, g1, g2⟩ F4 N4
    have e9 : Int.toNat ((cnt : Int) - 0) = cnt := by omega
    rw [e9] at lx ltab
    replace F4 := fr_see "rows" F4 (by exact g1)
    replace F4 := fr_see "table" F4 (by exact g2)
    clear g1 g2
    k_steps
    rename IsRange _ _ _ _ _ _ _ _ => hR
    rename Fr _ _ _ _ => F5
    rename News _ _ _ _ => N5
    try dsimp only at F5 N5
    refine stop_of ?_
    refine over_range 20 (fun j m nx => ∃ i x ti tx, nx = (pl, listOf #[.ref fg, .int i ti, .int x tx] np1) :: (tb, dictT (intKind PR w) xs xn) :: R ∧ 0 ≤ i ∧ 0 ≤ x ∧ x < 1009 ∧ m "rows" = some (.ref rl) ∧ m "table" = some (.ref tb)) rfl hR (by decide) (by decide) F5 N5 ?_ ?_ ?_
    · exact ⟨_, _, _, _, rfl, hi0, hx2, hx3, rfl, rfl⟩
    · clear F5 N5 hR
      rintro j t5 m₅ nx5 h5 tk5 I5 oi5 hj ⟨i1, x1, ti1, tx1, rfl, hi0, hx2, hx3, g1, g2⟩ hoff5 F6 N6
      obtain ⟨b1, hoff5⟩ := offs hoff5
      obtain ⟨b2, hoff5⟩ := offs hoff5
      replace F6 := fr_see "rows" F6 (by exact g1)
      replace F6 := fr_see "table" F6 (by exact g2)
      clear g1 g2
      show wpAny _ _ _ _ _ _
      k_fold
      k_steps
      refine stop_of ?_
      rename IsRange _ _ _ _ _ _ _ _ => hR5
      rename Fr _ _ _ _ => F7
      rename News _ _ _ _ => N7
      try dsimp only at F7 N7
      k_dflt (refine LCg.CompSrc.range (by rfl) F7 (pull1 N7) hR5 (by decide) (n := 3) (by rfl) (Nat.le_of_ble_eq_true rfl) ?_)
      intro g9
      clear F7 N7 hR5
      refine comp_inv (fun i ys nx => ∃ i1 x1 ti1 tx1 ks, nx = (pl, listOf #[.ref fg, .int i1 ti1, .int x1 tx1] np1) :: (I5, oi5) :: (tb, dictT (intKind PR w) xs xn) :: R ∧ 0 ≤ i1 ∧ 0 ≤ x1 ∧ x1 < 1009 ∧ IntsAre ys ks ∧ ks.length = i ∧ ∀ k ∈ ks, 0 ≤ k ∧ k < (cnt : Int)) ⟨_, _, _, _, [], rfl, hi0, hx2, hx3, .nil, rfl, fun _ h => nomatch h⟩ ?_ ?_
      · rintro i ys nw v I' oI C oC D' m₂ h' tk' E' hi ⟨i1, x1, ti1, tx1, ks, rfl, hi0, hx2, hx3, hIA, hkl, hkb⟩ ⟨tv, rfl⟩ hC hx F7 N7 off ne
        have off0 := off
        simp only [LCg.Off3] at off
        obtain ⟨⟨u1, u2, u3⟩, ⟨u4, u5, u6⟩, ⟨u7, u8, u9⟩, u10⟩ := off
        obtain ⟨v1, v2, v3⟩ := ne
        k_steps
        rename Fr _ _ _ _ => F8
        rename News _ _ _ _ => N8
        unfold Stop
        refine LCg.CompEnd.intro F8 N8 ((pl, listOf #[.ref fg, .int _ _, .int _ _] np1) :: (I5, oi5) :: (tb, dictT (intKind PR w) xs xn) :: R) (by k_allIn) (off3_swap off0) trivial ⟨_, _, _, _, _, rfl, by assumption, by assumption, by assumption, ints_snoc hIA _ _, by simp [hkl], ?_⟩
        intro k hk
        rcases List.mem_append.mp hk with hk | hk
        · exact hkb k hk
        · rw [List.mem_singleton.mp hk]
          exact ⟨by assumption, by assumption⟩
      · rintro ys nw ⟨i1, x1, ti1, tx1, ks, rfl, hi0, hx2, hx3, hIA, hkl, hkb⟩
        obtain ⟨ka, kb, kc, ta, tb9, tc, rfl, rfl⟩ := ints3 hIA hkl
        obtain ⟨ka0, ka1⟩ := hkb ka (by simp)
        obtain ⟨kb0, kb1⟩ := hkb kb (by simp)
        obtain ⟨kc0, kc1⟩ := hkb kc (by simp)
        k_steps
        rotate_left 1
        · exfalso
          rename TabV rs (Int.toNat ka) (Int.toNat kb) _ => v1
          rename TabV rs (Int.toNat kb) (Int.toNat kc) _ => v2
          rename TabV rs (Int.toNat ka) (Int.toNat kc) _ => v3
          rename (_ = false) => hf
          obtain ⟨ra, hra⟩ : ∃ r, rs[Int.toNat ka]? = some r := ⟨_, List.getElem?_eq_getElem (by omega)⟩
          obtain ⟨rb, hrb⟩ : ∃ r, rs[Int.toNat kb]? = some r := ⟨_, List.getElem?_eq_getElem (by omega)⟩
          obtain ⟨rc, hrc⟩ : ∃ r, rs[Int.toNat kc]? = some r := ⟨_, List.getElem?_eq_getElem (by omega)⟩
          have hx := (v3 ra rc hra hrc).mpr (ext_trans ((v1 ra rb hra hrb).mp (by assumption)) ((v2 rb rc hrb hrc).mp (by assumption)))
          rw [hf] at hx
          cases hx
        all_goals (
          rename Fr _ _ _ _ => F8
          rename News _ _ _ _ => N8
          exact ⟨_, _, _, _, rfl, F8, news_sub N8 (by k_allIn), by k_all, _, _, _, _, rfl, hi0, hx2, hx3, rfl, rfl⟩)
    · clear F5 N5 hR
      rintro m₅ nx5 h5 tk5 ⟨i1, x1, ti1, tx1, rfl, hi0, hx2, hx3, g1, g2⟩ F6 N6
      replace F6 := fr_see "rows" F6 (by exact g1)
      clear g1 g2
      k_steps
      refine stop_of ?_
      rename IsRange _ _ _ _ _ _ _ _ => hR
      rename Fr _ _ _ _ => F7
      rename News _ _ _ _ => N7
      try dsimp only at F7 N7
      refine over_range _ (fun k m nx => nx = R ∧ m "rows" = some (.ref rl)) rfl hR (small_one (by omega) (by omega) (by omega) (by omega)) (rangeSize_nat _ _) F7 (news_sub (l' := R) N7 (by k_allIn)) ⟨rfl, rfl⟩ ?_ ?_
      · clear F7 N7 hR
        rintro k t6 m₆ nx6 h6 tk6 I6 oi6 hk ⟨hE, g1⟩ hoff6 F8 N8
        subst nx6
        replace F8 := fr_see "rows" F8 (by exact g1)
        clear g1
        simp only [Int.zero_add] at F8
        have hk2 : k < rs.length := by omega
        obtain ⟨rk, hrk⟩ : ∃ rk, rs[k]? = some rk := ⟨_, List.getElem?_eq_getElem hk2⟩
        have hrk' : rs[Int.toNat (k : Int)]? = some rk := hrk
        obtain ⟨_, p1, p2⟩ := lW.rows _ (List.mem_of_getElem? hrk)
        show wpAny _ _ _ _ _ _
        k_fold
        cases lW.ok k rk hrk with
        | ptr home rh t t' a1 a2 a3 a4 a5 a6 =>
          rw [a2] at p2
          k_steps
          rename Fr _ _ _ _ => F9
          rename News _ _ _ _ => N9
          exact ⟨_, _, _, _, rfl, F9, N9, hoff6, rfl, rfl⟩
        | oth tag t more a1 a2 a3 a4 a5 =>
          rw [a3] at p2
          k_steps
          · exfalso
            rename (_ == _) = true => e
            exact a4 (eq_of_beq e)
          · rename Fr _ _ _ _ => F9
            rename News _ _ _ _ => N9
            exact ⟨_, _, _, _, rfl, F9, N9, hoff6, rfl, rfl⟩
        | isRec up t t' a1 a2 a3 a4 a5 =>
          rw [a3] at p2
          k_steps
          rename Fr _ _ _ _ => F9
          rename News _ _ _ _ => N9
          rename (I6 < _ ∧ AllLt _ R) => l1
          obtain ⟨Lb, hLb, q1, q2⟩ : ∃ z, z = _ ∧ (I6 < z ∧ AllLt z R) := ⟨_, rfl, l1⟩
          subst hLb
          clear l1
          unfold Stop
          refine while_my (fun n m nx => LabJ R I6 oi6 rs rl k t6 m nx n) F9 (news_sub (l' := (I6, oi6) :: (Lb, listOf #[] 0) :: R) N9 (by k_allIn)) ⟨Lb, [], 0, _, [], rfl, fun p hp => .tail _ hp, List.forall_mem_cons.mpr ⟨Nat.ne_of_gt q1, hoff6⟩, .head _, .nil, Nat.zero_le _, rfl, rfl, rfl, .inr ⟨k, rk, t6, rfl, rfl, hrk, a1, by simp, fun l h => h⟩⟩ ?_
          clear F9 N9 q1 q2 a4
          rintro n m₇ nx7 h7 tk7 F10 N10 ⟨Lb, vs, nl, R2, pre, hE, hs2, ho2, hLb, hps, hvl, g1, g2, g3, hJ⟩
          subst nx7
          replace F10 := fr_see "labels" F10 (by exact g1)
          replace F10 := fr_see "rows" F10 (by exact g2)
          replace F10 := fr_see "spot" F10 (by exact g3)
          clear g1 g2 g3
          have lW2 := lW.sub hs2
          have lrl2 := hs2 _ lrl
          replace p1 := hs2 _ p1
          rcases hJ with ⟨hn, ⟨t9, g4⟩, hl⟩ | ⟨q, rq, t9, hn, g4, hq, fq, hle, hiff⟩
          · replace F10 := fr_see "at" F10 (by exact g4)
            k_steps
            k_dflt (refine' CallSpec.use (chain_spec w _ rs c (lW2.sub ?hs) (by omega) k rk hrk a1) ?B ?F ?X ?N ?T ?hkk ?hdp ?hun trivial ?_)
            case B => k_asm
            case F => k_asm
            case X => k_asm
            case N => k_asm
            case T => k_asm
            case hkk => first | exact rfl | assumption
            case hdp => walk_at "ROOM"
            case hun => walk_at "ROOM"
            case hs => k_allIn
            intro r1 nn1 h1 t1 F1 N1 P1
            obtain ⟨D, vs2, nl2, R3, l, rfl, rfl, c1, c2, c3, c4⟩ := P1
            dsimp only
            (try k_sweep)
            obtain rfl := c3.uniq hl
            have mLb := c1 _ (.tail _ hLb)
            k_steps
            unfold Stop
            rename News _ _ _ _ => N12
            refine ne_pairs N12 (.head _) (.tail _ mLb) (c4.sub fun p hp => .tail _ hp) (hps.sub fun p hp => .tail _ (c1 _ (.tail _ hp))) (c3.pok lW _ hrk a1).rev (by first | walk_at "UNITS" | units_room) ?_
            k_steps
            rename Fr _ _ _ _ => F13
            rename News _ _ _ _ => N13
            exact ⟨_, _, _, _, rfl, F13, news_sub N13 (List.forall_mem_cons.mpr ⟨.tail _ (c1 _ (.head _)), fun p hp => .tail _ (c1 _ (.tail _ (hs2 _ hp)))⟩), hoff6, rfl, rfl⟩
          · replace F10 := fr_see "at" F10 (by exact g4)
            obtain ⟨dx1, ex1, nx1, pm1, y1, y2, y3⟩ := lW2.made hq
            obtain ⟨t7, y4⟩ := y3.label
            obtain ⟨_, y5, y6⟩ := lW2.rows _ (List.mem_of_getElem? hq)
            have hq' : rs[Int.toNat (q : Int)]? = some rq := hq
            cases lW2.ok q rq hq with
            | ptr home rh t t' b1 b2 b3 b4 b5 b6 => rw [b1] at fq; exact absurd fq (by decide)
            | oth tag t more b1 b2 b3 b4 b5 => exact absurd fq b1
            | isRec upq tq1 tq2 b1 b2 b3 b4 b5 =>
              rw [b3] at y6
              k_steps
              rename Fr _ _ _ _ => F11
              rename News _ _ _ _ => N11
              rename (_ < _ ∧ _ < _ ∧ I6 < _ ∧ AllLt _ R2) => l3
              obtain ⟨tm, tq, Lb2, h1, h2, h3, l31, l32, l33, l34⟩ : ∃ tm tq z, tm = _ ∧ tq = _ ∧ z = _ ∧ (tm < z ∧ tq < z ∧ I6 < z ∧ AllLt z R2) := ⟨_, _, _, rfl, rfl, rfl, l3⟩
              subst h1 h2 h3
              rename (I6 < tq ∧ AllLt tq R2) => l2
              have hps2 : ∀ ta tb : Tok, PairsIn ((Lb2, listOf ([Value.ref tq] ++ vs).toArray 0) :: (tq, tupO #[.str (PySem.Str.ofString "M") ta, .str rq.lb tb] 0) :: R2) ([Value.ref tq] ++ vs) (pre ++ [(PySem.Str.ofString "M", rq.lb)]).reverse := by
                intro ta tb
                rw [List.reverse_append]
                exact .cons tq _ _ _ _ 0 vs _ (.tail _ (.head _)) (hps.sub fun p hp => .tail _ (.tail _ hp))
              rcases b4 with ⟨rfl, b6⟩ | ⟨j2, rj2, rfl, b6, b7, b8, b9⟩
              · refine ⟨_, _, _, _, 0, rfl, F11, news_sub N11 (by k_allIn), by omega, Lb2, _, 0, _, _, rfl, fun p hp => .tail _ (.tail _ (hs2 p hp)), List.forall_mem_cons.mpr ⟨by k_ne, List.forall_mem_cons.mpr ⟨by k_ne, ho2⟩⟩, .head _, hps2 _ _, by simp; omega, rfl, rfl, rfl, .inl ⟨rfl, ⟨_, rfl⟩, ?_⟩⟩
                have := hiff _ (.top q rq _ _ _ hq b3)
                rw [b2] at this
                exact this
              · refine ⟨_, _, _, _, j2 + 1, rfl, F11, news_sub N11 (by k_allIn), by omega, Lb2, _, 0, _, _, rfl, fun p hp => .tail _ (.tail _ (hs2 p hp)), List.forall_mem_cons.mpr ⟨by k_ne, List.forall_mem_cons.mpr ⟨by k_ne, ho2⟩⟩, .head _, hps2 _ _, by simp; omega, rfl, rfl, rfl, .inr ⟨j2, rj2, _, rfl, rfl, b7, b8, by simp; omega, fun l hl => ?_⟩⟩
                have := hiff _ (.up q j2 rq l hq ⟨_, _, _, b3⟩ hl)
                rw [b2] at this
                rw [List.append_assoc]
                exact this
      · clear F7 N7 hR
        rintro m₆ nx6 h6 tk6 ⟨hE, g1⟩ F8 N8
        subst nx6
        k_steps
end Mine
set_option maxRecDepth 100000 in
set_option maxHeartbeats 8000000 in
theorem PySem.Challenge.cw_nu0314_01_holds : PySem.Challenge.rw_nu0314_01.Holds := by
  exact Mine.law_walk
