import PyProof.Rows.All
import Wide.All
import OpenK.AllK
import Wide.FinOn
import PyProof.Rows.WhileInv
import PySem.Challenge.RW_xm0634_01
open PySem PySem.W PyProof.Rows
set_option Elab.async false
set_option maxRecDepth 100000
set_option linter.unusedVariables false
set_option linter.unusedSimpArgs false
set_option rowWalk.seconds 0
namespace Mine
local macro_rules | `(tactic| walk_at "eval Call") => `(tactic| k_extra "eval Call")
local macro_rules | `(tactic| walk_at "subscriptTail Name Constant ref int") => `(tactic| k_extra "subscriptTail Name Constant ref int")
local macro_rules | `(tactic| walk_at "call ref") => `(tactic| k_extra "call ref")
local macro_rules | `(tactic| walk_at "getAttr ref") => `(tactic| k_extra "getAttr ref")
local macro_rules | `(tactic| walk_at "call builtin:len") => `(tactic| k_extra "call builtin:len")
local macro_rules | `(tactic| walk_at "subscriptTail Name Name ref int") => `(tactic| k_extra "subscriptTail Name Name ref int")
local macro_rules | `(tactic| walk_at "eval Dict") => `(tactic| k_extra "eval Dict")
local macro_rules | `(tactic| walk_at "evalPairs") => `(tactic| k_extra "evalPairs")
local macro_rules | `(tactic| walk_at "Exists") => `(tactic| k_extra "Exists")
local macro_rules | `(tactic| walk_at "subscriptTail Dict") => `(tactic| k_extra "subscriptTail Dict")
local macro_rules | `(tactic| walk_at "getItem ref int") => `(tactic| k_extra "getItem ref int")
local macro_rules | `(tactic| walk_at "ite") => `(tactic| k_extra "ite")
local macro_rules | `(tactic| walk_at "compareOp Gt ref ref") => `(tactic| k_extra "compareOp Gt ref ref")
local macro_rules | `(tactic| walk_at "compareOp Lt ref ref") => `(tactic| k_extra "compareOp Lt ref ref")
local macro_rules | `(tactic| walk_at "eval ListComp") => `(tactic| k_extra "eval ListComp")
local macro_rules | `(tactic| walk_at "exec Assign cons ListComp") => `(tactic| k_extra "exec Assign cons ListComp")
local macro_rules | `(tactic| walk_at "binaryOp Mult int int") => `(tactic| k_extra "binaryOp Mult int int")
local macro_rules | `(tactic| walk_at "subscriptTail Name Call ref int") => `(tactic| k_extra "subscriptTail Name Call ref int")
local macro_rules | `(tactic| walk_at "call builtin:str.join") => `(tactic| k_extra "call builtin:str.join")
local macro_rules | `(tactic| walk_at "subscriptTail Name Slice ref ref") => `(tactic| k_extra "subscriptTail Name Slice ref ref")
local macro_rules | `(tactic| walk_at "binaryOp Add ref ref") => `(tactic| k_extra "binaryOp Add ref ref")
local macro_rules | `(tactic| walk_at "call type:list") => `(tactic| k_extra "call type:list")
local macro_rules | `(tactic| walk_at "subscriptTail Name BinOp ref int") => `(tactic| k_extra "subscriptTail Name BinOp ref int")
local macro_rules | `(tactic| walk_at "compareOp NotEq ref ref") => `(tactic| k_extra "compareOp NotEq ref ref")
local macro_rules | `(tactic| walk_at "compareOp Eq ref ref") => `(tactic| k_extra "compareOp Eq ref ref")
local macro_rules | `(tactic| walk_at "subscriptTail Subscript Constant ref int") => `(tactic| k_extra "subscriptTail Subscript Constant ref int")
section
open PySem PySem.W PyProof.Rows
set_option maxHeartbeats 4000000 in
noncomputable def K0 : Params → Frag := by
  refine (?f : ∀ (s0 : Stmt) (n90 : Str) (p90 : Arguments) (b90 : List Stmt) (d90 : List PySem.Expr) (r90 : Option PySem.Expr) (t90 : List TypeParam) (c90 : Scope) (u90 : Option Scope) (v90 : Str) (o90 : Pos) (k0 : Str) (k1 : List PySem.Expr) (k2 : List Keyword) (k4 : List PySem.Expr) (k5 : List TypeParam) (k6 : Scope) (k7 : Option Scope) (k8 : Str) (k9 : List Str) (k10 : Pos) (n2 : Str) (p2 : Arguments) (b2 : List Stmt) (d2 : List PySem.Expr) (r2 : Option PySem.Expr) (t2 : List TypeParam) (c2 : Scope) (u2 : Option Scope) (v2 : Str) (o2 : Pos) (n3 : Str) (p3 : Arguments) (b3 : List Stmt) (d3 : List PySem.Expr) (r3 : Option PySem.Expr) (t3 : List TypeParam) (c3 : Scope) (u3 : Option Scope) (v3 : Str) (o3 : Pos) (n4 : Str) (p4 : Arguments) (b4 : List Stmt) (d4 : List PySem.Expr) (r4 : Option PySem.Expr) (t4 : List TypeParam) (c4 : Scope) (u4 : Option Scope) (v4 : Str) (o4 : Pos) (n5 : Str) (p5 : Arguments) (b5 : List Stmt) (d5 : List PySem.Expr) (r5 : Option PySem.Expr) (t5 : List TypeParam) (c5 : Scope) (u5 : Option Scope) (v5 : Str) (o5 : Pos) (n6 : Str) (p6 : Arguments) (b6 : List Stmt) (d6 : List PySem.Expr) (r6 : Option PySem.Expr) (t6 : List TypeParam) (c6 : Scope) (u6 : Option Scope) (v6 : Str) (o6 : Pos) (n7 : Str) (p7 : Arguments) (b7 : List Stmt) (d7 : List PySem.Expr) (r7 : Option PySem.Expr) (t7 : List TypeParam) (c7 : Scope) (u7 : Option Scope) (v7 : Str) (o7 : Pos) (s8 : Stmt) (n9 : Str) (p9 : Arguments) (b9 : List Stmt) (d9 : List PySem.Expr) (r9 : Option PySem.Expr) (t9 : List TypeParam) (c9 : Scope) (u9 : Option Scope) (v9 : Str) (o9 : Pos) (n10 : Str) (p10 : Arguments) (b10 : List Stmt) (d10 : List PySem.Expr) (r10 : Option PySem.Expr) (t10 : List TypeParam) (c10 : Scope) (u10 : Option Scope) (v10 : Str) (o10 : Pos) (n11 : Str) (p11 : Arguments) (b11 : List Stmt) (d11 : List PySem.Expr) (r11 : Option PySem.Expr) (t11 : List TypeParam) (c11 : Scope) (u11 : Option Scope) (v11 : Str) (o11 : Pos) (n12 : Str) (p12 : Arguments) (b12 : List Stmt) (d12 : List PySem.Expr) (r12 : Option PySem.Expr) (t12 : List TypeParam) (c12 : Scope) (u12 : Option Scope) (v12 : Str) (o12 : Pos) (n13 : Str) (p13 : Arguments) (b13 : List Stmt) (d13 : List PySem.Expr) (r13 : Option PySem.Expr) (t13 : List TypeParam) (c13 : Scope) (u13 : Option Scope) (v13 : Str) (o13 : Pos) (n14 : Str) (p14 : Arguments) (b14 : List Stmt) (d14 : List PySem.Expr) (r14 : Option PySem.Expr) (t14 : List TypeParam) (c14 : Scope) (u14 : Option Scope) (v14 : Str) (o14 : Pos) (n15 : Str) (p15 : Arguments) (b15 : List Stmt) (d15 : List PySem.Expr) (r15 : Option PySem.Expr) (t15 : List TypeParam) (c15 : Scope) (u15 : Option Scope) (v15 : Str) (o15 : Pos) (n16 : Str) (p16 : Arguments) (b16 : List Stmt) (d16 : List PySem.Expr) (r16 : Option PySem.Expr) (t16 : List TypeParam) (c16 : Scope) (u16 : Option Scope) (v16 : Str) (o16 : Pos) (n17 : Str) (p17 : Arguments) (b17 : List Stmt) (d17 : List PySem.Expr) (r17 : Option PySem.Expr) (t17 : List TypeParam) (c17 : Scope) (u17 : Option Scope) (v17 : Str) (o17 : Pos) (n18 : Str) (p18 : Arguments) (b18 : List Stmt) (d18 : List PySem.Expr) (r18 : Option PySem.Expr) (t18 : List TypeParam) (c18 : Scope) (u18 : Option Scope) (v18 : Str) (o18 : Pos) (n19 : Str) (p19 : Arguments) (b19 : List Stmt) (d19 : List PySem.Expr) (r19 : Option PySem.Expr) (t19 : List TypeParam) (c19 : Scope) (u19 : Option Scope) (v19 : Str) (o19 : Pos) (n20 : Str) (p20 : Arguments) (b20 : List Stmt) (d20 : List PySem.Expr) (r20 : Option PySem.Expr) (t20 : List TypeParam) (c20 : Scope) (u20 : Option Scope) (v20 : Str) (o20 : Pos) (n21 : Str) (p21 : Arguments) (b21 : List Stmt) (d21 : List PySem.Expr) (r21 : Option PySem.Expr) (t21 : List TypeParam) (c21 : Scope) (u21 : Option Scope) (v21 : Str) (o21 : Pos) (n22 : Str) (p22 : Arguments) (b22 : List Stmt) (d22 : List PySem.Expr) (r22 : Option PySem.Expr) (t22 : List TypeParam) (c22 : Scope) (u22 : Option Scope) (v22 : Str) (o22 : Pos) (n23 : Str) (p23 : Arguments) (b23 : List Stmt) (d23 : List PySem.Expr) (r23 : Option PySem.Expr) (t23 : List TypeParam) (c23 : Scope) (u23 : Option Scope) (v23 : Str) (o23 : Pos), PySem.Challenge.pw_xm0634_01.main.body = [s0, (.ClassDef k0 k1 k2 [(.FunctionDef n90 p90 b90 d90 r90 t90 c90 u90 v90 o90)] k4 k5 k6 k7 k8 k9 k10), (.FunctionDef n2 p2 b2 d2 r2 t2 c2 u2 v2 o2), (.FunctionDef n3 p3 b3 d3 r3 t3 c3 u3 v3 o3), (.FunctionDef n4 p4 b4 d4 r4 t4 c4 u4 v4 o4), (.FunctionDef n5 p5 b5 d5 r5 t5 c5 u5 v5 o5), (.FunctionDef n6 p6 b6 d6 r6 t6 c6 u6 v6 o6), (.FunctionDef n7 p7 b7 d7 r7 t7 c7 u7 v7 o7), s8, (.FunctionDef n9 p9 b9 d9 r9 t9 c9 u9 v9 o9), (.FunctionDef n10 p10 b10 d10 r10 t10 c10 u10 v10 o10), (.FunctionDef n11 p11 b11 d11 r11 t11 c11 u11 v11 o11), (.FunctionDef n12 p12 b12 d12 r12 t12 c12 u12 v12 o12), (.FunctionDef n13 p13 b13 d13 r13 t13 c13 u13 v13 o13), (.FunctionDef n14 p14 b14 d14 r14 t14 c14 u14 v14 o14), (.FunctionDef n15 p15 b15 d15 r15 t15 c15 u15 v15 o15), (.FunctionDef n16 p16 b16 d16 r16 t16 c16 u16 v16 o16), (.FunctionDef n17 p17 b17 d17 r17 t17 c17 u17 v17 o17), (.FunctionDef n18 p18 b18 d18 r18 t18 c18 u18 v18 o18), (.FunctionDef n19 p19 b19 d19 r19 t19 c19 u19 v19 o19), (.FunctionDef n20 p20 b20 d20 r20 t20 c20 u20 v20 o20), (.FunctionDef n21 p21 b21 d21 r21 t21 c21 u21 v21 o21), (.FunctionDef n22 p22 b22 d22 r22 t22 c22 u22 v22 o22), (.FunctionDef n23 p23 b23 d23 r23 t23 c23 u23 v23 o23)] → Params → Frag) _ _ _ _ _ _ _ _ _ _ _ _ _ _ _ _ _ _ _ _ _ _ _ _ _ _ _ _ _ _ _ _ _ _ _ _ _ _ _ _ _ _ _ _ _ _ _ _ _ _ _ _ _ _ _ _ _ _ _ _ _ _ _ _ _ _ _ _ _ _ _ _ _ _ _ _ _ _ _ _ _ _ _ _ _ _ _ _ _ _ _ _ _ _ _ _ _ _ _ _ _ _ _ _ _ _ _ _ _ _ _ _ _ _ _ _ _ _ _ _ _ _ _ _ _ _ _ _ _ _ _ _ _ _ _ _ _ _ _ _ _ _ _ _ _ _ _ _ _ _ _ _ _ _ _ _ _ _ _ _ _ _ _ _ _ _ _ _ _ _ _ _ _ _ _ _ _ _ _ _ _ _ _ _ _ _ _ _ _ _ _ _ _ _ _ _ _ _ _ _ _ _ _ _ _ _ _ _ _ _ _ _ _ _ _ _ _ _ _ _ _ _ _ _ _ _ _ _ _ _ _ _ rfl
  exact fun _ _ p90 b90 _ _ _ c90 _ _ _ _ _ _ _ _ _ _ _ _ _ _ p2 b2 _ _ _ c2 _ _ _ _ p3 b3 _ _ _ c3 _ _ _ _ p4 b4 _ _ _ c4 _ _ _ _ p5 b5 _ _ _ c5 _ _ _ _ p6 b6 _ _ _ c6 _ _ _ _ p7 b7 _ _ _ c7 _ _ _ _ _ p9 b9 _ _ _ c9 _ _ _ _ p10 b10 _ _ _ c10 _ _ _ _ p11 b11 _ _ _ c11 _ _ _ _ p12 b12 _ _ _ c12 _ _ _ _ p13 b13 _ _ _ c13 _ _ _ _ p14 b14 _ _ _ c14 _ _ _ _ p15 b15 _ _ _ c15 _ _ _ _ p16 b16 _ _ _ c16 _ _ _ _ p17 b17 _ _ _ c17 _ _ _ _ p18 b18 _ _ _ c18 _ _ _ _ p19 b19 _ _ _ c19 _ _ _ _ p20 b20 _ _ _ c20 _ _ _ _ p21 b21 _ _ _ c21 _ _ _ _ p22 b22 _ _ _ c22 _ _ _ _ p23 b23 _ _ _ c23 _ _ _ _ => fun P =>
   (nat_lit 2, (Obj.mk Value.none none (Data.dict #[] 0) #[])) ::
    (nat_lit 3, (Obj.mk (Value.type "dict") none (Data.dict #[(DictEntry.mk (PyData.keyHash P "__name__") (Value.str "__name__" 165) (Value.str "law_xm0634_01" 281)), (DictEntry.mk (PyData.keyHash P "__doc__") (Value.str "__doc__" 166) Value.none), (DictEntry.mk (PyData.keyHash P "__package__") (Value.str "__package__" 167) Value.none), (DictEntry.mk (PyData.keyHash P "__loader__") (Value.str "__loader__" 168) (Value.builtin "__main__.__loader__#opaque")), (DictEntry.mk (PyData.keyHash P "__spec__") (Value.str "__spec__" 169) Value.none), (DictEntry.mk (PyData.keyHash P "__annotations__") (Value.str "__annotations__" 170) (Value.ref 6)), (DictEntry.mk (PyData.keyHash P "__builtins__") (Value.str "__builtins__" 171) (Value.ref 4)), (DictEntry.mk (PyData.keyHash P "__file__") (Value.str "__file__" 173) (Value.str "/claim/cut.py" 172)), (DictEntry.mk (PyData.keyHash P "__cached__") (Value.str "__cached__" 174) Value.none), (DictEntry.mk (PyData.keyHash P "Order") (Value.str "Order" 221) (Value.ref 32)), (DictEntry.mk (PyData.keyHash P "sign_of") (Value.str "sign_of" 229) (Value.ref 43)), (DictEntry.mk (PyData.keyHash P "compared_as_numbers") (Value.str "compared_as_numbers" 237) (Value.ref 50)), (DictEntry.mk (PyData.keyHash P "compared_as_texts") (Value.str "compared_as_texts" 247) (Value.ref 57)), (DictEntry.mk (PyData.keyHash P "compared") (Value.str "compared" 257) (Value.ref 64)), (DictEntry.mk (PyData.keyHash P "compared_rows") (Value.str "compared_rows" 268) (Value.ref 71)), (DictEntry.mk (PyData.keyHash P "merged") (Value.str "merged" 280) (Value.ref 78)), (DictEntry.mk (PyData.keyHash P "_law_pool") (Value.str "_law_pool" 293) (Value.ref 85)), (DictEntry.mk (PyData.keyHash P "_law_take") (Value.str "_law_take" 302) (Value.ref 92)), (DictEntry.mk (PyData.keyHash P "_law_one") (Value.str "_law_one" 310) (Value.ref 99)), (DictEntry.mk (PyData.keyHash P "_law_number") (Value.str "_law_number" 318) (Value.ref 106)), (DictEntry.mk (PyData.keyHash P "_law_text") (Value.str "_law_text" 324) (Value.ref 111)), (DictEntry.mk (PyData.keyHash P "_law_rank") (Value.str "_law_rank" 331) (Value.ref 118)), (DictEntry.mk (PyData.keyHash P "_law_letters") (Value.str "_law_letters" 337) (Value.ref 123)), (DictEntry.mk (PyData.keyHash P "_law_sign") (Value.str "_law_sign" 345) (Value.ref 130)), (DictEntry.mk (PyData.keyHash P "_law_due") (Value.str "_law_due" 358) (Value.ref 137)), (DictEntry.mk (PyData.keyHash P "_law_due_rows") (Value.str "_law_due_rows" 364) (Value.ref 142)), (DictEntry.mk (PyData.keyHash P "_law_pairs_right") (Value.str "_law_pairs_right" 370) (Value.ref 147)), (DictEntry.mk (PyData.keyHash P "_law_row") (Value.str "_law_row" 376) (Value.ref 152)), (DictEntry.mk (PyData.keyHash P "_law_listed") (Value.str "_law_listed" 389) (Value.ref 159)), (DictEntry.mk (PyData.keyHash P "_law_merged_right") (Value.str "_law_merged_right" 395) (Value.ref 164)), (DictEntry.mk (PyData.keyHash P "law") (Value.str "law" 404) (Value.ref 171))] 31) #[])) ::
    (nat_lit 22, (Obj.mk (Value.type "tuple") none (Data.seq #[(Value.bool Bool.false), (Value.bool Bool.false), Value.none] 0) #[])) ::
    (nat_lit 23, (Obj.mk (Value.type "tuple") none (Data.seq #[] 0) #[])) ::
    (nat_lit 25, (Obj.mk (Value.type "tuple") none (Data.seq #[(Value.str "self" 204), (Value.str "is_number" 205), (Value.str "is_descending" 206), (Value.str "upper_first" 207)] 0) #[])) ::
    (nat_lit 26, (Obj.mk (Value.type "tuple") none (Data.seq #[] 0) #[])) ::
    (nat_lit 28, (Obj.mk (Value.type "code") none (Data.fields #[(Value.str "__init__" 201), (Value.str "Order.__init__" 202), (Value.str "/claim/cut.py" 203), (Value.int 4 0), (Value.int 4 0), (Value.int 0 0), (Value.int 0 0), (Value.int 3 0), (Value.ref 23), (Value.bool Bool.true), (Value.int 181 0), (Value.ref 24), Value.none, (Value.ref 25), (Value.ref 26), (Value.ref 27), (Value.int 208 0), (Value.int 4 0), (Value.str "/claim/cut.py" 209)]) #[])) ::
    (nat_lit 29, (Obj.mk (Value.type "function") none (Data.func (FuncData.mk "__init__" "Order.__init__" p90 (FuncBody.stmts b90) c90 3 [] (Value.ref 22) Value.none Value.none (Value.str "markupmill.sorting" 187) none (Value.ref 28) Value.none 0)) #[])) ::
    (nat_lit 30, (Obj.mk (Value.type "tuple") none (Data.seq #[(Value.str "is_descending" 211), (Value.str "is_number" 212), (Value.str "upper_first" 213)] 0) #[])) ::
    (nat_lit 31, (Obj.mk (Value.type "dict") none (Data.dict #[(DictEntry.mk (PyData.keyHash P "__module__") (Value.str "__module__" 196) (Value.str "markupmill.sorting" 187)), (DictEntry.mk (PyData.keyHash P "__firstlineno__") (Value.str "__firstlineno__" 200) (Value.int 2 199)), (DictEntry.mk (PyData.keyHash P "__init__") (Value.str "__init__" 210) (Value.ref 29)), (DictEntry.mk (PyData.keyHash P "__static_attributes__") (Value.str "__static_attributes__" 214) (Value.ref 30)), (DictEntry.mk (PyData.keyHash P "__dict__") (Value.str "__dict__" 216) (Value.ref 33)), (DictEntry.mk (PyData.keyHash P "__weakref__") (Value.str "__weakref__" 218) (Value.ref 34)), (DictEntry.mk (PyData.keyHash P "__doc__") (Value.str "__doc__" 219) Value.none)] 4) #[])) ::
    (nat_lit 32, (Obj.mk (Value.type "type") none (Data.cls (ClassData.mk "Order" [(Value.type "object")] [(Value.ref 32), (Value.type "object")] 31 "Order" Bool.true [] [] Bool.false none Bool.false)) #[none, none, (some (Value.str "Order" 189)), (some (Value.str "Order" 197)), (some (Value.builtin "object.__new__")), (some (Value.bool Bool.true))])) ::
    (nat_lit 33, (Obj.mk (Value.type "getset_descriptor") none (Data.fields #[(Value.str "__dict__" 215), (Value.ref 32), (Value.builtin "function.__dict__"), (Value.builtin "function.__dict__#set")]) #[])) ::
    (nat_lit 34, (Obj.mk (Value.type "getset_descriptor") none (Data.fields #[(Value.str "__weakref__" 217), (Value.ref 32), (Value.builtin "ExceptionGroup.__weakref__"), Value.none]) #[])) ::
    (nat_lit 37, (Obj.mk (Value.type "tuple") none (Data.seq #[] 0) #[])) ::
    (nat_lit 39, (Obj.mk (Value.type "tuple") none (Data.seq #[(Value.str "one" 225), (Value.str "other" 226)] 0) #[])) ::
    (nat_lit 40, (Obj.mk (Value.type "tuple") none (Data.seq #[] 0) #[])) ::
    (nat_lit 42, (Obj.mk (Value.type "code") none (Data.fields #[(Value.str "sign_of" 222), (Value.str "sign_of" 223), (Value.str "/claim/cut.py" 224), (Value.int 8 0), (Value.int 2 0), (Value.int 0 0), (Value.int 0 0), (Value.int 3 0), (Value.ref 37), (Value.bool Bool.true), (Value.int 181 0), (Value.ref 38), Value.none, (Value.ref 39), (Value.ref 40), (Value.ref 41), (Value.int 227 0), (Value.int 8 0), (Value.str "/claim/cut.py" 228)]) #[])) ::
    (nat_lit 43, (Obj.mk (Value.type "function") none (Data.func (FuncData.mk "sign_of" "sign_of" p2 (FuncBody.stmts b2) c2 3 [] Value.none Value.none Value.none (Value.str "markupmill.sorting" 187) none (Value.ref 42) Value.none 0)) #[])) ::
    (nat_lit 44, (Obj.mk (Value.type "tuple") none (Data.seq #[] 0) #[])) ::
    (nat_lit 46, (Obj.mk (Value.type "tuple") none (Data.seq #[(Value.str "one" 233), (Value.str "other" 234)] 0) #[])) ::
    (nat_lit 47, (Obj.mk (Value.type "tuple") none (Data.seq #[] 0) #[])) ::
    (nat_lit 49, (Obj.mk (Value.type "code") none (Data.fields #[(Value.str "compared_as_numbers" 230), (Value.str "compared_as_numbers" 231), (Value.str "/claim/cut.py" 232), (Value.int 12 0), (Value.int 2 0), (Value.int 0 0), (Value.int 0 0), (Value.int 3 0), (Value.ref 44), (Value.bool Bool.true), (Value.int 181 0), (Value.ref 45), Value.none, (Value.ref 46), (Value.ref 47), (Value.ref 48), (Value.int 235 0), (Value.int 12 0), (Value.str "/claim/cut.py" 236)]) #[])) ::
    (nat_lit 50, (Obj.mk (Value.type "function") none (Data.func (FuncData.mk "compared_as_numbers" "compared_as_numbers" p3 (FuncBody.stmts b3) c3 3 [] Value.none Value.none Value.none (Value.str "markupmill.sorting" 187) none (Value.ref 49) Value.none 0)) #[])) ::
    (nat_lit 51, (Obj.mk (Value.type "tuple") none (Data.seq #[] 0) #[])) ::
    (nat_lit 53, (Obj.mk (Value.type "tuple") none (Data.seq #[(Value.str "one" 241), (Value.str "other" 242), (Value.str "upper_first" 243), (Value.str "sign" 244)] 0) #[])) ::
    (nat_lit 54, (Obj.mk (Value.type "tuple") none (Data.seq #[] 0) #[])) ::
    (nat_lit 56, (Obj.mk (Value.type "code") none (Data.fields #[(Value.str "compared_as_texts" 238), (Value.str "compared_as_texts" 239), (Value.str "/claim/cut.py" 240), (Value.int 18 0), (Value.int 3 0), (Value.int 0 0), (Value.int 0 0), (Value.int 3 0), (Value.ref 51), (Value.bool Bool.true), (Value.int 181 0), (Value.ref 52), Value.none, (Value.ref 53), (Value.ref 54), (Value.ref 55), (Value.int 245 0), (Value.int 18 0), (Value.str "/claim/cut.py" 246)]) #[])) ::
    (nat_lit 57, (Obj.mk (Value.type "function") none (Data.func (FuncData.mk "compared_as_texts" "compared_as_texts" p4 (FuncBody.stmts b4) c4 3 [] Value.none Value.none Value.none (Value.str "markupmill.sorting" 187) none (Value.ref 56) Value.none 0)) #[])) ::
    (nat_lit 58, (Obj.mk (Value.type "tuple") none (Data.seq #[] 0) #[])) ::
    (nat_lit 60, (Obj.mk (Value.type "tuple") none (Data.seq #[(Value.str "order" 251), (Value.str "one" 252), (Value.str "other" 253), (Value.str "sign" 254)] 0) #[])) ::
    (nat_lit 61, (Obj.mk (Value.type "tuple") none (Data.seq #[] 0) #[])) ::
    (nat_lit 63, (Obj.mk (Value.type "code") none (Data.fields #[(Value.str "compared" 248), (Value.str "compared" 249), (Value.str "/claim/cut.py" 250), (Value.int 25 0), (Value.int 3 0), (Value.int 0 0), (Value.int 0 0), (Value.int 3 0), (Value.ref 58), (Value.bool Bool.true), (Value.int 181 0), (Value.ref 59), Value.none, (Value.ref 60), (Value.ref 61), (Value.ref 62), (Value.int 255 0), (Value.int 25 0), (Value.str "/claim/cut.py" 256)]) #[])) ::
    (nat_lit 64, (Obj.mk (Value.type "function") none (Data.func (FuncData.mk "compared" "compared" p5 (FuncBody.stmts b5) c5 3 [] Value.none Value.none Value.none (Value.str "markupmill.sorting" 187) none (Value.ref 63) Value.none 0)) #[])) ::
    (nat_lit 65, (Obj.mk (Value.type "tuple") none (Data.seq #[] 0) #[])) ::
    (nat_lit 67, (Obj.mk (Value.type "tuple") none (Data.seq #[(Value.str "orders" 261), (Value.str "one" 262), (Value.str "other" 263), (Value.str "place" 264), (Value.str "sign" 265)] 0) #[])) ::
    (nat_lit 68, (Obj.mk (Value.type "tuple") none (Data.seq #[] 0) #[])) ::
    (nat_lit 70, (Obj.mk (Value.type "code") none (Data.fields #[(Value.str "compared_rows" 258), (Value.str "compared_rows" 259), (Value.str "/claim/cut.py" 260), (Value.int 31 0), (Value.int 3 0), (Value.int 0 0), (Value.int 0 0), (Value.int 3 0), (Value.ref 65), (Value.bool Bool.true), (Value.int 181 0), (Value.ref 66), Value.none, (Value.ref 67), (Value.ref 68), (Value.ref 69), (Value.int 266 0), (Value.int 31 0), (Value.str "/claim/cut.py" 267)]) #[])) ::
    (nat_lit 71, (Obj.mk (Value.type "function") none (Data.func (FuncData.mk "compared_rows" "compared_rows" p6 (FuncBody.stmts b6) c6 3 [] Value.none Value.none Value.none (Value.str "markupmill.sorting" 187) none (Value.ref 70) Value.none 0)) #[])) ::
    (nat_lit 72, (Obj.mk (Value.type "tuple") none (Data.seq #[] 0) #[])) ::
    (nat_lit 74, (Obj.mk (Value.type "tuple") none (Data.seq #[(Value.str "orders" 272), (Value.str "one" 273), (Value.str "other" 274), (Value.str "found" 275), (Value.str "first" 276), (Value.str "second" 277)] 0) #[])) ::
    (nat_lit 75, (Obj.mk (Value.type "tuple") none (Data.seq #[] 0) #[])) ::
    (nat_lit 77, (Obj.mk (Value.type "code") none (Data.fields #[(Value.str "merged" 269), (Value.str "merged" 270), (Value.str "/claim/cut.py" 271), (Value.int 37 0), (Value.int 3 0), (Value.int 0 0), (Value.int 0 0), (Value.int 3 0), (Value.ref 72), (Value.bool Bool.true), (Value.int 181 0), (Value.ref 73), Value.none, (Value.ref 74), (Value.ref 75), (Value.ref 76), (Value.int 278 0), (Value.int 37 0), (Value.str "/claim/cut.py" 279)]) #[])) ::
    (nat_lit 78, (Obj.mk (Value.type "function") none (Data.func (FuncData.mk "merged" "merged" p7 (FuncBody.stmts b7) c7 3 [] Value.none Value.none Value.none (Value.str "markupmill.sorting" 187) none (Value.ref 77) Value.none 0)) #[])) ::
    (nat_lit 79, (Obj.mk (Value.type "tuple") none (Data.seq #[] 0) #[])) ::
    (nat_lit 81, (Obj.mk (Value.type "tuple") none (Data.seq #[(Value.str "script" 286), (Value.str "k" 287), (Value.str "cell" 288), (Value.str "great" 289), (Value.str "stirred" 290)] 0) #[])) ::
    (nat_lit 82, (Obj.mk (Value.type "tuple") none (Data.seq #[] 0) #[])) ::
    (nat_lit 84, (Obj.mk (Value.type "code") none (Data.fields #[(Value.str "_law_pool" 283), (Value.str "_law_pool" 284), (Value.str "/claim/cut.py" 285), (Value.int 50 0), (Value.int 2 0), (Value.int 0 0), (Value.int 0 0), (Value.int 3 0), (Value.ref 79), (Value.bool Bool.true), (Value.int 181 0), (Value.ref 80), Value.none, (Value.ref 81), (Value.ref 82), (Value.ref 83), (Value.int 291 0), (Value.int 50 0), (Value.str "/claim/cut.py" 292)]) #[])) ::
    (nat_lit 85, (Obj.mk (Value.type "function") none (Data.func (FuncData.mk "_law_pool" "_law_pool" p9 (FuncBody.stmts b9) c9 3 [] Value.none Value.none Value.none (Value.str "law_xm0634_01" 281) none (Value.ref 84) Value.none 0)) #[])) ::
    (nat_lit 86, (Obj.mk (Value.type "tuple") none (Data.seq #[] 0) #[])) ::
    (nat_lit 88, (Obj.mk (Value.type "tuple") none (Data.seq #[(Value.str "source" 297), (Value.str "top" 298), (Value.str "figure" 299)] 0) #[])) ::
    (nat_lit 89, (Obj.mk (Value.type "tuple") none (Data.seq #[] 0) #[])) ::
    (nat_lit 91, (Obj.mk (Value.type "code") none (Data.fields #[(Value.str "_law_take" 294), (Value.str "_law_take" 295), (Value.str "/claim/cut.py" 296), (Value.int 55 0), (Value.int 2 0), (Value.int 0 0), (Value.int 0 0), (Value.int 3 0), (Value.ref 86), (Value.bool Bool.true), (Value.int 181 0), (Value.ref 87), Value.none, (Value.ref 88), (Value.ref 89), (Value.ref 90), (Value.int 300 0), (Value.int 55 0), (Value.str "/claim/cut.py" 301)]) #[])) ::
    (nat_lit 92, (Obj.mk (Value.type "function") none (Data.func (FuncData.mk "_law_take" "_law_take" p10 (FuncBody.stmts b10) c10 3 [] Value.none Value.none Value.none (Value.str "law_xm0634_01" 281) none (Value.ref 91) Value.none 0)) #[])) ::
    (nat_lit 93, (Obj.mk (Value.type "tuple") none (Data.seq #[] 0) #[])) ::
    (nat_lit 95, (Obj.mk (Value.type "tuple") none (Data.seq #[(Value.str "source" 306), (Value.str "things" 307)] 0) #[])) ::
    (nat_lit 96, (Obj.mk (Value.type "tuple") none (Data.seq #[] 0) #[])) ::
    (nat_lit 98, (Obj.mk (Value.type "code") none (Data.fields #[(Value.str "_law_one" 303), (Value.str "_law_one" 304), (Value.str "/claim/cut.py" 305), (Value.int 62 0), (Value.int 2 0), (Value.int 0 0), (Value.int 0 0), (Value.int 3 0), (Value.ref 93), (Value.bool Bool.true), (Value.int 181 0), (Value.ref 94), Value.none, (Value.ref 95), (Value.ref 96), (Value.ref 97), (Value.int 308 0), (Value.int 62 0), (Value.str "/claim/cut.py" 309)]) #[])) ::
    (nat_lit 99, (Obj.mk (Value.type "function") none (Data.func (FuncData.mk "_law_one" "_law_one" p11 (FuncBody.stmts b11) c11 3 [] Value.none Value.none Value.none (Value.str "law_xm0634_01" 281) none (Value.ref 98) Value.none 0)) #[])) ::
    (nat_lit 100, (Obj.mk (Value.type "tuple") none (Data.seq #[] 0) #[])) ::
    (nat_lit 102, (Obj.mk (Value.type "tuple") none (Data.seq #[(Value.str "source" 314), (Value.str "some" 315)] 0) #[])) ::
    (nat_lit 103, (Obj.mk (Value.type "tuple") none (Data.seq #[] 0) #[])) ::
    (nat_lit 105, (Obj.mk (Value.type "code") none (Data.fields #[(Value.str "_law_number" 311), (Value.str "_law_number" 312), (Value.str "/claim/cut.py" 313), (Value.int 64 0), (Value.int 1 0), (Value.int 0 0), (Value.int 0 0), (Value.int 3 0), (Value.ref 100), (Value.bool Bool.true), (Value.int 181 0), (Value.ref 101), Value.none, (Value.ref 102), (Value.ref 103), (Value.ref 104), (Value.int 316 0), (Value.int 64 0), (Value.str "/claim/cut.py" 317)]) #[])) ::
    (nat_lit 106, (Obj.mk (Value.type "function") none (Data.func (FuncData.mk "_law_number" "_law_number" p12 (FuncBody.stmts b12) c12 3 [] Value.none Value.none Value.none (Value.str "law_xm0634_01" 281) none (Value.ref 105) Value.none 0)) #[])) ::
    (nat_lit 107, (Obj.mk (Value.type "tuple") none (Data.seq #[] 0) #[])) ::
    (nat_lit 110, (Obj.mk (Value.type "code") none (Data.fields #[(Value.str "_law_text" 319), (Value.str "_law_text" 320), (Value.str "/claim/cut.py" 321), (Value.int 67 0), (Value.int 1 0), (Value.int 0 0), (Value.int 0 0), (Value.int 3 0), (Value.ref 107), (Value.bool Bool.true), (Value.int 181 0), (Value.ref 108), Value.none, Value.none, Value.none, (Value.ref 109), (Value.int 322 0), (Value.int 67 0), (Value.str "/claim/cut.py" 323)]) #[])) ::
    (nat_lit 111, (Obj.mk (Value.type "function") none (Data.func (FuncData.mk "_law_text" "_law_text" p13 (FuncBody.stmts b13) c13 3 [] Value.none Value.none Value.none (Value.str "law_xm0634_01" 281) none (Value.ref 110) Value.none 0)) #[])) ::
    (nat_lit 112, (Obj.mk (Value.type "tuple") none (Data.seq #[] 0) #[])) ::
    (nat_lit 114, (Obj.mk (Value.type "tuple") none (Data.seq #[(Value.str "value" 328)] 0) #[])) ::
    (nat_lit 115, (Obj.mk (Value.type "tuple") none (Data.seq #[] 0) #[])) ::
    (nat_lit 117, (Obj.mk (Value.type "code") none (Data.fields #[(Value.str "_law_rank" 325), (Value.str "_law_rank" 326), (Value.str "/claim/cut.py" 327), (Value.int 69 0), (Value.int 1 0), (Value.int 0 0), (Value.int 0 0), (Value.int 3 0), (Value.ref 112), (Value.bool Bool.true), (Value.int 181 0), (Value.ref 113), Value.none, (Value.ref 114), (Value.ref 115), (Value.ref 116), (Value.int 329 0), (Value.int 69 0), (Value.str "/claim/cut.py" 330)]) #[])) ::
    (nat_lit 118, (Obj.mk (Value.type "function") none (Data.func (FuncData.mk "_law_rank" "_law_rank" p14 (FuncBody.stmts b14) c14 3 [] Value.none Value.none Value.none (Value.str "law_xm0634_01" 281) none (Value.ref 117) Value.none 0)) #[])) ::
    (nat_lit 119, (Obj.mk (Value.type "tuple") none (Data.seq #[] 0) #[])) ::
    (nat_lit 122, (Obj.mk (Value.type "code") none (Data.fields #[(Value.str "_law_letters" 332), (Value.str "_law_letters" 333), (Value.str "/claim/cut.py" 334), (Value.int 73 0), (Value.int 2 0), (Value.int 0 0), (Value.int 0 0), (Value.int 3 0), (Value.ref 119), (Value.bool Bool.true), (Value.int 181 0), (Value.ref 120), Value.none, Value.none, Value.none, (Value.ref 121), (Value.int 335 0), (Value.int 73 0), (Value.str "/claim/cut.py" 336)]) #[])) ::
    (nat_lit 123, (Obj.mk (Value.type "function") none (Data.func (FuncData.mk "_law_letters" "_law_letters" p15 (FuncBody.stmts b15) c15 3 [] Value.none Value.none Value.none (Value.str "law_xm0634_01" 281) none (Value.ref 122) Value.none 0)) #[])) ::
    (nat_lit 124, (Obj.mk (Value.type "tuple") none (Data.seq #[] 0) #[])) ::
    (nat_lit 126, (Obj.mk (Value.type "tuple") none (Data.seq #[(Value.str "one" 341), (Value.str "other" 342)] 0) #[])) ::
    (nat_lit 127, (Obj.mk (Value.type "tuple") none (Data.seq #[] 0) #[])) ::
    (nat_lit 129, (Obj.mk (Value.type "code") none (Data.fields #[(Value.str "_law_sign" 338), (Value.str "_law_sign" 339), (Value.str "/claim/cut.py" 340), (Value.int 78 0), (Value.int 2 0), (Value.int 0 0), (Value.int 0 0), (Value.int 3 0), (Value.ref 124), (Value.bool Bool.true), (Value.int 181 0), (Value.ref 125), Value.none, (Value.ref 126), (Value.ref 127), (Value.ref 128), (Value.int 343 0), (Value.int 78 0), (Value.str "/claim/cut.py" 344)]) #[])) ::
    (nat_lit 130, (Obj.mk (Value.type "function") none (Data.func (FuncData.mk "_law_sign" "_law_sign" p16 (FuncBody.stmts b16) c16 3 [] Value.none Value.none Value.none (Value.str "law_xm0634_01" 281) none (Value.ref 129) Value.none 0)) #[])) ::
    (nat_lit 131, (Obj.mk (Value.type "tuple") none (Data.seq #[] 0) #[])) ::
    (nat_lit 133, (Obj.mk (Value.type "tuple") none (Data.seq #[(Value.str "order" 349), (Value.str "one" 350), (Value.str "other" 351), (Value.str "is_number" 352), (Value.str "is_down" 353), (Value.str "way" 354), (Value.str "sign" 355)] 0) #[])) ::
    (nat_lit 134, (Obj.mk (Value.type "tuple") none (Data.seq #[] 0) #[])) ::
    (nat_lit 136, (Obj.mk (Value.type "code") none (Data.fields #[(Value.str "_law_due" 346), (Value.str "_law_due" 347), (Value.str "/claim/cut.py" 348), (Value.int 80 0), (Value.int 3 0), (Value.int 0 0), (Value.int 0 0), (Value.int 3 0), (Value.ref 131), (Value.bool Bool.true), (Value.int 181 0), (Value.ref 132), Value.none, (Value.ref 133), (Value.ref 134), (Value.ref 135), (Value.int 356 0), (Value.int 80 0), (Value.str "/claim/cut.py" 357)]) #[])) ::
    (nat_lit 137, (Obj.mk (Value.type "function") none (Data.func (FuncData.mk "_law_due" "_law_due" p17 (FuncBody.stmts b17) c17 3 [] Value.none Value.none Value.none (Value.str "law_xm0634_01" 281) none (Value.ref 136) Value.none 0)) #[])) ::
    (nat_lit 138, (Obj.mk (Value.type "tuple") none (Data.seq #[] 0) #[])) ::
    (nat_lit 141, (Obj.mk (Value.type "code") none (Data.fields #[(Value.str "_law_due_rows" 359), (Value.str "_law_due_rows" 360), (Value.str "/claim/cut.py" 361), (Value.int 87 0), (Value.int 3 0), (Value.int 0 0), (Value.int 0 0), (Value.int 3 0), (Value.ref 138), (Value.bool Bool.true), (Value.int 181 0), (Value.ref 139), Value.none, Value.none, Value.none, (Value.ref 140), (Value.int 362 0), (Value.int 87 0), (Value.str "/claim/cut.py" 363)]) #[])) ::
    (nat_lit 142, (Obj.mk (Value.type "function") none (Data.func (FuncData.mk "_law_due_rows" "_law_due_rows" p18 (FuncBody.stmts b18) c18 3 [] Value.none Value.none Value.none (Value.str "law_xm0634_01" 281) none (Value.ref 141) Value.none 0)) #[])) ::
    (nat_lit 143, (Obj.mk (Value.type "tuple") none (Data.seq #[] 0) #[])) ::
    (nat_lit 146, (Obj.mk (Value.type "code") none (Data.fields #[(Value.str "_law_pairs_right" 365), (Value.str "_law_pairs_right" 366), (Value.str "/claim/cut.py" 367), (Value.int 90 0), (Value.int 1 0), (Value.int 0 0), (Value.int 0 0), (Value.int 3 0), (Value.ref 143), (Value.bool Bool.true), (Value.int 181 0), (Value.ref 144), Value.none, Value.none, Value.none, (Value.ref 145), (Value.int 368 0), (Value.int 90 0), (Value.str "/claim/cut.py" 369)]) #[])) ::
    (nat_lit 147, (Obj.mk (Value.type "function") none (Data.func (FuncData.mk "_law_pairs_right" "_law_pairs_right" p19 (FuncBody.stmts b19) c19 3 [] Value.none Value.none Value.none (Value.str "law_xm0634_01" 281) none (Value.ref 146) Value.none 0)) #[])) ::
    (nat_lit 148, (Obj.mk (Value.type "tuple") none (Data.seq #[] 0) #[])) ::
    (nat_lit 151, (Obj.mk (Value.type "code") none (Data.fields #[(Value.str "_law_row" 371), (Value.str "_law_row" 372), (Value.str "/claim/cut.py" 373), (Value.int 104 0), (Value.int 3 0), (Value.int 0 0), (Value.int 0 0), (Value.int 3 0), (Value.ref 148), (Value.bool Bool.true), (Value.int 181 0), (Value.ref 149), Value.none, Value.none, Value.none, (Value.ref 150), (Value.int 374 0), (Value.int 104 0), (Value.str "/claim/cut.py" 375)]) #[])) ::
    (nat_lit 152, (Obj.mk (Value.type "function") none (Data.func (FuncData.mk "_law_row" "_law_row" p20 (FuncBody.stmts b20) c20 3 [] Value.none Value.none Value.none (Value.str "law_xm0634_01" 281) none (Value.ref 151) Value.none 0)) #[])) ::
    (nat_lit 153, (Obj.mk (Value.type "tuple") none (Data.seq #[] 0) #[])) ::
    (nat_lit 155, (Obj.mk (Value.type "tuple") none (Data.seq #[(Value.str "source" 380), (Value.str "orders" 381), (Value.str "begin" 382), (Value.str "found" 383), (Value.str "former" 384), (Value.str "turn" 385), (Value.str "spot" 386)] 0) #[])) ::
    (nat_lit 156, (Obj.mk (Value.type "tuple") none (Data.seq #[] 0) #[])) ::
    (nat_lit 158, (Obj.mk (Value.type "code") none (Data.fields #[(Value.str "_law_listed" 377), (Value.str "_law_listed" 378), (Value.str "/claim/cut.py" 379), (Value.int 108 0), (Value.int 3 0), (Value.int 0 0), (Value.int 0 0), (Value.int 3 0), (Value.ref 153), (Value.bool Bool.true), (Value.int 181 0), (Value.ref 154), Value.none, (Value.ref 155), (Value.ref 156), (Value.ref 157), (Value.int 387 0), (Value.int 108 0), (Value.str "/claim/cut.py" 388)]) #[])) ::
    (nat_lit 159, (Obj.mk (Value.type "function") none (Data.func (FuncData.mk "_law_listed" "_law_listed" p21 (FuncBody.stmts b21) c21 3 [] Value.none Value.none Value.none (Value.str "law_xm0634_01" 281) none (Value.ref 158) Value.none 0)) #[])) ::
    (nat_lit 160, (Obj.mk (Value.type "tuple") none (Data.seq #[] 0) #[])) ::
    (nat_lit 163, (Obj.mk (Value.type "code") none (Data.fields #[(Value.str "_law_merged_right" 390), (Value.str "_law_merged_right" 391), (Value.str "/claim/cut.py" 392), (Value.int 117 0), (Value.int 1 0), (Value.int 0 0), (Value.int 0 0), (Value.int 3 0), (Value.ref 160), (Value.bool Bool.true), (Value.int 181 0), (Value.ref 161), Value.none, Value.none, Value.none, (Value.ref 162), (Value.int 393 0), (Value.int 117 0), (Value.str "/claim/cut.py" 394)]) #[])) ::
    (nat_lit 164, (Obj.mk (Value.type "function") none (Data.func (FuncData.mk "_law_merged_right" "_law_merged_right" p22 (FuncBody.stmts b22) c22 3 [] Value.none Value.none Value.none (Value.str "law_xm0634_01" 281) none (Value.ref 163) Value.none 0)) #[])) ::
    (nat_lit 165, (Obj.mk (Value.type "tuple") none (Data.seq #[] 0) #[])) ::
    (nat_lit 167, (Obj.mk (Value.type "tuple") none (Data.seq #[(Value.str "script" 399), (Value.str "heard" 400), (Value.str "source" 401)] 0) #[])) ::
    (nat_lit 168, (Obj.mk (Value.type "tuple") none (Data.seq #[] 0) #[])) ::
    (nat_lit 170, (Obj.mk (Value.type "code") none (Data.fields #[(Value.str "law" 396), (Value.str "law" 397), (Value.str "/claim/cut.py" 398), (Value.int 135 0), (Value.int 1 0), (Value.int 0 0), (Value.int 0 0), (Value.int 3 0), (Value.ref 165), (Value.bool Bool.true), (Value.int 181 0), (Value.ref 166), Value.none, (Value.ref 167), (Value.ref 168), (Value.ref 169), (Value.int 402 0), (Value.int 135 0), (Value.str "/claim/cut.py" 403)]) #[])) ::
    (nat_lit 171, (Obj.mk (Value.type "function") none (Data.func (FuncData.mk "law" "law" p23 (FuncBody.stmts b23) c23 3 [] Value.none Value.none Value.none (Value.str "law_xm0634_01" 281) none (Value.ref 170) Value.none 0)) #[])) :: []
set_option maxHeartbeats 4000000 in
noncomputable def q0 : Program := by
  refine (?f : ∀ (s0 : Stmt) (n90 : Str) (p90 : Arguments) (b90 : List Stmt) (d90 : List PySem.Expr) (r90 : Option PySem.Expr) (t90 : List TypeParam) (c90 : Scope) (u90 : Option Scope) (v90 : Str) (o90 : Pos) (k0 : Str) (k1 : List PySem.Expr) (k2 : List Keyword) (k4 : List PySem.Expr) (k5 : List TypeParam) (k6 : Scope) (k7 : Option Scope) (k8 : Str) (k9 : List Str) (k10 : Pos) (n2 : Str) (p2 : Arguments) (b2 : List Stmt) (d2 : List PySem.Expr) (r2 : Option PySem.Expr) (t2 : List TypeParam) (c2 : Scope) (u2 : Option Scope) (v2 : Str) (o2 : Pos) (n3 : Str) (p3 : Arguments) (b3 : List Stmt) (d3 : List PySem.Expr) (r3 : Option PySem.Expr) (t3 : List TypeParam) (c3 : Scope) (u3 : Option Scope) (v3 : Str) (o3 : Pos) (n4 : Str) (p4 : Arguments) (b4 : List Stmt) (d4 : List PySem.Expr) (r4 : Option PySem.Expr) (t4 : List TypeParam) (c4 : Scope) (u4 : Option Scope) (v4 : Str) (o4 : Pos) (n5 : Str) (p5 : Arguments) (b5 : List Stmt) (d5 : List PySem.Expr) (r5 : Option PySem.Expr) (t5 : List TypeParam) (c5 : Scope) (u5 : Option Scope) (v5 : Str) (o5 : Pos) (n6 : Str) (p6 : Arguments) (b6 : List Stmt) (d6 : List PySem.Expr) (r6 : Option PySem.Expr) (t6 : List TypeParam) (c6 : Scope) (u6 : Option Scope) (v6 : Str) (o6 : Pos) (n7 : Str) (p7 : Arguments) (b7 : List Stmt) (d7 : List PySem.Expr) (r7 : Option PySem.Expr) (t7 : List TypeParam) (c7 : Scope) (u7 : Option Scope) (v7 : Str) (o7 : Pos) (s8 : Stmt) (n9 : Str) (p9 : Arguments) (b9 : List Stmt) (d9 : List PySem.Expr) (r9 : Option PySem.Expr) (t9 : List TypeParam) (c9 : Scope) (u9 : Option Scope) (v9 : Str) (o9 : Pos) (n10 : Str) (p10 : Arguments) (b10 : List Stmt) (d10 : List PySem.Expr) (r10 : Option PySem.Expr) (t10 : List TypeParam) (c10 : Scope) (u10 : Option Scope) (v10 : Str) (o10 : Pos) (n11 : Str) (p11 : Arguments) (b11 : List Stmt) (d11 : List PySem.Expr) (r11 : Option PySem.Expr) (t11 : List TypeParam) (c11 : Scope) (u11 : Option Scope) (v11 : Str) (o11 : Pos) (n12 : Str) (p12 : Arguments) (b12 : List Stmt) (d12 : List PySem.Expr) (r12 : Option PySem.Expr) (t12 : List TypeParam) (c12 : Scope) (u12 : Option Scope) (v12 : Str) (o12 : Pos) (n13 : Str) (p13 : Arguments) (b13 : List Stmt) (d13 : List PySem.Expr) (r13 : Option PySem.Expr) (t13 : List TypeParam) (c13 : Scope) (u13 : Option Scope) (v13 : Str) (o13 : Pos) (n14 : Str) (p14 : Arguments) (b14 : List Stmt) (d14 : List PySem.Expr) (r14 : Option PySem.Expr) (t14 : List TypeParam) (c14 : Scope) (u14 : Option Scope) (v14 : Str) (o14 : Pos) (n15 : Str) (p15 : Arguments) (b15 : List Stmt) (d15 : List PySem.Expr) (r15 : Option PySem.Expr) (t15 : List TypeParam) (c15 : Scope) (u15 : Option Scope) (v15 : Str) (o15 : Pos) (n16 : Str) (p16 : Arguments) (b16 : List Stmt) (d16 : List PySem.Expr) (r16 : Option PySem.Expr) (t16 : List TypeParam) (c16 : Scope) (u16 : Option Scope) (v16 : Str) (o16 : Pos) (n17 : Str) (p17 : Arguments) (b17 : List Stmt) (d17 : List PySem.Expr) (r17 : Option PySem.Expr) (t17 : List TypeParam) (c17 : Scope) (u17 : Option Scope) (v17 : Str) (o17 : Pos) (n18 : Str) (p18 : Arguments) (b18 : List Stmt) (d18 : List PySem.Expr) (r18 : Option PySem.Expr) (t18 : List TypeParam) (c18 : Scope) (u18 : Option Scope) (v18 : Str) (o18 : Pos) (n19 : Str) (p19 : Arguments) (b19 : List Stmt) (d19 : List PySem.Expr) (r19 : Option PySem.Expr) (t19 : List TypeParam) (c19 : Scope) (u19 : Option Scope) (v19 : Str) (o19 : Pos) (n20 : Str) (p20 : Arguments) (b20 : List Stmt) (d20 : List PySem.Expr) (r20 : Option PySem.Expr) (t20 : List TypeParam) (c20 : Scope) (u20 : Option Scope) (v20 : Str) (o20 : Pos) (n21 : Str) (p21 : Arguments) (b21 : List Stmt) (d21 : List PySem.Expr) (r21 : Option PySem.Expr) (t21 : List TypeParam) (c21 : Scope) (u21 : Option Scope) (v21 : Str) (o21 : Pos) (n22 : Str) (p22 : Arguments) (b22 : List Stmt) (d22 : List PySem.Expr) (r22 : Option PySem.Expr) (t22 : List TypeParam) (c22 : Scope) (u22 : Option Scope) (v22 : Str) (o22 : Pos) (n23 : Str) (p23 : Arguments) (b23 : List Stmt) (d23 : List PySem.Expr) (r23 : Option PySem.Expr) (t23 : List TypeParam) (c23 : Scope) (u23 : Option Scope) (v23 : Str) (o23 : Pos), PySem.Challenge.pw_xm0634_01.main.body = [s0, (.ClassDef k0 k1 k2 [(.FunctionDef n90 p90 b90 d90 r90 t90 c90 u90 v90 o90)] k4 k5 k6 k7 k8 k9 k10), (.FunctionDef n2 p2 b2 d2 r2 t2 c2 u2 v2 o2), (.FunctionDef n3 p3 b3 d3 r3 t3 c3 u3 v3 o3), (.FunctionDef n4 p4 b4 d4 r4 t4 c4 u4 v4 o4), (.FunctionDef n5 p5 b5 d5 r5 t5 c5 u5 v5 o5), (.FunctionDef n6 p6 b6 d6 r6 t6 c6 u6 v6 o6), (.FunctionDef n7 p7 b7 d7 r7 t7 c7 u7 v7 o7), s8, (.FunctionDef n9 p9 b9 d9 r9 t9 c9 u9 v9 o9), (.FunctionDef n10 p10 b10 d10 r10 t10 c10 u10 v10 o10), (.FunctionDef n11 p11 b11 d11 r11 t11 c11 u11 v11 o11), (.FunctionDef n12 p12 b12 d12 r12 t12 c12 u12 v12 o12), (.FunctionDef n13 p13 b13 d13 r13 t13 c13 u13 v13 o13), (.FunctionDef n14 p14 b14 d14 r14 t14 c14 u14 v14 o14), (.FunctionDef n15 p15 b15 d15 r15 t15 c15 u15 v15 o15), (.FunctionDef n16 p16 b16 d16 r16 t16 c16 u16 v16 o16), (.FunctionDef n17 p17 b17 d17 r17 t17 c17 u17 v17 o17), (.FunctionDef n18 p18 b18 d18 r18 t18 c18 u18 v18 o18), (.FunctionDef n19 p19 b19 d19 r19 t19 c19 u19 v19 o19), (.FunctionDef n20 p20 b20 d20 r20 t20 c20 u20 v20 o20), (.FunctionDef n21 p21 b21 d21 r21 t21 c21 u21 v21 o21), (.FunctionDef n22 p22 b22 d22 r22 t22 c22 u22 v22 o22), (.FunctionDef n23 p23 b23 d23 r23 t23 c23 u23 v23 o23)] → Program) _ _ _ _ _ _ _ _ _ _ _ _ _ _ _ _ _ _ _ _ _ _ _ _ _ _ _ _ _ _ _ _ _ _ _ _ _ _ _ _ _ _ _ _ _ _ _ _ _ _ _ _ _ _ _ _ _ _ _ _ _ _ _ _ _ _ _ _ _ _ _ _ _ _ _ _ _ _ _ _ _ _ _ _ _ _ _ _ _ _ _ _ _ _ _ _ _ _ _ _ _ _ _ _ _ _ _ _ _ _ _ _ _ _ _ _ _ _ _ _ _ _ _ _ _ _ _ _ _ _ _ _ _ _ _ _ _ _ _ _ _ _ _ _ _ _ _ _ _ _ _ _ _ _ _ _ _ _ _ _ _ _ _ _ _ _ _ _ _ _ _ _ _ _ _ _ _ _ _ _ _ _ _ _ _ _ _ _ _ _ _ _ _ _ _ _ _ _ _ _ _ _ _ _ _ _ _ _ _ _ _ _ _ _ _ _ _ _ _ _ _ _ _ _ _ _ _ _ _ _ _ _ rfl
  exact fun _ n90 p90 b90 d90 r90 t90 c90 u90 v90 o90 k0 k1 k2 k4 k5 k6 k7 k8 k9 k10 n2 p2 b2 d2 r2 t2 c2 u2 v2 o2 n3 p3 b3 d3 r3 t3 c3 u3 v3 o3 n4 p4 b4 d4 r4 t4 c4 u4 v4 o4 n5 p5 b5 d5 r5 t5 c5 u5 v5 o5 n6 p6 b6 d6 r6 t6 c6 u6 v6 o6 n7 p7 b7 d7 r7 t7 c7 u7 v7 o7 _ n9 p9 b9 d9 r9 t9 c9 u9 v9 o9 n10 p10 b10 d10 r10 t10 c10 u10 v10 o10 n11 p11 b11 d11 r11 t11 c11 u11 v11 o11 n12 p12 b12 d12 r12 t12 c12 u12 v12 o12 n13 p13 b13 d13 r13 t13 c13 u13 v13 o13 n14 p14 b14 d14 r14 t14 c14 u14 v14 o14 n15 p15 b15 d15 r15 t15 c15 u15 v15 o15 n16 p16 b16 d16 r16 t16 c16 u16 v16 o16 n17 p17 b17 d17 r17 t17 c17 u17 v17 o17 n18 p18 b18 d18 r18 t18 c18 u18 v18 o18 n19 p19 b19 d19 r19 t19 c19 u19 v19 o19 n20 p20 b20 d20 r20 t20 c20 u20 v20 o20 n21 p21 b21 d21 r21 t21 c21 u21 v21 o21 n22 p22 b22 d22 r22 t22 c22 u22 v22 o22 n23 p23 b23 d23 r23 t23 c23 u23 v23 o23 _ => { PySem.Challenge.pw_xm0634_01 with main := { PySem.Challenge.pw_xm0634_01.main with body := [(.ClassDef k0 k1 k2 [(.FunctionDef n90 p90 b90 d90 r90 t90 c90 u90 v90 o90)] k4 k5 k6 k7 k8 k9 k10), (.FunctionDef n2 p2 b2 d2 r2 t2 c2 u2 v2 o2), (.FunctionDef n3 p3 b3 d3 r3 t3 c3 u3 v3 o3), (.FunctionDef n4 p4 b4 d4 r4 t4 c4 u4 v4 o4), (.FunctionDef n5 p5 b5 d5 r5 t5 c5 u5 v5 o5), (.FunctionDef n6 p6 b6 d6 r6 t6 c6 u6 v6 o6), (.FunctionDef n7 p7 b7 d7 r7 t7 c7 u7 v7 o7), (.FunctionDef n9 p9 b9 d9 r9 t9 c9 u9 v9 o9), (.FunctionDef n10 p10 b10 d10 r10 t10 c10 u10 v10 o10), (.FunctionDef n11 p11 b11 d11 r11 t11 c11 u11 v11 o11), (.FunctionDef n12 p12 b12 d12 r12 t12 c12 u12 v12 o12), (.FunctionDef n13 p13 b13 d13 r13 t13 c13 u13 v13 o13), (.FunctionDef n14 p14 b14 d14 r14 t14 c14 u14 v14 o14), (.FunctionDef n15 p15 b15 d15 r15 t15 c15 u15 v15 o15), (.FunctionDef n16 p16 b16 d16 r16 t16 c16 u16 v16 o16), (.FunctionDef n17 p17 b17 d17 r17 t17 c17 u17 v17 o17), (.FunctionDef n18 p18 b18 d18 r18 t18 c18 u18 v18 o18), (.FunctionDef n19 p19 b19 d19 r19 t19 c19 u19 v19 o19), (.FunctionDef n20 p20 b20 d20 r20 t20 c20 u20 v20 o20), (.FunctionDef n21 p21 b21 d21 r21 t21 c21 u21 v21 o21), (.FunctionDef n22 p22 b22 d22 r22 t22 c22 u22 v22 o22), (.FunctionDef n23 p23 b23 d23 r23 t23 c23 u23 v23 o23)] } }
set_option maxHeartbeats 4000000 in
noncomputable def d0 : DefRec := by
  refine (?f : ∀ (s0 : Stmt) (n90 : Str) (p90 : Arguments) (b90 : List Stmt) (d90 : List PySem.Expr) (r90 : Option PySem.Expr) (t90 : List TypeParam) (c90 : Scope) (u90 : Option Scope) (v90 : Str) (o90 : Pos) (k0 : Str) (k1 : List PySem.Expr) (k2 : List Keyword) (k4 : List PySem.Expr) (k5 : List TypeParam) (k6 : Scope) (k7 : Option Scope) (k8 : Str) (k9 : List Str) (k10 : Pos) (n2 : Str) (p2 : Arguments) (b2 : List Stmt) (d2 : List PySem.Expr) (r2 : Option PySem.Expr) (t2 : List TypeParam) (c2 : Scope) (u2 : Option Scope) (v2 : Str) (o2 : Pos) (n3 : Str) (p3 : Arguments) (b3 : List Stmt) (d3 : List PySem.Expr) (r3 : Option PySem.Expr) (t3 : List TypeParam) (c3 : Scope) (u3 : Option Scope) (v3 : Str) (o3 : Pos) (n4 : Str) (p4 : Arguments) (b4 : List Stmt) (d4 : List PySem.Expr) (r4 : Option PySem.Expr) (t4 : List TypeParam) (c4 : Scope) (u4 : Option Scope) (v4 : Str) (o4 : Pos) (n5 : Str) (p5 : Arguments) (b5 : List Stmt) (d5 : List PySem.Expr) (r5 : Option PySem.Expr) (t5 : List TypeParam) (c5 : Scope) (u5 : Option Scope) (v5 : Str) (o5 : Pos) (n6 : Str) (p6 : Arguments) (b6 : List Stmt) (d6 : List PySem.Expr) (r6 : Option PySem.Expr) (t6 : List TypeParam) (c6 : Scope) (u6 : Option Scope) (v6 : Str) (o6 : Pos) (n7 : Str) (p7 : Arguments) (b7 : List Stmt) (d7 : List PySem.Expr) (r7 : Option PySem.Expr) (t7 : List TypeParam) (c7 : Scope) (u7 : Option Scope) (v7 : Str) (o7 : Pos) (s8 : Stmt) (n9 : Str) (p9 : Arguments) (b9 : List Stmt) (d9 : List PySem.Expr) (r9 : Option PySem.Expr) (t9 : List TypeParam) (c9 : Scope) (u9 : Option Scope) (v9 : Str) (o9 : Pos) (n10 : Str) (p10 : Arguments) (b10 : List Stmt) (d10 : List PySem.Expr) (r10 : Option PySem.Expr) (t10 : List TypeParam) (c10 : Scope) (u10 : Option Scope) (v10 : Str) (o10 : Pos) (n11 : Str) (p11 : Arguments) (b11 : List Stmt) (d11 : List PySem.Expr) (r11 : Option PySem.Expr) (t11 : List TypeParam) (c11 : Scope) (u11 : Option Scope) (v11 : Str) (o11 : Pos) (n12 : Str) (p12 : Arguments) (b12 : List Stmt) (d12 : List PySem.Expr) (r12 : Option PySem.Expr) (t12 : List TypeParam) (c12 : Scope) (u12 : Option Scope) (v12 : Str) (o12 : Pos) (n13 : Str) (p13 : Arguments) (b13 : List Stmt) (d13 : List PySem.Expr) (r13 : Option PySem.Expr) (t13 : List TypeParam) (c13 : Scope) (u13 : Option Scope) (v13 : Str) (o13 : Pos) (n14 : Str) (p14 : Arguments) (b14 : List Stmt) (d14 : List PySem.Expr) (r14 : Option PySem.Expr) (t14 : List TypeParam) (c14 : Scope) (u14 : Option Scope) (v14 : Str) (o14 : Pos) (n15 : Str) (p15 : Arguments) (b15 : List Stmt) (d15 : List PySem.Expr) (r15 : Option PySem.Expr) (t15 : List TypeParam) (c15 : Scope) (u15 : Option Scope) (v15 : Str) (o15 : Pos) (n16 : Str) (p16 : Arguments) (b16 : List Stmt) (d16 : List PySem.Expr) (r16 : Option PySem.Expr) (t16 : List TypeParam) (c16 : Scope) (u16 : Option Scope) (v16 : Str) (o16 : Pos) (n17 : Str) (p17 : Arguments) (b17 : List Stmt) (d17 : List PySem.Expr) (r17 : Option PySem.Expr) (t17 : List TypeParam) (c17 : Scope) (u17 : Option Scope) (v17 : Str) (o17 : Pos) (n18 : Str) (p18 : Arguments) (b18 : List Stmt) (d18 : List PySem.Expr) (r18 : Option PySem.Expr) (t18 : List TypeParam) (c18 : Scope) (u18 : Option Scope) (v18 : Str) (o18 : Pos) (n19 : Str) (p19 : Arguments) (b19 : List Stmt) (d19 : List PySem.Expr) (r19 : Option PySem.Expr) (t19 : List TypeParam) (c19 : Scope) (u19 : Option Scope) (v19 : Str) (o19 : Pos) (n20 : Str) (p20 : Arguments) (b20 : List Stmt) (d20 : List PySem.Expr) (r20 : Option PySem.Expr) (t20 : List TypeParam) (c20 : Scope) (u20 : Option Scope) (v20 : Str) (o20 : Pos) (n21 : Str) (p21 : Arguments) (b21 : List Stmt) (d21 : List PySem.Expr) (r21 : Option PySem.Expr) (t21 : List TypeParam) (c21 : Scope) (u21 : Option Scope) (v21 : Str) (o21 : Pos) (n22 : Str) (p22 : Arguments) (b22 : List Stmt) (d22 : List PySem.Expr) (r22 : Option PySem.Expr) (t22 : List TypeParam) (c22 : Scope) (u22 : Option Scope) (v22 : Str) (o22 : Pos) (n23 : Str) (p23 : Arguments) (b23 : List Stmt) (d23 : List PySem.Expr) (r23 : Option PySem.Expr) (t23 : List TypeParam) (c23 : Scope) (u23 : Option Scope) (v23 : Str) (o23 : Pos), PySem.Challenge.pw_xm0634_01.main.body = [s0, (.ClassDef k0 k1 k2 [(.FunctionDef n90 p90 b90 d90 r90 t90 c90 u90 v90 o90)] k4 k5 k6 k7 k8 k9 k10), (.FunctionDef n2 p2 b2 d2 r2 t2 c2 u2 v2 o2), (.FunctionDef n3 p3 b3 d3 r3 t3 c3 u3 v3 o3), (.FunctionDef n4 p4 b4 d4 r4 t4 c4 u4 v4 o4), (.FunctionDef n5 p5 b5 d5 r5 t5 c5 u5 v5 o5), (.FunctionDef n6 p6 b6 d6 r6 t6 c6 u6 v6 o6), (.FunctionDef n7 p7 b7 d7 r7 t7 c7 u7 v7 o7), s8, (.FunctionDef n9 p9 b9 d9 r9 t9 c9 u9 v9 o9), (.FunctionDef n10 p10 b10 d10 r10 t10 c10 u10 v10 o10), (.FunctionDef n11 p11 b11 d11 r11 t11 c11 u11 v11 o11), (.FunctionDef n12 p12 b12 d12 r12 t12 c12 u12 v12 o12), (.FunctionDef n13 p13 b13 d13 r13 t13 c13 u13 v13 o13), (.FunctionDef n14 p14 b14 d14 r14 t14 c14 u14 v14 o14), (.FunctionDef n15 p15 b15 d15 r15 t15 c15 u15 v15 o15), (.FunctionDef n16 p16 b16 d16 r16 t16 c16 u16 v16 o16), (.FunctionDef n17 p17 b17 d17 r17 t17 c17 u17 v17 o17), (.FunctionDef n18 p18 b18 d18 r18 t18 c18 u18 v18 o18), (.FunctionDef n19 p19 b19 d19 r19 t19 c19 u19 v19 o19), (.FunctionDef n20 p20 b20 d20 r20 t20 c20 u20 v20 o20), (.FunctionDef n21 p21 b21 d21 r21 t21 c21 u21 v21 o21), (.FunctionDef n22 p22 b22 d22 r22 t22 c22 u22 v22 o22), (.FunctionDef n23 p23 b23 d23 r23 t23 c23 u23 v23 o23)] → DefRec) _ _ _ _ _ _ _ _ _ _ _ _ _ _ _ _ _ _ _ _ _ _ _ _ _ _ _ _ _ _ _ _ _ _ _ _ _ _ _ _ _ _ _ _ _ _ _ _ _ _ _ _ _ _ _ _ _ _ _ _ _ _ _ _ _ _ _ _ _ _ _ _ _ _ _ _ _ _ _ _ _ _ _ _ _ _ _ _ _ _ _ _ _ _ _ _ _ _ _ _ _ _ _ _ _ _ _ _ _ _ _ _ _ _ _ _ _ _ _ _ _ _ _ _ _ _ _ _ _ _ _ _ _ _ _ _ _ _ _ _ _ _ _ _ _ _ _ _ _ _ _ _ _ _ _ _ _ _ _ _ _ _ _ _ _ _ _ _ _ _ _ _ _ _ _ _ _ _ _ _ _ _ _ _ _ _ _ _ _ _ _ _ _ _ _ _ _ _ _ _ _ _ _ _ _ _ _ _ _ _ _ _ _ _ _ _ _ _ _ _ _ _ _ _ _ _ _ _ _ _ _ _ rfl
  exact fun _ _ _ _ _ _ _ _ _ _ _ _ _ _ _ _ _ _ _ _ _ _ _ _ _ _ _ _ _ _ _ _ _ _ _ _ _ _ _ _ _ _ _ _ _ _ _ _ _ _ _ _ _ _ _ _ _ _ _ _ _ _ _ _ _ _ _ _ _ _ _ _ _ _ _ _ _ _ _ _ _ _ _ _ _ _ _ _ _ _ _ _ _ _ _ _ _ _ _ _ _ _ _ _ _ _ _ _ _ _ _ _ _ _ _ _ _ _ _ _ _ _ _ _ _ _ _ _ _ _ _ _ _ _ _ _ _ _ _ _ _ _ _ _ _ _ _ _ _ _ _ _ _ _ _ _ _ _ _ _ _ _ _ _ _ _ _ _ _ _ _ _ _ _ _ _ _ _ _ _ _ _ _ _ _ _ _ _ _ _ _ _ _ _ _ _ _ _ _ _ _ _ _ _ _ _ _ _ _ _ _ _ _ _ _ _ _ _ _ _ _ _ n23 p23 b23 _ _ _ c23 _ _ o23 _ => ⟨n23, p23, b23, c23, o23⟩
noncomputable abbrev pg : Program := PySem.Challenge.rw_xm0634_01.row.prog
def as0 : List Addr := 2 :: 3 :: 22 :: 23 :: 25 :: 26 :: 28 :: 29 :: 30 :: 31 :: 32 :: 33 :: 34 :: 37 :: 39 :: 40 :: 42 :: 43 :: 44 :: 46 :: 47 :: 49 :: 50 :: 51 :: 53 :: 54 :: 56 :: 57 :: 58 :: 60 :: 61 :: 63 :: 64 :: 65 :: 67 :: 68 :: 70 :: 71 :: 72 :: 74 :: 75 :: 77 :: 78 :: 79 :: 81 :: 82 :: 84 :: 85 :: 86 :: 88 :: 89 :: 91 :: 92 :: 93 :: 95 :: 96 :: 98 :: 99 :: 100 :: 102 :: 103 :: 105 :: 106 :: 107 :: 110 :: 111 :: 112 :: 114 :: 115 :: 117 :: 118 :: 119 :: 122 :: 123 :: 124 :: 126 :: 127 :: 129 :: 130 :: 131 :: 133 :: 134 :: 136 :: 137 :: 138 :: 141 :: 142 :: 143 :: 146 :: 147 :: 148 :: 151 :: 152 :: 153 :: 155 :: 156 :: 158 :: 159 :: 160 :: 163 :: 164 :: 165 :: 167 :: 168 :: 170 :: 171 :: []
noncomputable abbrev hk0 : Hook := kHook K0 as0 fun _ => rfl
noncomputable abbrev Xt0 : Shared → Bool := fun s => xlAt q0 [] s && recOk PySem.Challenge.rw_xm0634_01.row.records s
set_option maxHeartbeats 4000000 in
theorem said0 : PySem.Challenge.rw_xm0634_01.wellSaid = true := by
  rw [PySem.W.Fast.te9446332074065402090]
  unfold PySem.W.Fast.tw9446332074065402090 PySem.W.Fast.tw17960256430627541270 PySem.W.Fast.tw2436336058641802641 PySem.W.Fast.tw12908688711261696721
  repeat' (with_reducible refine look_both ?_ ?_)
  all_goals decide +kernel
theorem opens0 : (chainsOk q0 && opensWell pg && (frees PySem.Challenge.rw_xm0634_01.row.toRowW && PySem.Challenge.rw_xm0634_01.row.within.isEmpty)) = true := by decide +kernel
theorem boot0 (w : World) : (fencedOpening treeTable pg w 1878).map (fun s => (s.heap, s.gens, s.drawn, s.toks)) = some (boot_heap w.params, Array.mk [], boot_drawn, boot_toks) :=
  boot_open (p := pg) (N := 1878) rfl rfl (fun _ => rfl) w
/-- the top, run at once; the run, the table and the look in the library's quick forms -/
theorem left0 : LeftO pg q0 [] Xt0 hk0.obs hk0.val 1878 true := fun w => by
  obtain ⟨⟨h, gs, d, k, os⟩, hs, e⟩ := Option.map_eq_some_iff.mp (boot0 w)
  simp only [Prod.mk.injEq] at e
  obtain ⟨rfl, rfl, rfl, rfl⟩ := e
  unfold openEnds
  rw [hs, Option.bind_some]
  unfold topFrom
  rw [PySem.W.Fast.te14082659384304107361, PySem.W.Fast.te14364793385576792824, PySem.W.Fast.te4187177175401517315, PySem.W.Fast.te5923862056798008813]
  kernel_rfl
theorem hd (walk : WalkO q0 [] (XL q0 []) (kHook K0 as0 fun _ => rfl).says PySem.Challenge.rw_xm0634_01.row.toRowW d0 [] fun f vs => PySem.call f vs) : PySem.Challenge.rw_xm0634_01.Holds :=
  holds_law said0 fun said => holds_open (q := q0) (loose := []) (Xt := Xt0) (XP := XL q0 []) (Yf := hk0.obs) (Ya := hk0.val) (YP := hk0.says) (N := 1878) left0 hk0.of hk0.keeps
    (fun s e => xl_of s (Bool.and_eq_true_iff.mp e).1) XL.keeps (by rfl) (by rfl) (by rfl) (fun s e => recFacts_of (Bool.and_eq_true_iff.mp e).2) (by rfl) said opens0
    ⟨rfl, rfl, rfl, rfl, rfl, by decide +kernel⟩ ⟨[WData.list []], by decide +kernel, by decide +kernel⟩ walk
end

section
open PySem
/-! the plain law: no program in sight -/
def sgn (x y : Int) : Int := if x < y then -1 else if y < x then 1 else 0
def sgnT (x y : Str) : Int := if x.cps.toList < y.cps.toList then -1 else if y.cps.toList < x.cps.toList then 1 else 0
def cmpL : List Int → List Int → Int
  | [], [] => 0
  | [], _ :: _ => -1
  | _ :: _, [] => 1
  | a :: as, b :: bs => if a < b then -1 else if b < a then 1 else cmpL as bs
def cmpP (p q : List Int × List Int) : Int := if cmpL p.1 q.1 ≠ 0 then cmpL p.1 q.1 else cmpL p.2 q.2

/-- a sign that orders the things of P -/
structure SO {α : Type} (P : α → Prop) (c : α → α → Int) : Prop where
  anti : ∀ a b, P a → P b → c a b = - c b a
  trans : ∀ a b e, P a → P b → P e → c a b ≤ 0 → c b e ≤ 0 → c a e ≤ 0
theorem SO.eq0 {α : Type} {P : α → Prop} {c : α → α → Int} (S : SO P c) {a b e : α} (ha : P a) (hb : P b) (he : P e) (h : c a b = 0) : c a e = 0 ↔ c b e = 0 := by
  have h1 := S.anti a b ha hb
  have h2 := S.anti a e ha he
  have h3 := S.anti b e hb he
  constructor
  · intro h4
    have x1 := S.trans b a e hb ha he (by omega) (by omega)
    have x2 := S.trans e a b he ha hb (by omega) (by omega)
    omega
  · intro h4
    have x1 := S.trans a b e ha hb he (by omega) (by omega)
    have x2 := S.trans e b a he hb ha (by omega) (by omega)
    omega
theorem SO.lt {α : Type} {P : α → Prop} {c : α → α → Int} (S : SO P c) {a b e : α} (ha : P a) (hb : P b) (he : P e) (h : c a b ≤ 0) (h' : c b e ≤ 0) (hn : c a b ≠ 0 ∨ c b e ≠ 0) : c a e < 0 := by
  have h1 := S.anti a b ha hb
  have h2 := S.anti a e ha he
  have h3 := S.anti b e hb he
  have x := S.trans a b e ha hb he h h'
  rcases Int.lt_or_eq_of_le x with y | y
  · exact y
  · exfalso
    have x1 := S.trans e a b he ha hb (by omega) h
    have x2 := S.trans b e a hb he ha h' (by omega)
    omega
theorem SO.refl {α : Type} {P : α → Prop} {c : α → α → Int} (S : SO P c) {a : α} (ha : P a) : c a a = 0 := by
  have := S.anti a a ha ha; omega
theorem SO.pull {α β : Type} {P : α → Prop} {c : α → α → Int} (S : SO P c) (f : β → α) {P' : β → Prop} (h : ∀ b, P' b → P (f b)) : SO P' (fun a b => c (f a) (f b)) :=
  ⟨fun a b ha hb => S.anti _ _ (h a ha) (h b hb), fun a b e ha hb he => S.trans _ _ _ (h a ha) (h b hb) (h e he)⟩
theorem SO.neg {α : Type} {P : α → Prop} {c : α → α → Int} (S : SO P c) : SO P (fun a b => - c a b) :=
  ⟨fun a b ha hb => by have := S.anti a b ha hb; omega, fun a b e ha hb he h1 h2 => by
    have x1 := S.anti a b ha hb; have x2 := S.anti b e hb he; have x3 := S.anti a e ha he
    have := S.trans e b a he hb ha (by omega) (by omega)
    omega⟩
theorem SO.lex {α : Type} {P : α → Prop} {c d : α → α → Int} (S : SO P c) (T : SO P d) : SO P (fun a b => if c a b ≠ 0 then c a b else d a b) := by
  constructor
  · intro a b ha hb
    have x1 := S.anti a b ha hb
    have x2 := T.anti a b ha hb
    by_cases h : c a b = 0
    · rw [if_neg (by simpa using h), if_neg (by simp; omega)]; exact x2
    · rw [if_pos (by simpa using h), if_pos (by omega)]; exact x1
  · intro a b e ha hb he h1 h2
    have x1 := S.anti a b ha hb
    have x2 := S.anti b e hb he
    have x3 := S.anti a e ha he
    by_cases k1 : c a b = 0
    · rw [if_neg (by simpa using k1)] at h1
      have k2 := S.eq0 ha hb he k1
      by_cases k3 : c b e = 0
      · rw [if_neg (by simpa using k3)] at h2
        rw [if_neg (by simpa using k2.mpr k3)]
        exact T.trans a b e ha hb he h1 h2
      · rw [if_pos (by simpa using k3)] at h2
        rw [if_pos (by simpa using fun z => k3 (k2.mp z))]
        exact S.trans a b e ha hb he (by omega) h2
    · rw [if_pos (by simpa using k1)] at h1
      have h2' : c b e ≤ 0 := by
        by_cases k3 : c b e = 0
        · omega
        · rw [if_pos (by simpa using k3)] at h2; exact h2
      have := S.lt ha hb he h1 h2' (.inl k1)
      rw [if_pos (by omega)]; omega
theorem cmpL_anti : ∀ a b : List Int, cmpL a b = - cmpL b a
  | [], [] => rfl
  | [], _ :: _ => rfl
  | _ :: _, [] => rfl
  | a :: as, b :: bs => by
    simp only [cmpL]
    have := cmpL_anti as bs
    (repeat' split) <;> omega
theorem cmpL_trans : ∀ a b e : List Int, cmpL a b ≤ 0 → cmpL b e ≤ 0 → cmpL a e ≤ 0
  | [], [], e, _, h => h
  | [], _ :: _, [], _, h => by simp [cmpL]
  | [], _ :: _, _ :: _, _, _ => by simp [cmpL]
  | _ :: _, [], _, h, _ => by simp [cmpL] at h
  | _ :: _, _ :: _, [], _, h => by simp [cmpL] at h
  | a :: as, b :: bs, e :: es, h1, h2 => by
    have ih := cmpL_trans as bs es
    simp only [cmpL] at *
    split at h1
    · split at h2
      · rw [if_pos (by omega)]; omega
      · split at h2
        · omega
        · rw [if_pos (by omega)]; omega
    · split at h1
      · omega
      · split at h2
        · rw [if_pos (by omega)]; omega
        · split at h2
          · omega
          · rw [if_neg (by omega), if_neg (by omega)]; exact ih h1 h2
theorem cmpL_SO : SO (fun _ => True) cmpL := ⟨fun a b _ _ => cmpL_anti a b, fun a b e _ _ _ => cmpL_trans a b e⟩
theorem cmpP_SO : SO (fun _ => True) cmpP :=
  SO.lex (c := fun p q : List Int × List Int => cmpL p.1 q.1) (d := fun p q => cmpL p.2 q.2) (cmpL_SO.pull (fun p : List Int × List Int => p.1) fun _ _ => trivial) (cmpL_SO.pull (fun p : List Int × List Int => p.2) fun _ _ => trivial)
theorem cmpL_range : ∀ a b : List Int, cmpL a b = -1 ∨ cmpL a b = 0 ∨ cmpL a b = 1
  | [], [] => by simp [cmpL]
  | [], _ :: _ => by simp [cmpL]
  | _ :: _, [] => by simp [cmpL]
  | a :: as, b :: bs => by
    simp only [cmpL]
    have := cmpL_range as bs
    (repeat' split) <;> omega
theorem cmpP_range (p q : List Int × List Int) : cmpP p q = -1 ∨ cmpP p q = 0 ∨ cmpP p q = 1 := by
  unfold cmpP
  have h1 := cmpL_range p.1 q.1
  have h2 := cmpL_range p.2 q.2
  split <;> assumption
theorem sgn_range (x y : Int) : sgn x y = -1 ∨ sgn x y = 0 ∨ sgn x y = 1 := by unfold sgn; (repeat' split) <;> omega

def codes (t : Str) : List Int := t.cps.toList.map Int.ofNat
theorem cmpL_nat : ∀ a b : List Nat, cmpL (a.map Int.ofNat) (b.map Int.ofNat) = if a < b then -1 else if b < a then 1 else 0
  | [], [] => by simp [cmpL]
  | [], _ :: _ => by simp [cmpL]
  | _ :: _, [] => by simp [cmpL]
  | a :: as, b :: bs => by
    simp only [List.map_cons, cmpL, List.cons_lt_cons_iff, cmpL_nat as bs]
    have e1 : (Int.ofNat a < Int.ofNat b) ↔ a < b := Int.ofNat_lt
    have e2 : (Int.ofNat b < Int.ofNat a) ↔ b < a := Int.ofNat_lt
    simp only [e1, e2]
    by_cases h1 : a < b
    · rw [if_pos (by omega), if_pos (.inl h1)]
    · by_cases h2 : b < a
      · rw [if_neg (by omega), if_pos (by omega), if_neg (by omega), if_pos (.inl h2)]
      · have : a = b := by omega
        subst this
        simp
theorem sgnT_codes (x y : Str) : sgnT x y = cmpL (codes x) (codes y) := (cmpL_nat _ _).symm

inductive Cell where
  | num (x y : Int)
  | txt (t : Str)
structure Od where
  isNum : Bool
  down : Bool
  way : Option Bool
def nums : List (Int × Int) := [(0, 0), (1, 0), (-1, 0), (0, 1), (1, 2), (-1, 2), (1, 3), (2, 3), (-4, 3), (1, 1), (-1, 1), (7, 2)]
def rank (x y : Int) : Int := if y = 0 then (if x = 0 then -1000 else if x = 1 then 900 else -900) else x * (Int.fdiv 6 y)
def TxtOk (t : Str) : Prop := t.cps.size ≤ 3 ∧ ∀ c ∈ t.cps.toList, c = 97 ∨ c = 65 ∨ c = 98 ∨ c = 66
def idx1 (c : Nat) : Int := if c = 97 ∨ c = 65 then 0 else 1
def upper1 (c : Nat) : Bool := decide (65 ≤ c ∧ c ≤ 90)
def form1 (w : Bool) (c : Nat) : Int := if upper1 c ≠ w then 1 else 0
def idxs (t : Str) : List Int := t.cps.toList.map idx1
def forms (w : Bool) (t : Str) : List Int := t.cps.toList.map (form1 w)
def keyT (t : Str) : Option Bool → List Int × List Int
  | none => (codes t, [])
  | some w => (idxs t, forms w t)
def keyC (o : Od) : Cell → List Int × List Int
  | .num x y => ([rank x y], [])
  | .txt t => keyT t o.way
def due0 (o : Od) (a b : Cell) : Int := cmpP (keyC o a) (keyC o b)
def due (o : Od) (a b : Cell) : Int := if o.down then - due0 o a b else due0 o a b
def dueRows : List Od → List Cell → List Cell → Int
  | o :: os, a :: as, b :: bs => if due o a b ≠ 0 then due o a b else dueRows os as bs
  | _, _, _ => 0
theorem due_SO (o : Od) : SO (fun _ => True) (due o) := by
  have h : SO (fun _ : Cell => True) (due0 o) := cmpP_SO.pull (keyC o) fun _ _ => trivial
  by_cases hd : o.down = true
  · have : due o = fun a b => - due0 o a b := by funext a b; simp [due, hd]
    rw [this]; exact h.neg
  · have : due o = due0 o := by funext a b; simp [due, hd]
    rw [this]; exact h
theorem dueRows_SO : ∀ os : List Od, SO (fun r : List Cell => r.length = os.length) (dueRows os)
  | [] => ⟨fun _ _ _ _ => rfl, fun _ _ _ _ _ _ _ _ => Int.le_refl _⟩
  | o :: os => by
    have ih := dueRows_SO os
    have h1 : SO (fun r : List Cell => r.length = (o :: os).length) (fun a b => due o (a.headD (.num 0 0)) (b.headD (.num 0 0))) := (due_SO o).pull _ fun _ _ => trivial
    have h2 : SO (fun r : List Cell => r.length = (o :: os).length) (fun a b => dueRows os a.tail b.tail) := ih.pull List.tail fun b hb => by simp at hb ⊢; omega
    have h3 := h1.lex h2
    constructor
    · intro a b ha hb
      match a, b, ha, hb with
      | a :: as, b :: bs, ha, hb => exact h3.anti (a :: as) (b :: bs) ha hb
    · intro a b e ha hb he
      match a, b, e, ha, hb, he with
      | a :: as, b :: bs, e :: es, ha, hb, he => exact h3.trans (a :: as) (b :: bs) (e :: es) ha hb he

/-- what the program reckons -/
def cmpNum (x1 y1 x2 y2 : Int) : Int :=
  if (x1 = 0 ∧ y1 = 0) ∨ (x2 = 0 ∧ y2 = 0) then sgn (if x1 = 0 ∧ y1 = 0 then 0 else 1) (if x2 = 0 ∧ y2 = 0 then 0 else 1)
  else if y1 = 0 ∧ y2 = 0 then sgn x1 x2 else sgn (x1 * y2) (x2 * y1)
def cmpTxt (x y : Str) : Option Bool → Int
  | none => sgnT x y
  | some u => if sgnT (Txt.lower x) (Txt.lower y) ≠ 0 ∨ x = y then sgnT (Txt.lower x) (Txt.lower y) else if u then sgnT x y else sgnT y x
theorem cmpP_one (a b : Int) : cmpP ([a], []) ([b], []) = sgn a b := by
  simp only [cmpP, cmpL, sgn]
  (repeat' split) <;> simp_all
theorem cmpNum_all : ∀ p ∈ nums, ∀ q ∈ nums, cmpNum p.1 p.2 q.1 q.2 = sgn (rank p.1 p.2) (rank q.1 q.2) := by decide +kernel
theorem cmpNum_due0 {o : Od} {x1 y1 x2 y2 : Int} (h1 : (x1, y1) ∈ nums) (h2 : (x2, y2) ∈ nums) : cmpNum x1 y1 x2 y2 = due0 o (.num x1 y1) (.num x2 y2) := by
  rw [cmpNum_all _ h1 _ h2]
  exact (cmpP_one _ _).symm
theorem nums_bound : ∀ p ∈ nums, (-10 ≤ p.1 ∧ p.1 ≤ 10) ∧ (0 ≤ p.2 ∧ p.2 ≤ 10) := by decide +kernel
theorem lower_ok {t : Str} (h : TxtOk t) : (Txt.lower t).cps.toList = t.cps.toList.map PyProof.Rows.lo1 := by
  rw [PyProof.Rows.lower_ascii (fun c hc => by have := h.2 c hc; omega)]; simp
def ok1 (c : Nat) : Prop := c = 97 ∨ c = 65 ∨ c = 98 ∨ c = 66
theorem lex_lower : ∀ a b : List Nat, (∀ c ∈ a, ok1 c) → (∀ c ∈ b, ok1 c) →
    cmpL ((a.map PyProof.Rows.lo1).map Int.ofNat) ((b.map PyProof.Rows.lo1).map Int.ofNat) = cmpL (a.map idx1) (b.map idx1)
  | [], [], _, _ => rfl
  | [], _ :: _, _, _ => rfl
  | _ :: _, [], _, _ => rfl
  | a :: as, b :: bs, ha, hb => by
    simp only [List.map_cons, cmpL]
    rw [lex_lower as bs (fun c hc => ha c (.tail _ hc)) (fun c hc => hb c (.tail _ hc))]
    rcases ha a (.head _) with rfl | rfl | rfl | rfl <;> rcases hb b (.head _) with rfl | rfl | rfl | rfl <;> rfl
theorem lex_form (u : Bool) : ∀ a b : List Nat, (∀ c ∈ a, ok1 c) → (∀ c ∈ b, ok1 c) → cmpL (a.map idx1) (b.map idx1) = 0 →
    cmpL (a.map (form1 u)) (b.map (form1 u)) = if u then cmpL (a.map Int.ofNat) (b.map Int.ofNat) else cmpL (b.map Int.ofNat) (a.map Int.ofNat)
  | [], [], _, _, _ => by simp [cmpL]
  | [], _ :: _, _, _, h => by simp [cmpL] at h
  | _ :: _, [], _, _, h => by simp [cmpL] at h
  | a :: as, b :: bs, ha, hb, h => by
    have ih := lex_form u as bs (fun c hc => ha c (.tail _ hc)) (fun c hc => hb c (.tail _ hc))
    simp only [List.map_cons, cmpL] at h ⊢
    rcases ha a (.head _) with rfl | rfl | rfl | rfl <;> rcases hb b (.head _) with rfl | rfl | rfl | rfl <;> cases u <;> simp_all [idx1, form1, upper1]
theorem cmpL_refl (a : List Int) : cmpL a a = 0 := by have := cmpL_anti a a; omega
theorem codes_inj {x y : Str} (h : codes x = codes y) : x = y := by
  have h' : x.cps.toList = y.cps.toList := by
    have := congrArg (List.map Int.toNat) h
    simpa [codes, Function.comp_def] using this
  cases x; cases y; simp at h'; simp [h']
theorem cmpTxt_due0 {o : Od} {x y : Str} (h1 : TxtOk x) (h2 : TxtOk y) : cmpTxt x y o.way = due0 o (.txt x) (.txt y) := by
  unfold due0 keyC
  dsimp only
  cases o.way with
  | none => simp only [cmpTxt, keyT, cmpP, sgnT_codes, cmpL]; split <;> simp_all
  | some u =>
    have e1 : sgnT (Txt.lower x) (Txt.lower y) = cmpL (idxs x) (idxs y) := by
      rw [sgnT_codes]; unfold codes; rw [lower_ok h1, lower_ok h2]; exact lex_lower _ _ h1.2 h2.2
    have e3 : cmpP (keyT x (some u)) (keyT y (some u)) = if cmpL (idxs x) (idxs y) ≠ 0 then cmpL (idxs x) (idxs y) else cmpL (forms u x) (forms u y) := rfl
    rw [e3]
    simp only [cmpTxt, e1]
    by_cases h : cmpL (idxs x) (idxs y) = 0
    · have e2 := lex_form u _ _ h1.2 h2.2 h
      have e4 : cmpL (forms u x) (forms u y) = if u then cmpL (codes x) (codes y) else cmpL (codes y) (codes x) := e2
      by_cases hxy : x = y
      · subst hxy; simp [h, cmpL_refl]
      · simp only [h, hxy, ne_eq, not_true_eq_false, or_self, if_false, e4, sgnT_codes]
    · simp [h]
theorem drop_of {α : Type} {l : List α} {i : Nat} {a : α} (h : l[i]? = some a) : l.drop i = a :: l.drop (i + 1) := by
  obtain ⟨hi, e⟩ := List.getElem?_eq_some_iff.mp h
  rw [List.drop_eq_getElem_cons hi, e]
theorem dueRows_step {os : List Od} {r1 r2 : List Cell} {i : Nat} {o : Od} {c1 c2 : Cell} (ho : os[i]? = some o) (h1 : r1[i]? = some c1) (h2 : r2[i]? = some c2) :
    dueRows (os.drop i) (r1.drop i) (r2.drop i) = if due o c1 c2 ≠ 0 then due o c1 c2 else dueRows (os.drop (i + 1)) (r1.drop (i + 1)) (r2.drop (i + 1)) := by
  rw [drop_of ho, drop_of h1, drop_of h2]; rfl
theorem bz {x y : Int} : ((x == 0 && y == 0) = true) ↔ (x = 0 ∧ y = 0) := by simp
theorem bzf {x y : Int} (h : (x == 0 && y == 0) = false) : ¬ (x = 0 ∧ y = 0) := fun q => by rw [bz.mpr q] at h; cases h
theorem bq (x y : Int) : (if (!(x == 0 && y == 0)) = true then (1 : Int) else 0) = if x = 0 ∧ y = 0 then 0 else 1 := by
  cases h : (x == 0 && y == 0) with
  | true => rw [if_pos (bz.mp h)]; rfl
  | false => rw [if_neg (bzf h)]; rfl
theorem cn1 {x1 y1 x2 y2 : Int} (h : (x1 == 0 && y1 == 0) = true) : sgn (if (!(x1 == 0 && y1 == 0)) = true then 1 else 0) (if (!(x2 == 0 && y2 == 0)) = true then 1 else 0) = cmpNum x1 y1 x2 y2 := by
  rw [bq, bq]; unfold cmpNum; rw [if_pos (Or.inl (bz.mp h))]
theorem cn2 {x1 y1 x2 y2 : Int} (h : (x2 == 0 && y2 == 0) = true) : sgn (if (!(x1 == 0 && y1 == 0)) = true then 1 else 0) (if (!(x2 == 0 && y2 == 0)) = true then 1 else 0) = cmpNum x1 y1 x2 y2 := by
  rw [bq, bq]; unfold cmpNum; rw [if_pos (Or.inr (bz.mp h))]
theorem cn3 {x1 y1 x2 y2 : Int} (h : (x1 == 0 && y1 == 0) = false) (h' : (x2 == 0 && y2 == 0) = false) (a : y1 = 0) (b : y2 = 0) : sgn x1 x2 = cmpNum x1 y1 x2 y2 := by
  unfold cmpNum; rw [if_neg (fun q => q.elim (bzf h) (bzf h')), if_pos ⟨a, b⟩]
theorem cn4 {x1 y1 x2 y2 : Int} (h : (x1 == 0 && y1 == 0) = false) (h' : (x2 == 0 && y2 == 0) = false) (b : ¬ y2 = 0) : sgn (x1 * y2) (x2 * y1) = cmpNum x1 y1 x2 y2 := by
  unfold cmpNum; rw [if_neg (fun q => q.elim (bzf h) (bzf h')), if_neg (fun q => b q.2)]
theorem cn5 {x1 y1 x2 y2 : Int} (h : (x1 == 0 && y1 == 0) = false) (h' : (x2 == 0 && y2 == 0) = false) (b : ¬ y1 = 0) : sgn (x1 * y2) (x2 * y1) = cmpNum x1 y1 x2 y2 := by
  unfold cmpNum; rw [if_neg (fun q => q.elim (bzf h) (bzf h')), if_neg (fun q => b q.1)]
end

section
open PySem PySem.W PyProof.Rows
theorem fill : (fun (_ : OpenLaw) (_ : Params → Frag) => True) PySem.Challenge.rw_xm0634_01 Mine.K0 := by k_fill; trivial

def Ext (h h' : Heap) : Prop := ∀ b o, h.get? b = some o → h'.get? b = some o
theorem Ext.refl (h : Heap) : Ext h h := fun _ _ e => e
theorem Ext.trans {a b c : Heap} (x : Ext a b) (y : Ext b c) : Ext a c := fun p o e => y p o (x p o e)

structure Wd (w : World) (h : Heap) : Prop where
  K : (Mine.K0 w.params).In h
  T : ∃ mean mg mb, Top Mine.q0 (looseW Mine.q0 []) mean mg mb h
theorem Wd.keeps {w : World} {h h' : Heap} (W : Wd w h) (k : Ext h h') : Wd w h' :=
  ⟨W.K.keeps k, let ⟨a, b, c, T⟩ := W.T; ⟨a, b, c, T.keeps k⟩⟩

abbrev Ar (dp un : Nat) (fr : Option (List Env)) (gd : Option (List Code)) : Around := { handled := none, depth := dp, frames := fr, guards := gd, units := un }

theorem Wd.elim {w : World} {h : Heap} {goal : Prop} (W : Wd w h) (k : ∀ mean mg mb, Top Mine.q0 (looseW Mine.q0 []) mean mg mb h → goal) : goal := let ⟨a, b, c, T⟩ := W.T; k a b c T
theorem hideG {g : Prop} (k : ∀ G : Prop, (g → G) → G) : g := k g id
/-- entering a def: all that stands is kept -/
theorem enter {w : World} {A : Around} {E : Value → Shared → Prop} {s : Shared} {Q : Value → Shared → Prop} {f : Addr}
    {name qual : Str} {params : Arguments} {body : List Stmt} {scope : Scope} {dV kV doc pm cdv ct oc : Value} {an od : Option Addr} {osl : Array (Option Value)} {args : List Value} {binds : List (Str × Value)}
    (W : Wd w s.heap) (ho : (Mine.K0 w.params).lookup f = some ⟨oc, od, .func (fnOf name qual params body scope dV kV doc pm an cdv ct), osl⟩) (hcd : codeIn (Mine.K0 w.params) cdv qual = true)
    (hroom : A.depth < recursionLimit)
    (hbind : BindsTo s (fnOf name qual params body scope dV kV doc pm an cdv ct) ⟨args, []⟩ binds) (hloc : ∀ y ∈ binds, scope.names.lookup y.1 = some .local)
    (h : ∀ L h₁, L = s.heap.objs.size → Fr s.heap L h₁ (fun y => binds.reverse.lookup y) →
      wpAny (model pg w) (A.deeper (envOf qual scope L f cdv)) (execs body (envOf qual scope L f cdv))
        (fun fl s' => Q (match fl with | .ret v => v | _ => .none) s') (fun _ _ => False)
        { s with heap := h₁, toks := s.toks + binds.length })
    (hco : scope.isCoroutine = false) (hgen : scope.isGenerator = false) (hk : scope.kind = .function)
    (hcell : ∀ x ∈ scope.names, x.2 ≠ .cell) : wpAny (model pg w) A (call (.ref f) args) Q E s := by
  obtain ⟨mean, mg, mb, T⟩ := W.T
  refine wpAny_call ?_
  refine codeAny_call_def (fd := fnOf name qual params body scope dV kV doc pm an cdv ct) (body := body) (binds := binds) hroom (W.K _ _ ho) rfl T.nolimit (codeRec_of W.K hcd) rfl hbind hcell hloc (fun h₁ hns hk₁ => ?_) hco hgen hk
  exact wpAny_mono (h _ h₁ rfl ⟨hns, hk₁, Nat.le_refl _⟩) (fun fl s' q => q) (fun _ _ q => q.elim)

/-- entering a def that changes one object: the others are kept -/
theorem enterS {w : World} {A : Around} {E : Value → Shared → Prop} {s : Shared} {Q : Value → Shared → Prop} {f src : Addr} {So : Obj}
    {name qual : Str} {params : Arguments} {body : List Stmt} {scope : Scope} {dV kV doc pm cdv ct oc : Value} {an od : Option Addr} {osl : Array (Option Value)} {args : List Value} {binds : List (Str × Value)}
    (W : Wd w (s.heap.hide src)) (hs : s.heap.get? src = some So) (ho : (Mine.K0 w.params).lookup f = some ⟨oc, od, .func (fnOf name qual params body scope dV kV doc pm an cdv ct), osl⟩) (hcd : codeIn (Mine.K0 w.params) cdv qual = true)
    (hroom : A.depth < recursionLimit)
    (hbind : BindsTo s (fnOf name qual params body scope dV kV doc pm an cdv ct) ⟨args, []⟩ binds) (hloc : ∀ y ∈ binds, scope.names.lookup y.1 = some .local)
    (h : ∀ L h₁, L = s.heap.objs.size → Fr (s.heap.hide src) L h₁ (fun y => binds.reverse.lookup y) → News (s.heap.hide src) L h₁ [(src, So)] →
      wpAny (model pg w) (A.deeper (envOf qual scope L f cdv)) (execs body (envOf qual scope L f cdv))
        (fun fl s' => Q (match fl with | .ret v => v | _ => .none) s') (fun _ _ => False)
        { s with heap := h₁, toks := s.toks + binds.length })
    (hco : scope.isCoroutine = false) (hgen : scope.isGenerator = false) (hk : scope.kind = .function)
    (hcell : ∀ x ∈ scope.names, x.2 ≠ .cell) : wpAny (model pg w) A (call (.ref f) args) Q E s := by
  have ex : Ext (s.heap.hide src) s.heap := fun b o e => Heap.of_hide e
  have W' := W.keeps ex
  obtain ⟨mean, mg, mb, T⟩ := W'.T
  refine wpAny_call ?_
  refine codeAny_call_def (fd := fnOf name qual params body scope dV kV doc pm an cdv ct) (body := body) (binds := binds) hroom (W'.K _ _ ho) rfl T.nolimit (codeRec_of W'.K hcd) rfl hbind hcell hloc (fun h₁ hns hk₁ => ?_) hco hgen hk
  refine wpAny_mono (h _ h₁ rfl ⟨hns, fun b o e => hk₁ b o (ex b o e), Nat.le_of_eq (Heap.hide_size _ _)⟩ ?_) (fun fl s' q => q) (fun _ _ q => q.elim)
  intro p hp
  rw [List.mem_singleton.mp hp]
  exact ⟨hk₁ _ _ hs, Nat.ne_of_lt (Heap.lt_size hs), Heap.hide_self _ _⟩

/-! data in a heap -/
abbrev At (h : Heap) : Addr → Obj → Prop := fun a o => h.get? a = some o
mutual
inductive Is (P : Addr → Obj → Prop) : Value → PyData → Prop
  | none : Is P .none .none
  | bool (b : Bool) : Is P (.bool b) (.bool b)
  | int (i : Int) (t : Tok) : Is P (.int i t) (.int i)
  | str (x : Str) (t : Tok) : Is P (.str x t) (.str x)
  | list {a : Addr} {o : Obj} {vs : List Value} {n : Nat} {xs : List PyData} : P a o → o.cls = .type "list" → o.data = .seq vs.toArray n → IsAll P vs xs → Is P (.ref a) (.list xs)
  | tuple {a : Addr} {o : Obj} {vs : List Value} {n : Nat} {xs : List PyData} : P a o → o.cls = .type "tuple" → o.data = .seq vs.toArray n → IsAll P vs xs → Is P (.ref a) (.tuple xs)
inductive IsAll (P : Addr → Obj → Prop) : List Value → List PyData → Prop
  | nil : IsAll P [] []
  | cons {v : Value} {vs : List Value} {d : PyData} {ds : List PyData} : Is P v d → IsAll P vs ds → IsAll P (v :: vs) (d :: ds)
end
mutual
theorem Is.mono {P P' : Addr → Obj → Prop} (k : ∀ a o, P a o → P' a o) : ∀ {v : Value} {d : PyData}, Is P v d → Is P' v d
  | _, _, .none => .none
  | _, _, .bool b => .bool b
  | _, _, .int i t => .int i t
  | _, _, .str x t => .str x t
  | _, _, .list h1 h2 h3 h4 => .list (k _ _ h1) h2 h3 (IsAll.mono k h4)
  | _, _, .tuple h1 h2 h3 h4 => .tuple (k _ _ h1) h2 h3 (IsAll.mono k h4)
theorem IsAll.mono {P P' : Addr → Obj → Prop} (k : ∀ a o, P a o → P' a o) : ∀ {v : List Value} {d : List PyData}, IsAll P v d → IsAll P' v d
  | _, _, .nil => .nil
  | _, _, .cons h1 h2 => .cons (Is.mono k h1) (IsAll.mono k h2)
end
mutual
theorem Is.reads {h : Heap} : ∀ {v : Value} {d : PyData}, Is (At h) v d → ∃ as, Reads h v d as
  | _, _, .none => ⟨_, .none⟩
  | _, _, .bool b => ⟨_, .bool b⟩
  | _, _, .int i t => ⟨_, .int i t⟩
  | _, _, .str x t => ⟨_, .str x t⟩
  | _, _, .list h1 h2 h3 h4 => let ⟨_, r⟩ := IsAll.reads h4; ⟨_, .list h1 h2 h3 r⟩
  | _, _, .tuple h1 h2 h3 h4 => let ⟨_, r⟩ := IsAll.reads h4; ⟨_, .tuple h1 h2 h3 r⟩
theorem IsAll.reads {h : Heap} : ∀ {v : List Value} {d : List PyData}, IsAll (At h) v d → ∃ as, ReadsAll h v d as
  | _, _, .nil => ⟨_, .nil⟩
  | _, _, .cons h1 h2 => let ⟨_, r⟩ := Is.reads h1; let ⟨_, q⟩ := IsAll.reads h2; ⟨_, .cons r q⟩
end
section
variable {P : Addr → Obj → Prop}
theorem Is.boolE {v : Value} {b : Bool} (h : Is P v (.bool b)) : v = .bool b := by cases h; rfl
theorem Is.noneE {v : Value} (h : Is P v .none) : v = .none := by cases h; rfl
theorem Is.intE {v : Value} {i : Int} (h : Is P v (.int i)) : ∃ t, v = .int i t := by cases h; exact ⟨_, rfl⟩
theorem Is.strE {v : Value} {x : Str} (h : Is P v (.str x)) : ∃ t, v = .str x t := by cases h; exact ⟨_, rfl⟩
theorem Is.listE {v : Value} {xs : List PyData} (h : Is P v (.list xs)) : ∃ a o vs n, v = .ref a ∧ P a o ∧ o.cls = .type "list" ∧ o.data = .seq (List.toArray vs) n ∧ IsAll P vs xs := by
  cases h with | list h1 h2 h3 h4 => exact ⟨_, _, _, _, rfl, h1, h2, h3, h4⟩
theorem Is.tupleE {v : Value} {xs : List PyData} (h : Is P v (.tuple xs)) : ∃ a o vs n, v = .ref a ∧ P a o ∧ o.cls = .type "tuple" ∧ o.data = .seq (List.toArray vs) n ∧ IsAll P vs xs := by
  cases h with | tuple h1 h2 h3 h4 => exact ⟨_, _, _, _, rfl, h1, h2, h3, h4⟩
theorem IsAll.nilE {vs : List Value} (h : IsAll P vs []) : vs = [] := by cases h; rfl
theorem IsAll.consE {vs : List Value} {d : PyData} {ds : List PyData} (h : IsAll P vs (d :: ds)) : ∃ v r, vs = v :: r ∧ Is P v d ∧ IsAll P r ds := by
  cases h with | cons h1 h2 => exact ⟨_, _, rfl, h1, h2⟩
theorem IsAll.length : ∀ {vs : List Value} {ds : List PyData}, IsAll P vs ds → vs.length = ds.length
  | _, _, .nil => rfl
  | _, _, .cons _ h => by simp [IsAll.length h]
theorem IsAll.get : ∀ {vs : List Value} {ds : List PyData} {i : Nat} {d : PyData}, IsAll P vs ds → ds[i]? = some d → ∃ v, vs[i]? = some v ∧ Is P v d
  | _, _, i, d, .nil, h => by simp at h
  | _, _, 0, d, .cons (v := v) h1 _, h => by simp at h; subst h; exact ⟨v, rfl, h1⟩
  | _, _, i + 1, d, .cons _ h2, h => by simpa using IsAll.get h2 (by simpa using h)
theorem IsAll.append : ∀ {vs ws : List Value} {ds es : List PyData}, IsAll P vs ds → IsAll P ws es → IsAll P (vs ++ ws) (ds ++ es)
  | _, _, _, _, .nil, h => h
  | _, _, _, _, .cons h1 h2, h => .cons h1 (IsAll.append h2 h)
theorem IsAll.take : ∀ {vs : List Value} {ds : List PyData} (k : Nat), IsAll P vs ds → IsAll P (vs.take k) (ds.take k)
  | _, _, 0, _ => by simpa using IsAll.nil
  | _, _, _ + 1, .nil => by simpa using IsAll.nil
  | _, _, k + 1, .cons h1 h2 => by simpa using IsAll.cons h1 (IsAll.take k h2)
theorem IsAll.drop : ∀ {vs : List Value} {ds : List PyData} (k : Nat), IsAll P vs ds → IsAll P (vs.drop k) (ds.drop k)
  | _, _, 0, h => by simpa using h
  | _, _, _ + 1, .nil => by simpa using IsAll.nil
  | _, _, k + 1, .cons _ h2 => by simpa using IsAll.drop k h2
theorem Is.numE {v : Value} {x y : Int} (h : Is P v (.tuple [.int x, .int y])) : ∃ a o t1 t2 n, v = .ref a ∧ P a o ∧ o.cls = .type "tuple" ∧ o.data = .seq #[.int x t1, .int y t2] n := by
  obtain ⟨a, o, vs, n, rfl, h1, h2, h3, h4⟩ := h.tupleE
  obtain ⟨v1, r1, rfl, i1, h4⟩ := h4.consE
  obtain ⟨v2, r2, rfl, i2, h4⟩ := h4.consE
  obtain rfl := h4.nilE
  obtain ⟨t1, rfl⟩ := i1.intE
  obtain ⟨t2, rfl⟩ := i2.intE
  exact ⟨a, o, t1, t2, n, rfl, h1, h2, h3⟩
end
theorem isTup_of {h : Heap} {a : Addr} {o : Obj} {vs : List Value} {n : Nat} (h1 : h.get? a = some o) (h2 : o.cls = .type "tuple") (h3 : o.data = .seq vs.toArray n) : IsTup h a vs.toArray := ⟨o, h1, h2, n, h3⟩
theorem isList_of {h : Heap} {a : Addr} {o : Obj} {vs : List Value} {n : Nat} (h1 : h.get? a = some o) (h2 : o.cls = .type "list") (h3 : o.data = .seq vs.toArray n) : h.IsList a vs.toArray := ⟨o, h1, h2, n, h3⟩

def wayD : Option Bool → PyData
  | none => .none
  | some b => .bool b
def wayV : Option Bool → Value
  | none => .none
  | some b => .bool b
theorem handed_way (o : Option Bool) : handedIn (wayV o) = true := by cases o <;> rfl
theorem Is.wayE {P : Addr → Obj → Prop} {v : Value} {o : Option Bool} (h : Is P v (wayD o)) : v = wayV o := by
  cases o with
  | none => exact h.noneE
  | some b => exact h.boolE
def Cell.py : Cell → PyData
  | .num x y => .tuple [.int x, .int y]
  | .txt t => .str t
def Od.py (o : Od) : PyData := .tuple [.bool o.isNum, .bool o.down, wayD o.way]
def rowPy (r : List Cell) : PyData := .list (r.map Cell.py)
def Fit (o : Od) (c : Cell) : Prop := match c with
  | .num x y => o.isNum = true ∧ (x, y) ∈ nums
  | .txt t => o.isNum = false ∧ TxtOk t
def FitRow : List Od → List Cell → Prop
  | [], [] => True
  | o :: os, c :: cs => Fit o c ∧ FitRow os cs
  | _, _ => False
theorem FitRow.length : ∀ {os : List Od} {r : List Cell}, FitRow os r → r.length = os.length
  | [], [], _ => rfl
  | _ :: _, _ :: _, h => by simp [FitRow.length h.2]
  | [], _ :: _, h => h.elim
  | _ :: _, [], h => h.elim
theorem Is.base {h₀ h : Heap} {L : Addr} {m : Str → Option Value} {v : Value} {d : PyData} (F : Fr h₀ L h m) (i : Is (At h₀) v d) : Is (At h) v d := i.mono F.keep
theorem IsAll.base {h₀ h : Heap} {L : Addr} {m : Str → Option Value} {v : List Value} {d : List PyData} (F : Fr h₀ L h m) (i : IsAll (At h₀) v d) : IsAll (At h) v d := i.mono F.keep
theorem InstAt.base {h₀ h : Heap} {L x C : Addr} {m : Str → Option Value} {ox : Obj} {od : Option Obj} (F : Fr h₀ L h m) (I : PySem.W.InstAt h₀ x ox C od) : PySem.W.InstAt h x ox C od := by
  obtain ⟨h1, h2, h3, h4⟩ := I
  refine ⟨F.keep _ _ h1, h2, h3, ?_⟩
  cases hd : ox.dict with
  | none => rw [hd] at h4; cases od with
    | none => trivial
    | some o => exact h4.elim
  | some dx => rw [hd] at h4; cases od with
    | none => exact h4.elim
    | some o => exact F.keep _ _ h4
/-- an Order -/
def OrdI (w : World) (P : Addr → Obj → Prop) (v : Value) (o : Od) : Prop := ∃ x dx t1 t2 t3 n, v = .ref x ∧ P x (instObj 32 dx) ∧
  P dx (dictOf [⟨PyData.keyHash w.params "is_number", .str "is_number" t1, .bool o.isNum⟩, ⟨PyData.keyHash w.params "is_descending", .str "is_descending" t2, .bool o.down⟩, ⟨PyData.keyHash w.params "upper_first", .str "upper_first" t3, wayV o.way⟩] n)
theorem OrdI.mono {w : World} {P P' : Addr → Obj → Prop} {v : Value} {o : Od} (k : ∀ a o, P a o → P' a o) (h : OrdI w P v o) : OrdI w P' v o :=
  let ⟨x, dx, t1, t2, t3, n, e, h1, h2⟩ := h; ⟨x, dx, t1, t2, t3, n, e, k _ _ h1, k _ _ h2⟩
theorem OrdI.base {w : World} {h₀ h : Heap} {L : Addr} {m : Str → Option Value} {v : Value} {o : Od} (F : Fr h₀ L h m) (i : OrdI w (At h₀) v o) : OrdI w (At h) v o := i.mono F.keep
inductive OrdIs (w : World) (P : Addr → Obj → Prop) : List Value → List Od → Prop
  | nil : OrdIs w P [] []
  | cons {v : Value} {vs : List Value} {o : Od} {os : List Od} : OrdI w P v o → OrdIs w P vs os → OrdIs w P (v :: vs) (o :: os)
theorem OrdIs.mono {w : World} {P P' : Addr → Obj → Prop} (k : ∀ a o, P a o → P' a o) : ∀ {v : List Value} {o : List Od}, OrdIs w P v o → OrdIs w P' v o
  | _, _, .nil => .nil
  | _, _, .cons h1 h2 => .cons (h1.mono k) (OrdIs.mono k h2)
theorem OrdIs.base {w : World} {h₀ h : Heap} {L : Addr} {m : Str → Option Value} {v : List Value} {o : List Od} (F : Fr h₀ L h m) (i : OrdIs w (At h₀) v o) : OrdIs w (At h) v o := i.mono F.keep
theorem OrdIs.length {w : World} {P : Addr → Obj → Prop} : ∀ {v : List Value} {o : List Od}, OrdIs w P v o → v.length = o.length
  | _, _, .nil => rfl
  | _, _, .cons _ h => by simp [OrdIs.length h]
theorem len_vs {w : World} {A : Around} {E : Value → Shared → Prop} {s : Shared} {l : Addr} {vs : List Value} {n : Nat} {Q : Value → Shared → Prop} (hl : s.heap.IsList l vs.toArray) (hn : vs.length = n) (hf : n ≤ 1000)
    (h : ∀ t tk, Q (.int (n : Int) t) { s with toks := tk }) : wpAny (model pg w) A (call (.builtin "len") [.ref l]) Q E s :=
  len_list hl (by simp; omega) (by have e : ((vs.toArray.size : Nat) : Int) = (n : Int) := by simp [hn]
                                   rw [e]; exact h _ _)
theorem item_vs {w : World} {A : Around} {E : Value → Shared → Prop} {s : Shared} {value slice : PySem.Expr} {l : Addr} {vs : List Value} {k : Int} {i : Nat} {u : Tok} {v : Value} {Q : Value → Shared → Prop}
    (hl : s.heap.IsList l vs.toArray) (hk : k = (i : Int)) (hi : i ≤ 1000) (hx : vs[i]? = some v) (h : Q v s)
    (hs : subscripted slice false (.ref l) (.int k u) = operate [.ref l, .int k u] (getItem (.ref l) (.int k u)) := by with_unfolding_all rfl) :
    wpAny (model pg w) A (subscriptTail value slice (.ref l) (.int k u)) Q E s := by
  subst hk
  exact tail_any hl.typeIs slot_list_getitem.lookup (wpAny_getItem_list hl (by omega) (by omega) (by simpa using hx) h) hs
theorem OrdIs.get {w : World} {P : Addr → Obj → Prop} : ∀ {vs : List Value} {os : List Od} {i : Nat} {o : Od}, OrdIs w P vs os → os[i]? = some o → ∃ v, vs[i]? = some v ∧ OrdI w P v o
  | _, _, i, o, .nil, h => by simp at h
  | _, _, 0, o, .cons (v := v) h1 _, h => by simp at h; subst h; exact ⟨v, rfl, h1⟩
  | _, _, i + 1, o, .cons _ h2, h => by simpa using OrdIs.get h2 (by simpa using h)
theorem IsAll.getC {P : Addr → Obj → Prop} {vs : List Value} {cs : List Cell} {i : Nat} {c : Cell} (h : IsAll P vs (cs.map Cell.py)) (hc : cs[i]? = some c) : ∃ v, vs[i]? = some v ∧ Is P v c.py := h.get (by simp [hc])
theorem FitRow.get : ∀ {os : List Od} {r : List Cell} {i : Nat} {o : Od}, FitRow os r → os[i]? = some o → ∃ c, r[i]? = some c ∧ Fit o c
  | [], _, i, o, _, h => by simp at h
  | _ :: _, [], _, _, h, _ => h.elim
  | o :: os, c :: r, 0, o', h, e => by simp at e; subst e; exact ⟨c, rfl, h.1⟩
  | o :: os, c :: r, i + 1, o', h, e => by simpa using FitRow.get h.2 (by simpa using e)
theorem IsAll.getO {P : Addr → Obj → Prop} {vs : List Value} {os : List Od} {i : Nat} {o : Od} (h : IsAll P vs (os.map Od.py)) (hc : os[i]? = some o) : ∃ v, vs[i]? = some v ∧ Is P v o.py := h.get (by simp [hc])
end

local macro_rules | `(tactic| walk_at "tail 1") => `(tactic| (intro r' t' h' tk' e' k'; (have F' := Fr.grownK (by k_asm) k'); (have N' := News.grown (by k_asm) k'); subst e'; clear k'; k_sweep))
section
open PySem PySem.W PyProof.Rows
theorem lines_W1_1 : True := by
  k_with_none
  k_with "eval Call" => k_dflt (refine Call_ ?_)
  k_with "subscriptTail Name Constant ref int" => (k_dflt (refine item_tupleT (by first | (is_tup) | fail "x") (by decide) (by decide) (by rfl) (by rfl) ?_; k_whole))
  trivial
section
variable {w : World} {dp un : Nat} {fr : Option (List Env)} {gd : Option (List Code)} {E : Value → Shared → Prop} {s : Shared} {Q : Value → Shared → Prop}
set_option maxHeartbeats 4000000 in
theorem sign_int {x y : Int} {t1 t2 : Tok}
    (W : Wd w s.heap) (hd : dp + 1 < recursionLimit) (hu : un + 50 < cLine)
    (ret : ∀ r t h' tk', r = sgn x y → Ext s.heap h' → Q (.int r t) { s with heap := h', toks := tk' }) :
    wpAny (model pg w) (Ar dp un fr gd) (call (.ref 43) [.int x t1, .int y t2]) Q E s := by
  k_dflt (refine' enter (binds := [("one", .int x t1), ("other", .int y t2)]) W ?k6 ?k7 ?k8 ?k9 ?kB ?_ ?c2 ?c3 ?c4 ?c5; (case k6 => k_is); (case k7 => k_is); (case k8 => ktr_room); (case k9 => exact BindsTo.of_eq rfl); (case c5 => decide); (case kB => exact locs rfl); (case c2 => exact rfl); (case c3 => exact rfl); (case c4 => exact rfl); k_whole)
  intro L h₁ hL F
  have N : News s.heap L h₁ [] := News.nil
  have X := W.K
  refine Wd.elim W fun mean mg mb T => ?_
  (try dsimp only)
  (try k_fold)
  k_steps
  all_goals (refine ret _ _ _ _ ?_ (Fr.keep (by assumption)); simp only [sgn, decide_eq_true_eq, decide_eq_false_iff_not] at *; simp only [*, if_true, if_false])
set_option maxHeartbeats 4000000 in
theorem sign_str {x y : Str} {t1 t2 : Tok}
    (W : Wd w s.heap) (hd : dp + 1 < recursionLimit) (hu : un + 50 < cLine)
    (ret : ∀ r t h' tk', r = sgnT x y → Ext s.heap h' → Q (.int r t) { s with heap := h', toks := tk' }) :
    wpAny (model pg w) (Ar dp un fr gd) (call (.ref 43) [.str x t1, .str y t2]) Q E s := by
  k_dflt (refine' enter (binds := [("one", .str x t1), ("other", .str y t2)]) W ?k6 ?k7 ?k8 ?k9 ?kB ?_ ?c2 ?c3 ?c4 ?c5; (case k6 => k_is); (case k7 => k_is); (case k8 => ktr_room); (case k9 => exact BindsTo.of_eq rfl); (case c5 => decide); (case kB => exact locs rfl); (case c2 => exact rfl); (case c3 => exact rfl); (case c4 => exact rfl); k_whole)
  intro L h₁ hL F
  have N : News s.heap L h₁ [] := News.nil
  have X := W.K
  refine Wd.elim W fun mean mg mb T => ?_
  (try dsimp only)
  (try k_fold)
  k_steps
  all_goals (refine ret _ _ _ _ ?_ (Fr.keep (by assumption)); simp only [sgnT, decide_eq_true_eq, decide_eq_false_iff_not] at *; simp only [*, if_true, if_false])
theorem lines_W1_2 : True := by
  k_with "call ref" => (k_here; k_dflt (refine sign_int (by first | (exact Wd.keeps (by assumption) (Fr.keep (by k_asm))) | fail "x") (by ktr_room) (by ktr_units)  ?_; k_whole); walk_at "tail 1")
  k_with "call ref" => (k_here; k_dflt (refine sign_str (by first | (exact Wd.keeps (by assumption) (Fr.keep (by k_asm))) | fail "x") (by ktr_room) (by ktr_units)  ?_; k_whole); walk_at "tail 1")
  trivial
set_option maxHeartbeats 4000000 in
theorem cmp_num {v1 v2 : Value} {x1 y1 x2 y2 : Int}
    (W : Wd w s.heap) (hd : dp + 2 < recursionLimit) (hu : un + 100 < cLine)
    (i1 : Is (At s.heap) v1 (.tuple [.int x1, .int y1])) (i2 : Is (At s.heap) v2 (.tuple [.int x2, .int y2]))
    (n1 : (x1, y1) ∈ nums) (n2 : (x2, y2) ∈ nums)
    (ret : ∀ r t h' tk', r = sgn (rank x1 y1) (rank x2 y2) → Ext s.heap h' → Q (.int r t) { s with heap := h', toks := tk' }) :
    wpAny (model pg w) (Ar dp un fr gd) (call (.ref 50) [v1, v2]) Q E s := by
  refine hideG fun G9 kG9 => ?_
  obtain ⟨as, r1⟩ := i1.reads
  obtain ⟨bs, r2⟩ := i2.reads
  obtain ⟨a, o1, t1, t2, k1, rfl, p1, c1, d1⟩ := i1.numE
  obtain ⟨b, o2, t3, t4, k2, rfl, p2, c2, d2⟩ := i2.numE
  have T1 : IsTup s.heap a #[.int x1 t1, .int y1 t2] := ⟨_, p1, c1, _, d1⟩
  have T2 : IsTup s.heap b #[.int x2 t3, .int y2 t4] := ⟨_, p2, c2, _, d2⟩
  obtain ⟨⟨b1, b2⟩, b3, b4⟩ := nums_bound _ n1
  obtain ⟨⟨b5, b6⟩, b7, b8⟩ := nums_bound _ n2
  refine kG9 ?_
  clear kG9 G9
  rw [← cmpNum_all _ n1 _ n2] at ret
  dsimp only at *
  clear n1 n2 i1 i2 p1 c1 d1 p2 c2 d2
  k_dflt (refine' enter (binds := [("one", .ref a), ("other", .ref b)]) W ?k6 ?k7 ?k8 ?k9 ?kB ?_ ?c2 ?c3 ?c4 ?c5; (case k6 => k_is); (case k7 => k_is); (case k8 => ktr_room); (case k9 => exact BindsTo.of_eq rfl); (case c5 => decide); (case kB => exact locs rfl); (case c2 => exact rfl); (case c3 => exact rfl); (case c4 => exact rfl); k_whole)
  intro L h₁ hL F
  have N : News s.heap L h₁ [] := News.nil
  have X := W.K
  refine Wd.elim W fun mean mg mb T => ?_
  (try dsimp only)
  (try k_fold)
  k_steps
  all_goals (refine ret _ _ _ _ ?_ (Fr.keep (by assumption)))
  · exact cn1 (by assumption)
  · exact cn2 (by assumption)
  · exact cn3 (by assumption) (by assumption) (by assumption) (by assumption)
  · exact cn4 (by assumption) (by assumption) (by assumption)
  · exact cn5 (by assumption) (by assumption) (by assumption)

set_option maxHeartbeats 4000000 in
theorem cmp_txt {x y : Str} {t1 t2 : Tok} {way : Option Bool}
    (W : Wd w s.heap) (hd : dp + 2 < recursionLimit) (hu : un + 100 < cLine) (l1 : x.length ≤ 3) (l2 : y.length ≤ 3)
    (ret : ∀ r t h' tk', r = cmpTxt x y way → Ext s.heap h' → Q (.int r t) { s with heap := h', toks := tk' }) :
    wpAny (model pg w) (Ar dp un fr gd) (call (.ref 57) [.str x t1, .str y t2, wayV way]) Q E s := by
  rcases way with _ | u
  all_goals dsimp only [wayV]
  · k_dflt (refine' enter (binds := [("one", .str x t1), ("other", .str y t2), ("upper_first", .none)]) W ?k6 ?k7 ?k8 ?k9 ?kB ?_ ?c2 ?c3 ?c4 ?c5; (case k6 => k_is); (case k7 => k_is); (case k8 => ktr_room); (case k9 => exact BindsTo.of_eq rfl); (case c5 => decide); (case kB => exact locs rfl); (case c2 => exact rfl); (case c3 => exact rfl); (case c4 => exact rfl); k_whole)
    intro L h₁ hL F
    have N : News s.heap L h₁ [] := News.nil
    have X := W.K
    refine Wd.elim W fun mean mg mb T => ?_
    (try dsimp only)
    (try k_fold)
    k_steps
    all_goals (refine ret _ _ _ _ rfl (Fr.keep (by assumption)))
  · k_dflt (refine' enter (binds := [("one", .str x t1), ("other", .str y t2), ("upper_first", .bool u)]) W ?k6 ?k7 ?k8 ?k9 ?kB ?_ ?c2 ?c3 ?c4 ?c5; (case k6 => k_is); (case k7 => k_is); (case k8 => ktr_room); (case k9 => exact BindsTo.of_eq rfl); (case c5 => decide); (case kB => exact locs rfl); (case c2 => exact rfl); (case c3 => exact rfl); (case c4 => exact rfl); k_whole)
    intro L h₁ hL F
    have N : News s.heap L h₁ [] := News.nil
    have X := W.K
    refine Wd.elim W fun mean mg mb T => ?_
    (try dsimp only)
    (try k_fold)
    k_steps
    all_goals (refine ret _ _ _ _ ?_ (Fr.keep (by assumption)))
    all_goals (clear ret W T X)
    all_goals (simp only [beq_iff_eq, beq_eq_false_iff_ne, ne_eq] at *)
    all_goals (simp [cmpTxt, *])
theorem lines_W1_3 : True := by
  k_with "call ref" => (k_here; k_dflt (refine cmp_num (by first | (exact Wd.keeps (by assumption) (Fr.keep (by k_asm))) | fail "x") (by ktr_room) (by ktr_units) (by first | (exact Is.base (by first | (k_asm) | fail "x") (by assumption)) | fail "x") (by first | (exact Is.base (by first | (k_asm) | fail "x") (by assumption)) | fail "x") (by assumption) (by assumption) ?_; k_whole); walk_at "tail 1")
  k_with "call ref" => (k_here; k_dflt (refine cmp_txt (by first | (exact Wd.keeps (by assumption) (Fr.keep (by k_asm))) | fail "x") (by ktr_room) (by ktr_units) (by assumption) (by assumption) ?_; k_whole); walk_at "tail 1")
  k_with "getAttr ref" => (k_here; k_dflt (refine get_own (by first | (k_asm) | fail "x") (by first | (k_asm) | fail "x") (by first | (exact InstAt.base (by first | (k_asm) | fail "x") (by assumption)) | fail "x") (by first | (k_is) | fail "x") (by first | (k_is) | fail "x") (by first | (k_is) | fail "x") (by first | (k_is) | fail "x") (by first | (k_get) | fail "x") (by first | (first | exact handed_way _ | k_handed) | fail "x") ?_; k_whole))
  trivial
set_option maxHeartbeats 4000000 in
theorem compared {vo v1 v2 : Value} {o : Od} {c1 c2 : Cell}
    (W : Wd w s.heap) (hd : dp + 3 < recursionLimit) (hu : un + 150 < cLine)
    (io : OrdI w (At s.heap) vo o) (i1 : Is (At s.heap) v1 c1.py) (i2 : Is (At s.heap) v2 c2.py) (f1 : Fit o c1) (f2 : Fit o c2)
    (ret : ∀ r t h' tk', r = due o c1 c2 → Ext s.heap h' → Q (.int r t) { s with heap := h', toks := tk' }) :
    wpAny (model pg w) (Ar dp un fr gd) (call (.ref 64) [vo, v1, v2]) Q E s := by
  refine hideG fun G9 kG9 => ?_
  obtain ⟨x, dx, t1, t2, t3, n, rfl, p1, p2⟩ := io
  refine kG9 ?_
  clear kG9 G9
  have I : PySem.W.InstAt s.heap x (instObj 32 dx) 32 (some (dictOf [⟨PyData.keyHash w.params "is_number", .str "is_number" t1, .bool o.isNum⟩, ⟨PyData.keyHash w.params "is_descending", .str "is_descending" t2, .bool o.down⟩, ⟨PyData.keyHash w.params "upper_first", .str "upper_first" t3, wayV o.way⟩] n)) := ⟨p1, rfl, rfl, p2⟩
  have hdue : ∀ z : Int, due o c1 c2 = z ↔ due o c1 c2 = z := fun _ => Iff.rfl
  unfold due at ret
  obtain ⟨b1, b2, wy⟩ := o
  match c1, c2, f1, f2 with
  | .num x1 y1, .num x2 y2, f1, f2 =>
    refine hideG fun G9 kG9 => ?_
    obtain ⟨e, n1⟩ := f1
    obtain ⟨_, n2⟩ := f2
    refine kG9 ?_
    clear kG9 G9
    dsimp only at e
    subst e
    rw [← cmpNum_due0 n1 n2, cmpNum_all _ n1 _ n2] at ret
    dsimp only [Cell.py] at i1 i2
    dsimp only at I ret
    clear p1 p2 hdue
    refine hideG fun G9 kG9 => ?_
    obtain ⟨a1, o1, t1, t2, k1, rfl, _, _, _⟩ := i1.numE
    obtain ⟨a2, o2, t3, t4, k2, rfl, _, _, _⟩ := i2.numE
    refine kG9 ?_
    clear kG9 G9
    k_dflt (refine' enter (binds := [("order", .ref x), ("one", .ref a1), ("other", .ref a2)]) W ?k6 ?k7 ?k8 ?k9 ?kB ?_ ?c2 ?c3 ?c4 ?c5; (case k6 => k_is); (case k7 => k_is); (case k8 => ktr_room); (case k9 => exact BindsTo.of_eq rfl); (case c5 => decide); (case kB => exact locs rfl); (case c2 => exact rfl); (case c3 => exact rfl); (case c4 => exact rfl); k_whole)
    intro L h₁ hL F
    have N : News s.heap L h₁ [] := News.nil
    have X := W.K
    refine Wd.elim W fun mean mg mb T => ?_
    (try dsimp only)
    (try k_fold)
    k_steps
    all_goals (refine ret _ _ _ _ ?_ (Fr.keep (by assumption)))
    all_goals (clear ret W T X I)
    all_goals simp_all
  | .txt x1, .txt x2, f1, f2 =>
    refine hideG fun G9 kG9 => ?_
    obtain ⟨e, n1⟩ := f1
    obtain ⟨_, n2⟩ := f2
    refine kG9 ?_
    clear kG9 G9
    dsimp only at e
    subst e
    rw [← cmpTxt_due0 n1 n2] at ret
    dsimp only [Cell.py] at i1 i2
    dsimp only at I ret
    clear p1 p2 hdue
    refine hideG fun G9 kG9 => ?_
    obtain ⟨t4, rfl⟩ := i1.strE
    obtain ⟨t5, rfl⟩ := i2.strE
    refine kG9 ?_
    clear kG9 G9
    have l1 : x1.length ≤ 3 := n1.1
    have l2 : x2.length ≤ 3 := n2.1
    k_dflt (refine' enter (binds := [("order", .ref x), ("one", .str x1 t4), ("other", .str x2 t5)]) W ?k6 ?k7 ?k8 ?k9 ?kB ?_ ?c2 ?c3 ?c4 ?c5; (case k6 => k_is); (case k7 => k_is); (case k8 => ktr_room); (case k9 => exact BindsTo.of_eq rfl); (case c5 => decide); (case kB => exact locs rfl); (case c2 => exact rfl); (case c3 => exact rfl); (case c4 => exact rfl); k_whole)
    intro L h₁ hL F
    have N : News s.heap L h₁ [] := News.nil
    have X := W.K
    refine Wd.elim W fun mean mg mb T => ?_
    (try dsimp only)
    (try k_fold)
    k_steps
    all_goals (refine ret _ _ _ _ ?_ (Fr.keep (by assumption)))
    all_goals (clear ret W T X I)
    all_goals simp_all
  | .num _ _, .txt _, f1, f2 => exact absurd (f1.1.symm.trans f2.1) (by decide)
  | .txt _, .num _ _, f1, f2 => exact absurd (f1.1.symm.trans f2.1) (by decide)
end
end

section
open PySem PySem.W PyProof.Rows
/-! loops with a word of one's own -/
theorem ifn {α : Type} {p : Prop} [Decidable p] {a b c : α} (h : ¬ p) (e : b = c) : (if p then a else b) = c := (if_neg h).trans e
theorem ne_t {b : Bool} (h : b = false) : ¬ b = true := by rw [h]; exact Bool.false_ne_true
theorem hc1 {a y : Str} (h : [a].contains y = false) : y ≠ a := by intro e; subst e; simp at h
theorem hc2 {a b y : Str} (h : [a, b].contains y = false) : y ≠ a ∧ y ≠ b := ⟨by intro e; subst e; simp at h, by intro e; subst e; simp at h⟩
theorem hc3 {a b c y : Str} (h : [a, b, c].contains y = false) : y ≠ a ∧ y ≠ b ∧ y ≠ c := ⟨by intro e; subst e; simp at h, by intro e; subst e; simp at h, by intro e; subst e; simp at h⟩
theorem hm1 {a y : Str} {g : Prop} (h : [a].contains y = false) (k : y ≠ a → g) : g := k (hc1 h)
theorem hm2 {a b y : Str} {g : Prop} (h : [a, b].contains y = false) (k : y ≠ a → y ≠ b → g) : g := k (hc2 h).1 (hc2 h).2
theorem hm3 {a b c y : Str} {g : Prop} (h : [a, b, c].contains y = false) (k : y ≠ a → y ≠ b → y ≠ c → g) : g := k (hc3 h).1 (hc3 h).2.1 (hc3 h).2.2
def TPost (h₀ : Heap) (L : Addr) (x : Str) (stored : List Str) (m₀ : Str → Option Value) (Jn : (Str → Option Value) → List (Addr × Obj) → Prop) (q : Addr × Obj) (s₁ : Shared) (Q : Flow → Shared → Prop) (f : Flow) (s₂ : Shared) : Prop :=
  match f with
  | .ret v => Q (.ret v) s₂
  | .brk => Q .next s₂
  | _ => ∃ h' tk m' led', s₂ = { s₁ with heap := h', toks := tk } ∧ Fr h₀ L h' m' ∧ News h₀ L h' (q :: led') ∧ (∀ p ∈ led', p.1 ≠ q.1) ∧ (∀ y, y ≠ x → stored.contains y = false → m' y = m₀ y) ∧ Jn m' led'
theorem TPost.next {h₀ : Heap} {L : Addr} {x : Str} {stored : List Str} {m₀ : Str → Option Value} {Jn : (Str → Option Value) → List (Addr × Obj) → Prop} {q : Addr × Obj} {s₁ : Shared} {Q : Flow → Shared → Prop} {h' : Heap} {tk : Nat} {m' : Str → Option Value} {led' : List (Addr × Obj)}
    (F : Fr h₀ L h' m') (N : News h₀ L h' (q :: led')) (off : ∀ p ∈ led', p.1 ≠ q.1) (hm : ∀ y, y ≠ x → stored.contains y = false → m' y = m₀ y) (j : Jn m' led') : TPost h₀ L x stored m₀ Jn q s₁ Q .next { s₁ with heap := h', toks := tk } :=
  ⟨h', tk, m', led', rfl, F, N, off, hm, j⟩
section
variable {prog : Program} {w : World} {A : Around} {E : Value → Shared → Prop} {s : Shared} {env : Env} {h₀ : Heap} {x : Str} {body : List Stmt} {Q : Flow → Shared → Prop}
theorem my_at {I : Addr} {fp : List Addr} {n : Nat} {P : Nat → Value → Prop} {St : Nat → Heap → Prop} {m₀ : Str → Option Value} {news : List (Addr × Obj)} (stored : List Str) (J : Nat → (Str → Option Value) → List (Addr × Obj) → Prop)
    (W : Walks prog w A I fp [I] n P St) (hIf : I ∈ fp) (hfp : ∀ b ∈ fp, b ≠ I → (∃ o, h₀.get? b = some o) ∨ ∃ o, ∀ i u led, J i u led → (b, o) ∈ led) (hLf : env.locals ∉ fp) (hI₀ : h₀.get? I = none) (hnw : ∀ p ∈ news, p.1 ≠ I)
    (hSt : ∀ i h, St i h → ∃ o, h.get? I = some o) (hst : St 0 s.heap) (F : Fr h₀ env.locals s.heap m₀) (N : News h₀ env.locals s.heap news) (hj : J 0 m₀ news)
    (turn : ∀ i v (u : Str → Option Value) led h tk I oI, i < n → P i v → J i u led → (∀ p ∈ led, p.1 ≠ I) → Fr h₀ env.locals h (fun y => if y = x then some v else if stored.contains y then u y else m₀ y) → News h₀ env.locals h ((I, oI) :: led) →
      wpAny (model prog w) A (execs body env) (TPost h₀ env.locals x stored m₀ (J (i + 1)) (I, oI) { s with heap := h, toks := tk } Q) E { s with heap := h, toks := tk })
    (done : ∀ (u : Str → Option Value) led h tk, J n u led → Fr h₀ env.locals h (fun y => if y = x then u y else if stored.contains y then u y else m₀ y) → News h₀ env.locals h led → Q .next { s with heap := h, toks := tk }) :
    LoopAtV prog w A h₀ env x body Q E (.ref I) s := by
  let J' : Nat → (Str → Option Value) → List (Addr × Obj) → Prop := fun i m₁ news₁ => (∀ y, y ≠ x → stored.contains y = false → m₁ y = m₀ y) ∧ J i m₁ news₁
  refine ⟨I, fp, [I], n, P, St, m₀, news, J', rfl, W, hLf, ?_, ?_, hst, F, N, ⟨fun _ _ _ => rfl, hj⟩, ?_, ?_⟩
  · intro b hb
    rw [List.mem_singleton.mp hb]
    exact hI₀
  · intro p hp hI
    exact hnw p hp (List.mem_singleton.mp hI)
  · rintro i v m₁ news₁ s₁ own ⟨hh', tk', rfl⟩ hin hP ⟨hm, hJ⟩ hoff h5 _ h7 hs F₁ N₁
    have e : (fun y => if y = x then some v else m₁ y) = fun y => if y = x then some v else if stored.contains y then m₁ y else m₀ y := by
      funext y
      by_cases h1 : y = x
      · simp [h1]
      · simp only [if_neg h1]
        cases h2 : stored.contains y with
        | true => simp
        | false => simp only [Bool.false_eq_true, if_false]; exact hm y h1 h2
    rw [e] at F₁
    obtain ⟨oI, hoI⟩ := hSt _ _ hs
    have hIo : (I, oI) ∈ own := h7 I hIf hI₀ oI hoI
    have own1 : ∀ (led : List (Addr × Obj)), (∀ b o, (∀ i u led, J i u led → (b, o) ∈ led) → (b, o) ∈ led) → ∀ p ∈ own, p ∈ (I, oI) :: led := fun led hl p hp => by
      have a := N₁ p (List.mem_append.mpr (.inl hp))
      rcases Decidable.em (p.1 = I) with q | q
      · have : p = (I, oI) := by
          have h4 := a.1; rw [q, hoI] at h4
          exact Prod.ext q (Option.some.inj h4).symm
        rw [this]; exact .head _
      · rcases hfp p.1 (h5 p hp) q with ⟨o, ho⟩ | ⟨o, ho⟩
        · rw [a.2.2] at ho; cases ho
        · have h4 := (N₁ _ (List.mem_append_right _ (ho i m₁ news₁ hJ))).1
          have h6 := a.1
          rw [h4] at h6
          have : p = (p.1, o) := Prod.ext rfl (Option.some.inj h6).symm
          rw [this]; exact .tail _ (hl _ _ ho)
    have off1 : ∀ p ∈ news₁, p.1 ≠ I := fun p hp q => hoff p hp (by rw [q]; exact List.mem_singleton.mpr rfl)
    have N₂ : News h₀ env.locals hh' ((I, oI) :: news₁) := fun p hp => by
      rcases List.mem_cons.mp hp with rfl | hp
      · exact N₁ _ (List.mem_append_left _ hIo)
      · exact N₁ _ (List.mem_append_right _ hp)
    refine wpAny_mono (turn i v m₁ news₁ hh' tk' I oI hin hP hJ off1 F₁ N₂) (fun f s₂ p => ?_) fun _ _ e => e
    have fin : (∃ h' tk m' led', s₂ = { ({ s with heap := hh', toks := tk' } : Shared) with heap := h', toks := tk } ∧ Fr h₀ env.locals h' m' ∧ News h₀ env.locals h' ((I, oI) :: led') ∧ (∀ p ∈ led', p.1 ≠ I) ∧ (∀ y, y ≠ x → stored.contains y = false → m' y = m₀ y) ∧ J (i + 1) m' led') →
        LoopStepU h₀ env.locals [I] own (J' (i + 1)) { s with heap := hh', toks := tk' } .next s₂ := by
      rintro ⟨h', tk, m', led', e, F', N', off', hm', hj'⟩
      refine ⟨rfl, h', tk, m', led', e, F', fun p hp => ?_, fun p hp q => off' p hp (List.mem_singleton.mp q), hm', hj'⟩
      rcases List.mem_append.mp hp with hp | hp
      · exact N' p (own1 led' (fun b o hb => hb _ _ _ hj') p hp)
      · exact N' p (.tail _ hp)
    cases f with
    | ret v => exact .ret p
    | brk => exact .brk p
    | next => exact .next (fin p)
    | cont => exact .cont (fin p)
  · rintro h' tk m' news' F' N' _ ⟨hm, hJ⟩
    refine done m' news' h' tk hJ ?_ N'
    have e : (fun y => if y = x then m' y else if stored.contains y then m' y else m₀ y) = m' := by
      funext y
      by_cases h1 : y = x
      · simp [h1]
      · simp only [if_neg h1]
        cases h2 : stored.contains y with
        | true => simp
        | false => simp only [Bool.false_eq_true, if_false]; exact (hm y h1 h2).symm
    rw [e]; exact F'
theorem my_range {r : Addr} {t₀ u₀ v₀ : Tok} {n : Nat} {m₀ : Str → Option Value} {news : List (Addr × Obj)} (stored : List Str) (J : Nat → (Str → Option Value) → List (Addr × Obj) → Prop)
    (hh : A.handled = none) (hr : IsRange s.heap r 0 (n : Int) 1 t₀ u₀ v₀) (hsm : n ≤ 1000) (F : Fr h₀ env.locals s.heap m₀) (N : News h₀ env.locals s.heap news) (hj : J 0 m₀ news)
    (turn : ∀ (i : Nat) t (u : Str → Option Value) led h tk I oI, i < n → J i u led → (∀ p ∈ led, p.1 ≠ I) → Fr h₀ env.locals h (fun y => if y = x then some (.int (i : Int) t) else if stored.contains y then u y else m₀ y) → News h₀ env.locals h ((I, oI) :: led) →
      wpAny (model prog w) A (execs body env) (TPost h₀ env.locals x stored m₀ (J (i + 1)) (I, oI) { s with heap := h, toks := tk } Q) E { s with heap := h, toks := tk })
    (done : ∀ (u : Str → Option Value) led h tk, J n u led → Fr h₀ env.locals h (fun y => if y = x then u y else if stored.contains y then u y else m₀ y) → News h₀ env.locals h led → Q .next { s with heap := h, toks := tk }) :
    wpAny (model prog w) A (pyIter (.ref r)) (fun it s₂ => LoopAtV prog w A h₀ env x body Q E it s₂) E s := by
  have hn : Builtin.Range.rangeSize 0 (n : Int) 1 = (n : Int) := by
    unfold Builtin.Range.rangeSize; simp; omega
  have hsmall : Builtin.Range.small 0 (n : Int) 1 = true := by
    unfold Builtin.Range.small; simp [hn, Builtin.Range.rangeFitsLong]; omega
  refine wpAny_pyIter_range hr hsmall ?_
  have W : Walks prog w A s.heap.objs.size [s.heap.objs.size] [s.heap.objs.size] n (fun i v => i < n ∧ ∃ t, v = .int (0 + i * 1) t)
      (fun i h => IsRangeIter h s.heap.objs.size (0 + (i : Nat) * 1) ((n : Int) - (i : Nat)) 1) := (Walks.range hh _ 0 1 n).bound
  refine my_at stored J W (List.mem_singleton.mpr rfl) (fun b hb q => absurd (List.mem_singleton.mp hb) q) ?_ (next_is_new F) (fun p hp => Nat.ne_of_lt (Heap.lt_size (N p hp).1)) (fun i h st => ⟨_, st⟩) (by show IsRangeIter _ _ _ _ _; rw [hn]; simpa using Heap.get?_push_size _ rfl) (F.push _) (fun p hp => ⟨Heap.get?_push_of_some _ (N p hp).1, (N p hp).2⟩) hj ?_ ?_
  · intro hm
    exact absurd F.ns.lt ((List.mem_singleton.mp hm) ▸ Nat.lt_irrefl _)
  · rintro i v u led h tk I oI hi ⟨_, t, rfl⟩ hJ off F₁ N₁
    simp only [Int.zero_add, Int.mul_one] at F₁
    exact turn i t u led h tk I oI hi hJ off F₁ N₁
  · exact done
/-- a list in the ground, or one of the ledger that stays -/
theorem my_list {l : Addr} {vs : List Value} {m₀ : Str → Option Value} {news : List (Addr × Obj)} (stored : List Str) (J : Nat → (Str → Option Value) → List (Addr × Obj) → Prop)
    (hh : A.handled = none) (hl : h₀.IsList l vs.toArray ∨ ∃ o, (∀ i u led, J i u led → (l, o) ∈ led) ∧ o.cls = .type "list" ∧ ∃ k, o.data = .seq vs.toArray k) (F : Fr h₀ env.locals s.heap m₀) (N : News h₀ env.locals s.heap news) (hj : J 0 m₀ news)
    (turn : ∀ (i : Nat) v (u : Str → Option Value) led h tk I oI, vs[i]? = some v → J i u led → (∀ p ∈ led, p.1 ≠ I) → Fr h₀ env.locals h (fun y => if y = x then some v else if stored.contains y then u y else m₀ y) → News h₀ env.locals h ((I, oI) :: led) →
      wpAny (model prog w) A (execs body env) (TPost h₀ env.locals x stored m₀ (J (i + 1)) (I, oI) { s with heap := h, toks := tk } Q) E { s with heap := h, toks := tk })
    (done : ∀ (u : Str → Option Value) led h tk, J vs.length u led → Fr h₀ env.locals h (fun y => if y = x then u y else if stored.contains y then u y else m₀ y) → News h₀ env.locals h led → Q .next { s with heap := h, toks := tk }) :
    wpAny (model prog w) A (pyIter (.ref l)) (fun it s₂ => LoopAtV prog w A h₀ env x body Q E it s₂) E s := by
  have hls : s.heap.IsList l vs.toArray := by
    rcases hl with hl | ⟨o, ho, hc, k, hd⟩
    · exact hl.at fun o e => F.keep l o e
    · exact ⟨o, (N _ (ho _ _ _ hj)).1, hc, k, hd⟩
  have hlt : l < s.heap.objs.size := by obtain ⟨_, e, _⟩ := hls; exact Heap.lt_size e
  have hne : l ≠ s.heap.objs.size := Nat.ne_of_lt hlt
  refine wpAny_pyIter_list hls ?_
  have W := Walks.list (prog := prog) (w := w) hh s.heap.objs.size l hne vs.toArray
  refine my_at stored J W List.mem_cons_self (fun b hb q => ?_) ?_ (next_is_new F) (fun p hp => Nat.ne_of_lt (Heap.lt_size (N p hp).1)) (fun i h st => by obtain ⟨o, e, _⟩ := st.1; exact ⟨o, e⟩) ⟨⟨_, Heap.get?_push_size _ rfl, rfl, rfl⟩, hls.at fun o e => Heap.get?_push_of_some _ e⟩ (F.push _) (fun p hp => ⟨Heap.get?_push_of_some _ (N p hp).1, (N p hp).2⟩) hj ?_ ?_
  · rcases List.mem_cons.mp hb with e | hb
    · exact absurd e q
    · rw [List.mem_singleton.mp hb]
      rcases hl with ⟨o, e, _⟩ | ⟨o, ho, _⟩
      · exact .inl ⟨o, e⟩
      · exact .inr ⟨o, ho⟩
  · intro hm
    rcases List.mem_cons.mp hm with e | hm
    · exact absurd F.ns.lt (e ▸ Nat.lt_irrefl _)
    · rcases hl with ⟨o, e, _⟩ | ⟨o, ho, _⟩
      · exact absurd (Nat.lt_of_lt_of_le (Heap.lt_size e) F.above) ((List.mem_singleton.mp hm) ▸ Nat.lt_irrefl _)
      · exact (N _ (ho _ _ _ hj)).2.1 (List.mem_singleton.mp hm).symm
  · rintro i v u led h tk I oI hi hP hJ off F₁ N₁
    exact turn i v u led h tk I oI (by simpa using hP) hJ off F₁ N₁
  · intro u led h tk hJ
    simp only [List.size_toArray] at hJ
    exact done u led h tk hJ
end
end

local macro_rules | `(tactic| walk_at "tail 2") => `(tactic| (intro tl tkl))
section
open PySem PySem.W PyProof.Rows
theorem lines_W2_1 : True := by
  k_with_none
  k_with "eval Call" => k_dflt (refine Call_ ?_)
  k_with "subscriptTail Name Constant ref int" => (k_dflt (refine item_tupleT (by first | (is_tup) | fail "x") (by decide) (by decide) (by rfl) (by rfl) ?_; k_whole))
  k_with "mine steps" => (repeat' (first | (k_unfold; (try dsimp only)) | ((fail_if_success (with_reducible show wpAny _ _ (PySem.pyIter _) _ _ _)); first | walk1 | (dsimp only; walk1)) | fail "no step"))
  k_with "call builtin:len" => (k_dflt (refine len_vs (by first | (is_list) | fail "x") (by assumption) (by assumption) ?_; k_whole); walk_at "tail 2")
  k_with "subscriptTail Name Name ref int" => (k_dflt (refine item_vs (by first | (is_list) | fail "x") (by first | (exact rfl) | fail "x") (by assumption) (by assumption) ?_; k_whole))
  k_with "call ref" => (k_here; k_dflt (refine compared (by first | (exact Wd.keeps (by assumption) (Fr.keep (by k_asm))) | fail "x") (by ktr_room) (by ktr_units) (by first | (exact OrdI.base (by first | (k_asm) | fail "x") (by assumption)) | fail "x") (by first | (exact Is.base (by first | (k_asm) | fail "x") (by assumption)) | fail "x") (by first | (exact Is.base (by first | (k_asm) | fail "x") (by assumption)) | fail "x") (by assumption) (by assumption) ?_; k_whole); walk_at "tail 1")
  k_with "mine hm" => (intros; first | (refine hm1 (by assumption) ?_; intros; (repeat' (first | with_reducible rfl | refine ifn (by assumption) ?_ | refine ifn (ne_t (by assumption)) ?_ | fail "x")); done) | (refine hm2 (by assumption) ?_; intros; (repeat' (first | with_reducible rfl | refine ifn (by assumption) ?_ | refine ifn (ne_t (by assumption)) ?_ | fail "x")); done) | (refine hm3 (by assumption) ?_; intros; (repeat' (first | with_reducible rfl | refine ifn (by assumption) ?_ | refine ifn (ne_t (by assumption)) ?_ | fail "x")); done) | ((repeat' (first | with_reducible rfl | refine ifn (by assumption) ?_ | refine ifn (ne_t (by assumption)) ?_ | fail "x")); done) | fail "hm")
  trivial
section
variable {w : World} {dp un : Nat} {fr : Option (List Env)} {gd : Option (List Code)} {E : Value → Shared → Prop} {s : Shared} {Q : Value → Shared → Prop}
set_option maxHeartbeats 4000000 in
theorem compared_rows {lo l1 l2 : Addr} {vs us ws : List Value} {os : List Od} {r1 r2 : List Cell}
    (W : Wd w s.heap) (hd : dp + 4 < recursionLimit) (hu : un + 200 < cLine) (hlen : os.length ≤ 3)
    (LO : s.heap.IsList lo vs.toArray) (L1 : s.heap.IsList l1 us.toArray) (L2 : s.heap.IsList l2 ws.toArray)
    (io : OrdIs w (At s.heap) vs os) (i1 : IsAll (At s.heap) us (r1.map Cell.py)) (i2 : IsAll (At s.heap) ws (r2.map Cell.py))
    (f1 : FitRow os r1) (f2 : FitRow os r2)
    (ret : ∀ r t h' tk', r = dueRows os r1 r2 → Ext s.heap h' → Q (.int r t) { s with heap := h', toks := tk' }) :
    wpAny (model pg w) (Ar dp un fr gd) (call (.ref 71) [.ref lo, .ref l1, .ref l2]) Q E s := by
  have hlv := io.length
  have hln : os.length ≤ 1000 := by omega
  k_dflt (refine' enter (binds := [("orders", .ref lo), ("one", .ref l1), ("other", .ref l2)]) W ?k6 ?k7 ?k8 ?k9 ?kB ?_ ?c2 ?c3 ?c4 ?c5; (case k6 => k_is); (case k7 => k_is); (case k8 => ktr_room); (case k9 => exact BindsTo.of_eq rfl); (case c5 => decide); (case kB => exact locs rfl); (case c2 => exact rfl); (case c3 => exact rfl); (case c4 => exact rfl); k_whole)
  intro L h₁ hL F
  have N : News s.heap L h₁ [] := News.nil
  have X := W.K
  refine Wd.elim W fun mean mg mb T => ?_
  (try dsimp only)
  (try k_fold)
  walk_at "mine steps"
  rename IsRange _ _ _ _ _ _ _ _ => R'
  refine my_range ["sign"] (fun i u led => dueRows os r1 r2 = dueRows (os.drop i) (r1.drop i) (r2.drop i)) rfl R' hln (by assumption) (by assumption) (by simp) ?_ ?_
  · intro i t u led h tk I oI hi hj off F' N'
    refine hideG fun G9 kG9 => ?_
    obtain ⟨o, ho⟩ : ∃ o, os[i]? = some o := ⟨os[i], by simp [hi]⟩
    obtain ⟨v, hv, iv⟩ := io.get ho
    obtain ⟨c1, hc1, fc1⟩ := f1.get ho
    obtain ⟨c2, hc2, fc2⟩ := f2.get ho
    obtain ⟨v1, hv1, iv1⟩ := i1.getC hc1
    obtain ⟨v2, hv2, iv2⟩ := i2.getC hc2
    refine kG9 ?_
    clear kG9 G9
    have hi3 : i ≤ 1000 := by omega
    rw [dueRows_step ho hc1 hc2] at hj
    dsimp only [envOf] at F' N'
    clear R'
    walk_at "mine steps"
    · exact ret _ _ _ _ (by simp_all) (Fr.keep (by assumption))
    · exact TPost.next (by assumption) (by assumption) off (by walk_at "mine hm") (by simp_all)
  · intro u led h tk hj F' N'
    walk_at "mine steps"
    have e : dueRows os r1 r2 = 0 := by rw [hj, List.drop_length]; rfl
    exact ret _ _ _ _ e.symm (Fr.keep (by assumption))
end
end

local macro_rules | `(tactic| walk_at "tail 3") => `(tactic| (intro _))
local macro_rules | `(tactic| walk_at "tail 4") => `(tactic| (intro h' o' F' N' l1 lo' hd' hf' ap'))
local macro_rules | `(tactic| walk_at "tail 5") => `(tactic| (intro tt' tkk'))
section
open PySem PySem.W PyProof.Rows
theorem lines_W3_1 : True := by
  k_with_none
  k_with "eval Call" => k_dflt (refine Call_ ?_)
  k_with "subscriptTail Name Constant ref int" => (k_dflt (refine item_tupleT (by first | (is_tup) | fail "x") (by decide) (by decide) (by rfl) (by rfl) ?_; k_whole))
  k_with "mine steps" => (repeat' (first | (k_unfold; (try dsimp only)) | ((fail_if_success (with_reducible show wpAny _ _ (PySem.pyIter _) _ _ _)); first | walk1 | (dsimp only; walk1)) | fail "no step"))
  k_with "call builtin:len" => (k_dflt (refine len_vs (by first | (is_list) | fail "x") (by assumption) (by assumption) ?_; k_whole); walk_at "tail 2")
  k_with "subscriptTail Name Name ref int" => (k_dflt (refine item_vs (by first | (is_list) | fail "x") (by first | (exact rfl) | fail "x") (by assumption) (by assumption) ?_; k_whole))
  k_with "call ref" => (k_here; k_dflt (refine sign_int (by first | (exact Wd.keeps (by assumption) (Fr.keep (by k_asm))) | fail "x") (by ktr_room) (by ktr_units)  ?_; k_whole); walk_at "tail 1")
  k_with "eval Dict" => (k_dflt (refine Dict_made (knd := PySem.intKind _ _) (by assumption) (by rfl) (by rfl) (by first | (exact List.cons_ne_nil _ _) | fail "x") (by first | (exact Nat.le_of_ble_eq_true rfl) | fail "x") ?_); walk_at "tail 3")
  k_with "evalPairs" => k_dflt (first | refine pairTrees_cons_walk ?_ | refine pairTrees_nil_walk ?_)
  k_with "Exists" => (k_dflt (refine kdp_made_int (by assumption) (by assumption) (by first | (exact Top.nolimit (by assumption)) | fail "x") (by rfl) (by first | ((show List.Nodup [(0 : Int), 1, -1]; decide)) | fail "x") (by rfl) ?_); walk_at "tail 4")
  k_with "subscriptTail Dict" => k_dflt (refine tab_tail (knd := PySem.intKind _ _) (enc := PyData.int) (by first | (exact TabAt.ofNews (by assumption) (List.Mem.head _) (by assumption) (by assumption) (by assumption)) | fail "x") ?_)
  trivial
theorem rank_look {x : Int} (hx : x = 0 ∨ x = 1 ∨ x = -1) : PySem.Spec.lookup (.int x) [(.int 0, .int (-1000)), (.int 1, .int 900), (.int (-1), .int (-900))] = some (.int (rank x 0)) := by
  rcases hx with rfl | rfl | rfl <;> simp [PySem.Spec.lookup, PySem.Spec.same, rank]
theorem flat_int {v : Value} {i : Int} (h : PyProof.V.Flat v (.int i)) : ∃ t, v = .int i t := by
  have h' := h ({} : Heap)
  cases h'; exact ⟨_, rfl⟩
theorem rank_item {w : World} {A : Around} {E : Value → Shared → Prop} {s : Shared} {d : Addr} {x : Int} {t : Tok} {Q : Value → Shared → Prop}
    (T : TabAt (PySem.intKind pg w) PyData.int s.heap d [(.int 0, .int (-1000)), (.int 1, .int 900), (.int (-1), .int (-900))]) (hx : x = 0 ∨ x = 1 ∨ x = -1)
    (h : ∀ t tk, Q (.int (rank x 0) t) { s with toks := tk }) : wpAny (model pg w) A (getItem (.ref d) (.int x t)) Q E s :=
  getItem_tab PyProof.V.same_int (intKind_is _ _ _ _) T (rank_look hx) (fun v hv => by obtain ⟨t', rfl⟩ := flat_int hv; exact h _ _)
theorem lines_W3_2 : True := by
  k_with "getItem ref int" => (k_dflt (refine rank_item (by first | (exact TabAt.ofNews (by assumption) (List.Mem.head _) (by assumption) (by assumption) (by assumption)) | fail "x") (by assumption) ?_); walk_at "tail 5")
  k_with "ite" => (first | refine ite_pos (by first | (simp only [beq_iff_eq]; assumption) | fail "x") ?_ | refine ite_neg (by first | (simp only [beq_iff_eq]; assumption) | fail "x") ?_ | fail "x")
  trivial
section
variable {w : World} {dp un : Nat} {fr : Option (List Env)} {gd : Option (List Code)} {E : Value → Shared → Prop} {s : Shared} {Q : Value → Shared → Prop}
theorem nums_zero : ∀ p ∈ nums, p.2 = 0 → p.1 = 0 ∨ p.1 = 1 ∨ p.1 = -1 := by decide +kernel
set_option maxHeartbeats 400000 in
theorem law_rank {v1 : Value} {x1 y1 : Int}
    (W : Wd w s.heap) (hd : dp + 2 < recursionLimit) (hu : un + 100 < cLine)
    (i1 : Is (At s.heap) v1 (.tuple [.int x1, .int y1])) (n1 : (x1, y1) ∈ nums)
    (ret : ∀ r t h' tk', r = rank x1 y1 → Ext s.heap h' → Q (.int r t) { s with heap := h', toks := tk' }) :
    wpAny (model pg w) (Ar dp un fr gd) (call (.ref 118) [v1]) Q E s := by
  refine hideG fun G9 kG9 => ?_
  obtain ⟨a, o1, t1, t2, k1, rfl, p1, c1, d1⟩ := i1.numE
  have T1 : IsTup s.heap a #[.int x1 t1, .int y1 t2] := ⟨_, p1, c1, _, d1⟩
  obtain ⟨⟨b1, b2⟩, b3, b4⟩ := nums_bound _ n1
  refine kG9 ?_
  clear kG9 G9
  by_cases hy : y1 = 0
  · have hx := nums_zero _ n1 hy
    dsimp only at hx
    clear i1 p1 c1 d1 n1 b1 b2 b3 b4
    k_dflt (refine' enter (binds := [("value", .ref a)]) W ?k6 ?k7 ?k8 ?k9 ?kB ?_ ?c2 ?c3 ?c4 ?c5; (case k6 => k_is); (case k7 => k_is); (case k8 => ktr_room); (case k9 => exact BindsTo.of_eq rfl); (case c5 => decide); (case kB => exact locs rfl); (case c2 => exact rfl); (case c3 => exact rfl); (case c4 => exact rfl); k_whole)
    intro L h₁ hL F
    have N : News s.heap L h₁ [] := News.nil
    have X := W.K
    refine Wd.elim W fun mean mg mb T => ?_
    (try dsimp only)
    (try k_fold)
    walk_at "mine steps"
    exact ret _ _ _ _ (by rw [hy]) (Fr.keep (by assumption))
  · dsimp only at *
    clear i1 p1 c1 d1 n1
    have b5 : 1 ≤ y1 := by omega
    k_dflt (refine' enter (binds := [("value", .ref a)]) W ?k6 ?k7 ?k8 ?k9 ?kB ?_ ?c2 ?c3 ?c4 ?c5; (case k6 => k_is); (case k7 => k_is); (case k8 => ktr_room); (case k9 => exact BindsTo.of_eq rfl); (case c5 => decide); (case kB => exact locs rfl); (case c2 => exact rfl); (case c3 => exact rfl); (case c4 => exact rfl); k_whole)
    intro L h₁ hL F
    have N : News s.heap L h₁ [] := News.nil
    have X := W.K
    refine Wd.elim W fun mean mg mb T => ?_
    (try dsimp only)
    (try k_fold)
    walk_at "mine steps"
    all_goals (refine ret _ _ _ _ ?_ (Fr.keep (by assumption)))
    all_goals (simp [rank, hy])
end
end

section
open PySem PySem.W PyProof.Rows
open PySem.AutoSeq1 (wpAny_loadPart')
open PySem.SeqAt PySem.MeetsSeq3
/-! lists compared by < and > -/
def OpAt (op : CmpOp) (A : Around) (s : Shared) (y x : Value) (b : Bool) : Prop :=
  ∀ (prog : Program) (w : World) (E : Value → Shared → Prop) (Q : Value → Shared → Prop), Q (.bool b) s → wpAny (model prog w) A (richCompare op y x) Q E s
def lexB (e r : Nat → Bool) (fin : Bool) : Nat → Nat → Bool
  | 0, _ => fin
  | k + 1, i => if e i then lexB e r fin k (i + 1) else r i
set_option maxHeartbeats 2000000 in
theorem lt_loop (op : CmpOp) (code : Int) (l b : Addr) (items items2 : Array Value) (n n2 : Nat) (dd dd2 : Option Addr) (sl sl2 : Array (Option Value)) (hop : (op = .Lt ∧ code = 0) ∨ (op = .Gt ∧ code = 4)) (e r : Nat → Bool) (fin : Bool)
    (hfin : fin = if op = .Lt then decide (items.size < items2.size) else decide (items.size > items2.size)) (k : Nat) :
    ∀ i : Nat, min items.size items2.size - i = k → i ≤ min items.size items2.size → Meets (Builtin.«list.__eq__.loop» ⟨[.ref l, .ref b, rawInt i, rawInt code], []⟩)
      (fun A R s => s.heap.get? l = some { cls := .type "list", dict := dd, data := .seq items n, slots := sl } ∧ s.heap.get? b = some { cls := .type "list", dict := dd2, data := .seq items2 n2, slots := sl2 } ∧
        (∀ j (h1 : j < items.size) (h2 : j < items2.size), EqAt A.in1 s items[j] items2[j] (e j)) ∧
        (∀ j (h1 : j < items.size) (h2 : j < items2.size), e j = false → OpAt op A.in1 s items[j] items2[j] (r j)) ∧
        R (.ok (.ret (.bool (lexB e r fin k i)))) s) := by
  induction k with
  | zero =>
    intro i hk hi prog w A R s h
    obtain ⟨hp, g, d, tk, os⟩ := s; obtain ⟨hl, hb, he, hr, h⟩ := h
    have hii : i = min items.size items2.size := by omega
    rcases hop with ⟨rfl, rfl⟩ | ⟨rfl, rfl⟩
    all_goals
      wp_walk using wpAny_loadPart' hl, wpAny_loadPart' hb
      have hi1 : items[((i : Nat) : Int).toNat]? = none ∨ items2[((i : Nat) : Int).toNat]? = none := by
        simp; omega
      have fin1 : lexB e r fin 0 i = fin := rfl
      rw [fin1, hfin] at h
      cases hx : items[((i : Nat) : Int).toNat]? with
      | none =>
        wp_walk using wpAny_loadPart' hl, wpAny_loadPart' hb
        exact h
      | some x =>
        have hy : items2[((i : Nat) : Int).toNat]? = none := by
          rcases hi1 with h1 | h1
          · rw [hx] at h1; cases h1
          · exact h1
        rw [hy]
        wp_walk using wpAny_loadPart' hl, wpAny_loadPart' hb
        exact h
  | succ k ih =>
    intro i hk hi prog w A R s h
    obtain ⟨hp, g, d, tk, os⟩ := s; obtain ⟨hl, hb, he, hr, h⟩ := h
    have hlt : i < items.size := by omega
    have hlt2 : i < items2.size := by omega
    have hi1 : items[((i : Nat) : Int).toNat]? = some items[i] := by simp [hlt]
    have hi2 : items2[((i : Nat) : Int).toNat]? = some items2[i] := by simp [hlt2]
    have hc : ((i : Int) + 1) = ((i + 1 : Nat) : Int) := by push_cast; rfl
    rcases hop with ⟨rfl, rfl⟩ | ⟨rfl, rfl⟩
    all_goals
      wp_walk using wpAny_loadPart' hl, wpAny_loadPart' hb
      rw [hi1, hi2]
      refine wpAny_bind (he i hlt hlt2 prog w _ _ ?_)
      cases hb' : e i with
      | true =>
        wp_walk
        rw [hc]
        exact ⟨plainId_quiet plain_eq_loop _, codeAny_builtin entry_eq_loop (by
          rw [Around.under_plainId plain_eq_loop _]
          exact ih (i + 1) (by omega) (by omega) prog w A R _ ⟨hl, hb, he, hr, by simpa [lexB, hb'] using h⟩)⟩
      | false =>
        wp_walk using wpAny_loadPart' hl, wpAny_loadPart' hb
        rw [hi1, hi2]
        refine wpAny_bind (hr i hlt hlt2 hb' prog w _ _ ?_)
        wp_walk
        simpa [lexB, hb'] using h
theorem list_lt (l b : Addr) (items items2 : Array Value) (n n2 : Nat) (dd dd2 : Option Addr) (sl sl2 : Array (Option Value)) (e r : Nat → Bool) :
    Meets (Builtin.«list.__lt__» ⟨[.ref l, .ref b], []⟩)
      (fun A R s => s.heap.get? l = some { cls := .type "list", dict := dd, data := .seq items n, slots := sl } ∧ s.heap.get? b = some { cls := .type "list", dict := dd2, data := .seq items2 n2, slots := sl2 } ∧
        (∀ j (h1 : j < items.size) (h2 : j < items2.size), EqAt A.in1 s items[j] items2[j] (e j)) ∧
        (∀ j (h1 : j < items.size) (h2 : j < items2.size), e j = false → OpAt .Lt A.in1 s items[j] items2[j] (r j)) ∧
        R (.ok (.ret (.bool (lexB e r (decide (items.size < items2.size)) (min items.size items2.size) 0)))) s) := by
  intro prog w A R s h
  obtain ⟨hp, g, d, tk, os⟩ := s; obtain ⟨hl, hb, he, hr, h⟩ := h
  have f3 := AutoSeq1.sub_list_list
  wp_walk using wpAny_loadPart' hl, wpAny_loadPart' hb
  exact ⟨plainId_quiet plain_eq_loop _, codeAny_builtin entry_eq_loop (by
    rw [Around.under_plainId plain_eq_loop _]
    exact lt_loop .Lt 0 l b items items2 n n2 dd dd2 sl sl2 (.inl ⟨rfl, rfl⟩) e r _ rfl _ 0 (by omega) (by omega) prog w A R _ ⟨hl, hb, he, hr, h⟩)⟩
theorem list_gt (l b : Addr) (items items2 : Array Value) (n n2 : Nat) (dd dd2 : Option Addr) (sl sl2 : Array (Option Value)) (e r : Nat → Bool) :
    Meets (Builtin.«list.__gt__» ⟨[.ref l, .ref b], []⟩)
      (fun A R s => s.heap.get? l = some { cls := .type "list", dict := dd, data := .seq items n, slots := sl } ∧ s.heap.get? b = some { cls := .type "list", dict := dd2, data := .seq items2 n2, slots := sl2 } ∧
        (∀ j (h1 : j < items.size) (h2 : j < items2.size), EqAt A.in1 s items[j] items2[j] (e j)) ∧
        (∀ j (h1 : j < items.size) (h2 : j < items2.size), e j = false → OpAt .Gt A.in1 s items[j] items2[j] (r j)) ∧
        R (.ok (.ret (.bool (lexB e r (decide (items.size > items2.size)) (min items.size items2.size) 0)))) s) := by
  intro prog w A R s h
  obtain ⟨hp, g, d, tk, os⟩ := s; obtain ⟨hl, hb, he, hr, h⟩ := h
  have f3 := AutoSeq1.sub_list_list
  wp_walk using wpAny_loadPart' hl, wpAny_loadPart' hb
  exact ⟨plainId_quiet plain_eq_loop _, codeAny_builtin entry_eq_loop (by
    rw [Around.under_plainId plain_eq_loop _]
    exact lt_loop .Gt 4 l b items items2 n n2 dd dd2 sl sl2 (.inr ⟨rfl, rfl⟩) e r _ (by simp) _ 0 (by omega) (by omega) prog w A R _ ⟨hl, hb, he, hr, h⟩)⟩
section
variable {A : Around} {s : Shared}
theorem OpAt.lt_lists {l b : Addr} {items items2 : Array Value} {e r : Nat → Bool} (hl : s.heap.IsList l items) (hb : s.heap.IsList b items2) (hu : A.units < cLine)
    (he : ∀ j (h1 : j < items.size) (h2 : j < items2.size), EqAt A.in1 s items[j] items2[j] (e j)) (hr : ∀ j (h1 : j < items.size) (h2 : j < items2.size), e j = false → OpAt .Lt A.in1 s items[j] items2[j] (r j)) :
    OpAt .Lt A s (.ref l) (.ref b) (lexB e r (decide (items.size < items2.size)) (min items.size items2.size) 0) := fun prog w E Q h => by
  obtain ⟨⟨cls, dd, data, sl⟩, ho, hc, n, hd⟩ := id hl
  obtain ⟨⟨cls2, dd2, data2, sl2⟩, ho2, hc2, n2, hd2⟩ := id hb
  simp only at hc hd hc2 hd2
  subst hc hd hc2 hd2
  exact richCompare_meets_room (op := .Lt) ⟨_, ho, rfl⟩ ⟨_, ho2, rfl⟩ F.slot_list_lt F.entry_list_lt (F.args_list_lt_2 _ _) (list_lt l b items items2 n n2 dd dd2 sl sl2 e r)
    ⟨ho, ho2, he, hr, show Value.bool _ ≠ Value.notImplemented ∧ Q (.bool _) s from ⟨(fun x => nomatch x), h⟩⟩ hu
theorem OpAt.gt_lists {l b : Addr} {items items2 : Array Value} {e r : Nat → Bool} (hl : s.heap.IsList l items) (hb : s.heap.IsList b items2) (hu : A.units < cLine)
    (he : ∀ j (h1 : j < items.size) (h2 : j < items2.size), EqAt A.in1 s items[j] items2[j] (e j)) (hr : ∀ j (h1 : j < items.size) (h2 : j < items2.size), e j = false → OpAt .Gt A.in1 s items[j] items2[j] (r j)) :
    OpAt .Gt A s (.ref l) (.ref b) (lexB e r (decide (items.size > items2.size)) (min items.size items2.size) 0) := fun prog w E Q h => by
  obtain ⟨⟨cls, dd, data, sl⟩, ho, hc, n, hd⟩ := id hl
  obtain ⟨⟨cls2, dd2, data2, sl2⟩, ho2, hc2, n2, hd2⟩ := id hb
  simp only at hc hd hc2 hd2
  subst hc hd hc2 hd2
  exact richCompare_meets_room (op := .Gt) ⟨_, ho, rfl⟩ ⟨_, ho2, rfl⟩ F.slot_list_gt F.entry_list_gt (F.args_list_gt_2 _ _) (list_gt l b items items2 n n2 dd dd2 sl sl2 e r)
    ⟨ho, ho2, he, hr, show Value.bool _ ≠ Value.notImplemented ∧ Q (.bool _) s from ⟨(fun x => nomatch x), h⟩⟩ hu
theorem OpAt.lt_int (a : Int) (t : Tok) (b : Int) (u : Tok) : OpAt .Lt A s (.int a t) (.int b u) (decide (a < b)) := fun prog w E Q h =>
  (show wpAny (model prog w) A (compareOp .Lt (.int a t) (.int b u)) Q E s from PyProof.Rows.lt_int h)
theorem OpAt.gt_int (a : Int) (t : Tok) (b : Int) (u : Tok) : OpAt .Gt A s (.int a t) (.int b u) (decide (b < a)) := fun prog w E Q h =>
  (show wpAny (model prog w) A (compareOp .Gt (.int a t) (.int b u)) Q E s from PyProof.Rows.gt_int h)
end
end

section
open PySem PySem.W PyProof.Rows
open PySem.SeqAt
def intsD (xs : List Int) : List PyData := xs.map PyData.int
theorem IsAll.ints {P : Addr → Obj → Prop} : ∀ {vs : List Value} {xs : List Int}, IsAll P vs (intsD xs) → vs.length = xs.length ∧ ∀ j (h : j < vs.length) (h' : j < xs.length), ∃ t, vs[j] = .int xs[j] t
  | [], [], _ => ⟨rfl, fun j h => absurd h (Nat.not_lt_zero _)⟩
  | [], _ :: _, h => by cases h
  | _ :: _, [], h => by cases h
  | v :: vs, x :: xs, h => by
    obtain ⟨v', r, e, h1, h2⟩ := h.consE
    cases e
    obtain ⟨t, rfl⟩ := h1.intE
    obtain ⟨l, g⟩ := IsAll.ints (xs := xs) h2
    refine ⟨by simp [l], fun j hj hj' => ?_⟩
    cases j with
    | zero => exact ⟨t, rfl⟩
    | succ j => simpa using g j (by simpa using hj) (by simpa using hj')
theorem lexB_lt (xs ys : List Int) : ∀ k i, k = min xs.length ys.length - i → i ≤ min xs.length ys.length →
    lexB (fun j => xs.getD j 0 == ys.getD j 0) (fun j => decide (xs.getD j 0 < ys.getD j 0)) (decide (xs.length < ys.length)) k i = decide (cmpL (xs.drop i) (ys.drop i) < 0)
  | 0, i, hk, hi => by
    have hh : i = min xs.length ys.length := by omega
    simp only [lexB]
    by_cases h : xs.length < ys.length
    · have e1 : xs.drop i = [] := by simp; omega
      have e2 : ∃ y r, ys.drop i = y :: r := by
        cases hd : ys.drop i with
        | nil => simp at hd; omega
        | cons y r => exact ⟨y, r, rfl⟩
      obtain ⟨y, r, e2⟩ := e2
      rw [e1, e2]; simp [h, cmpL]
    · have e2 : ys.drop i = [] := by simp; omega
      rw [e2]
      cases hd : xs.drop i <;> simp [h, cmpL]
  | k + 1, i, hk, hi => by
    have h1 : i < xs.length := by omega
    have h2 : i < ys.length := by omega
    have ih := lexB_lt xs ys k (i + 1) (by omega) (by omega)
    simp only [lexB, ih]
    rw [List.drop_eq_getElem_cons h1, List.drop_eq_getElem_cons h2]
    simp only [List.getD_eq_getElem?_getD, List.getElem?_eq_getElem h1, List.getElem?_eq_getElem h2, Option.getD_some, cmpL]
    by_cases h3 : xs[i] = ys[i]
    · simp [h3]
    · by_cases h4 : xs[i] < ys[i]
      · simp [h3, h4]
      · have h5 : ys[i] < xs[i] := by omega
        simp [h3, h4, h5]
theorem lexB_gt (xs ys : List Int) : ∀ k i, k = min xs.length ys.length - i → i ≤ min xs.length ys.length →
    lexB (fun j => xs.getD j 0 == ys.getD j 0) (fun j => decide (ys.getD j 0 < xs.getD j 0)) (decide (xs.length > ys.length)) k i = decide (0 < cmpL (xs.drop i) (ys.drop i))
  | 0, i, hk, hi => by
    have hh : i = min xs.length ys.length := by omega
    simp only [lexB]
    by_cases h : xs.length > ys.length
    · have e1 : ys.drop i = [] := by simp; omega
      have e2 : ∃ y r, xs.drop i = y :: r := by
        cases hd : xs.drop i with
        | nil => simp at hd; omega
        | cons y r => exact ⟨y, r, rfl⟩
      obtain ⟨y, r, e2⟩ := e2
      rw [e1, e2]; simp [h, cmpL]
    · have e2 : xs.drop i = [] := by simp; omega
      rw [e2]
      cases hd : ys.drop i <;> simp [h, cmpL]
  | k + 1, i, hk, hi => by
    have h1 : i < xs.length := by omega
    have h2 : i < ys.length := by omega
    have ih := lexB_gt xs ys k (i + 1) (by omega) (by omega)
    simp only [lexB, ih]
    rw [List.drop_eq_getElem_cons h1, List.drop_eq_getElem_cons h2]
    simp only [List.getD_eq_getElem?_getD, List.getElem?_eq_getElem h1, List.getElem?_eq_getElem h2, Option.getD_some, cmpL]
    by_cases h3 : xs[i] = ys[i]
    · simp [h3]
    · by_cases h4 : xs[i] < ys[i]
      · have h5 : ¬ ys[i] < xs[i] := by omega
        simp [h3, h4, h5]
      · have h5 : ys[i] < xs[i] := by omega
        simp [h3, h4, h5]
theorem cmpL_eq0 : ∀ {xs ys : List Int}, cmpL xs ys = 0 ↔ xs = ys
  | [], [] => by simp [cmpL]
  | [], _ :: _ => by simp [cmpL]
  | _ :: _, [] => by simp [cmpL]
  | a :: as, b :: bs => by
    simp only [cmpL, List.cons.injEq, ← cmpL_eq0 (xs := as) (ys := bs)]
    by_cases h : a < b
    · simp [h]; omega
    · by_cases h' : b < a
      · simp [h, h']; omega
      · have : a = b := by omega
        simp [this]
section
variable {A : Around} {s : Shared} {l b : Addr} {us ws : List Value} {xs ys : List Int}
theorem int_items (hx : IsAll (At s.heap) us (intsD xs)) (hy : IsAll (At s.heap) ws (intsD ys)) (A : Around) :
    (∀ j (h1 : j < us.toArray.size) (h2 : j < ws.toArray.size), EqAt A s us.toArray[j] ws.toArray[j] (xs.getD j 0 == ys.getD j 0)) ∧
    (∀ j (h1 : j < us.toArray.size) (h2 : j < ws.toArray.size), OpAt .Lt A s us.toArray[j] ws.toArray[j] (decide (xs.getD j 0 < ys.getD j 0))) ∧
    (∀ j (h1 : j < us.toArray.size) (h2 : j < ws.toArray.size), OpAt .Gt A s us.toArray[j] ws.toArray[j] (decide (ys.getD j 0 < xs.getD j 0))) := by
  obtain ⟨l1, g1⟩ := hx.ints
  obtain ⟨l2, g2⟩ := hy.ints
  refine ⟨fun j h1 h2 => ?_, fun j h1 h2 => ?_, fun j h1 h2 => ?_⟩
  all_goals
    simp only [List.size_toArray] at h1 h2
    obtain ⟨t1, e1⟩ := g1 j h1 (by omega)
    obtain ⟨t2, e2⟩ := g2 j h2 (by omega)
    simp only [List.getElem_toArray, e1, e2]
    have x1 : xs.getD j 0 = xs[j]'(by omega) := by simp [List.getD_eq_getElem?_getD, List.getElem?_eq_getElem (show j < xs.length by omega)]
    have x2 : ys.getD j 0 = ys[j]'(by omega) := by simp [List.getD_eq_getElem?_getD, List.getElem?_eq_getElem (show j < ys.length by omega)]
    rw [x1, x2]
  · exact EqAt.int_int _ _ _ _
  · exact OpAt.lt_int _ _ _ _
  · exact OpAt.gt_int _ _ _ _
theorem lt_ints (hl : s.heap.IsList l us.toArray) (hb : s.heap.IsList b ws.toArray) (hx : IsAll (At s.heap) us (intsD xs)) (hy : IsAll (At s.heap) ws (intsD ys)) (hu : A.units < cLine) :
    OpAt .Lt A s (.ref l) (.ref b) (decide (cmpL xs ys < 0)) := by
  obtain ⟨i1, i2, i3⟩ := int_items hx hy A.in1
  have := OpAt.lt_lists hl hb hu i1 (fun j h1 h2 _ => i2 j h1 h2)
  simp only [List.size_toArray, hx.ints.1, hy.ints.1] at this
  rw [lexB_lt xs ys _ 0 (by omega) (by omega)] at this
  simpa using this
theorem gt_ints (hl : s.heap.IsList l us.toArray) (hb : s.heap.IsList b ws.toArray) (hx : IsAll (At s.heap) us (intsD xs)) (hy : IsAll (At s.heap) ws (intsD ys)) (hu : A.units < cLine) :
    OpAt .Gt A s (.ref l) (.ref b) (decide (0 < cmpL xs ys)) := by
  obtain ⟨i1, i2, i3⟩ := int_items hx hy A.in1
  have := OpAt.gt_lists hl hb hu i1 (fun j h1 h2 _ => i3 j h1 h2)
  simp only [List.size_toArray, hx.ints.1, hy.ints.1] at this
  rw [lexB_gt xs ys _ 0 (by omega) (by omega)] at this
  simpa using this
theorem range_all (xs ys : List Int) (h : xs.length = ys.length) : (List.range xs.length).all (fun j => xs.getD j 0 == ys.getD j 0) = decide (xs = ys) := by
  rw [Bool.eq_iff_iff]
  simp only [List.all_eq_true, List.mem_range, beq_iff_eq, decide_eq_true_eq]
  constructor
  · intro g
    apply List.ext_getElem h
    intro j h1 h2
    have := g j h1
    simpa [List.getD_eq_getElem?_getD, List.getElem?_eq_getElem h1, List.getElem?_eq_getElem h2] using this
  · rintro rfl j _; rfl
theorem eq_ints (hl : s.heap.IsList l us.toArray) (hb : s.heap.IsList b ws.toArray) (hx : IsAll (At s.heap) us (intsD xs)) (hy : IsAll (At s.heap) ws (intsD ys)) (hu : A.units < cLine) :
    EqAt A s (.ref l) (.ref b) (decide (xs = ys)) := by
  by_cases hlb : l = b
  · subst hlb
    have e : us = ws := by
      obtain ⟨o, h1, _, n, h2⟩ := hl
      obtain ⟨o', h3, _, n', h4⟩ := hb
      rw [h1] at h3; cases h3
      rw [h2] at h4
      simpa using (Data.seq.inj h4).1
    subst e
    have exy : xs = ys := by
      obtain ⟨l1, g1⟩ := hx.ints
      obtain ⟨l2, g2⟩ := hy.ints
      apply List.ext_getElem (by omega)
      intro j h1 h2
      obtain ⟨t1, e1⟩ := g1 j (by omega) h1
      obtain ⟨t2, e2⟩ := g2 j (by omega) h2
      rw [e1] at e2
      exact (Value.int.inj e2).1
    rw [show decide (xs = ys) = true by simp [exy]]
    exact EqAt.same _
  · refine EqAt.of_refs hlb ?_
    obtain ⟨i1, i2, i3⟩ := int_items hx hy A.in1
    by_cases hsz : xs.length = ys.length
    · have h1 : us.toArray.size = ws.toArray.size := by simp [hx.ints.1, hy.ints.1, hsz]
      have := RcAt.lists (e := fun j => xs.getD j 0 == ys.getD j 0) hl hb h1 hu i1
      rw [show us.toArray.size = xs.length by simp [hx.ints.1], range_all xs ys hsz] at this
      exact this
    · have h1 : (us.toArray.size != ws.toArray.size) = true := by simp [hx.ints.1, hy.ints.1, hsz]
      have : decide (xs = ys) = false := by simp; intro e; exact hsz (by rw [e])
      rw [this]
      exact RcAt.lists_lengths hl hb h1 hu
end
/-- pairs of lists of ints -/
def pairD (p : List Int × List Int) : List PyData := [.list (intsD p.1), .list (intsD p.2)]
theorem pair_items {s : Shared} {us ws : List Value} {p q : List Int × List Int} (hx : IsAll (At s.heap) us (pairD p)) (hy : IsAll (At s.heap) ws (pairD q)) (A : Around) (hu : A.units < cLine) :
    us.length = 2 ∧ ws.length = 2 ∧
    (∀ j (h1 : j < us.toArray.size) (h2 : j < ws.toArray.size), EqAt A s us.toArray[j] ws.toArray[j] (if j = 0 then decide (p.1 = q.1) else decide (p.2 = q.2))) ∧
    (∀ j (h1 : j < us.toArray.size) (h2 : j < ws.toArray.size), OpAt .Lt A s us.toArray[j] ws.toArray[j] (if j = 0 then decide (cmpL p.1 q.1 < 0) else decide (cmpL p.2 q.2 < 0))) ∧
    (∀ j (h1 : j < us.toArray.size) (h2 : j < ws.toArray.size), OpAt .Gt A s us.toArray[j] ws.toArray[j] (if j = 0 then decide (0 < cmpL p.1 q.1) else decide (0 < cmpL p.2 q.2))) := by
  obtain ⟨u1, r, rfl, a1, hx⟩ := hx.consE
  obtain ⟨u2, r, rfl, a2, hx⟩ := hx.consE
  obtain rfl := hx.nilE
  obtain ⟨w1, r, rfl, c1, hy⟩ := hy.consE
  obtain ⟨w2, r, rfl, c2, hy⟩ := hy.consE
  obtain rfl := hy.nilE
  obtain ⟨b1, o1, vs1, n1, rfl, p1, q1, d1, g1⟩ := a1.listE
  obtain ⟨b2, o2, vs2, n2, rfl, p2, q2, d2, g2⟩ := a2.listE
  obtain ⟨b3, o3, vs3, n3, rfl, p3, q3, d3, g3⟩ := c1.listE
  obtain ⟨b4, o4, vs4, n4, rfl, p4, q4, d4, g4⟩ := c2.listE
  have l1 := isList_of p1 q1 d1
  have l2 := isList_of p2 q2 d2
  have l3 := isList_of p3 q3 d3
  have l4 := isList_of p4 q4 d4
  refine ⟨rfl, rfl, fun j h1 h2 => ?_, fun j h1 h2 => ?_, fun j h1 h2 => ?_⟩
  all_goals
    match j, h1, h2 with
    | 0, _, _ => first | exact eq_ints l1 l3 g1 g3 hu | exact lt_ints l1 l3 g1 g3 hu | exact gt_ints l1 l3 g1 g3 hu
    | 1, _, _ => first | exact eq_ints l2 l4 g2 g4 hu | exact lt_ints l2 l4 g2 g4 hu | exact gt_ints l2 l4 g2 g4 hu
theorem lt_pairs {A : Around} {s : Shared} {l b : Addr} {us ws : List Value} {p q : List Int × List Int} (hl : s.heap.IsList l us.toArray) (hb : s.heap.IsList b ws.toArray) (hx : IsAll (At s.heap) us (pairD p)) (hy : IsAll (At s.heap) ws (pairD q)) (hu : A.units + 1 < cLine) :
    OpAt .Lt A s (.ref l) (.ref b) (decide (cmpP p q < 0)) := by
  obtain ⟨n1, n2, i1, i2, i3⟩ := pair_items hx hy A.in1 hu
  have := OpAt.lt_lists hl hb (by omega) i1 (fun j h1 h2 _ => i2 j h1 h2)
  have e : lexB (fun j => if j = 0 then decide (p.1 = q.1) else decide (p.2 = q.2)) (fun j => if j = 0 then decide (cmpL p.1 q.1 < 0) else decide (cmpL p.2 q.2 < 0)) false 2 0 = decide (cmpP p q < 0) := by
    unfold cmpP
    by_cases h1 : p.1 = q.1
    · have h2 := cmpL_eq0.mpr h1
      by_cases h3 : p.2 = q.2
      · have h4 := cmpL_eq0.mpr h3
        simp [lexB, h1, h2, h3, h4, cmpL_refl]
      · simp [lexB, h1, h3, cmpL_refl]
    · have h2 : cmpL p.1 q.1 ≠ 0 := fun z => h1 (cmpL_eq0.mp z)
      simp [lexB, h1, h2]
  simp only [List.size_toArray, n1, n2] at this
  simpa [e] using this
theorem gt_pairs {A : Around} {s : Shared} {l b : Addr} {us ws : List Value} {p q : List Int × List Int} (hl : s.heap.IsList l us.toArray) (hb : s.heap.IsList b ws.toArray) (hx : IsAll (At s.heap) us (pairD p)) (hy : IsAll (At s.heap) ws (pairD q)) (hu : A.units + 1 < cLine) :
    OpAt .Gt A s (.ref l) (.ref b) (decide (0 < cmpP p q)) := by
  obtain ⟨n1, n2, i1, i2, i3⟩ := pair_items hx hy A.in1 hu
  have := OpAt.gt_lists hl hb (by omega) i1 (fun j h1 h2 _ => i3 j h1 h2)
  have e : lexB (fun j => if j = 0 then decide (p.1 = q.1) else decide (p.2 = q.2)) (fun j => if j = 0 then decide (0 < cmpL p.1 q.1) else decide (0 < cmpL p.2 q.2)) false 2 0 = decide (0 < cmpP p q) := by
    unfold cmpP
    by_cases h1 : p.1 = q.1
    · have h2 := cmpL_eq0.mpr h1
      by_cases h3 : p.2 = q.2
      · have h4 := cmpL_eq0.mpr h3
        simp [lexB, h1, h2, h3, h4, cmpL_refl]
      · simp [lexB, h1, h3, cmpL_refl]
    · have h2 : cmpL p.1 q.1 ≠ 0 := fun z => h1 (cmpL_eq0.mp z)
      simp [lexB, h1, h2]
  simp only [List.size_toArray, n1, n2] at this
  simpa [e] using this
end

section
open PySem PySem.W PyProof.Rows
theorem lines_W4_1 : True := by
  k_with_none
  k_with "eval Call" => k_dflt (refine Call_ ?_)
  k_with "subscriptTail Name Constant ref int" => (k_dflt (refine item_tupleT (by first | (is_tup) | fail "x") (by decide) (by decide) (by rfl) (by rfl) ?_; k_whole))
  k_with "mine steps" => (repeat' (first | (k_unfold; (try dsimp only)) | ((fail_if_success (with_reducible show wpAny _ _ (PySem.pyIter _) _ _ _)); first | walk1 | (dsimp only; walk1)) | fail "no step"))
  k_with "call builtin:len" => (k_dflt (refine len_vs (by first | (is_list) | fail "x") (by assumption) (by assumption) ?_; k_whole); walk_at "tail 2")
  k_with "subscriptTail Name Name ref int" => (k_dflt (refine item_vs (by first | (is_list) | fail "x") (by first | (exact rfl) | fail "x") (by assumption) (by assumption) ?_; k_whole))
  trivial
theorem use_gtI {w : World} {A : Around} {E : Value → Shared → Prop} {s : Shared} {Q : Value → Shared → Prop} {l b : Addr} {us ws : List Value} {xs ys : List Int} (hl : s.heap.IsList l us.toArray) (hb : s.heap.IsList b ws.toArray) (hx : IsAll (At s.heap) us (intsD xs)) (hy : IsAll (At s.heap) ws (intsD ys)) (hu : A.units < cLine)
    (h : Q (.bool (decide (0 < cmpL xs ys))) s) : wpAny (model pg w) A (compareOp .Gt (.ref l) (.ref b)) Q E s := gt_ints hl hb hx hy hu _ _ _ _ h
theorem use_ltI {w : World} {A : Around} {E : Value → Shared → Prop} {s : Shared} {Q : Value → Shared → Prop} {l b : Addr} {us ws : List Value} {xs ys : List Int} (hl : s.heap.IsList l us.toArray) (hb : s.heap.IsList b ws.toArray) (hx : IsAll (At s.heap) us (intsD xs)) (hy : IsAll (At s.heap) ws (intsD ys)) (hu : A.units < cLine)
    (h : Q (.bool (decide (cmpL xs ys < 0))) s) : wpAny (model pg w) A (compareOp .Lt (.ref l) (.ref b)) Q E s := lt_ints hl hb hx hy hu _ _ _ _ h
theorem use_gtP {w : World} {A : Around} {E : Value → Shared → Prop} {s : Shared} {Q : Value → Shared → Prop} {l b : Addr} {us ws : List Value} {p q : List Int × List Int} (hl : s.heap.IsList l us.toArray) (hb : s.heap.IsList b ws.toArray) (hx : IsAll (At s.heap) us (pairD p)) (hy : IsAll (At s.heap) ws (pairD q)) (hu : A.units + 1 < cLine)
    (h : Q (.bool (decide (0 < cmpP p q))) s) : wpAny (model pg w) A (compareOp .Gt (.ref l) (.ref b)) Q E s := gt_pairs hl hb hx hy hu _ _ _ _ h
theorem use_ltP {w : World} {A : Around} {E : Value → Shared → Prop} {s : Shared} {Q : Value → Shared → Prop} {l b : Addr} {us ws : List Value} {p q : List Int × List Int} (hl : s.heap.IsList l us.toArray) (hb : s.heap.IsList b ws.toArray) (hx : IsAll (At s.heap) us (pairD p)) (hy : IsAll (At s.heap) ws (pairD q)) (hu : A.units + 1 < cLine)
    (h : Q (.bool (decide (cmpP p q < 0))) s) : wpAny (model pg w) A (compareOp .Lt (.ref l) (.ref b)) Q E s := lt_pairs hl hb hx hy hu _ _ _ _ h
theorem lines_W4_2 : True := by
  k_with "compareOp Gt ref ref" => k_dflt (first | (refine use_gtI (by first | (is_list) | fail "x") (by first | (is_list) | fail "x") (by first | (exact IsAll.base (by first | (k_asm) | fail "x") (by assumption)) | fail "x") (by first | (exact IsAll.base (by first | (k_asm) | fail "x") (by assumption)) | fail "x") (by ktr_units) ?_) | (refine use_gtP (by first | (is_list) | fail "x") (by first | (is_list) | fail "x") (by first | (exact IsAll.base (by first | (k_asm) | fail "x") (by assumption)) | fail "x") (by first | (exact IsAll.base (by first | (k_asm) | fail "x") (by assumption)) | fail "x") (by ktr_units) ?_))
  k_with "compareOp Lt ref ref" => k_dflt (first | (refine use_ltI (by first | (is_list) | fail "x") (by first | (is_list) | fail "x") (by first | (exact IsAll.base (by first | (k_asm) | fail "x") (by assumption)) | fail "x") (by first | (exact IsAll.base (by first | (k_asm) | fail "x") (by assumption)) | fail "x") (by ktr_units) ?_) | (refine use_ltP (by first | (is_list) | fail "x") (by first | (is_list) | fail "x") (by first | (exact IsAll.base (by first | (k_asm) | fail "x") (by assumption)) | fail "x") (by first | (exact IsAll.base (by first | (k_asm) | fail "x") (by assumption)) | fail "x") (by ktr_units) ?_))
  trivial
section
variable {w : World} {dp un : Nat} {fr : Option (List Env)} {gd : Option (List Code)} {E : Value → Shared → Prop} {s : Shared} {Q : Value → Shared → Prop}
set_option maxHeartbeats 4000000 in
theorem lsign_int {x y : Int} {t1 t2 : Tok}
    (W : Wd w s.heap) (hd : dp + 1 < recursionLimit) (hu : un + 50 < cLine)
    (ret : ∀ r t h' tk', r = sgn x y → Ext s.heap h' → Q (.int r t) { s with heap := h', toks := tk' }) :
    wpAny (model pg w) (Ar dp un fr gd) (call (.ref 130) [.int x t1, .int y t2]) Q E s := by
  k_dflt (refine' enter (binds := [("one", .int x t1), ("other", .int y t2)]) W ?k6 ?k7 ?k8 ?k9 ?kB ?_ ?c2 ?c3 ?c4 ?c5; (case k6 => k_is); (case k7 => k_is); (case k8 => ktr_room); (case k9 => exact BindsTo.of_eq rfl); (case c5 => decide); (case kB => exact locs rfl); (case c2 => exact rfl); (case c3 => exact rfl); (case c4 => exact rfl); k_whole)
  intro L h₁ hL F
  have N : News s.heap L h₁ [] := News.nil
  have X := W.K
  refine Wd.elim W fun mean mg mb T => ?_
  (try dsimp only)
  (try k_fold)
  walk_at "mine steps"
  all_goals (refine ret _ _ _ _ ?_ (Fr.keep (by assumption)))
  all_goals (clear ret W T X)
  all_goals (simp only [sgn, decide_eq_true_eq]; (repeat' split) <;> omega)
set_option maxHeartbeats 4000000 in
theorem lsign_str {x y : Str} {t1 t2 : Tok}
    (W : Wd w s.heap) (hd : dp + 1 < recursionLimit) (hu : un + 50 < cLine)
    (ret : ∀ r t h' tk', r = sgnT x y → Ext s.heap h' → Q (.int r t) { s with heap := h', toks := tk' }) :
    wpAny (model pg w) (Ar dp un fr gd) (call (.ref 130) [.str x t1, .str y t2]) Q E s := by
  k_dflt (refine' enter (binds := [("one", .str x t1), ("other", .str y t2)]) W ?k6 ?k7 ?k8 ?k9 ?kB ?_ ?c2 ?c3 ?c4 ?c5; (case k6 => k_is); (case k7 => k_is); (case k8 => ktr_room); (case k9 => exact BindsTo.of_eq rfl); (case c5 => decide); (case kB => exact locs rfl); (case c2 => exact rfl); (case c3 => exact rfl); (case c4 => exact rfl); k_whole)
  intro L h₁ hL F
  have N : News s.heap L h₁ [] := News.nil
  have X := W.K
  refine Wd.elim W fun mean mg mb T => ?_
  (try dsimp only)
  (try k_fold)
  walk_at "mine steps"
  all_goals (refine ret _ _ _ _ ?_ (Fr.keep (by assumption)))
  all_goals (clear ret W T X)
  all_goals
    simp only [sgnT, decide_eq_true_eq]
    by_cases h1 : x.cps.toList < y.cps.toList
    · have h2 : ¬ y.cps.toList < x.cps.toList := List.lt_asymm h1
      simp [h1, h2]
    · simp [h1]
set_option maxHeartbeats 4000000 in
theorem lsign_ints {l b : Addr} {us ws : List Value} {xs ys : List Int}
    (W : Wd w s.heap) (hd : dp + 1 < recursionLimit) (hu : un + 50 < cLine)
    (hl : s.heap.IsList l us.toArray) (hb : s.heap.IsList b ws.toArray) (hx : IsAll (At s.heap) us (intsD xs)) (hy : IsAll (At s.heap) ws (intsD ys))
    (ret : ∀ r t h' tk', r = cmpL xs ys → Ext s.heap h' → Q (.int r t) { s with heap := h', toks := tk' }) :
    wpAny (model pg w) (Ar dp un fr gd) (call (.ref 130) [.ref l, .ref b]) Q E s := by
  k_dflt (refine' enter (binds := [("one", .ref l), ("other", .ref b)]) W ?k6 ?k7 ?k8 ?k9 ?kB ?_ ?c2 ?c3 ?c4 ?c5; (case k6 => k_is); (case k7 => k_is); (case k8 => ktr_room); (case k9 => exact BindsTo.of_eq rfl); (case c5 => decide); (case kB => exact locs rfl); (case c2 => exact rfl); (case c3 => exact rfl); (case c4 => exact rfl); k_whole)
  intro L h₁ hL F
  have N : News s.heap L h₁ [] := News.nil
  have X := W.K
  refine Wd.elim W fun mean mg mb T => ?_
  (try dsimp only)
  (try k_fold)
  walk_at "mine steps"
  all_goals (refine ret _ _ _ _ ?_ (Fr.keep (by assumption)))
  all_goals (clear ret W T X)
  all_goals (rcases cmpL_range xs ys with e | e | e <;> rw [e] <;> rfl)
set_option maxHeartbeats 4000000 in
theorem lsign_pairs {l b : Addr} {us ws : List Value} {p q : List Int × List Int}
    (W : Wd w s.heap) (hd : dp + 1 < recursionLimit) (hu : un + 50 < cLine)
    (hl : s.heap.IsList l us.toArray) (hb : s.heap.IsList b ws.toArray) (hx : IsAll (At s.heap) us (pairD p)) (hy : IsAll (At s.heap) ws (pairD q))
    (ret : ∀ r t h' tk', r = cmpP p q → Ext s.heap h' → Q (.int r t) { s with heap := h', toks := tk' }) :
    wpAny (model pg w) (Ar dp un fr gd) (call (.ref 130) [.ref l, .ref b]) Q E s := by
  k_dflt (refine' enter (binds := [("one", .ref l), ("other", .ref b)]) W ?k6 ?k7 ?k8 ?k9 ?kB ?_ ?c2 ?c3 ?c4 ?c5; (case k6 => k_is); (case k7 => k_is); (case k8 => ktr_room); (case k9 => exact BindsTo.of_eq rfl); (case c5 => decide); (case kB => exact locs rfl); (case c2 => exact rfl); (case c3 => exact rfl); (case c4 => exact rfl); k_whole)
  intro L h₁ hL F
  have N : News s.heap L h₁ [] := News.nil
  have X := W.K
  refine Wd.elim W fun mean mg mb T => ?_
  (try dsimp only)
  (try k_fold)
  walk_at "mine steps"
  all_goals (refine ret _ _ _ _ ?_ (Fr.keep (by assumption)))
  all_goals (clear ret W T X)
  all_goals (rcases cmpP_range p q with e | e | e <;> rw [e] <;> rfl)
end
end

section
open PySem PySem.W PyProof.Rows
/-- entering a def one of whose names is a cell -/
theorem enterC {w : World} {A : Around} {E : Value → Shared → Prop} {s : Shared} {Q : Value → Shared → Prop} {f : Addr}
    {name qual : Str} {params : Arguments} {body : List Stmt} {scope : Scope} {dV kV doc pm cdv ct oc : Value} {an od : Option Addr} {osl : Array (Option Value)} {args : List Value} {binds : List (Str × Value)}
    (W : Wd w s.heap) (ho : (Mine.K0 w.params).lookup f = some ⟨oc, od, .func (fnOf name qual params body scope dV kV doc pm an cdv ct), osl⟩) (hcd : codeIn (Mine.K0 w.params) cdv qual = true)
    (hroom : A.depth < recursionLimit)
    (hbind : BindsTo s (fnOf name qual params body scope dV kV doc pm an cdv ct) ⟨args, []⟩ binds) (hkind : (binds.all fun y => scope.names.lookup y.1 == some .local || scope.names.lookup y.1 == some .cell) = true)
    (hnd : ((cellsFrom 0 scope.names []).map (·.1)).Nodup)
    (h : ∀ L h₁ tk cells, L = s.heap.objs.size → Fr s.heap L h₁ (bindL (envOfC qual scope L f cdv).kindOf binds fun _ => none) → News s.heap L h₁ cells →
      CellsAre (bindC (envOfC qual scope L f cdv).kindOf binds fun _ => none) (cellsFrom (L + 1) scope.names []) cells →
      wpAny (model pg w) (A.deeper (envOfC qual scope L f cdv)) (execs body (envOfC qual scope L f cdv))
        (fun fl s' => Q (match fl with | .ret v => v | _ => .none) s') (fun _ _ => False)
        { s with heap := h₁, toks := tk })
    (hco : scope.isCoroutine = false) (hgen : scope.isGenerator = false) (hk : scope.kind = .function) : wpAny (model pg w) A (call (.ref f) args) Q E s := by
  obtain ⟨mean, mg, mb, T⟩ := W.T
  refine wpAny_call ?_
  refine codeAny_call_function hroom (W.K _ _ ho) rfl hco hgen rfl (codeRec_of W.K hcd) (hbind _ _ _ _ ?_)
  refine wpAny_newFunctionEnv_cells hk (kindsX hkind _) fun env' he s' x => ?_
  subst he
  refine ⟨T.nolimit.keeps x.toInCall.keep, codeAny_func ?_⟩
  obtain ⟨h₁, tk, rfl, _⟩ := x.done
  have hk₁ := x.toInCall.keep
  obtain ⟨cells, NC, Y⟩ := Cl.news (h₀ := s.heap) (Nat.le_refl _) fun n c hm => ⟨x.cell n c (lookup_of_mem_nodup (cellsFrom_names scope.names 0 (s.heap.objs.size + 1) [] [] rfl ▸ hnd) hm), x.above n c hm⟩
  exact wpAny_mono (h _ h₁ tk cells rfl ⟨x.toInCall.ns, hk₁, Nat.le_refl _⟩ NC Y) (fun fl s' q => q) fun _ _ q => q.elim
/-- the same where one object is changed -/
theorem enterSC {w : World} {A : Around} {E : Value → Shared → Prop} {s : Shared} {Q : Value → Shared → Prop} {f src : Addr} {So : Obj}
    {name qual : Str} {params : Arguments} {body : List Stmt} {scope : Scope} {dV kV doc pm cdv ct oc : Value} {an od : Option Addr} {osl : Array (Option Value)} {args : List Value} {binds : List (Str × Value)}
    (W : Wd w (s.heap.hide src)) (hs : s.heap.get? src = some So) (ho : (Mine.K0 w.params).lookup f = some ⟨oc, od, .func (fnOf name qual params body scope dV kV doc pm an cdv ct), osl⟩) (hcd : codeIn (Mine.K0 w.params) cdv qual = true)
    (hroom : A.depth < recursionLimit)
    (hbind : BindsTo s (fnOf name qual params body scope dV kV doc pm an cdv ct) ⟨args, []⟩ binds) (hkind : (binds.all fun y => scope.names.lookup y.1 == some .local || scope.names.lookup y.1 == some .cell) = true)
    (hnd : ((cellsFrom 0 scope.names []).map (·.1)).Nodup)
    (h : ∀ L h₁ tk cells, L = s.heap.objs.size → Fr (s.heap.hide src) L h₁ (bindL (envOfC qual scope L f cdv).kindOf binds fun _ => none) → News (s.heap.hide src) L h₁ (cells ++ [(src, So)]) →
      CellsAre (bindC (envOfC qual scope L f cdv).kindOf binds fun _ => none) (cellsFrom (L + 1) scope.names []) cells → (∀ p ∈ cells, p.1 ≠ src) →
      wpAny (model pg w) (A.deeper (envOfC qual scope L f cdv)) (execs body (envOfC qual scope L f cdv))
        (fun fl s' => Q (match fl with | .ret v => v | _ => .none) s') (fun _ _ => False)
        { s with heap := h₁, toks := tk })
    (hco : scope.isCoroutine = false) (hgen : scope.isGenerator = false) (hk : scope.kind = .function) : wpAny (model pg w) A (call (.ref f) args) Q E s := by
  have ex : Ext (s.heap.hide src) s.heap := fun b o e => Heap.of_hide e
  have W' := W.keeps ex
  obtain ⟨mean, mg, mb, T⟩ := W'.T
  refine wpAny_call ?_
  refine codeAny_call_function hroom (W'.K _ _ ho) rfl hco hgen rfl (codeRec_of W'.K hcd) (hbind _ _ _ _ ?_)
  refine wpAny_newFunctionEnv_cells hk (kindsX hkind _) fun env' he s' x => ?_
  subst he
  refine ⟨T.nolimit.keeps x.toInCall.keep, codeAny_func ?_⟩
  obtain ⟨h₁, tk, rfl, _⟩ := x.done
  have hk₁ := x.toInCall.keep
  obtain ⟨cells, NC, Y⟩ := Cl.news (h₀ := s.heap) (Nat.le_refl _) fun n c hm => ⟨x.cell n c (lookup_of_mem_nodup (cellsFrom_names scope.names 0 (s.heap.objs.size + 1) [] [] rfl ▸ hnd) hm), x.above n c hm⟩
  have hlt : ∀ p ∈ cells, p.1 ≠ src := fun p hp q => by
    have h1 := (NC p hp).2.2
    rw [q, hs] at h1; cases h1
  refine wpAny_mono (h _ h₁ tk cells rfl ⟨x.toInCall.ns, fun b o e => hk₁ b o (ex b o e), Nat.le_of_eq (Heap.hide_size _ _)⟩ (fun p hp => ?_) Y hlt) (fun fl s' q => q) fun _ _ q => q.elim
  rcases List.mem_append.mp hp with hp | hp
  · refine ⟨(NC p hp).1, (NC p hp).2.1, ?_⟩
    cases q : (s.heap.hide src).get? p.1 with
    | none => rfl
    | some o => have := ex _ _ q; rw [(NC p hp).2.2] at this; cases this
  · rw [List.mem_singleton.mp hp]
    exact ⟨hk₁ _ _ hs, Nat.ne_of_lt (Heap.lt_size hs), Heap.hide_self _ _⟩
end

section
open PySem PySem.W PyProof.Rows
open PyProof.Rows.LCg
/-- what a call has made and hands on -/
def Fresh (h h' : Heap) (led : List (Addr × Obj)) : Prop := ∀ p ∈ led, h'.get? p.1 = some p.2 ∧ h.get? p.1 = none
abbrev InL (led : List (Addr × Obj)) : Addr → Obj → Prop := fun a o => (a, o) ∈ led
theorem Fresh.of {h₀ h : Heap} {L : Addr} {led led' : List (Addr × Obj)} (N : News h₀ L h led) (sub : ∀ p ∈ led', p ∈ led) : Fresh h₀ h led' := fun p hp => ⟨(N p (sub p hp)).1, (N p (sub p hp)).2.2⟩
/-! comprehensions with a word of one's own -/
section
variable {prog : Program} {w : World} {A : Around} {E : Value → Shared → Prop} {s : Shared} {h₀ : Heap} {L : Addr} {m : Str → Option Value} {env : Env}
def CompIt (prog : Program) (w : World) (A : Around) (h₀ : Heap) (L : Addr) (m : Str → Option Value) (env : Env) (elt : PySem.Expr) (x : Str) (scope : Scope) (cl : List (Str × Addr)) (Fin : Shared → List Value → List (Addr × Obj) → Prop) (it : Value) (s₂ : Shared) : Prop :=
  ∃ (I : Addr) (fp : List Addr) (n : Nat) (P : Nat → Value → Prop) (St : Nat → Heap → Prop) (S : List (Addr × Obj) → Prop) (news : List (Addr × Obj)), it = .ref I ∧ Walks prog w A I fp [I] n P St ∧ n ≤ sizeLine ∧ (∀ i h, St i h → ∃ o, h.get? I = some o) ∧
    (∀ i h h' o nw, St i h → h.get? I = some o → h'.get? I = some o → (∀ b o, h₀.get? b = some o → h'.get? b = some o) → News h₀ L h' nw → S nw → St i h') ∧ St 0 s₂.heap ∧ (∀ b ∈ fp, b < s₂.heap.objs.size) ∧
    Fr h₀ L s₂.heap m ∧ News h₀ L s₂.heap news ∧ L ≠ I ∧ h₀.get? I = none ∧ (∀ p ∈ news, p.1 ≠ I) ∧ S news ∧ CompRest prog w A h₀ L m env elt x scope cl s₂ S P (Fin s₂) n 0 [] news
theorem my_ListComp {elt iter : PySem.Expr} {x : Str} {px : Pos} {scope : Scope} {cl : List (Str × Addr)} {pos : Pos} {Q : Value → Shared → Prop} (F₀ : Fr h₀ L s.heap m)
    (hclos : closureFor scope env = pure cl) (hcell : ∀ y ∈ scope.names, y.2 ≠ .cell) (hkind : scope.kind = .function)
    (hnames : ∀ y ∈ scope.names, y.2 = .local → scope.names.lookup y.1 = some .local) (hx : scope.names.lookup x = some .local)
    (h : wpAny (model prog w) A (eval iter env) (fun xv s₁ => wpAny (model prog w) A (pyIter xv) (CompIt prog w A h₀ L m env elt x scope cl (fun s₂ => FinE h₀ L m s₂ Q)) E s₁) E s)
    (hs : ∀ x, foldedSetIterable iter env x = pure x := by intro _; rfl) :
    wpAny (model prog w) A (eval (.ListComp elt [⟨.Name x px, iter, [], 0⟩] scope pos) env) Q E s := by
  rw [eval_ListComp]
  refine wpAny_comprehension_free (use := none) rfl hs hclos hkind hnames (wpAny_mono h (fun xv s₁ h₁ => wpAny_mono h₁ (fun it s₂ h₂ => ?_) fun _ _ e => e) fun _ _ e => e)
  obtain ⟨I, fp, n, P, St, S, news, rfl, W, hsz, hIo, hSt, hst, hfp, F, N, hIL, hI₀, off, hS, R⟩ := h₂
  refine block_U W hsz hIo hSt hcell hkind hx hst hfp F N hIL hI₀ off hS R ?_
  intro D C h tk m' ys news' F' N' o1 hn hC₀ hD₀ hCL hDL hCD offC fin
  refine ⟨m', hn, fun h'' hs'' => fin D h'' tk (F'.change hs'' hCL hC₀) (fun p hp => ?_) o1⟩
  have hne : p.1 ≠ C := by
    rcases List.mem_cons.mp hp with rfl | hp
    · exact Ne.symm hCD
    · exact offC p hp
  exact ⟨hs''.extBut _ _ hne (N' p hp).1, (N' p hp).2⟩
theorem my_Assign_ListComp {elt iter : PySem.Expr} {x y : Str} {px py : Pos} {scope : Scope} {cl : List (Str × Addr)} {pos spos : Pos} {Q : Flow → Shared → Prop} (F₀ : Fr h₀ L s.heap m) (hLe : env.locals = L)
    (hsw : swapsWith (.ListComp elt [⟨.Name x px, iter, [], 0⟩] scope pos) (some (.Name y py)) spos.line env = pure true)
    (hclos : closureFor scope env = pure cl) (hcell : ∀ z ∈ scope.names, z.2 ≠ .cell) (hkind : scope.kind = .function)
    (hnames : ∀ z ∈ scope.names, z.2 = .local → scope.names.lookup z.1 = some .local) (hx : scope.names.lookup x = some .local)
    (hy : env.kindOf y = some .local) (hp : (env.scope.kind == .class || (env.scope.kind == .module && env.locals != env.globals)) = false)
    (h : wpAny (model prog w) A (eval iter env) (fun xv s₁ => wpAny (model prog w) A (pyIter xv) (CompIt prog w A h₀ L m env elt x scope cl (fun s₂ => FinA h₀ L m s₂ y Q)) E s₁) E s)
    (hs : ∀ x, foldedSetIterable iter env x = pure x := by intro _; rfl) :
    wpAny (model prog w) A (exec (.Assign [.Name y py] (.ListComp elt [⟨.Name x px, iter, [], 0⟩] scope pos) spos) env) Q E s := by
  subst hLe
  rw [exec_Assign_Name_used _ _ _ _ hsw]
  refine wpAny_bind (wpAny_standAt (wpAny_bind ?_))
  refine wpAny_bind (wpAny_mono (wpAny_comprehension_free (use := some (assign (.Name y py) env)) (Q := fun _ s' => Q .next s') rfl hs hclos hkind hnames
    (wpAny_mono h (fun xv s₁ h₁ => wpAny_mono h₁ (fun it s₂ h₂ => ?_) fun _ _ e => e) fun _ _ e => e)) (fun _ s' hq => wpAny_pure (wpAny_pure hq)) fun _ _ e => e)
  obtain ⟨I, fp, n, P, St, S, news, rfl, W, hsz, hIo, hSt, hst, hfp, F, N, hIL, hI₀, off, hS, R⟩ := h₂
  refine block_U W hsz hIo hSt hcell hkind hx hst hfp F N hIL hI₀ off hS R ?_
  intro D C h' tk m' ys news' F' N' o1 hn hC₀ hD₀ hCL hDL hCD offC fin
  show wpAny _ A (assign (.Name y py) env (.ref D)) _ _ _
  refine wpAny_assign_Name (wpAny_storeName_local hy F'.ns (fun h₂ hn₂ hs₂ => ?_) hp)
  have hL₀ : h₀.get? env.locals = none := Heap.get?_none_of_le F'.above
  have F₂ : Fr h₀ env.locals h₂ (fun z => if z = y then some (.ref D) else m z) := F'.set hn₂ hs₂
  have N₂ := N'.set hs₂
  refine ⟨m', hn.sameBut hs₂ hCL, fun h'' hs'' => fin D h'' _ (F₂.change hs'' hCL hC₀) (fun p hp => ?_) o1⟩
  have hne : p.1 ≠ C := by
    rcases List.mem_cons.mp hp with rfl | hp
    · exact Ne.symm hCD
    · exact offC p hp
  exact ⟨hs''.extBut _ _ hne (N₂ p hp).1, (N₂ p hp).2⟩
/-- what holds at each turn -/
theorem compRest_inv {elt : PySem.Expr} {x : Str} {scope : Scope} {cl : List (Str × Addr)} {S : List (Addr × Obj) → Prop} {P : Nat → Value → Prop} {Fin : List Value → List (Addr × Obj) → Prop} {n : Nat}
    (J : Nat → List Value → List (Addr × Obj) → Prop) (fin : ∀ ys news, J n ys news → Fin ys news)
    (step : ∀ i ys news, i < n → J i ys news → ∀ v I oI C oC D m₂ h tk (E' : Value → Shared → Prop), P i v → NsObj oC m₂ → m₂ x = some v → Fr h₀ L h m → News h₀ L h ((I, oI) :: (C, oC) :: (D, lst ys) :: news) → Off3 I C D news → ((@Ne Nat I C) ∧ (@Ne Nat I D) ∧ (@Ne Nat C D)) →
      wpAny (model prog w) A (eval elt (compEnvC scope cl C env)) (CompEnd h₀ L m { s with heap := h, toks := tk } I oI C oC D (lst ys) S (fun y news' => J (i + 1) (ys ++ [y]) news')) E' { s with heap := h, toks := tk }) :
    ∀ k i ys news, i + k = n → J i ys news → CompRest prog w A h₀ L m env elt x scope cl s S P Fin k i ys news := by
  intro k
  induction k with
  | zero => intro i ys news e j; rw [Nat.add_zero] at e; subst e; exact fin ys news j
  | succ k ih =>
    intro i ys news e j v I oI C oC D m₂ h tk E' hP hC hx F N off ne
    refine wpAny_mono (step i ys news (by omega) j v I oI C oC D m₂ h tk E' hP hC hx F N off ne) (fun y s' h' => ?_) fun _ _ e => e
    obtain ⟨h'', tk'', news', e', F', N', off', hS', r'⟩ := h'
    exact ⟨h'', tk'', news', e', F', N', off', hS', ih (i + 1) (ys ++ [y]) news' (by omega) r'⟩
/-- over a text's signs -/
theorem comp_str {elt : PySem.Expr} {x : Str} {scope : Scope} {cl : List (Str × Addr)} {Fin : Shared → List Value → List (Addr × Obj) → Prop} {t : Str} {tk : Tok} {news : List (Addr × Obj)}
    (J : Nat → List Value → List (Addr × Obj) → Prop) (hh : A.handled = none) (F : Fr h₀ L s.heap m) (N : News h₀ L s.heap news) (hsz : t.cps.size ≤ 1000) (hj : J 0 [] news)
    (fin : ∀ s' ys news, (∃ h, s' = { s with heap := h }) → J t.cps.size ys news → Fin s' ys news)
    (step : ∀ i ys news, i < t.cps.size → J i ys news → ∀ c v I oI C oC D m₂ h tk (E' : Value → Shared → Prop), t.cps[i]? = some c → (∃ u, v = .str ⟨#[c]⟩ u) → NsObj oC m₂ → m₂ x = some v → Fr h₀ L h m → News h₀ L h ((I, oI) :: (C, oC) :: (D, lst ys) :: news) → Off3 I C D news → ((@Ne Nat I C) ∧ (@Ne Nat I D) ∧ (@Ne Nat C D)) →
      wpAny (model prog w) A (eval elt (compEnvC scope cl C env)) (CompEnd h₀ L m { s with heap := h, toks := tk } I oI C oC D (lst ys) (fun _ => True) (fun y news' => J (i + 1) (ys ++ [y]) news')) E' { s with heap := h, toks := tk }) :
    wpAny (model prog w) A (pyIter (.str t tk)) (CompIt prog w A h₀ L m env elt x scope cl Fin) E s := by
  have core : ∀ (o : Obj) (St : Nat → Heap → Prop), Walks prog w A s.heap.objs.size [s.heap.objs.size] [s.heap.objs.size] t.cps.size (SignAt t) St → (∀ i h, St i h → ∃ o, h.get? s.heap.objs.size = some o) → St 0 (s.heap.push o) →
      CompIt prog w A h₀ L m env elt x scope cl Fin (.ref s.heap.objs.size) { s with heap := s.heap.push o } := by
    intro o St W hio hst
    have hlt : s.heap.objs.size < (s.heap.push o).objs.size := by rw [Heap.size_push]; exact Nat.lt_succ_self _
    refine ⟨_, _, _, _, St, fun _ => True, news, rfl, W, by rw [sizeLine_eq]; omega, hio, fun i h h' ob nw st e e' _ _ _ => ?_, hst, fun b hb => ?_, F.push _, fun p hp => ⟨Heap.get?_push_of_some _ (N p hp).1, (N p hp).2⟩, Nat.ne_of_lt F.ns.lt, next_is_new F, fun p hp => Nat.ne_of_lt (Heap.lt_size (N p hp).1), trivial, ?_⟩
    · exact W.frame i h h' st fun b hb o' q => by
        rw [List.mem_singleton.mp hb] at q ⊢
        rw [e] at q; cases q; exact e'
    · rw [List.mem_singleton.mp hb]; exact hlt
    · exact compRest_inv J (fun ys nw j => fin _ ys nw ⟨_, rfl⟩ j) (fun i ys nw hi j v I oI C oC D m₂ h tk E' hP hC hx F' N' off ne => by
        obtain ⟨c, u, hc, rfl⟩ := hP
        exact step i ys nw hi j c _ I oI C oC D m₂ h tk E' hc ⟨u, rfl⟩ hC hx F' N' off ne) _ 0 [] news (by omega) hj
  cases ha : t.cps.all (· < 128)
  · exact wpAny_pyIter_wide ha (core _ _ (Walks.strWide hh _ t tk) (fun i h st => let ⟨o, ho, _⟩ := st; ⟨o, ho⟩) ⟨_, Heap.get?_push_size _ rfl, rfl, rfl⟩)
  · exact wpAny_pyIter_ascii ha (core _ _ (Walks.strAscii hh _ t tk) (fun i h st => let ⟨o, ho, _⟩ := st; ⟨o, ho⟩) ⟨_, Heap.get?_push_size _ rfl, rfl, rfl⟩)
end
theorem news_fresh {h₀ h h' : Heap} {L : Addr} {m : Str → Option Value} {led led' : List (Addr × Obj)} (F : Fr h₀ L h m) (N : News h₀ L h led) (k : Ext h h') (fr : Fresh h h' led') : News h₀ L h' (led' ++ led) := by
  intro p hp
  rcases List.mem_append.mp hp with hp | hp
  · obtain ⟨h1, h2⟩ := fr p hp
    refine ⟨h1, fun q => ?_, ?_⟩
    · obtain ⟨oL, _, _, hL, _⟩ := F.ns
      rw [q, hL] at h2; cases h2
    · cases q : h₀.get? p.1 with
      | none => rfl
      | some o => have := F.keep _ _ q; rw [h2] at this; cases this
  · exact ⟨k _ _ (N p hp).1, (N p hp).2⟩
def IsL (P : Addr → Obj → Prop) (a : Addr) (vs : List Value) : Prop := ∃ o n, P a o ∧ o.cls = .type "list" ∧ o.data = .seq vs.toArray n
theorem isl_news {h₀ h : Heap} {L a : Addr} {vs : List Value} {led led' : List (Addr × Obj)} (N : News h₀ L h led') (i : IsL (InL led) a vs) (sub : ∀ p ∈ led, p ∈ led') : h.IsList a vs.toArray := by
  obtain ⟨o, n, h1, h2, h3⟩ := i
  exact ⟨o, (N _ (sub _ h1)).1, h2, n, h3⟩
theorem all_news {h₀ h : Heap} {L : Addr} {vs : List Value} {ds : List PyData} {led led' : List (Addr × Obj)} (N : News h₀ L h led') (i : IsAll (InL led) vs ds) (sub : ∀ p ∈ led, p ∈ led') : IsAll (At h) vs ds :=
  i.mono fun a o hm => (N _ (sub _ hm)).1
theorem is_news {h₀ h : Heap} {L : Addr} {v : Value} {d : PyData} {led led' : List (Addr × Obj)} (N : News h₀ L h led') (i : Is (InL led) v d) (sub : ∀ p ∈ led, p ∈ led') : Is (At h) v d :=
  i.mono fun a o hm => (N _ (sub _ hm)).1
end

section
open PySem PySem.W PyProof.Rows PyProof.Rows.LCg
theorem lines_W5_1 : True := by
  k_with_none
  k_with "eval Call" => k_dflt (refine Call_ ?_)
  k_with "subscriptTail Name Constant ref int" => (k_dflt (refine item_tupleT (by first | (is_tup) | fail "x") (by decide) (by decide) (by rfl) (by rfl) ?_; k_whole))
  k_with "mine steps" => (repeat' (first | (k_unfold; (try dsimp only)) | ((fail_if_success (with_reducible show wpAny _ _ (PySem.pyIter _) _ _ _)); first | walk1 | (dsimp only; walk1)) | fail "no step"))
  k_with "call builtin:len" => (k_dflt (refine len_vs (by first | (is_list) | fail "x") (by assumption) (by assumption) ?_; k_whole); walk_at "tail 2")
  k_with "subscriptTail Name Name ref int" => (k_dflt (refine item_vs (by first | (is_list) | fail "x") (by first | (exact rfl) | fail "x") (by assumption) (by assumption) ?_; k_whole))
  k_with "eval ListComp" => k_dflt (refine my_ListComp (by assumption) (by rfl) (by decide) (by rfl) (by decide) (by rfl) ?_)
  k_with "exec Assign cons ListComp" => k_dflt (refine my_Assign_ListComp (by assumption) (by rfl) (by with_unfolding_all rfl) (by rfl) (by decide) (by rfl) (by decide) (by rfl) (by rfl) (by rfl) ?_)
  trivial
theorem find_idx {c : Nat} (h : c = 97 ∨ c = 65 ∨ c = 98 ∨ c = 66) : 0 ≤ Txt.find (Str.ofString "aAbB") { cps := #[c] } ∧ (Txt.find (Str.ofString "aAbB") { cps := #[c] }).fdiv 2 = idx1 c := by
  rcases h with rfl | rfl | rfl | rfl <;> decide +kernel
theorem isInt_of {P : Addr → Obj → Prop} {z y : Int} {t : Tok} (h : z = y) : Is P (.int z t) (.int y) := h ▸ .int z t
theorem ints_snoc {P : Addr → Obj → Prop} {ys : List Value} {x : Str} {i c : Nat} {f : Nat → Int} {v : Value} (h : IsAll P ys (intsD ((x.cps.toList.map f).take i))) (hc : x.cps[i]? = some c) (hv : Is P v (.int (f c))) :
    IsAll P (ys ++ [v]) (intsD ((x.cps.toList.map f).take (i + 1))) := by
  have hc' : (x.cps.toList.map f)[i]? = some (f c) := by simp [hc]
  have e : (x.cps.toList.map f).take (i + 1) = (x.cps.toList.map f).take i ++ [f c] := by rw [List.take_add_one, hc']; rfl
  rw [e]
  simp only [intsD, List.map_append]
  exact IsAll.append h (.cons hv .nil)
section
variable {w : World} {dp un : Nat} {fr : Option (List Env)} {gd : Option (List Code)} {E : Value → Shared → Prop} {s : Shared} {Q : Value → Shared → Prop}
set_option maxHeartbeats 1000000 in
theorem letters0 {x : Str} {t1 : Tok} 
    (W : Wd w s.heap) (hd : dp + 2 < recursionLimit) (hu : un + 100 < cLine) (hx : TxtOk x)
    (ret : ∀ a vs led h' tk', Ext s.heap h' → Fresh s.heap h' led → IsL (InL led) a vs → IsAll (InL led) vs (intsD (codes x)) → Q (.ref a) { s with heap := h', toks := tk' }) :
    wpAny (model pg w) (Ar dp un fr gd) (call (.ref 123) [.str x t1, .none]) Q E s := by
  k_dflt (refine' enterC (binds := [("text", .str x t1), ("way", .none)]) W ?k6 ?k7 ?k8 ?k9 ?kB ?kD ?_ ?c2 ?c3 ?c4; (case k6 => k_is); (case k7 => k_is); (case k8 => ktr_room); (case k9 => exact BindsTo.of_eq rfl); (case kB => exact rfl); (case kD => decide +kernel); (case c2 => exact rfl); (case c3 => exact rfl); (case c4 => exact rfl); k_whole)
  intro L h₁ tk₁ cells₁ hL F N Y₁
  have X := W.K
  refine Wd.elim W fun mean mg mb T => ?_
  k_cells Y₁
  (try dsimp only)
  (try k_fold)
  walk_at "mine steps"
  rename_i oc dc
  refine comp_str (fun i ys nw => nw = [(L + 1, oc)] ∧ IsAll (fun _ _ => False) ys (intsD ((codes x).take i))) rfl (by assumption) (by assumption) (by have := hx.1; omega) ⟨rfl, .nil⟩ ?_ ?_
  · rintro s' ys nw ⟨h', rfl⟩ ⟨rfl, hI⟩ D h tk F' N' o1
    have e : (codes x).take x.cps.size = codes x := List.take_of_length_le (by simp [codes])
    rw [e] at hI
    exact ret D _ [(D, lst ys)] _ _ F'.keep (Fresh.of N' (by intro p hp; rw [List.mem_singleton.mp hp]; exact .head _)) ⟨_, _, .head _, rfl, rfl⟩ (hI.mono fun _ _ z => z.elim)
  · rintro i ys nw hi ⟨rfl, hI⟩ c v I oI C oC D m₂ h tk E' hc ⟨u, rfl⟩ hC hx F' N' off ne
    clear F N
    walk_at "mine steps"
    exact CompEnd.intro (by assumption) (by assumption) _ (fun p hp => hp) off trivial ⟨rfl, ints_snoc (f := Int.ofNat) hI hc (.int _ _)⟩
set_option maxHeartbeats 4000000 in
theorem letters1 {x : Str} {t1 : Tok} {wy : Bool}
    (W : Wd w s.heap) (hd : dp + 2 < recursionLimit) (hu : un + 100 < cLine) (hx : TxtOk x)
    (ret : ∀ a vs led h' tk', Ext s.heap h' → Fresh s.heap h' led → IsL (InL led) a vs → IsAll (InL led) vs (pairD (idxs x, forms wy x)) → Q (.ref a) { s with heap := h', toks := tk' }) :
    wpAny (model pg w) (Ar dp un fr gd) (call (.ref 123) [.str x t1, .bool wy]) Q E s := by
  k_dflt (refine' enterC (binds := [("text", .str x t1), ("way", .bool wy)]) W ?k6 ?k7 ?k8 ?k9 ?kB ?kD ?_ ?c2 ?c3 ?c4; (case k6 => k_is); (case k7 => k_is); (case k8 => ktr_room); (case k9 => exact BindsTo.of_eq rfl); (case kB => exact rfl); (case kD => decide +kernel); (case c2 => exact rfl); (case c3 => exact rfl); (case c4 => exact rfl); k_whole)
  intro L h₁ tk₁ cells₁ hL F N Y₁
  have X := W.K
  refine Wd.elim W fun mean mg mb T => ?_
  k_cells Y₁
  (try dsimp only)
  (try k_fold)
  walk_at "mine steps"
  rename_i oc dc
  refine comp_str (fun i ys nw => nw = [(L + 1, oc)] ∧ IsAll (fun _ _ => False) ys (intsD ((forms wy x).take i))) rfl (by assumption) (by assumption) (by have := hx.1; omega) ⟨rfl, .nil⟩ ?_ ?_
  · rintro s' ys nw ⟨h', rfl⟩ ⟨rfl, hI⟩ D h tk F' N' o1
    have e : (forms wy x).take x.cps.size = forms wy x := List.take_of_length_le (by simp [forms])
    rw [e] at hI
    clear F N
    walk_at "mine steps"
    refine comp_str (fun i zs nw => nw = [(D, lst ys), (L + 1, oc)] ∧ IsAll (fun _ _ => False) zs (intsD ((idxs x).take i))) rfl (by assumption) (by assumption) (by have := hx.1; omega) ⟨rfl, .nil⟩ ?_ ?_
    · rintro s' zs nw ⟨h', rfl⟩ ⟨rfl, hI2⟩ D2 h2 tk2 F2 N2 o2
      have e : (idxs x).take x.cps.size = idxs x := List.take_of_length_le (by simp [idxs])
      rw [e] at hI2
      clear F' N'
      walk_at "mine steps"
      rename News _ _ _ _ => N9
      refine ret _ _ _ _ _ (Fr.keep (by assumption)) (Fresh.of N9 (fun p hp => hp)) ⟨_, _, .head _, rfl, rfl⟩ ?_
      refine (.cons (.list (.tail _ (.head _)) rfl rfl (hI2.mono fun _ _ z => z.elim)) (.cons (.list (.tail _ (.tail _ (.head _))) rfl rfl (hI.mono fun _ _ z => z.elim)) .nil))
    · rintro i zs nw hi ⟨rfl, hI2⟩ c v I oI C oC D2 m₂ h2 tk2 E' hc ⟨u, rfl⟩ hC hx9 F2 N2 off ne
      clear F' N'
      obtain ⟨hf1, hf2⟩ := find_idx (hx.2 c (by simpa using Array.mem_of_getElem? hc))
      walk_at "mine steps"
      · exfalso; omega
      · exact CompEnd.intro (by assumption) (by assumption) _ (fun p hp => hp) off trivial ⟨rfl, ints_snoc (f := idx1) hI2 hc (isInt_of hf2)⟩
  · rintro i ys nw hi ⟨rfl, hI⟩ c v I oI C oC D m₂ h tk E' hc ⟨u, rfl⟩ hC hx9 F' N' off ne
    clear F N
    have hc4 := hx.2 c (by simpa using Array.mem_of_getElem? hc)
    rcases hc4 with rfl | rfl | rfl | rfl
    all_goals
      walk_at "mine steps"
      exact CompEnd.intro (by assumption) (by assumption) _ (fun p hp => hp) off trivial ⟨rfl, ints_snoc (f := form1 wy) hI hc (isInt_of (by cases wy <;> decide))⟩
end
end

local macro_rules | `(tactic| walk_at "tail 6") => `(tactic| (intro a' vs' led' h' tk' k' fr' il' ia'; (have N' := news_fresh (by assumption) (by assumption) k' fr'); (have F' := Fr.grownK (by k_asm) k'); clear k' fr'; k_sweep))
section
open PySem PySem.W PyProof.Rows
theorem lines_W6_1 : True := by
  k_with_none
  k_with "eval Call" => k_dflt (refine Call_ ?_)
  k_with "subscriptTail Name Constant ref int" => (k_dflt (refine item_tupleT (by first | (is_tup) | fail "x") (by decide) (by decide) (by rfl) (by rfl) ?_; k_whole))
  k_with "mine steps" => (repeat' (first | (k_unfold; (try dsimp only)) | ((fail_if_success (with_reducible show wpAny _ _ (PySem.pyIter _) _ _ _)); first | walk1 | (dsimp only; walk1)) | fail "no step"))
  k_with "call builtin:len" => (k_dflt (refine len_vs (by first | (is_list) | fail "x") (by assumption) (by assumption) ?_; k_whole); walk_at "tail 2")
  k_with "subscriptTail Name Name ref int" => (k_dflt (refine item_vs (by first | (is_list) | fail "x") (by first | (exact rfl) | fail "x") (by assumption) (by assumption) ?_; k_whole))
  k_with "call ref" => (k_here; k_dflt (refine law_rank (by first | (exact Wd.keeps (by assumption) (Fr.keep (by k_asm))) | fail "x") (by ktr_room) (by ktr_units) (by first | (exact Is.base (by first | (k_asm) | fail "x") (by assumption)) | fail "x") (by assumption) ?_; k_whole); walk_at "tail 1")
  k_with "call ref" => (k_here; k_dflt (refine lsign_int (by first | (exact Wd.keeps (by assumption) (Fr.keep (by k_asm))) | fail "x") (by ktr_room) (by ktr_units)  ?_; k_whole); walk_at "tail 1")
  k_with "call ref" => (k_here; k_dflt (first | (refine letters0 (by first | (exact Wd.keeps (by assumption) (Fr.keep (by first | (k_asm) | fail "x"))) | fail "x") (by ktr_room) (by ktr_units) (by assumption) ?_) | (refine letters1 (by first | (exact Wd.keeps (by assumption) (Fr.keep (by first | (k_asm) | fail "x"))) | fail "x") (by ktr_room) (by ktr_units) (by assumption) ?_)); walk_at "tail 6")
  k_with "call ref" => (k_here; k_dflt (first | (refine lsign_ints (by first | (exact Wd.keeps (by assumption) (Fr.keep (by first | (k_asm) | fail "x"))) | fail "x") (by ktr_room) (by ktr_units) (by first | (exact isl_news (by assumption) (by assumption) (by first | (intro p hp; simp [hp]) | fail "x")) | fail "x") (by first | (exact isl_news (by assumption) (by assumption) (by first | (intro p hp; simp [hp]) | fail "x")) | fail "x") (by first | (exact all_news (by assumption) (by assumption) (by first | (intro p hp; simp [hp]) | fail "x")) | fail "x") (by first | (exact all_news (by assumption) (by assumption) (by first | (intro p hp; simp [hp]) | fail "x")) | fail "x") ?_) | (refine lsign_pairs (by first | (exact Wd.keeps (by assumption) (Fr.keep (by first | (k_asm) | fail "x"))) | fail "x") (by ktr_room) (by ktr_units) (by first | (exact isl_news (by assumption) (by assumption) (by first | (intro p hp; simp [hp]) | fail "x")) | fail "x") (by first | (exact isl_news (by assumption) (by assumption) (by first | (intro p hp; simp [hp]) | fail "x")) | fail "x") (by first | (exact all_news (by assumption) (by assumption) (by first | (intro p hp; simp [hp]) | fail "x")) | fail "x") (by first | (exact all_news (by assumption) (by assumption) (by first | (intro p hp; simp [hp]) | fail "x")) | fail "x") ?_)); walk_at "tail 1")
  trivial
section
variable {w : World} {dp un : Nat} {fr : Option (List Env)} {gd : Option (List Code)} {E : Value → Shared → Prop} {s : Shared} {Q : Value → Shared → Prop}
set_option maxHeartbeats 4000000 in
theorem law_due {vo v1 v2 : Value} {o : Od} {c1 c2 : Cell}
    (W : Wd w s.heap) (hd : dp + 3 < recursionLimit) (hu : un + 150 < cLine)
    (io : Is (At s.heap) vo o.py) (i1 : Is (At s.heap) v1 c1.py) (i2 : Is (At s.heap) v2 c2.py) (f1 : Fit o c1) (f2 : Fit o c2)
    (ret : ∀ r t h' tk', r = due o c1 c2 → Ext s.heap h' → Q (.int r t) { s with heap := h', toks := tk' }) :
    wpAny (model pg w) (Ar dp un fr gd) (call (.ref 137) [vo, v1, v2]) Q E s := by
  refine hideG fun G9 kG9 => ?_
  obtain ⟨ao, oo, vs, n, rfl, p1, q1, d1, io⟩ := io.tupleE
  obtain ⟨w1, r, rfl, io1, io⟩ := io.consE
  obtain ⟨w2, r, rfl, io2, io⟩ := io.consE
  obtain ⟨w3, r, rfl, io3, io⟩ := io.consE
  obtain rfl := io.nilE
  obtain rfl := io1.boolE
  obtain rfl := io2.boolE
  obtain rfl := io3.wayE
  refine kG9 ?_
  clear kG9 G9
  have TO : IsTup s.heap ao #[.bool o.isNum, .bool o.down, wayV o.way] := ⟨_, p1, q1, _, d1⟩
  clear p1 q1 d1 io1 io2 io3 io
  unfold due at ret
  obtain ⟨b1, b2, wy⟩ := o
  match c1, c2, f1, f2 with
  | .num x1 y1, .num x2 y2, f1, f2 =>
    refine hideG fun G9 kG9 => ?_
    obtain ⟨e, n1⟩ := f1
    obtain ⟨_, n2⟩ := f2
    refine kG9 ?_
    clear kG9 G9
    dsimp only at e
    subst e
    rw [← cmpNum_due0 n1 n2, cmpNum_all _ n1 _ n2] at ret
    dsimp only [Cell.py] at i1 i2
    dsimp only at TO ret
    refine hideG fun G9 kG9 => ?_
    obtain ⟨a1, o1, t1, t2, k1, rfl, _, _, _⟩ := i1.numE
    obtain ⟨a2, o2, t3, t4, k2, rfl, _, _, _⟩ := i2.numE
    refine kG9 ?_
    clear kG9 G9
    k_dflt (refine' enter (binds := [("order", .ref ao), ("one", .ref a1), ("other", .ref a2)]) W ?k6 ?k7 ?k8 ?k9 ?kB ?_ ?c2 ?c3 ?c4 ?c5; (case k6 => k_is); (case k7 => k_is); (case k8 => ktr_room); (case k9 => exact BindsTo.of_eq rfl); (case c5 => decide); (case kB => exact locs rfl); (case c2 => exact rfl); (case c3 => exact rfl); (case c4 => exact rfl); k_whole)
    intro L h₁ hL F
    have N : News s.heap L h₁ [] := News.nil
    have X := W.K
    refine Wd.elim W fun mean mg mb T => ?_
    (try dsimp only)
    (try k_fold)
    walk_at "mine steps"
    all_goals (refine ret _ _ _ _ ?_ (Fr.keep (by assumption)))
    all_goals (clear ret W T X)
    all_goals simp_all
  | .txt x1, .txt x2, f1, f2 =>
    refine hideG fun G9 kG9 => ?_
    obtain ⟨e, n1⟩ := f1
    obtain ⟨_, n2⟩ := f2
    refine kG9 ?_
    clear kG9 G9
    dsimp only at e
    subst e
    dsimp only [Cell.py] at i1 i2
    refine hideG fun G9 kG9 => ?_
    obtain ⟨t4, rfl⟩ := i1.strE
    obtain ⟨t5, rfl⟩ := i2.strE
    refine kG9 ?_
    clear kG9 G9
    rcases wy with _ | u
    · have e0 : due0 { isNum := false, down := b2, way := none } (.txt x1) (.txt x2) = cmpL (codes x1) (codes x2) := by
        simp [due0, keyC, keyT, cmpP, cmpL]; exact fun h => h.symm
      rw [e0] at ret
      dsimp only [wayV] at TO ret
      k_dflt (refine' enter (binds := [("order", .ref ao), ("one", .str x1 t4), ("other", .str x2 t5)]) W ?k6 ?k7 ?k8 ?k9 ?kB ?_ ?c2 ?c3 ?c4 ?c5; (case k6 => k_is); (case k7 => k_is); (case k8 => ktr_room); (case k9 => exact BindsTo.of_eq rfl); (case c5 => decide); (case kB => exact locs rfl); (case c2 => exact rfl); (case c3 => exact rfl); (case c4 => exact rfl); k_whole)
      intro L h₁ hL F
      have N : News s.heap L h₁ [] := News.nil
      have X := W.K
      refine Wd.elim W fun mean mg mb T => ?_
      (try dsimp only)
      (try k_fold)
      walk_at "mine steps"
      all_goals (refine ret _ _ _ _ ?_ (Fr.keep (by assumption)))
      all_goals (clear ret W T X)
      all_goals simp_all
    · have e0 : due0 { isNum := false, down := b2, way := some u } (.txt x1) (.txt x2) = cmpP (idxs x1, forms u x1) (idxs x2, forms u x2) := rfl
      rw [e0] at ret
      dsimp only [wayV] at TO ret
      k_dflt (refine' enter (binds := [("order", .ref ao), ("one", .str x1 t4), ("other", .str x2 t5)]) W ?k6 ?k7 ?k8 ?k9 ?kB ?_ ?c2 ?c3 ?c4 ?c5; (case k6 => k_is); (case k7 => k_is); (case k8 => ktr_room); (case k9 => exact BindsTo.of_eq rfl); (case c5 => decide); (case kB => exact locs rfl); (case c2 => exact rfl); (case c3 => exact rfl); (case c4 => exact rfl); k_whole)
      intro L h₁ hL F
      have N : News s.heap L h₁ [] := News.nil
      have X := W.K
      refine Wd.elim W fun mean mg mb T => ?_
      (try dsimp only)
      (try k_fold)
      walk_at "mine steps"
      all_goals (refine ret _ _ _ _ ?_ (Fr.keep (by assumption)))
      all_goals (clear ret W T X)
      all_goals simp_all
  | .num _ _, .txt _, f1, f2 => exact absurd (f1.1.symm.trans f2.1) (by decide)
  | .txt _, .num _ _, f1, f2 => exact absurd (f1.1.symm.trans f2.1) (by decide)
end
end

section
open PySem PySem.W PyProof.Rows
open PyProof.Rows.LCg
/-! zip of three lists -/
abbrev IsTri (h : Heap) (T : Addr) (a b c : Value) : Prop := h.get? T = some { cls := .type "tuple", data := .seq #[a, b, c] }
structure Z3 (h : Heap) (I l1 l2 l3 : Nat) (xs ys zs : Array Value) (k : Nat) (f0 : Value) : Prop where
  i1 : h.IsListIter I l1 k
  i2 : h.IsListIter (I + 1) l2 k
  i3 : h.IsListIter (I + 2) l3 k
  ti : IsTri h (I + 3) (.ref I) (.ref (I + 1)) (.ref (I + 2))
  to : ∃ a b c, IsTri h (I + 4) a b c
  z : IsZip h (I + 5) (I + 3) (I + 4) f0
  q1 : h.IsList l1 xs
  q2 : h.IsList l2 ys
  q3 : h.IsList l3 zs
  t1 : l1 < I
  t2 : l2 < I
  t3 : l3 < I
theorem Z3.keeps {h h' : Heap} {I l1 l2 l3 : Nat} {xs ys zs : Array Value} {k : Nat} {f0 : Value} (Z : Z3 h I l1 l2 l3 xs ys zs k f0) (e : ∀ (b : Nat) o, b ≤ I + 5 → h.get? b = some o → h'.get? b = some o) : Z3 h' I l1 l2 l3 xs ys zs k f0 := by
  obtain ⟨i1, i2, i3, ti, ⟨a, b, c, to⟩, z, L1, L2, L3, t1, t2, t3⟩ := Z
  exact ⟨i1.at fun o => e _ o (by omega), i2.at fun o => e _ o (by omega), i3.at fun o => e _ o (by omega), e _ _ (by omega) ti, ⟨a, b, c, e _ _ (by omega) to⟩, e _ _ (by omega) z, L1.at fun o => e _ o (by omega), L2.at fun o => e _ o (by omega), L3.at fun o => e _ o (by omega), t1, t2, t3⟩
theorem nq {a b : Nat} (h : a < b ∨ b < a) : a ≠ b := by omega
section
variable {prog : Program} {w : World} {A : Around} {E : Value → Shared → Prop} {s : Shared}
theorem updateSeq_tri {T : Addr} {a b c x : Value} {k : Nat} {Q : Unit → Shared → Prop} (hT : IsTri s.heap T a b c)
    (h : ∀ h', h'.get? T = some { cls := .type "tuple", data := .seq ((#[a, b, c] : Array Value).setIfInBounds k x) } → Heap.SameBut T s.heap h' → Q () { s with heap := h' }) :
    wpAny (model prog w) A (updateSeq T (·.setIfInBounds k x)) Q E s := by
  refine wpAny_updateSeq hT rfl (h _ ?_ (Heap.SameBut.update ..))
  rw [Heap.get?_update_self _ hT rfl]
  simp [Obj.mapSeq]
theorem zip3_item {I l1 l2 l3 : Nat} {xs ys zs : Array Value} {k : Nat} {x y v : Value} {Q : Value → Shared → Prop} (Z : Z3 s.heap I l1 l2 l3 xs ys zs k .none)
    (hx : xs[k]? = some x) (hy : ys[k]? = some y) (hv : zs[k]? = some v)
    (hQ : ∀ h', Z3 h' I l1 l2 l3 xs ys zs (k + 1) (rawInt s.heap.objs.size) → IsTri h' s.heap.objs.size x y v → h'.objs.size = s.heap.objs.size + 1 →
      (∀ (c : Nat) o, c < I ∨ I + 5 < c → s.heap.get? c = some o → h'.get? c = some o) → Q (.ref s.heap.objs.size) { s with heap := h' }) :
    wpAny (model prog w) A (Builtin.«zip.__next__» ⟨[.ref (I + 5)], []⟩) (fun fin s' => ∃ v, fin = .done (.ret v) ∧ Q v s') E s := by
  obtain ⟨i1, i2, i3, ti, ⟨a, b, c, to⟩, z, L1, L2, L3, t1, t2, t3⟩ := Z
  show wpAny _ _ (field (.ref (I + 5)) 2 >>= _) _ _ _
  refine wpAny_bind (wpAny_field z rfl (x := .bool false) rfl ?_)
  show wpAny _ _ (field (.ref (I + 5)) 3 >>= _) _ _ _
  refine wpAny_bind (wpAny_field z rfl (x := .ref (I + 3)) rfl ?_)
  refine wpAny_bind (wpAny_seqItems ti rfl ?_)
  show wpAny _ _ (Builtin.SmallTypes.ownedTupleIsFree (.ref (I + 5)) >>= _) _ _ _
  refine wpAny_bind ?_
  unfold Builtin.SmallTypes.ownedTupleIsFree
  refine wpAny_bind (wpAny_field z rfl (x := .none) rfl (wpAny_pure ?_))
  simp only [if_true]
  refine wpAny_bind (wpAny_rule ?_)
  refine wpAny_bind (wpAny_field z rfl (x := .ref (I + 4)) rfl ?_)
  refine wpAny_bind (wpAny_setField_rec z (by simp) fun h₁ z₁ s₁ => ?_)
  replace z₁ : IsZip h₁ (I + 5) (I + 3) (I + 4) .ellipsis := z₁
  refine wpAny_bind ?_
  simp only [List.zipIdx_cons, List.zipIdx_nil, List.forIn_cons, List.forIn_nil]
  -- the first
  refine wpAny_bind (wpAny_bind (wpAny_onRaise ?_))
  show wpAny _ _ (Builtin.SmallTypes.nextOf (.ref I) >>= _) _ _ _
  refine wpAny_bind (wpAny_nextOf_list_item (i1.extBut s₁.extBut (nq (by omega))) (L1.extBut s₁.extBut (nq (by omega))) hx fun h₂ j1 s₂ => wpAny_pure ?_)
  have to₂ : IsTri h₂ (I + 4) a b c := s₂.extBut _ _ (nq (by omega)) (s₁.extBut _ _ (nq (by omega)) to)
  refine wpAny_bind (wpAny_seqItems to₂ rfl ?_)
  refine wpAny_bind (updateSeq_tri to₂ fun h₃ to₃ s₃ => ?_)
  replace to₃ : IsTri h₃ (I + 4) x b c := to₃
  refine wpAny_bind (wpAny_letGo (wpAny_pure ?_))
  -- the second
  refine wpAny_bind (wpAny_bind (wpAny_onRaise ?_))
  show wpAny _ _ (Builtin.SmallTypes.nextOf (.ref (I + 1)) >>= _) _ _ _
  refine wpAny_bind (wpAny_nextOf_list_item (((i2.extBut s₁.extBut (nq (by omega))).extBut s₂.extBut (nq (by omega))).extBut s₃.extBut (nq (by omega)))
    (((L2.extBut s₁.extBut (nq (by omega))).extBut s₂.extBut (nq (by omega))).extBut s₃.extBut (nq (by omega))) hy fun h₄ j2 s₄ => wpAny_pure ?_)
  have to₄ : IsTri h₄ (I + 4) x b c := s₄.extBut _ _ (nq (by omega)) to₃
  refine wpAny_bind (wpAny_seqItems to₄ rfl ?_)
  refine wpAny_bind (updateSeq_tri to₄ fun h₅ to₅ s₅ => ?_)
  replace to₅ : IsTri h₅ (I + 4) x y c := to₅
  refine wpAny_bind (wpAny_letGo (wpAny_pure ?_))
  -- the third
  refine wpAny_bind (wpAny_bind (wpAny_onRaise ?_))
  show wpAny _ _ (Builtin.SmallTypes.nextOf (.ref (I + 2)) >>= _) _ _ _
  refine wpAny_bind (wpAny_nextOf_list_item (((((i3.extBut s₁.extBut (nq (by omega))).extBut s₂.extBut (nq (by omega))).extBut s₃.extBut (nq (by omega))).extBut s₄.extBut (nq (by omega))).extBut s₅.extBut (nq (by omega)))
    (((((L3.extBut s₁.extBut (nq (by omega))).extBut s₂.extBut (nq (by omega))).extBut s₃.extBut (nq (by omega))).extBut s₄.extBut (nq (by omega))).extBut s₅.extBut (nq (by omega))) hv fun h₆ j3 s₆ => wpAny_pure ?_)
  have to₆ : IsTri h₆ (I + 4) x y c := s₆.extBut _ _ (nq (by omega)) to₅
  refine wpAny_bind (wpAny_seqItems to₆ rfl ?_)
  refine wpAny_bind (updateSeq_tri to₆ fun h₇ to₇ s₇ => ?_)
  replace to₇ : IsTri h₇ (I + 4) x y v := to₇
  refine wpAny_bind (wpAny_letGo (wpAny_pure (wpAny_pure ?_)))
  -- the result
  refine wpAny_bind (wpAny_seqItems to₇ rfl ?_)
  refine wpAny_bind (wpAny_newTuple ?_)
  have hsz : h₇.objs.size = s.heap.objs.size := by rw [s₇.1, s₆.1, s₅.1, s₄.1, s₃.1, s₂.1, s₁.1]
  have up7 : ∀ c o, c ≠ I → c ≠ I + 1 → c ≠ I + 2 → c ≠ I + 4 → c ≠ I + 5 → s.heap.get? c = some o → h₇.get? c = some o := fun c o c0 c1 c2 c4 c5 e =>
    s₇.extBut _ _ c4 (s₆.extBut _ _ c2 (s₅.extBut _ _ c4 (s₄.extBut _ _ c1 (s₃.extBut _ _ c4 (s₂.extBut _ _ c0 (s₁.extBut _ _ c5 e))))))
  have z₇ : IsZip h₇ (I + 5) (I + 3) (I + 4) .ellipsis := s₇.extBut _ _ (nq (by omega)) (s₆.extBut _ _ (nq (by omega)) (s₅.extBut _ _ (nq (by omega)) (s₄.extBut _ _ (nq (by omega)) (s₃.extBut _ _ (nq (by omega)) (s₂.extBut _ _ (nq (by omega)) z₁)))))
  have j1₇ : h₇.IsListIter I l1 (k + 1) := ((((j1.extBut s₃.extBut (nq (by omega))).extBut s₄.extBut (nq (by omega))).extBut s₅.extBut (nq (by omega))).extBut s₆.extBut (nq (by omega))).extBut s₇.extBut (nq (by omega))
  have j2₇ : h₇.IsListIter (I + 1) l2 (k + 1) := (((j2.extBut s₅.extBut (nq (by omega))).extBut s₆.extBut (nq (by omega))).extBut s₇.extBut (nq (by omega)))
  have j3₇ : h₇.IsListIter (I + 2) l3 (k + 1) := j3.extBut s₇.extBut (nq (by omega))
  have hlt : I + 5 < h₇.objs.size := Heap.lt_size z₇
  show wpAny _ _ (Builtin.SmallTypes.ownedTupleHandOut (.ref (I + 5)) (.ref h₇.objs.size) >>= _) _ _ _
  refine wpAny_bind ?_
  unfold Builtin.SmallTypes.ownedTupleHandOut
  have z₈ : IsZip (h₇.push { cls := .type "tuple", data := .seq #[x, y, v] }) (I + 5) (I + 3) (I + 4) .ellipsis := Heap.get?_push_of_some _ z₇
  refine wpAny_bind (wpAny_setField_rec z₈ (by simp) fun h₉ z₉ s₉ => ?_)
  replace z₉ : IsZip h₉ (I + 5) (I + 3) (I + 4) (rawInt h₇.objs.size) := z₉
  refine wpAny_setField_rec z₉ (by simp) fun h₁₀ z₁₀ s₁₀ => ?_
  replace z₁₀ : IsZip h₁₀ (I + 5) (I + 3) (I + 4) (rawInt h₇.objs.size) := z₁₀
  have up : ∀ c o, c ≠ I + 5 → h₇.get? c = some o → h₁₀.get? c = some o := fun c o c1 e => s₁₀.extBut _ _ c1 (s₉.extBut _ _ c1 (Heap.get?_push_of_some _ e))
  have hT : IsTri h₁₀ h₇.objs.size x y v := s₁₀.extBut _ _ (Nat.ne_of_gt hlt) (s₉.extBut _ _ (Nat.ne_of_gt hlt) (Heap.get?_push_size _ rfl))
  have hz : h₁₀.objs.size = h₇.objs.size + 1 := by rw [s₁₀.1, s₉.1, Heap.size_push]
  rw [hsz] at z₁₀ hT hz
  refine wpAny_pure ⟨_, rfl, ?_⟩
  show Q (.ref h₇.objs.size) _
  rw [hsz]
  refine hQ h₁₀ ⟨j1₇.at fun o e => up _ o (nq (by omega)) e, j2₇.at fun o e => up _ o (nq (by omega)) e, j3₇.at fun o e => up _ o (nq (by omega)) e, up _ _ (nq (by omega)) (up7 _ _ (nq (by omega)) (nq (by omega)) (nq (by omega)) (nq (by omega)) (nq (by omega)) ti), ⟨x, y, v, up _ _ (nq (by omega)) to₇⟩, z₁₀,
    L1.at fun o e => up _ o (nq (by omega)) (up7 _ _ (nq (by omega)) (nq (by omega)) (nq (by omega)) (nq (by omega)) (nq (by omega)) e), L2.at fun o e => up _ o (nq (by omega)) (up7 _ _ (nq (by omega)) (nq (by omega)) (nq (by omega)) (nq (by omega)) (nq (by omega)) e), L3.at fun o e => up _ o (nq (by omega)) (up7 _ _ (nq (by omega)) (nq (by omega)) (nq (by omega)) (nq (by omega)) (nq (by omega)) e), t1, t2, t3⟩ hT hz
    fun c o hc e => up c o (nq (by omega)) (up7 _ _ (nq (by omega)) (nq (by omega)) (nq (by omega)) (nq (by omega)) (nq (by omega)) e)
theorem zip3_end {I l1 l2 l3 : Nat} {xs ys zs : Array Value} {k : Nat} {Q : Fin → Shared → Prop} (hh : A.handled = none) (Z : Z3 s.heap I l1 l2 l3 xs ys zs k .none) (hx : xs[k]? = none)
    (hE : ∀ h' e, (∀ (c : Nat) o, c < I ∨ I + 5 < c → s.heap.get? c = some o → h'.get? c = some o) → (∃ o, h'.get? e = some o ∧ o.cls = .type "StopIteration") → E (.ref e) { s with heap := h' }) :
    wpAny (model prog w) A (Builtin.«zip.__next__» ⟨[.ref (I + 5)], []⟩) Q E s := by
  obtain ⟨i1, i2, i3, ti, ⟨a, b, c, to⟩, z, L1, L2, L3, t1, t2, t3⟩ := Z
  show wpAny _ _ (field (.ref (I + 5)) 2 >>= _) _ _ _
  refine wpAny_bind (wpAny_field z rfl (x := .bool false) rfl ?_)
  show wpAny _ _ (field (.ref (I + 5)) 3 >>= _) _ _ _
  refine wpAny_bind (wpAny_field z rfl (x := .ref (I + 3)) rfl ?_)
  refine wpAny_bind (wpAny_seqItems ti rfl ?_)
  show wpAny _ _ (Builtin.SmallTypes.ownedTupleIsFree (.ref (I + 5)) >>= _) _ _ _
  refine wpAny_bind ?_
  unfold Builtin.SmallTypes.ownedTupleIsFree
  refine wpAny_bind (wpAny_field z rfl (x := .none) rfl (wpAny_pure ?_))
  simp only [if_true]
  refine wpAny_bind (wpAny_rule ?_)
  refine wpAny_bind (wpAny_field z rfl (x := .ref (I + 4)) rfl ?_)
  refine wpAny_bind (wpAny_setField_rec z (by simp) fun h₁ z₁ s₁ => ?_)
  replace z₁ : IsZip h₁ (I + 5) (I + 3) (I + 4) .ellipsis := z₁
  refine wpAny_bind ?_
  simp only [List.zipIdx_cons, List.zipIdx_nil, List.forIn_cons, List.forIn_nil]
  refine wpAny_bind (wpAny_bind (wpAny_onRaise ?_))
  show wpAny _ _ (Builtin.SmallTypes.nextOf (.ref I) >>= _) _ _ _
  refine wpAny_bind (wpAny_nextOf_list_end hh (i1.extBut s₁.extBut (nq (by omega))) (L1.extBut s₁.extBut (nq (by omega))) hx fun h₂ e s₂ he => ?_)
  obtain ⟨oe, hoe, hce⟩ := he
  have z₂ : IsZip h₂ (I + 5) (I + 3) (I + 4) .ellipsis := s₂ _ _ (nq (by omega)) z₁
  have hez : e ≠ I + 5 := fun x => by subst x; rw [z₂] at hoe; cases hoe; simp at hce
  exact wpAny_setField_rec z₂ (by simp) fun h₃ _ s₃ => hE h₃ e (fun c o hc x => s₃.extBut _ _ (nq (by omega)) (s₂ _ _ (nq (by omega)) (s₁.extBut _ _ (nq (by omega)) x))) ⟨oe, s₃.extBut _ _ hez hoe, hce⟩
theorem pyNext_zip3_item {I l1 l2 l3 : Nat} {xs ys zs : Array Value} {k : Nat} {x y v : Value} {Q : Option Value → Shared → Prop} (Z : Z3 s.heap I l1 l2 l3 xs ys zs k .none)
    (hx : xs[k]? = some x) (hy : ys[k]? = some y) (hv : zs[k]? = some v)
    (hQ : ∀ h', Z3 h' I l1 l2 l3 xs ys zs (k + 1) (rawInt s.heap.objs.size) → IsTri h' s.heap.objs.size x y v → h'.objs.size = s.heap.objs.size + 1 →
      (∀ (c : Nat) o, c < I ∨ I + 5 < c → s.heap.get? c = some o → h'.get? c = some o) → Q (some (.ref s.heap.objs.size)) { s with heap := h' }) :
    wpAny (model prog w) A (pyNext (.ref (I + 5))) Q E s := by
  have hT : s.TypeIs (.ref (I + 5)) "zip" := ⟨_, Z.z, rfl⟩
  unfold pyNext
  exact wpAny_bind (wpAny_attempt (wpAny_callSpecial?_slot (name := Str.ofString "__next__") hT F.slot_zip_next
    (wpAny_call_entry F.slot_zip_next hT F.entry_zip_next
      (zip3_item Z hx hy hv fun h' a1 a2 a3 a4 => wpAny_pure (hQ h' a1 a2 a3 a4)) (F.args_zip_next_1 _))))
theorem pyNext_zip3_end {I l1 l2 l3 : Nat} {xs ys zs : Array Value} {k : Nat} {Q : Option Value → Shared → Prop} (hh : A.handled = none) (Z : Z3 s.heap I l1 l2 l3 xs ys zs k .none) (hx : xs[k]? = none)
    (hQ : ∀ h', (∀ (c : Nat) o, c < I ∨ I + 5 < c → s.heap.get? c = some o → h'.get? c = some o) → Q none { s with heap := h' }) : wpAny (model prog w) A (pyNext (.ref (I + 5))) Q E s := by
  have hT : s.TypeIs (.ref (I + 5)) "zip" := ⟨_, Z.z, rfl⟩
  unfold pyNext
  refine wpAny_bind (wpAny_attempt (wpAny_callSpecial?_slot (name := Str.ofString "__next__") hT F.slot_zip_next
    (wpAny_call_entry F.slot_zip_next hT F.entry_zip_next (zip3_end hh Z hx fun h' e hk he => ?_) (F.args_zip_next_1 _))))
  obtain ⟨o, ho, hc⟩ := he
  refine wpAny_bind (wpAny_isInstance (T := "StopIteration") (b := true) ⟨o, ho, hc⟩ isSubtype_stop ?_)
  exact wpAny_pure (hQ _ hk)
theorem typeCall_zip_3 (a b c : Value) : checkTypeCall "zip" ⟨[a, b, c], []⟩ = pure () := by kernel_rfl
theorem newCall_zip_3 (a b c : Value) : checkBuiltinCall "zip.__new__" ⟨[.type "zip", a, b, c], []⟩ = pure () := by kernel_rfl
theorem args_object_init_4 (a b c d : Value) : argsOk "object.__init__" ⟨[a, b, c, d], []⟩ := by
  unfold argsOk; rw [signature?_of (id := "object.__init__") (n := ['_', '_', 't', 'i', 'n', 'i', '_', '_']) (o := ['t', 'c', 'e', 'j', 'b', 'o']) (by kernel_rfl) F.owner_object]; kernel_rfl
abbrev z3a (h : Heap) (l1 : Addr) : Heap := h.push { cls := .type "list_iterator", data := .fields #[.ref l1, .int 0 0] }
abbrev z3b (h : Heap) (l1 l2 : Addr) : Heap := (z3a h l1).push { cls := .type "list_iterator", data := .fields #[.ref l2, .int 0 0] }
abbrev z3c (h : Heap) (l1 l2 l3 : Nat) : Heap := (z3b h l1 l2).push { cls := .type "list_iterator", data := .fields #[.ref l3, .int 0 0] }
abbrev z3d (h : Heap) (l1 l2 l3 : Nat) : Heap := (z3c h l1 l2 l3).push { cls := .type "tuple", data := .seq #[.ref h.objs.size, .ref (z3a h l1).objs.size, .ref (z3b h l1 l2).objs.size] }
abbrev z3e (h : Heap) (l1 l2 l3 : Nat) : Heap := (z3d h l1 l2 l3).push { cls := .type "tuple", data := .seq #[.none, .none, .none] }
abbrev z3f (h : Heap) (l1 l2 l3 : Nat) : Heap := (z3e h l1 l2 l3).push { cls := .type "zip", data := .fields #[.none, .bool false, .bool false, .ref (z3c h l1 l2 l3).objs.size, .ref (z3d h l1 l2 l3).objs.size] }
set_option maxHeartbeats 4000000 in
theorem meets_zip3_new (l1 l2 l3 : Nat) (xs ys zs : Array Value) :
    Meets (Builtin.«zip.__new__» ⟨[.type "zip", .ref l1, .ref l2, .ref l3], []⟩) (fun _ R s => s.heap.IsList l1 xs ∧ s.heap.IsList l2 ys ∧ s.heap.IsList l3 zs ∧
      R (.ok (.ret (.ref (z3e s.heap l1 l2 l3).objs.size))) { s with heap := z3f s.heap l1 l2 l3 }) :=
  .of_wp fun prog w A R s h => by
    obtain ⟨hp, g, d, tk, os⟩ := s; obtain ⟨hl1, hl2, hl3, h⟩ := h
    have hsub := sub_zip
    have hL1 : Heap.IsList (Shared.heap ⟨hp, g, d, tk, os⟩) l1 xs := hl1
    have hL2 : Heap.IsList (Shared.heap ⟨z3a hp l1, g, d, tk, os⟩) l2 ys := Heap.IsList.push hl2 _
    have hL3 : Heap.IsList (Shared.heap ⟨z3b hp l1 l2, g, d, tk, os⟩) l3 zs := Heap.IsList.push (Heap.IsList.push hl3 _) _
    wp_walk using wpAny_pyIter_list hL1, wpAny_pyIter_list hL2, wpAny_pyIter_list hL3
    exact ⟨_, rfl, h⟩
theorem call_zip_3 {l1 l2 l3 : Nat} {xs ys zs : Array Value} {Q : Value → Shared → Prop} (hl1 : s.heap.IsList l1 xs) (hl2 : s.heap.IsList l2 ys) (hl3 : s.heap.IsList l3 zs)
    (h : ∀ h', Z3 h' s.heap.objs.size l1 l2 l3 xs ys zs 0 .none → h'.objs.size = s.heap.objs.size + 6 → Ext s.heap h' → Q (.ref (s.heap.objs.size + 5)) { s with heap := h' }) :
    wpAny (model prog w) A (call (.type "zip") [.ref l1, .ref l2, .ref l3]) Q E s := by
  refine callType_new F.called_zip (by decide) (typeCall_zip_3 _ _ _) (newCall_zip_3 _ _ _) (fun obj => args_object_init_4 obj _ _ _) F.entry_zip_new
    (meets_zip3_new l1 l2 l3 xs ys zs) ⟨hl1, hl2, hl3, ?_⟩
  have z1 : (z3a s.heap l1).objs.size = s.heap.objs.size + 1 := Heap.size_push ..
  have z2 : (z3b s.heap l1 l2).objs.size = s.heap.objs.size + 2 := by rw [Heap.size_push, z1]
  have z3 : (z3c s.heap l1 l2 l3).objs.size = s.heap.objs.size + 3 := by rw [Heap.size_push, z2]
  have z4 : (z3d s.heap l1 l2 l3).objs.size = s.heap.objs.size + 4 := by rw [Heap.size_push, z3]
  have z5 : (z3e s.heap l1 l2 l3).objs.size = s.heap.objs.size + 5 := by rw [Heap.size_push, z4]
  have z6 : (z3f s.heap l1 l2 l3).objs.size = s.heap.objs.size + 6 := by rw [Heap.size_push, z5]
  have p : ∀ {h : Heap} {b : Addr} {ob : Obj} (o : Obj), h.get? b = some ob → (h.push o).get? b = some ob := fun o e => Heap.get?_push_of_some o e
  have g6 : (z3f s.heap l1 l2 l3).get? (z3e s.heap l1 l2 l3).objs.size = some _ := Heap.get?_push_size _ rfl
  have g5 : (z3f s.heap l1 l2 l3).get? (z3d s.heap l1 l2 l3).objs.size = some _ := p _ (Heap.get?_push_size _ rfl)
  have g4 : (z3f s.heap l1 l2 l3).get? (z3c s.heap l1 l2 l3).objs.size = some _ := p _ (p _ (Heap.get?_push_size _ rfl))
  have g3 : (z3f s.heap l1 l2 l3).get? (z3b s.heap l1 l2).objs.size = some _ := p _ (p _ (p _ (Heap.get?_push_size _ rfl)))
  have g2 : (z3f s.heap l1 l2 l3).get? (z3a s.heap l1).objs.size = some _ := p _ (p _ (p _ (p _ (Heap.get?_push_size _ rfl))))
  have g1 : (z3f s.heap l1 l2 l3).get? s.heap.objs.size = some _ := p _ (p _ (p _ (p _ (p _ (Heap.get?_push_size _ rfl)))))
  show _ ∧ _
  rw [z3, z4, z5] at g6
  rw [z4] at g5
  rw [z1, z2, z3] at g4
  rw [z2] at g3
  rw [z1] at g2
  rw [z5]
  have all : Ext s.heap (z3f s.heap l1 l2 l3) := fun c o x => p _ (p _ (p _ (p _ (p _ (p _ x)))))
  have lt : ∀ {l : Addr} {us : Array Value}, s.heap.IsList l us → l < s.heap.objs.size := fun hl => let ⟨_, e, _⟩ := hl; Heap.lt_size e
  exact ⟨⟨_, g6, rfl⟩, h _ ⟨⟨_, g1, rfl, rfl⟩, ⟨_, g2, rfl, rfl⟩, ⟨_, g3, rfl, rfl⟩, g4, ⟨_, _, _, g5⟩, g6, hl1.at fun o e => all _ o e, hl2.at fun o e => all _ o e, hl3.at fun o e => all _ o e, lt hl1, lt hl2, lt hl3⟩ z6 all⟩
end
end

section
open PySem PySem.W PyProof.Rows
open PyProof.Rows.LCg
theorem Z3.objs {h : Heap} {I l1 l2 l3 : Nat} {xs ys zs : Array Value} {k : Nat} (Z : Z3 h I l1 l2 l3 xs ys zs k .none) :
    ∃ led : List (Addr × Obj), (∀ p ∈ led, h.get? p.1 = some p.2 ∧ (I : Nat) ≤ p.1 ∧ p.1 ≤ I + 5) ∧ ∀ h' : Heap, (∀ p ∈ led, h'.get? p.1 = some p.2) → h'.IsList l1 xs → h'.IsList l2 ys → h'.IsList l3 zs → Z3 h' I l1 l2 l3 xs ys zs k .none := by
  obtain ⟨⟨o1, e1, r1⟩, ⟨o2, e2, r2⟩, ⟨o3, e3, r3⟩, ti, ⟨a, b, c, to⟩, z, L1, L2, L3, t1, t2, t3⟩ := Z
  refine ⟨[(I, o1), (I + 1, o2), (I + 2, o3), (I + 3, { cls := .type "tuple", data := .seq #[.ref I, .ref (I + 1), .ref (I + 2)] }), (I + 4, { cls := .type "tuple", data := .seq #[a, b, c] }), (I + 5, { cls := .type "zip", dict := none, data := .fields #[.none, .bool false, .bool false, .ref (I + 3), .ref (I + 4)], slots := #[] })], ?_, ?_⟩
  · intro p hp
    simp only [List.mem_cons, List.not_mem_nil, or_false] at hp
    rcases hp with rfl | rfl | rfl | rfl | rfl | rfl
    · exact ⟨e1, Nat.le_refl _, by show I ≤ I + 5; omega⟩
    · exact ⟨e2, by show I ≤ I + 1; omega, by show I + 1 ≤ I + 5; omega⟩
    · exact ⟨e3, by show I ≤ I + 2; omega, by show I + 2 ≤ I + 5; omega⟩
    · exact ⟨ti, by show I ≤ I + 3; omega, by show I + 3 ≤ I + 5; omega⟩
    · exact ⟨to, by show I ≤ I + 4; omega, by show I + 4 ≤ I + 5; omega⟩
    · exact ⟨z, by show I ≤ I + 5; omega, by show I + 5 ≤ I + 5; omega⟩
  · intro h' k q1 q2 q3
    exact ⟨⟨o1, k (I, o1) (by simp), r1⟩, ⟨o2, k (I + 1, o2) (by simp), r2⟩, ⟨o3, k (I + 2, o3) (by simp), r3⟩, k (I + 3, _) (by simp), ⟨a, b, c, k (I + 4, _) (by simp)⟩, k (I + 5, _) (by simp), q1, q2, q3, t1, t2, t3⟩
section
variable {prog : Program} {w : World} {A : Around} {E : Value → Shared → Prop} {s : Shared}
theorem assign_tri {env : Env} {a b c : Str} {pa pb pc tp : Pos} {kk : Nat} {T : Addr} {x y v : Value} {m : Str → Option Value} {Q : Unit → Shared → Prop} (hh : A.handled = none) (ht : s.heap.IsTuple T #[x, y, v])
    (ha : env.kindOf a = some .local) (hb : env.kindOf b = some .local) (hc : env.kindOf c = some .local) (hp : (env.scope.kind == .class || (env.scope.kind == .module && env.locals != env.globals)) = false) (hn : s.heap.Ns env.locals m)
    (h : ∀ (h' : Heap) (tk : Nat), h'.Ns env.locals (fun z => if z = c then some v else if z = b then some y else if z = a then some x else m z) → (∀ d o, d ≠ env.locals → s.heap.get? d = some o → h'.get? d = some o) → Q () { s with heap := h', toks := tk }) :
    wpAny (model prog w) A (assign (.Tuple [.Name a pa, .Name b pb, .Name c pc] kk tp) env (.ref T)) Q E s := by
  refine wpAny_assign_Tuple hh ht rfl rfl fun h₁ he₁ => ?_
  have hL : env.locals ≠ s.heap.objs.size := Nat.ne_of_lt hn.lt
  have hn₁ : h₁.Ns env.locals m := hn.at' fun o e => he₁ _ o hL e
  have up₁ : ∀ c o, s.heap.get? c = some o → h₁.get? c = some o := fun c o e => he₁ c o (Nat.ne_of_lt (Heap.lt_size e)) e
  show wpAny _ _ (assignInOrder [assign (.Name a pa) env, assign (.Name b pb) env, assign (.Name c pc) env] [x, y, v]) _ _ _
  refine assignInOrder_cons ?_
  refine wpAny_assign_Name (wpAny_storeName_local ha hn₁ (fun h₂ hn₂ hs₂ => ?_) hp)
  refine assignInOrder_cons ?_
  refine wpAny_assign_Name (wpAny_storeName_local hb hn₂ (fun h₃ hn₃ hs₃ => ?_) hp)
  refine assignInOrder_cons ?_
  refine wpAny_assign_Name (wpAny_storeName_local hc hn₃ (fun h₄ hn₄ hs₄ => ?_) hp)
  refine assignInOrder_nil ?_
  exact h h₄ _ hn₄ fun c o hc e => hs₄.extBut c o hc (hs₃.extBut c o hc (hs₂.extBut c o hc (up₁ c o e)))
end
def ZEnd (h₀ : Heap) (L : Nat) (m : Str → Option Value) (s₁ : Shared) (C : Addr) (oC : Obj) (led : List (Addr × Obj)) (Jn : Value → Prop) (y : Value) (s' : Shared) : Prop :=
  ∃ h' tk', s' = { s₁ with heap := h', toks := tk' } ∧ Fr h₀ L h' m ∧ News h₀ L h' ((C, oC) :: led) ∧ Jn y
theorem ZEnd.intro {h₀ h' : Heap} {L : Nat} {m : Str → Option Value} {s₁ : Shared} {C : Addr} {oC : Obj} {led all : List (Addr × Obj)} {Jn : Value → Prop} {y : Value} {tk' : Nat}
    (F : Fr h₀ L h' m) (N : News h₀ L h' all) (sub : ∀ p ∈ (C, oC) :: led, p ∈ all) (j : Jn y) : ZEnd h₀ L m s₁ C oC led Jn y { s₁ with heap := h', toks := tk' } := ⟨h', tk', rfl, F, fun p hp => N p (sub p hp), j⟩
section
variable {prog : Program} {w : World} {A : Around} {E : Value → Shared → Prop} {s : Shared} {h₀ : Heap} {L : Nat} {m : Str → Option Value} {env : Env}
theorem zc_block {elt iter : PySem.Expr} {a b c : Str} {pa pb pc tp : Pos} {kk : Nat} {scope : Scope} {cl : List (Str × Addr)} {pos : Pos} {s₂ : Shared} {I l1 l2 l3 : Nat} {xs ys zs : Array Value} {n : Nat}
    {RR : Value → Addr → Result → Shared → Prop} (J : Nat → List Value → Prop)
    (hh : A.handled = none) (Z : Z3 s₂.heap I l1 l2 l3 xs ys zs 0 .none) (H1 : h₀.IsList l1 xs) (H2 : h₀.IsList l2 ys) (H3 : h₀.IsList l3 zs) (hx : xs.size = n) (hy : ys.size = n) (hz : zs.size = n) (hsz : n ≤ sizeLine)
    (hI : h₀.objs.size ≤ I) (hLI : L < I)
    (hcell : ∀ y ∈ scope.names, y.2 ≠ .cell) (hkind : scope.kind = .function) (hxa : scope.names.lookup a = some .local) (hxb : scope.names.lookup b = some .local) (hxc : scope.names.lookup c = some .local) (hab : ¬ a = b) (hac : ¬ a = c) (hbc : ¬ b = c)
    (F : Fr h₀ L s₂.heap m) (j0 : J 0 [])
    (turn : ∀ i v1 v2 v3 us C oC m₂ h tk led (E' : Value → Shared → Prop), xs[i]? = some v1 → ys[i]? = some v2 → zs[i]? = some v3 → NsObj oC m₂ → m₂ a = some v1 → m₂ b = some v2 → m₂ c = some v3 → Fr h₀ L h m → News h₀ L h ((C, oC) :: led) → J i us →
      wpAny (model prog w) A (eval elt (compEnvC scope cl C env)) (ZEnd h₀ L m s₂ C oC led (fun y => J (i + 1) (us ++ [y]))) E' { s₂ with heap := h, toks := tk })
    (hRR : ∀ D C h tk m' us, Fr h₀ L h m → News h₀ L h [(D, lst us)] → h.Ns C m' → h₀.get? C = none → h₀.get? D = none → C ≠ L → D ≠ L → C ≠ D → J n us → RR (.ref D) C (.ok .next) { s₂ with heap := h, toks := tk }) :
    wpAny (model prog w) A (newList []) (fun acc s₃ => wpAny (model prog w) A (newFunctionEnv scope env.globals cl [] env.qual none .none (some env)) (fun cenv s₄ =>
      codeAny (model prog w) A (.compStart (.ListComp elt [⟨.Tuple [.Name a pa, .Name b pb, .Name c pc] kk tp, iter, [], 0⟩] scope pos) 0 (.ref (I + 5)) acc { cenv with scope := relabel scope env }) (RR acc cenv.locals) s₄) E s₃) E s₂ := by
  refine wpAny_newObj_type (wpAny_newFunctionEnv hcell (by intro y hy; simp at hy) (fun h₁ hns₁ hsb₁ => ?_) hkind)
  dsimp only at hns₁ hsb₁ ⊢
  generalize hH2 : s₂.heap.push { cls := .type "list", dict := none, data := .seq ([] : List Value).toArray } = HH at hns₁ hsb₁ ⊢
  obtain ⟨D, hD⟩ : ∃ D : Nat, s₂.heap.objs.size = D := ⟨_, rfl⟩
  obtain ⟨C, hC'⟩ : ∃ C : Nat, HH.objs.size = C := ⟨_, rfl⟩
  have hC : C = D + 1 := by rw [← hC', ← hH2, Heap.size_push, hD]
  have hIlt : I + 5 < D := by rw [← hD]; exact Heap.lt_size Z.z
  have hLlt : L < D := by rw [← hD]; exact F.ns.lt
  have old : ∀ b o, s₂.heap.get? b = some o → h₁.get? b = some o := fun b o e => by
    refine hsb₁.extBut b o ?_ (Heap.get?_push_of_some _ (hH2 ▸ Heap.get?_push_of_some _ e))
    have := Heap.lt_size e
    rw [hC', hC, ← hD]
    exact Nat.ne_of_lt (Nat.lt_succ_of_lt this)
  have hacc : h₁.get? D = some (lst []) := by
    refine hsb₁.extBut _ _ ?_ (Heap.get?_push_of_some _ (hH2 ▸ hD ▸ Heap.get?_push_size _ rfl))
    rw [hC']; exact nq (by omega)
  have fresh₀ : ∀ a : Nat, I ≤ a → h₀.get? a = none := fun a ha => by
    cases e : h₀.get? a with
    | none => rfl
    | some o' => exact absurd (Nat.lt_of_lt_of_le (Heap.lt_size e) hI) (Nat.not_lt.mpr ha)
  have hD₀ : h₀.get? D = none := fresh₀ _ (by omega)
  have hC₀ : h₀.get? C = none := fresh₀ _ (by omega)
  rw [hC', hD]
  rw [hC'] at hns₁
  have Z₁ : Z3 h₁ I l1 l2 l3 xs ys zs 0 .none := Z.keeps fun b o _ e => old b o e
  clear hsb₁ hH2 hC'
  have loop : ∀ s₃ : Shared, s₃ = { s₂ with heap := h₁, toks := s₂.toks + ([] : List (Str × Value)).length } →
      codeAny (model prog w) A (.compLoop (.ListComp elt [⟨.Tuple [.Name a pa, .Name b pb, .Name c pc] kk tp, iter, [], 0⟩] scope pos) 0 (.ref (I + 5)) (.ref D) (compEnvC scope cl C env))
        (RR (.ref D) C) s₃ := by
    rintro s₃ rfl
    refine kcp_loop
      (fun k s' => ∃ h' tk i us m', s' = { s₂ with heap := h', toks := tk } ∧ i ≤ n ∧ k = n + 1 - i ∧ us.length = i ∧ Z3 h' I l1 l2 l3 xs ys zs i .none ∧ Fr h₀ L h' m ∧ h'.Ns C m' ∧ h'.get? D = some (lst us) ∧ D < h'.objs.size ∧ C < h'.objs.size ∧ J i us) ?_ (n + 1)
      ⟨h₁, _, 0, [], _, rfl, Nat.zero_le _, rfl, rfl, Z₁, F.keeps old, hns₁, hacc, Heap.lt_size hacc, hns₁.lt, j0⟩
    rintro k s' ⟨h', tk, i, us, m', rfl, hi, rfl, hul, Z', F', hn', hD', hDs, hCs, hJ⟩
    by_cases hlt : i < n
    · obtain ⟨x, ex⟩ : ∃ x, xs[i]? = some x := ⟨xs[i], by simp [hx, hlt]⟩
      obtain ⟨y, ey⟩ : ∃ x, ys[i]? = some x := ⟨ys[i], by simp [hy, hlt]⟩
      obtain ⟨v, ev⟩ : ∃ x, zs[i]? = some x := ⟨zs[i], by simp [hz, hlt]⟩
      refine pyNext_zip3_item Z' ex ey ev fun h₂ Z₂ hT hsz2 up₂ => ?_
      refine wpAny_letOwnedTupleGo_zip Z₂.z fun h₃ z₃ s₃ => ?_
      have up₃ : ∀ (c : Nat) o, c < I ∨ I + 5 < c → h'.get? c = some o → h₃.get? c = some o := fun c o hc e => s₃.extBut _ _ (nq (by omega)) (up₂ c o hc e)
      have Z₃ : Z3 h₃ I l1 l2 l3 xs ys zs (i + 1) .none := by
        obtain ⟨i1, i2, i3, ti, ⟨a, b, c, to⟩, z, L1, L2, L3, t1, t2, t3⟩ := Z₂
        exact ⟨i1.extBut s₃.extBut (nq (by omega)), i2.extBut s₃.extBut (nq (by omega)), i3.extBut s₃.extBut (nq (by omega)), s₃.extBut _ _ (nq (by omega)) ti, ⟨a, b, c, s₃.extBut _ _ (nq (by omega)) to⟩, z₃,
          L1.extBut s₃.extBut (nq (by omega)), L2.extBut s₃.extBut (nq (by omega)), L3.extBut s₃.extBut (nq (by omega)), t1, t2, t3⟩
      have hT₃ : h₃.IsTuple h'.objs.size #[x, y, v] := ⟨_, s₃.extBut _ _ (nq (by have : I + 5 < h'.objs.size := Heap.lt_size Z'.z
                                                                                 omega)) hT, rfl, _, rfl⟩
      refine assign_tri (env := compEnvC scope cl C env) hh hT₃ (lookup_relabel_local hxa) (lookup_relabel_local hxb) (lookup_relabel_local hxc) (by simp [compEnvC, relabel, hkind]) (hn'.at' fun o e => up₃ _ o (.inr (by show I + 5 < C; omega)) e) fun h₄ tk₄ hn₄ hs₄ => ?_
      replace hs₄ : ∀ (d : Nat) o, d ≠ C → h₃.get? d = some o → h₄.get? d = some o := hs₄
      have up : ∀ (c : Nat) o, (c < I ∨ I + 5 < c) → c ≠ C → h'.get? c = some o → h₄.get? c = some o := fun c o h1 h2 e => hs₄ c o h2 (up₃ c o h1 e)
      have Z₄ : Z3 h₄ I l1 l2 l3 xs ys zs (i + 1) .none := Z₃.keeps fun b o hb e => hs₄ b o (nq (by omega)) e
      obtain ⟨oC, heC, hoC⟩ := ns_obj hn₄
      have b0 : ∀ (c : Nat) o, h₀.get? c = some o → c < I := fun c o e => Nat.lt_of_lt_of_le (Heap.lt_size e) hI
      have F₄ : Fr h₀ L h₄ m := ⟨F'.ns.at' fun o e => up _ o (.inl hLI) (nq (by omega)) e, fun c o e => up c o (.inl (b0 c o e)) (nq (by have := b0 c o e; omega)) (F'.keep c o e), F'.above⟩
      obtain ⟨led, hled, hZ⟩ := Z₄.objs
      have hD₄ : h₄.get? D = some (lst us) := up _ _ (.inr (by omega)) (nq (by omega)) hD'
      have N₄ : News h₀ L h₄ ((C, oC) :: (D, lst us) :: led) := fun q hq => by
        rcases List.mem_cons.mp hq with rfl | hq
        · exact ⟨heC, nq (by omega), hC₀⟩
        · rcases List.mem_cons.mp hq with rfl | hq
          · exact ⟨hD₄, nq (by omega), hD₀⟩
          · obtain ⟨e, e1, e2⟩ := hled q hq
            exact ⟨e, nq (by omega), fresh₀ _ e1⟩
      refine wpAny_mono (turn i x y v us C oC _ h₄ _ _ _ ex ey ev hoC (by simp [hac, hab]) (by simp [hbc]) (by simp) F₄ N₄ hJ) (fun y s₅ h₅ => ?_) fun _ _ e => e
      obtain ⟨h₅, tk₅, rfl, F₅, N₅, hJ₅⟩ := h₅
      have zC := (N₅ (C, oC) List.mem_cons_self).1
      have zD := (N₅ (D, lst us) (List.mem_cons_of_mem _ List.mem_cons_self)).1
      have Z₅ := hZ h₅ (fun p hp => (N₅ p (List.mem_cons_of_mem _ (List.mem_cons_of_mem _ hp))).1) (H1.at fun o e => F₅.keep _ o e) (H2.at fun o e => F₅.keep _ o e) (H3.at fun o e => F₅.keep _ o e)
      refine append_at (hsz := by show us.toArray.size ≤ sizeLine; rw [List.size_toArray, hul]; exact Nat.le_trans hi hsz) zD fun h₆ hs₆ hD₆ => ?_
      have hn₅ : h₅.Ns C _ := hoC.ns zC
      have h56 : h₆.objs.size = h₅.objs.size := hs₆.1
      refine ⟨n + 1 - (i + 1), by omega, h₆, tk₅, i + 1, us ++ [y], _, rfl, hlt, rfl, by rw [List.length_append, List.length_singleton, hul], Z₅.keeps fun b o hb e => hs₆.extBut b o (nq (by omega)) e, F₅.change hs₆ (nq (by omega)) hD₀,
        hn₅.sameBut hs₆ (nq (by omega)), hD₆.trans (congrArg some (lst_snoc us y)), ?_, ?_, hJ₅⟩
      · rw [h56]; exact Heap.lt_size zD
      · rw [h56]; exact Heap.lt_size zC
    · have hin : i = n := Nat.le_antisymm hi (Nat.not_lt.mp hlt)
      subst hin
      refine pyNext_zip3_end hh Z' (by simp [hx]) fun h₂ hk₂ => ?_
      have b0 : ∀ (c : Nat) o, h₀.get? c = some o → c < I := fun c o e => Nat.lt_of_lt_of_le (Heap.lt_size e) hI
      refine hRR D C h₂ _ m' us ⟨F'.ns.at' fun o e => hk₂ _ o (.inl hLI) e, fun c o e => hk₂ c o (.inl (b0 c o e)) (F'.keep c o e), F'.above⟩ ?_ (hn'.at' fun o e => hk₂ _ o (.inr (by omega)) e) hC₀ hD₀ (nq (by omega)) (nq (by omega)) (nq (by omega)) hJ
      intro p hp
      rw [List.mem_singleton.mp hp]
      exact ⟨hk₂ _ _ (.inr (by omega)) hD', nq (by omega), hD₀⟩
  exact codeAny_compStart_list (loop _ rfl) (wpAny_pyIter_zip Z₁.z (loop _ rfl))
def ZSrc (prog : Program) (w : World) (A : Around) (h₀ : Heap) (L : Nat) (m : Str → Option Value) (env : Env) (elt : PySem.Expr) (a b c : Str) (scope : Scope) (cl : List (Str × Addr)) (Fin : Shared → List Value → Prop) (xv : Value) (s₁ : Shared) : Prop :=
  ∃ (I l1 l2 l3 : Nat) (xs ys zs : Array Value) (n : Nat) (J : Nat → List Value → Prop), xv = .ref (I + 5) ∧ A.handled = none ∧ Z3 s₁.heap I l1 l2 l3 xs ys zs 0 .none ∧ h₀.IsList l1 xs ∧ h₀.IsList l2 ys ∧ h₀.IsList l3 zs ∧ xs.size = n ∧ ys.size = n ∧ zs.size = n ∧ n ≤ sizeLine ∧ h₀.objs.size ≤ I ∧ L < I ∧ Fr h₀ L s₁.heap m ∧ J 0 [] ∧
    (∀ i v1 v2 v3 us C oC m₂ h tk led (E' : Value → Shared → Prop), xs[i]? = some v1 → ys[i]? = some v2 → zs[i]? = some v3 → NsObj oC m₂ → m₂ a = some v1 → m₂ b = some v2 → m₂ c = some v3 → Fr h₀ L h m → News h₀ L h ((C, oC) :: led) → J i us →
      wpAny (model prog w) A (eval elt (compEnvC scope cl C env)) (ZEnd h₀ L m s₁ C oC led (fun y => J (i + 1) (us ++ [y]))) E' { s₁ with heap := h, toks := tk }) ∧
    ∀ us, J n us → Fin s₁ us
theorem my_Assign_ZipComp {elt iter : PySem.Expr} {a b c y : Str} {pa pb pc tp py : Pos} {kk : Nat} {scope : Scope} {cl : List (Str × Addr)} {pos spos : Pos} {Q : Flow → Shared → Prop} (F₀ : Fr h₀ L s.heap m) (hLe : env.locals = L)
    (hsw : swapsWith (.ListComp elt [⟨.Tuple [.Name a pa, .Name b pb, .Name c pc] kk tp, iter, [], 0⟩] scope pos) (some (.Name y py)) spos.line env = pure true)
    (hclos : closureFor scope env = pure cl) (hcell : ∀ z ∈ scope.names, z.2 ≠ .cell) (hkind : scope.kind = .function)
    (hnames : ∀ z ∈ scope.names, z.2 = .local → scope.names.lookup z.1 = some .local) (hxa : scope.names.lookup a = some .local) (hxb : scope.names.lookup b = some .local) (hxc : scope.names.lookup c = some .local) (hab : ¬ a = b) (hac : ¬ a = c) (hbc : ¬ b = c)
    (hy : env.kindOf y = some .local) (hp : (env.scope.kind == .class || (env.scope.kind == .module && env.locals != env.globals)) = false)
    (h : wpAny (model prog w) A (eval iter env) (ZSrc prog w A h₀ L m env elt a b c scope cl (fun s₂ us => ∀ D h tk, Fr h₀ L h (fun z => if z = y then some (.ref D) else m z) → News h₀ L h [(D, lst us)] → Q .next { s₂ with heap := h, toks := tk })) E s)
    (hs : ∀ x, foldedSetIterable iter env x = pure x := by intro _; rfl) :
    wpAny (model prog w) A (exec (.Assign [.Name y py] (.ListComp elt [⟨.Tuple [.Name a pa, .Name b pb, .Name c pc] kk tp, iter, [], 0⟩] scope pos) spos) env) Q E s := by
  subst hLe
  rw [exec_Assign_Name_used _ _ _ _ hsw]
  refine wpAny_bind (wpAny_standAt (wpAny_bind ?_))
  refine wpAny_bind (wpAny_mono (wpAny_comprehension_free (use := some (assign (.Name y py) env)) (Q := fun _ s' => Q .next s') rfl hs hclos hkind hnames
    (wpAny_mono h (fun xv s₁ h₁ => ?_) fun _ _ e => e)) (fun _ s' hq => wpAny_pure (wpAny_pure hq)) fun _ _ e => e)
  obtain ⟨I, l1, l2, l3, xs, ys, zs, n, J, rfl, hh, Z, H1, H2, H3, hx, hy', hz, hsz, hI, hLI, F, j0, turn, fin⟩ := h₁
  refine wpAny_pyIter_zip Z.z ?_
  refine zc_block J hh Z H1 H2 H3 hx hy' hz hsz hI hLI hcell hkind hxa hxb hxc hab hac hbc F j0 turn ?_
  intro D C h' tk m' us F' N' hn hC₀ hD₀ hCL hDL hCD hJ
  show wpAny _ A (assign (.Name y py) env (.ref D)) _ _ _
  refine wpAny_assign_Name (wpAny_storeName_local hy F'.ns (fun h₂ hn₂ hs₂ => ?_) hp)
  have F₂ : Fr h₀ env.locals h₂ (fun z => if z = y then some (.ref D) else m z) := F'.set hn₂ hs₂
  have N₂ := N'.set hs₂
  refine ⟨m', hn.sameBut hs₂ hCL, fun h'' hs'' => fin us hJ D h'' _ (F₂.change hs'' hCL hC₀) (fun p hp => ?_)⟩
  have hne : p.1 ≠ C := by
    rw [List.mem_singleton.mp hp]
    exact Ne.symm hCD
  exact ⟨hs''.extBut _ _ hne (N₂ p hp).1, (N₂ p hp).2⟩
end
end

section
open PySem PySem.W PyProof.Rows PyProof.Rows.LCg
theorem lines_W7_1 : True := by
  k_with_none
  k_with "eval Call" => k_dflt (refine Call_ ?_)
  k_with "mine steps" => (repeat' (first | (k_unfold; (try dsimp only)) | ((fail_if_success (with_reducible show wpAny _ _ (PySem.pyIter _) _ _ _)); (fail_if_success (with_reducible show wpAny _ _ (PySem.call (Value.type "zip") _) _ _ _)); first | walk1 | (dsimp only; walk1)) | fail "no step"))
  k_with "exec Assign cons ListComp" => k_dflt (refine my_Assign_ZipComp (by assumption) (by rfl) (by with_unfolding_all rfl) (by rfl) (by decide) (by rfl) (by decide) (by rfl) (by rfl) (by rfl) (by decide) (by decide) (by decide) (by rfl) (by rfl) ?_)
  k_with "call ref" => (k_here; k_dflt (refine law_due (by first | (exact Wd.keeps (by assumption) (Fr.keep (by k_asm))) | fail "x") (by ktr_room) (by ktr_units) (by first | (exact Is.base (by first | (k_asm) | fail "x") (by assumption)) | fail "x") (by first | (exact Is.base (by first | (k_asm) | fail "x") (by assumption)) | fail "x") (by first | (exact Is.base (by first | (k_asm) | fail "x") (by assumption)) | fail "x") (by assumption) (by assumption) ?_; k_whole); walk_at "tail 1")
  trivial
def fz : List Int → Int → Int
  | [], z => z
  | d :: r, z => if d ≠ 0 then d else fz r z
theorem fz_snoc : ∀ (ds : List Int) (d z : Int), fz (ds ++ [d]) z = fz ds (if d ≠ 0 then d else z)
  | [], _, _ => rfl
  | e :: r, d, z => by simp only [List.cons_append, fz, fz_snoc r]
theorem IsAll.ints3 {P : Addr → Obj → Prop} {us : List Value} {ds : List Int} (h : IsAll P us (intsD ds)) (hn : ds.length ≤ 3) :
    (us = [] ∧ ds = []) ∨ (∃ a t, us = [.int a t] ∧ ds = [a]) ∨ (∃ a t b u, us = [.int a t, .int b u] ∧ ds = [a, b]) ∨ (∃ a t b u c v, us = [.int a t, .int b u, .int c v] ∧ ds = [a, b, c]) := by
  match ds, h, hn with
  | [], h1, _ => exact .inl ⟨IsAll.nilE h1, rfl⟩
  | [a], h1, _ =>
    refine hideG fun G9 kG9 => ?_
    obtain ⟨_, _, rfl, g0, k0⟩ := IsAll.consE h1
    obtain ⟨t0, rfl⟩ := g0.intE
    obtain rfl := IsAll.nilE k0
    refine kG9 ?_
    clear kG9 G9
    exact .inr (.inl ⟨a, t0, rfl, rfl⟩)
  | [a, b], h1, _ =>
    refine hideG fun G9 kG9 => ?_
    obtain ⟨_, _, rfl, g0, k0⟩ := IsAll.consE h1
    obtain ⟨t0, rfl⟩ := g0.intE
    obtain ⟨_, _, rfl, g1, k1⟩ := IsAll.consE k0
    obtain ⟨t1, rfl⟩ := g1.intE
    obtain rfl := IsAll.nilE k1
    refine kG9 ?_
    clear kG9 G9
    exact .inr (.inr (.inl ⟨a, t0, b, t1, rfl, rfl⟩))
  | [a, b, c], h1, _ =>
    refine hideG fun G9 kG9 => ?_
    obtain ⟨_, _, rfl, g0, k0⟩ := IsAll.consE h1
    obtain ⟨t0, rfl⟩ := g0.intE
    obtain ⟨_, _, rfl, g1, k1⟩ := IsAll.consE k0
    obtain ⟨t1, rfl⟩ := g1.intE
    obtain ⟨_, _, rfl, g2, k2⟩ := IsAll.consE k1
    obtain ⟨t2, rfl⟩ := g2.intE
    obtain rfl := IsAll.nilE k2
    refine kG9 ?_
    clear kG9 G9
    exact .inr (.inr (.inr ⟨a, t0, b, t1, c, t2, rfl, rfl⟩))
  | _ :: _ :: _ :: _ :: r, _, hn => simp at hn
section
variable {w : World} {dp un : Nat} {fr : Option (List Env)} {gd : Option (List Code)} {E : Value → Shared → Prop} {s : Shared} {Q : Value → Shared → Prop}
set_option maxHeartbeats 4000000 in
theorem law_due_rows {lo l1 l2 : Addr} {vs us ws : List Value} {os : List Od} {r1 r2 : List Cell}
    (W : Wd w s.heap) (hd : dp + 4 < recursionLimit) (hu : un + 200 < cLine) (hlen : os.length ≤ 3)
    (LO : s.heap.IsList lo vs.toArray) (L1 : s.heap.IsList l1 us.toArray) (L2 : s.heap.IsList l2 ws.toArray)
    (io : IsAll (At s.heap) vs (os.map Od.py)) (i1 : IsAll (At s.heap) us (r1.map Cell.py)) (i2 : IsAll (At s.heap) ws (r2.map Cell.py))
    (f1 : FitRow os r1) (f2 : FitRow os r2)
    (ret : ∀ r t h' tk', r = dueRows os r1 r2 → Ext s.heap h' → Q (.int r t) { s with heap := h', toks := tk' }) :
    wpAny (model pg w) (Ar dp un fr gd) (call (.ref 142) [.ref lo, .ref l1, .ref l2]) Q E s := by
  have z1 : vs.length = os.length := by simpa using io.length
  have z2 : us.length = os.length := by simpa [f1.length] using i1.length
  have z3 : ws.length = os.length := by simpa [f2.length] using i2.length
  k_dflt (refine' enter (binds := [("orders", .ref lo), ("one", .ref l1), ("other", .ref l2)]) W ?k6 ?k7 ?k8 ?k9 ?kB ?_ ?c2 ?c3 ?c4 ?c5; (case k6 => k_is); (case k7 => k_is); (case k8 => ktr_room); (case k9 => exact BindsTo.of_eq rfl); (case c5 => decide); (case kB => exact locs rfl); (case c2 => exact rfl); (case c3 => exact rfl); (case c4 => exact rfl); k_whole)
  intro L h₁ hL F
  have N : News s.heap L h₁ [] := News.nil
  have X := W.K
  refine Wd.elim W fun mean mg mb T => ?_
  (try dsimp only)
  (try k_fold)
  walk_at "mine steps"
  refine call_zip_3 (LO.at fun o e => F.keep _ o e) (L1.at fun o e => F.keep _ o e) (L2.at fun o e => F.keep _ o e) fun h' Z hsz' ex => ?_
  refine ⟨_, lo, l1, l2, _, _, _, os.length, fun i us => ∃ ds : List Int, ds.length = i ∧ IsAll (fun _ _ => False) us (intsD ds) ∧ dueRows os r1 r2 = fz ds (dueRows (os.drop i) (r1.drop i) (r2.drop i)), rfl, rfl, Z, LO, L1, L2, by simpa using z1, by simpa using z2, by simpa using z3, by rw [sizeLine_eq]; omega, ?_, F.ns.lt, F.keeps ex, ⟨[], rfl, .nil, rfl⟩, ?_, ?_⟩
  · exact Nat.le_trans F.above (Nat.le_of_lt F.ns.lt)
  · intro i v1 v2 v3 vs' C oC m₂ h tk led E' e1 e2 e3 hC ha hb hc F' N' hx21
    refine hideG fun G9 kG9 => ?_
    obtain ⟨ds, hl, hI, hj⟩ := hx21
    simp only [List.getElem?_toArray] at e1 e2 e3
    have hi : i < os.length := by
      have := (List.getElem?_eq_some_iff.mp e1).1; omega
    obtain ⟨o, ho⟩ : ∃ o, os[i]? = some o := ⟨os[i], by simp [hi]⟩
    obtain ⟨v, hv, iv⟩ := io.getO ho
    obtain ⟨c1, hc1, fc1⟩ := f1.get ho
    obtain ⟨c2, hc2, fc2⟩ := f2.get ho
    obtain ⟨x1, hx1, iv1⟩ := i1.getC hc1
    obtain ⟨x2, hx2, iv2⟩ := i2.getC hc2
    refine kG9 ?_
    clear kG9 G9
    rw [e1] at hv; obtain rfl := Option.some.inj hv
    rw [e2] at hx1; obtain rfl := Option.some.inj hx1
    rw [e3] at hx2; obtain rfl := Option.some.inj hx2
    rw [dueRows_step ho hc1 hc2] at hj
    clear F N Z ret ex
    walk_at "mine steps"
    refine ZEnd.intro (by assumption) (by assumption) (fun p hp => hp) ⟨ds ++ [due o c1 c2], by simp [hl], ?_, ?_⟩
    · simp only [intsD, List.map_append]
      exact hI.append (.cons (.int _ _) .nil)
    · rw [hj, fz_snoc]
  · intro us' hx1 D h tk F' N'
    refine hideG fun G9 kG9 => ?_
    obtain ⟨ds, hl, hI, hj⟩ := hx1
    refine kG9 ?_
    clear kG9 G9
    rw [List.drop_length, List.drop_eq_nil_of_le (by rw [f1.length]; exact Nat.le_refl _)] at hj
    replace hj : dueRows os r1 r2 = fz ds 0 := hj
    rw [hj] at ret
    clear F N Z ex hj io i1 i2 f1 f2 LO L1 L2
    rcases hI.ints3 (by omega) with ⟨rfl, rfl⟩ | ⟨a, t, rfl, rfl⟩ | ⟨a, t, b, u, rfl, rfl⟩ | ⟨a, t, b, u, c, v, rfl, rfl⟩
    all_goals
      walk_at "mine steps"
      all_goals (refine ret _ _ _ _ ?_ (Fr.keep (by assumption)))
      all_goals (clear ret W T X)
      all_goals simp_all [fz]
end
end

section
open PySem PySem.W PyProof.Rows
open PyProof.Rows.LCg
/-! an object that a call changes -/
abbrev srcO (x : Int) (t : Tok) (y : Int) (u : Tok) (n : Nat) : Obj := PySem.W.listOf #[.int x t, .int y u] n
def KeepBut (src : Addr) (h h' : Heap) : Prop := ∀ (b : Addr) o, b ≠ src → h.get? b = some o → h'.get? b = some o
theorem KeepBut.refl (src : Addr) (h : Heap) : KeepBut src h h := fun _ _ _ e => e
structure Pick (src : Addr) (S S' : Obj) (led led' : List (Addr × Obj)) : Prop where
  mem : (src, S) ∈ led
  sub : ∀ p ∈ led', p = (src, S') ∨ (p ∈ led ∧ p.1 ≠ src)
theorem Pick.here {src : Addr} {S S' : Obj} {rest : List (Addr × Obj)} (h : ∀ p ∈ rest, p.1 ≠ src) : Pick src S S' ((src, S) :: rest) ((src, S') :: rest) :=
  ⟨.head _, fun p hp => (List.mem_cons.mp hp).imp id fun hp => ⟨.tail _ hp, h p hp⟩⟩
theorem Pick.last {src : Addr} {S S' : Obj} : Pick src S S' [(src, S)] [(src, S')] := .here (by intro p hp; cases hp)
theorem Pick.skip {src a : Addr} {o S S' : Obj} {rest rest' : List (Addr × Obj)} (h : a ≠ src) (p : Pick src S S' rest rest') : Pick src S S' ((a, o) :: rest) ((a, o) :: rest') :=
  ⟨.tail _ p.mem, fun q hq => by
    rcases List.mem_cons.mp hq with rfl | hq
    · exact .inr ⟨.head _, h⟩
    · rcases p.sub q hq with e | ⟨e1, e2⟩
      · exact .inl e
      · exact .inr ⟨.tail _ e1, e2⟩⟩
theorem Pick.app {src : Addr} {S S' : Obj} {led rest rest' : List (Addr × Obj)} (h : ∀ p ∈ led, p.1 ≠ src) (p : Pick src S S' rest rest') : Pick src S S' (led ++ rest) (led ++ rest') :=
  ⟨List.mem_append_right _ p.mem, fun q hq => by
    rcases List.mem_append.mp hq with hq | hq
    · exact .inr ⟨List.mem_append_left _ hq, h q hq⟩
    · rcases p.sub q hq with e | ⟨e1, e2⟩
      · exact .inl e
      · exact .inr ⟨List.mem_append_right _ e1, e2⟩⟩
theorem Wd.hid {w : World} {h₀ h : Heap} {L src : Addr} {m : Str → Option Value} (W : Wd w (h₀.hide src)) (F : Fr (h₀.hide src) L h m) : Wd w (h.hide src) :=
  W.keeps fun b o e => by
    have hne : b ≠ src := fun q => by rw [q, Heap.hide_self] at e; cases e
    rw [Heap.hide_ne _ hne]; exact F.keep b o e
theorem mut_after {h₀ h h' : Heap} {L src : Addr} {m : Str → Option Value} {S S' : Obj} {led led' : List (Addr × Obj)} (F : Fr (h₀.hide src) L h m) (N : News (h₀.hide src) L h led) (pk : Pick src S S' led led') (kp : KeepBut src h h') (hs : h'.get? src = some S') :
    Fr (h₀.hide src) L h' m ∧ News (h₀.hide src) L h' led' := by
  have hL : L ≠ src := Ne.symm (N _ pk.mem).2.1
  refine ⟨⟨F.ns.at' fun o e => kp L o hL e, fun b o e => kp b o (fun q => by rw [q, Heap.hide_self] at e; cases e) (F.keep b o e), F.above⟩, fun p hp => ?_⟩
  rcases pk.sub p hp with rfl | ⟨h1, h2⟩
  · exact ⟨hs, (N _ pk.mem).2⟩
  · exact ⟨kp _ _ h2 (N _ h1).1, (N _ h1).2⟩
theorem mut_elim {h₀ h h' : Heap} {L src : Addr} {m : Str → Option Value} {S S' : Obj} {led led' : List (Addr × Obj)} {goal : Prop} (F : Fr (h₀.hide src) L h m) (N : News (h₀.hide src) L h led) (pk : Pick src S S' led led') (kp : KeepBut src h h') (hs : h'.get? src = some S')
    (k : Fr (h₀.hide src) L h' m → News (h₀.hide src) L h' led' → goal) : goal := let ⟨a, b⟩ := mut_after F N pk kp hs; k a b
structure PickT (src : Addr) (S S' : Obj) (tl led : List (Addr × Obj)) (f : List (Addr × Obj) → List (Addr × Obj)) : Prop where
  mem : (src, S) ∈ led
  sub : ∀ tl', ∀ p ∈ f tl', p = (src, S') ∨ (p ∈ led ∧ p.1 ≠ src) ∨ p ∈ tl'
  old : ∀ p ∈ tl, p ∈ led ∧ p.1 ≠ src
theorem PickT.last {src : Addr} {S S' : Obj} : PickT src S S' [] [(src, S)] (fun tl' => (src, S') :: tl') :=
  ⟨.head _, fun tl' p hp => (List.mem_cons.mp hp).imp id .inr, fun _ h => nomatch h⟩
theorem PickT.here {src : Addr} {S S' : Obj} {tl : List (Addr × Obj)} (h : ∀ p ∈ tl, p.1 ≠ src) : PickT src S S' tl ((src, S) :: tl) (fun tl' => (src, S') :: tl') :=
  ⟨.head _, fun tl' p hp => (List.mem_cons.mp hp).imp id .inr, fun p hp => ⟨.tail _ hp, h p hp⟩⟩
theorem PickT.skip {src a : Addr} {o S S' : Obj} {tl rest : List (Addr × Obj)} {f : List (Addr × Obj) → List (Addr × Obj)} (h : a ≠ src) (p : PickT src S S' tl rest f) : PickT src S S' tl ((a, o) :: rest) (fun tl' => (a, o) :: f tl') :=
  ⟨.tail _ p.mem, fun tl' q hq => by
    rcases List.mem_cons.mp hq with rfl | hq
    · exact .inr (.inl ⟨.head _, h⟩)
    · rcases p.sub tl' q hq with e | ⟨e1, e2⟩ | e
      · exact .inl e
      · exact .inr (.inl ⟨.tail _ e1, e2⟩)
      · exact .inr (.inr e), fun q hq => ⟨.tail _ (p.old q hq).1, (p.old q hq).2⟩⟩
/-- a call has changed src and made things -/
theorem mut_elimT {h₀ h h' : Heap} {L src : Addr} {m : Str → Option Value} {S S' : Obj} {tl led fr : List (Addr × Obj)} {f : List (Addr × Obj) → List (Addr × Obj)} {goal : Prop} (F : Fr (h₀.hide src) L h m) (N : News (h₀.hide src) L h led) (pk : PickT src S S' tl led f) (kp : KeepBut src h h') (hs : h'.get? src = some S') (fs : Fresh h h' fr)
    (k : ∀ tl', tl' = fr ++ tl → (∀ p ∈ tl', p.1 ≠ src) → (∀ p ∈ fr, ∀ q ∈ led, p.1 ≠ q.1) → Fr (h₀.hide src) L h' m → News (h₀.hide src) L h' (f tl') → goal) : goal := by
  have hL : L ≠ src := Ne.symm (N _ pk.mem).2.1
  have hf : ∀ p ∈ fr, p.1 ≠ src := fun p hp q => by
    have := (fs p hp).2
    rw [q, (N _ pk.mem).1] at this; cases this
  have F' : Fr (h₀.hide src) L h' m := ⟨F.ns.at' fun o e => kp L o hL e, fun b o e => kp b o (fun q => by rw [q, Heap.hide_self] at e; cases e) (F.keep b o e), F.above⟩
  have old : ∀ p ∈ led, p.1 ≠ src → h'.get? p.1 = some p.2 ∧ p.1 ≠ L ∧ (h₀.hide src).get? p.1 = none := fun p hp hn => ⟨kp _ _ hn (N p hp).1, (N p hp).2⟩
  refine k (fr ++ tl) rfl (fun p hp => ?_) (fun p hp q hq e => ?_) F' fun p hp => ?_
  · rcases List.mem_append.mp hp with hp | hp
    · exact hf p hp
    · exact (pk.old p hp).2
  · have := (fs p hp).2
    rw [e, (N _ hq).1] at this; cases this
  · rcases pk.sub _ p hp with rfl | ⟨h1, h2⟩ | hp
    · exact ⟨hs, (N _ pk.mem).2⟩
    · exact old p h1 h2
    · rcases List.mem_append.mp hp with hp | hp
      · obtain ⟨h1, h2⟩ := fs p hp
        refine ⟨h1, fun q => ?_, ?_⟩
        · obtain ⟨oL, _, _, hL, _⟩ := F.ns
          rw [q, hL] at h2; cases h2
        · cases q : (h₀.hide src).get? p.1 with
          | none => rfl
          | some o => have := F.keep _ _ q; rw [h2] at this; cases this
      · exact old p (pk.old p hp).1 (pk.old p hp).2
theorem Fresh.ofS {h₀ h : Heap} {L src : Addr} {led led' : List (Addr × Obj)} (N : News (h₀.hide src) L h led) (sub : ∀ p ∈ led', p ∈ led) (off : ∀ p ∈ led', p.1 ≠ src) : Fresh h₀ h led' := fun p hp => by
  have a := N p (sub p hp)
  refine ⟨a.1, ?_⟩
  have := a.2.2
  rwa [Heap.hide_ne _ (off p hp)] at this
theorem src_get {h₀ h : Heap} {L src : Addr} {x y : Int} {t u : Tok} {n : Nat} {led : List (Addr × Obj)} (N : News h₀ L h led) (hm : (src, srcO x t y u n) ∈ led) : h.get? src = some (srcO x t y u n) := (N _ hm).1
theorem two_apart {h₀ h : Heap} {L a b : Addr} {o o' : Obj} {led : List (Addr × Obj)} (N : News h₀ L h led) (ha : (a, o) ∈ led) (hb : (b, o') ∈ led) (hne : o ≠ o') : a ≠ b := N.twoPlaces ha hb hne
theorem list_hid {h₀ h : Heap} {L src l : Addr} {its : Array Value} {n : Nat} {led : List (Addr × Obj)} (N : News h₀ L h led) (hm : (l, PySem.W.listOf its n) ∈ led) (hne : l ≠ src) : (h.hide src).IsList l its :=
  ⟨_, by rw [Heap.hide_ne _ hne]; exact (N _ hm).1, rfl, n, rfl⟩
theorem list_hid₀ {h₀ h : Heap} {L src l : Addr} {its : Array Value} {m : Str → Option Value} (F : Fr (h₀.hide src) L h m) (hl : (h₀.hide src).IsList l its) : (h.hide src).IsList l its :=
  hl.at fun o e => by
    have hne : l ≠ src := fun q => by rw [q, Heap.hide_self] at e; cases e
    rw [Heap.hide_ne _ hne]; exact F.keep _ _ e
theorem item_any {w : World} {A : Around} {E : Value → Shared → Prop} {s : Shared} {value slice : PySem.Expr} {l : Addr} {vs : List Value} {k : Int} {u : Tok} {Q : Value → Shared → Prop}
    (hl : s.heap.IsList l vs.toArray) (h0 : 0 ≤ k) (h1 : k < (vs.length : Int)) (hi : vs.length ≤ 1000) (h : ∀ v, v ∈ vs → Q v s)
    (hs : subscripted slice false (.ref l) (.int k u) = operate [.ref l, .int k u] (getItem (.ref l) (.int k u)) := by with_unfolding_all rfl) :
    wpAny (model pg w) A (subscriptTail value slice (.ref l) (.int k u)) Q E s := by
  have hk : k.toNat < vs.length := by omega
  exact item_vs hl (i := k.toNat) (by omega) (by omega) (List.getElem?_eq_getElem hk) (h _ (List.getElem_mem hk)) hs
/-- what a body has kept -/
theorem keepBut_of {h₀ h' : Heap} {L src : Addr} {m : Str → Option Value} (F : Fr (h₀.hide src) L h' m) : KeepBut src h₀ h' := fun b o hb e => F.keep b o (by rw [Heap.hide_ne _ hb]; exact e)
theorem Is.hid {h : Heap} {src : Addr} {v : Value} {d : PyData} (i : Is (At (h.hide src)) v d) : Is (At h) v d := i.mono fun a o e => Heap.of_hide e
end

section
open PySem PySem.W PyProof.Rows PyProof.Rows.LCg
theorem lines_W8_1 : True := by
  k_with_none
  k_with "eval Call" => k_dflt (refine Call_ ?_)
  k_with "mine steps" => (repeat' (first | (k_unfold; (try dsimp only)) | ((fail_if_success (with_reducible show wpAny _ _ (PySem.pyIter _) _ _ _)); first | walk1 | (dsimp only; walk1)) | fail "no step"))
  trivial
theorem mulOk_fmod (a : Int) : IntMulOk (a.fmod 2147483647) (a.fmod 2147483647) := by
  have h1 := Int.fmod_nonneg_of_pos a (b := 2147483647) (by omega)
  have h2 := Int.fmod_lt_of_pos a (b := 2147483647) (by omega)
  exact IntMulOk.of_right (PySem.intBits_le_64 (by omega) (by omega))
theorem lines_W8_2 : True := by
  k_with "binaryOp Mult int int" => k_dflt (refine mul_int ?_ (by first | (exact mulOk_fmod _) | fail "x"))
  trivial
section
variable {w : World} {dp un : Nat} {fr : Option (List Env)} {gd : Option (List Code)} {E : Value → Shared → Prop} {s : Shared} {Q : Value → Shared → Prop}
set_option maxHeartbeats 4000000 in
theorem law_take {src : Addr} {x y top : Int} {t u tt : Tok} {n : Nat}
    (W : Wd w (s.heap.hide src)) (hd : dp + 1 < recursionLimit) (hu : un + 50 < cLine) (hs : s.heap.get? src = some (srcO x t y u n)) (htop : 0 < top) (htop2 : top < 1000000)
    (ret : ∀ r t' x' tx y' ty h' tk', 0 ≤ r → r < top → KeepBut src s.heap h' → h'.get? src = some (srcO x' tx y' ty n) → Q (.int r t') { s with heap := h', toks := tk' }) :
    wpAny (model pg w) (Ar dp un fr gd) (call (.ref 92) [.ref src, .int top tt]) Q E s := by
  k_dflt (refine' enterS (binds := [("source", .ref src), ("top", .int top tt)]) W hs ?k6 ?k7 ?k8 ?k9 ?kB ?_ ?c2 ?c3 ?c4 ?c5; (case k6 => k_is); (case k7 => k_is); (case k8 => ktr_room); (case k9 => exact BindsTo.of_eq rfl); (case c5 => decide); (case kB => exact locs rfl); (case c2 => exact rfl); (case c3 => exact rfl); (case c4 => exact rfl); k_whole)
  intro L h₁ hL F N
  have X := W.K
  refine Wd.elim W fun mean mg mb T => ?_
  (try dsimp only)
  (try k_fold)
  walk_at "mine steps"
  all_goals rename News _ _ _ _ => N9
  all_goals exact ret _ _ _ _ _ _ _ _ (Int.fmod_nonneg_of_pos _ htop) (Int.fmod_lt_of_pos _ htop) (keepBut_of (by assumption)) (N9 _ (.head _)).1
end
end

local macro_rules | `(tactic| walk_at "tail 7") => `(tactic| (intro v' hv'))
local macro_rules | `(tactic| walk_at "tail 8") => `(tactic| (intro r' t' x' tx' y' ty' h' tk' r0' r1' kp' hs'; refine' mut_elim ?F ?N ?pk kp' hs' ?_; (case F => k_asm); (case N => k_asm); (case pk => walk_at "mine pick"); intro F' N'; clear kp' hs'; k_sweep))
section
open PySem PySem.W PyProof.Rows PyProof.Rows.LCg
theorem lines_W9_1 : True := by
  k_with_none
  k_with "eval Call" => k_dflt (refine Call_ ?_)
  k_with "mine steps" => (repeat' (first | (k_unfold; (try dsimp only)) | ((fail_if_success (with_reducible show wpAny _ _ (PySem.pyIter _) _ _ _)); first | walk1 | (dsimp only; walk1)) | fail "no step"))
  k_with "mine mem" => (first | exact List.Mem.head _ | (refine List.Mem.tail _ ?_; walk_at "mine mem") | (refine List.mem_append_right _ ?_; walk_at "mine mem") | fail "x")
  k_with "mine ne" => (first | assumption | exact Ne.symm (by assumption) | (refine two_apart (by first | (k_asm) | fail "x") ?_ (o' := PySem.W.listOf #[.int _ _, .int _ _] _) ?_ ?_; walk_at "mine mem"; walk_at "mine mem"; (intro e; simp [PySem.W.listOf] at e; done)) | fail "x")
  k_with "mine pick" => (first | exact Pick.last | (refine Pick.skip ?_ ?_; walk_at "mine ne"; walk_at "mine pick") | (refine Pick.app (by assumption) ?_; walk_at "mine pick") | fail "x")
  k_with "mine src" => exact src_get (by assumption) (by first | (walk_at "mine mem") | fail "x")
  k_with "call builtin:len" => (k_dflt (refine len_vs (by first | (is_list) | fail "x") (by first | (exact rfl) | fail "x") (by assumption) ?_; k_whole); walk_at "tail 2")
  k_with "subscriptTail Name Call ref int" => (k_dflt (refine item_any (by first | (is_list) | fail "x") (by assumption) (by assumption) (by assumption) ?_; k_whole); walk_at "tail 7")
  k_with "call ref" => (k_here; k_dflt (refine law_take (by first | (exact Wd.hid (by assumption) (by first | (k_asm) | fail "x")) | fail "x") (by ktr_room) (by ktr_units) (by first | (walk_at "mine src") | fail "x") (by omega) (by omega) ?_); walk_at "tail 8")
  trivial
section
variable {w : World} {dp un : Nat} {fr : Option (List Env)} {gd : Option (List Code)} {E : Value → Shared → Prop} {s : Shared} {Q : Value → Shared → Prop}
set_option maxHeartbeats 4000000 in
theorem law_one {src l : Addr} {x y : Int} {t u : Tok} {n : Nat} {vs : List Value}
    (W : Wd w (s.heap.hide src)) (hd : dp + 2 < recursionLimit) (hu : un + 100 < cLine) (hs : s.heap.get? src = some (srcO x t y u n))
    (HL : (s.heap.hide src).IsList l vs.toArray) (hn : 0 < vs.length) (hn2 : vs.length ≤ 1000)
    (ret : ∀ v x' tx y' ty h' tk', v ∈ vs → KeepBut src s.heap h' → h'.get? src = some (srcO x' tx y' ty n) → Q v { s with heap := h', toks := tk' }) :
    wpAny (model pg w) (Ar dp un fr gd) (call (.ref 99) [.ref src, .ref l]) Q E s := by
  k_dflt (refine' enterS (binds := [("source", .ref src), ("things", .ref l)]) W hs ?k6 ?k7 ?k8 ?k9 ?kB ?_ ?c2 ?c3 ?c4 ?c5; (case k6 => k_is); (case k7 => k_is); (case k8 => ktr_room); (case k9 => exact BindsTo.of_eq rfl); (case c5 => decide); (case kB => exact locs rfl); (case c2 => exact rfl); (case c3 => exact rfl); (case c4 => exact rfl); k_whole)
  intro L h₁ hL F N
  have X := W.K
  refine Wd.elim W fun mean mg mb T => ?_
  (try dsimp only)
  (try k_fold)
  walk_at "mine steps"
  rename News _ _ _ _ => N9
  exact ret _ _ _ _ _ _ _ (by assumption) (keepBut_of (by assumption)) (N9 _ (.head _)).1
end
end

local macro_rules | `(tactic| walk_at "tail 9") => `(tactic| (intro v' x' tx' y' ty' h' tk' hv' kp' hs'; refine' mut_elim ?F ?N ?pk kp' hs' ?_; (case F => k_asm); (case N => k_asm); (case pk => walk_at "mine pick"); intro F' N'; clear kp' hs'; k_sweep))
section
open PySem PySem.W PyProof.Rows PyProof.Rows.LCg
theorem lines_W10_1 : True := by
  k_with_none
  k_with "eval Call" => k_dflt (refine Call_ ?_)
  k_with "mine steps" => (repeat' (first | (k_unfold; (try dsimp only)) | ((fail_if_success (with_reducible show wpAny _ _ (PySem.pyIter _) _ _ _)); first | walk1 | (dsimp only; walk1)) | fail "no step"))
  k_with "mine mem" => (first | exact List.Mem.head _ | (refine List.Mem.tail _ ?_; walk_at "mine mem") | (refine List.mem_append_right _ ?_; walk_at "mine mem") | fail "x")
  k_with "mine ne" => (first | assumption | exact Ne.symm (by assumption) | (refine two_apart (by assumption) (by first | (walk_at "mine mem") | fail "x") (o' := PySem.W.listOf #[.int _ _, .int _ _] _) (by first | (walk_at "mine mem") | fail "x") (by first | (intro e; simp [PySem.W.listOf] at e; done) | fail "x")) | fail "x")
  k_with "mine pick" => (first | exact Pick.last | (refine Pick.skip (by first | (walk_at "mine ne") | fail "x") (by first | (walk_at "mine pick") | fail "x")) | (refine Pick.app (by assumption) (by first | (walk_at "mine pick") | fail "x")) | fail "x")
  k_with "mine src" => exact src_get (by assumption) (by first | (walk_at "mine mem") | fail "x")
  k_with "mine list" => (first | exact list_hid₀ (by first | (k_asm) | fail "x") (by assumption) | exact list_hid (by assumption) (by first | (walk_at "mine mem") | fail "x") (by first | (walk_at "mine ne") | fail "x") | fail "x")
  k_with "call ref" => (k_here; k_dflt (refine law_one (by first | (exact Wd.hid (by assumption) (by first | (k_asm) | fail "x")) | fail "x") (by ktr_room) (by ktr_units) (by first | (walk_at "mine src") | fail "x") (by first | (walk_at "mine list") | fail "x") (by first | (exact Nat.le_of_ble_eq_true rfl) | fail "x") (by first | (exact Nat.le_of_ble_eq_true rfl) | fail "x") ?_); walk_at "tail 9")
  trivial
abbrev tupO (p : Int) (t : Tok) (q : Int) (u : Tok) : Obj := { cls := .type "tuple", data := .seq #[.int p t, .int q u] }
theorem num_fin {h₀ h : Heap} {L src D : Addr} {p q : Int} {t u : Tok} {led : List (Addr × Obj)} {Q : Value → Shared → Prop} {s' : Shared} (N : News (h₀.hide src) L h led) (hm : (D, tupO p t q u) ∈ led) (ne : D ≠ src)
    (k : ∀ led', Is (InL led') (.ref D) (Cell.num p q).py → Fresh h₀ h led' → Q (.ref D) s') : Q (.ref D) s' :=
  k [(D, tupO p t q u)] (.tuple (.head _) rfl rfl (.cons (.int _ _) (.cons (.int _ _) .nil))) (Fresh.ofS N (fun x hx => by rw [List.mem_singleton.mp hx]; exact hm) (fun x hx => by rw [List.mem_singleton.mp hx]; exact ne))
section
variable {w : World} {dp un : Nat} {fr : Option (List Env)} {gd : Option (List Code)} {E : Value → Shared → Prop} {s : Shared} {Q : Value → Shared → Prop}
set_option maxHeartbeats 4000000 in
theorem law_number {src : Addr} {x y : Int} {t u : Tok} {n : Nat}
    (W : Wd w (s.heap.hide src)) (hd : dp + 3 < recursionLimit) (hu : un + 150 < cLine) (hs : s.heap.get? src = some (srcO x t y u n))
    (ret : ∀ v p q led x' tx y' ty h' tk', (p, q) ∈ nums → Is (InL led) v (Cell.num p q).py → Fresh s.heap h' led → KeepBut src s.heap h' → h'.get? src = some (srcO x' tx y' ty n) → Q v { s with heap := h', toks := tk' }) :
    wpAny (model pg w) (Ar dp un fr gd) (call (.ref 106) [.ref src]) Q E s := by
  k_dflt (refine' enterS (binds := [("source", .ref src)]) W hs ?k6 ?k7 ?k8 ?k9 ?kB ?_ ?c2 ?c3 ?c4 ?c5; (case k6 => k_is); (case k7 => k_is); (case k8 => ktr_room); (case k9 => exact BindsTo.of_eq rfl); (case c5 => decide); (case kB => exact locs rfl); (case c2 => exact rfl); (case c3 => exact rfl); (case c4 => exact rfl); k_whole)
  intro L h₁ hL F N
  have X := W.K
  refine Wd.elim W fun mean mg mb T => ?_
  (try dsimp only)
  (try k_fold)
  walk_at "mine steps"
  rename News _ _ _ _ => N9
  rename (_ ∈ ([_, _, _, _, _, _, _, _, _, _, _, _] : List Value)) => hv
  simp only [List.mem_cons, List.not_mem_nil, or_false] at hv
  rcases hv with rfl | rfl | rfl | rfl | rfl | rfl | rfl | rfl | rfl | rfl | rfl | rfl
  all_goals
    refine num_fin N9 (by walk_at "mine mem") (by walk_at "mine ne") fun led' h1 h2 => ?_
    refine ret _ _ _ _ _ _ _ _ _ _ ?_ h1 h2 (keepBut_of (by assumption)) (src_get N9 (by walk_at "mine mem"))
    decide
end
end

section
open PySem PySem.W PyProof.Rows
open PyProof.Rows.LCg
section
variable {prog : Program} {w : World} {A : Around} {E : Value → Shared → Prop} {s : Shared} {h₀ : Heap} {L : Addr} {m : Str → Option Value} {env : Env}
theorem comp_range {elt : PySem.Expr} {x : Str} {scope : Scope} {cl : List (Str × Addr)} {Fin : Shared → List Value → List (Addr × Obj) → Prop} {r : Addr} {k : Int} {t₀ u₀ v₀ : Tok} {news : List (Addr × Obj)}
    (J : Nat → List Value → List (Addr × Obj) → Prop) (hh : A.handled = none) (F : Fr h₀ L s.heap m) (N : News h₀ L s.heap news) (hr : IsRange s.heap r 0 k 1 t₀ u₀ v₀) (hk : 0 ≤ k) (hsz : k ≤ 1000) (hj : J 0 [] news)
    (fin : ∀ s' ys news, (∃ h, s' = { s with heap := h }) → J k.toNat ys news → Fin s' ys news)
    (step : ∀ i ys news, i < k.toNat → J i ys news → ∀ t I oI C oC D m₂ h tk (E' : Value → Shared → Prop), NsObj oC m₂ → m₂ x = some (.int (i : Int) t) → Fr h₀ L h m → News h₀ L h ((I, oI) :: (C, oC) :: (D, lst ys) :: news) → Off3 I C D news → ((@Ne Nat I C) ∧ (@Ne Nat I D) ∧ (@Ne Nat C D)) →
      wpAny (model prog w) A (eval elt (compEnvC scope cl C env)) (CompEnd h₀ L m { s with heap := h, toks := tk } I oI C oC D (lst ys) (fun _ => True) (fun y news' => J (i + 1) (ys ++ [y]) news')) E' { s with heap := h, toks := tk }) :
    wpAny (model prog w) A (pyIter (.ref r)) (CompIt prog w A h₀ L m env elt x scope cl Fin) E s := by
  obtain ⟨n, rfl⟩ : ∃ n : Nat, k = (n : Int) := ⟨k.toNat, by omega⟩
  simp only [Int.toNat_natCast] at fin step
  have hn : Builtin.Range.rangeSize 0 (n : Int) 1 = (n : Int) := by
    unfold Builtin.Range.rangeSize; simp; omega
  have hsmall : Builtin.Range.small 0 (n : Int) 1 = true := by
    unfold Builtin.Range.small; simp [hn, Builtin.Range.rangeFitsLong]; omega
  refine wpAny_pyIter_range hr hsmall ?_
  have W : Walks prog w A s.heap.objs.size [s.heap.objs.size] [s.heap.objs.size] n (fun i v => i < n ∧ ∃ t, v = .int (0 + i * 1) t)
      (fun i h => IsRangeIter h s.heap.objs.size (0 + (i : Nat) * 1) ((n : Int) - (i : Nat)) 1) := (Walks.range hh _ 0 1 n).bound
  refine ⟨_, _, _, _, _, fun _ => True, news, rfl, W, by rw [sizeLine_eq]; omega, fun i h st => ⟨_, st⟩, fun i h h' ob nw st e e' _ _ _ => ?_, by show IsRangeIter _ _ _ _ _; rw [hn]; simpa using Heap.get?_push_size _ rfl, fun b hb => ?_, F.push _, fun p hp => ⟨Heap.get?_push_of_some _ (N p hp).1, (N p hp).2⟩, Nat.ne_of_lt F.ns.lt, next_is_new F, fun p hp => Nat.ne_of_lt (Heap.lt_size (N p hp).1), trivial, ?_⟩
  · exact W.frame i h h' st fun b hb o' q => by
      rw [List.mem_singleton.mp hb] at q ⊢
      rw [e] at q; cases q; exact e'
  · rw [List.mem_singleton.mp hb]; show s.heap.objs.size < (s.heap.push _).objs.size; rw [Heap.size_push]; exact Nat.lt_succ_self _
  · exact compRest_inv J (fun ys nw j => fin _ ys nw ⟨_, rfl⟩ j) (fun i ys nw hi j v I oI C oC D m₂ h tk E' hP hC hx F' N' off ne => by
      obtain ⟨_, t, rfl⟩ := hP
      simp only [Int.zero_add, Int.mul_one] at hx
      exact step i ys nw hi j t I oI C oC D m₂ h tk E' hC hx F' N' off ne) _ 0 [] news (by omega) hj
/-- over a list of the ground, or one of the ledger that stays -/
theorem comp_list {elt : PySem.Expr} {x : Str} {scope : Scope} {cl : List (Str × Addr)} {Fin : Shared → List Value → List (Addr × Obj) → Prop} {l : Addr} {vs : List Value} {news : List (Addr × Obj)}
    (J : Nat → List Value → List (Addr × Obj) → Prop) (hh : A.handled = none) (F : Fr h₀ L s.heap m) (N : News h₀ L s.heap news)
    (hl : h₀.IsList l vs.toArray ∨ ∃ o, (∀ i ys news, J i ys news → (l, o) ∈ news) ∧ o.cls = .type "list" ∧ ∃ k, o.data = .seq vs.toArray k) (hsz : vs.length ≤ 1000) (hj : J 0 [] news)
    (fin : ∀ s' ys news, (∃ h, s' = { s with heap := h }) → J vs.length ys news → Fin s' ys news)
    (step : ∀ i ys news v, vs[i]? = some v → J i ys news → ∀ I oI C oC D m₂ h tk (E' : Value → Shared → Prop), NsObj oC m₂ → m₂ x = some v → Fr h₀ L h m → News h₀ L h ((I, oI) :: (C, oC) :: (D, lst ys) :: news) → Off3 I C D news → ((@Ne Nat I C) ∧ (@Ne Nat I D) ∧ (@Ne Nat C D)) →
      wpAny (model prog w) A (eval elt (compEnvC scope cl C env)) (CompEnd h₀ L m { s with heap := h, toks := tk } I oI C oC D (lst ys) (fun nw => h₀.IsList l vs.toArray ∨ ∃ o, (l, o) ∈ nw ∧ o.cls = .type "list" ∧ ∃ k, o.data = .seq vs.toArray k) (fun y news' => J (i + 1) (ys ++ [y]) news')) E' { s with heap := h, toks := tk }) :
    wpAny (model prog w) A (pyIter (.ref l)) (CompIt prog w A h₀ L m env elt x scope cl Fin) E s := by
  have S0 : h₀.IsList l vs.toArray ∨ ∃ o, (l, o) ∈ news ∧ o.cls = .type "list" ∧ ∃ k, o.data = .seq vs.toArray k := hl.imp id fun ⟨o, h1, h2⟩ => ⟨o, h1 _ _ _ hj, h2⟩
  have at_ : ∀ {h nw}, Ext h₀ h → News h₀ L h nw → (h₀.IsList l vs.toArray ∨ ∃ o, (l, o) ∈ nw ∧ o.cls = .type "list" ∧ ∃ k, o.data = .seq vs.toArray k) → h.IsList l vs.toArray := by
    rintro h nw k N' (⟨o, e, r⟩ | ⟨o, hm, r⟩)
    · exact ⟨o, k _ _ e, r⟩
    · exact ⟨o, (N' _ hm).1, r⟩
  have hls : s.heap.IsList l vs.toArray := at_ F.keep N S0
  have hlt : l < s.heap.objs.size := by obtain ⟨_, e, _⟩ := hls; exact Heap.lt_size e
  refine wpAny_pyIter_list hls ?_
  have W := Walks.list (prog := prog) (w := w) hh s.heap.objs.size l (Nat.ne_of_lt hlt) vs.toArray
  refine ⟨_, _, _, _, _, fun nw => h₀.IsList l vs.toArray ∨ ∃ o, (l, o) ∈ nw ∧ o.cls = .type "list" ∧ ∃ k, o.data = .seq vs.toArray k, news, rfl, W, by rw [sizeLine_eq]; simp; omega, fun i h st => by obtain ⟨o, e, _⟩ := st.1; exact ⟨o, e⟩, fun i h h' ob nw st e e' k N' S' => ?_,
    ⟨⟨_, Heap.get?_push_size _ rfl, rfl, rfl⟩, hls.at fun o e => Heap.get?_push_of_some _ e⟩, fun b hb => ?_, F.push _, fun p hp => ⟨Heap.get?_push_of_some _ (N p hp).1, (N p hp).2⟩, Nat.ne_of_lt F.ns.lt, next_is_new F, fun p hp => Nat.ne_of_lt (Heap.lt_size (N p hp).1), S0, ?_⟩
  · refine ⟨?_, at_ k N' S'⟩
    obtain ⟨o, e2, r⟩ := st.1
    rw [e] at e2; cases e2
    exact ⟨_, e', r⟩
  · show b < (s.heap.push _).objs.size
    rw [Heap.size_push]
    rcases List.mem_cons.mp hb with rfl | hb
    · exact Nat.lt_succ_self _
    · rw [List.mem_singleton.mp hb]; exact Nat.lt_succ_of_lt hlt
  · exact compRest_inv (n := vs.toArray.size) J (fun ys nw j => fin _ ys nw ⟨_, rfl⟩ (by simpa using j)) (fun i ys nw hi j v I oI C oC D m₂ h tk E' hP hC hx F' N' off ne => by
      exact step i ys nw v (by simpa using hP) j I oI C oC D m₂ h tk E' hC hx F' N' off ne) _ 0 [] news (Nat.zero_add _) hj
end
end

local macro_rules | `(tactic| walk_at "tail 10") => `(tactic| (intro tj kj))
section
open PySem PySem.W PyProof.Rows PyProof.Rows.LCg
theorem lines_W11_1 : True := by
  k_with_none
  k_with "eval Call" => k_dflt (refine Call_ ?_)
  k_with "mine steps" => (repeat' (first | (k_unfold; (try dsimp only)) | ((fail_if_success (with_reducible show wpAny _ _ (PySem.pyIter _) _ _ _)); first | walk1 | (dsimp only; walk1)) | fail "no step"))
  k_with "mine mem" => (first | exact List.Mem.head _ | (refine List.Mem.tail _ ?_; walk_at "mine mem") | (refine List.mem_append_right _ ?_; walk_at "mine mem") | fail "x")
  k_with "mine ne" => (first | assumption | exact Ne.symm (by assumption) | (refine two_apart (by assumption) (by first | (walk_at "mine mem") | fail "x") (o' := PySem.W.listOf #[.int _ _, .int _ _] _) (by first | (walk_at "mine mem") | fail "x") (by first | (intro e; simp [PySem.W.listOf] at e; done) | fail "x")) | fail "x")
  k_with "mine pick" => (first | exact Pick.last | (refine Pick.skip (by first | (walk_at "mine ne") | fail "x") (by first | (walk_at "mine pick") | fail "x")) | (refine Pick.app (by assumption) (by first | (walk_at "mine pick") | fail "x")) | fail "x")
  k_with "mine src" => exact src_get (by assumption) (by first | (walk_at "mine mem") | fail "x")
  k_with "mine list" => (first | exact list_hid₀ (by first | (k_asm) | fail "x") (by assumption) | exact list_hid (by assumption) (by first | (walk_at "mine mem") | fail "x") (by first | (walk_at "mine ne") | fail "x") | fail "x")
  k_with "call ref" => (k_here; k_dflt (refine law_take (by first | (exact Wd.hid (by assumption) (by first | (k_asm) | fail "x")) | fail "x") (by ktr_room) (by ktr_units) (by first | (walk_at "mine src") | fail "x") (by omega) (by omega) ?_); walk_at "tail 8")
  k_with "call ref" => (k_here; k_dflt (refine law_one (by first | (exact Wd.hid (by assumption) (by first | (k_asm) | fail "x")) | fail "x") (by ktr_room) (by ktr_units) (by first | (walk_at "mine src") | fail "x") (by first | (walk_at "mine list") | fail "x") (by first | (exact Nat.le_of_ble_eq_true rfl) | fail "x") (by first | (exact Nat.le_of_ble_eq_true rfl) | fail "x") ?_); walk_at "tail 9")
  k_with "eval ListComp" => k_dflt (refine my_ListComp (by assumption) (by rfl) (by decide) (by rfl) (by decide) (by rfl) ?_)
  trivial
def Ltr (v : Value) : Prop := ∃ z t, v = .str z t ∧ (z = Str.ofString "a" ∨ z = Str.ofString "A" ∨ z = Str.ofString "b" ∨ z = Str.ofString "B")
theorem ltr_of {v : Value} {t1 t2 t3 t4 : Tok} (h : v ∈ [Value.str (Str.ofString "a") t1, .str (Str.ofString "A") t2, .str (Str.ofString "b") t3, .str (Str.ofString "B") t4]) : Ltr v := by
  simp only [List.mem_cons, List.not_mem_nil, or_false] at h
  rcases h with rfl | rfl | rfl | rfl
  · exact ⟨_, _, rfl, .inl rfl⟩
  · exact ⟨_, _, rfl, .inr (.inl rfl)⟩
  · exact ⟨_, _, rfl, .inr (.inr (.inl rfl))⟩
  · exact ⟨_, _, rfl, .inr (.inr (.inr rfl))⟩
def IsLtr (z : Str) : Prop := z = Str.ofString "a" ∨ z = Str.ofString "A" ∨ z = Str.ofString "b" ∨ z = Str.ofString "B"
theorem ltr_list : ∀ {ys : List Value}, (∀ v ∈ ys, Ltr v) → ∃ l : List (Str × Tok), ys = strValues l ∧ ∀ p ∈ l, IsLtr p.1
  | [], _ => ⟨[], rfl, fun _ h => nomatch h⟩
  | v :: r, h => by
    refine hideG fun G9 kG9 => ?_
    obtain ⟨z, t, rfl, e⟩ := h _ (.head _)
    obtain ⟨l, rfl, hl⟩ := ltr_list fun v hv => h v (.tail _ hv)
    refine kG9 ?_
    clear kG9 G9
    exact ⟨(z, t) :: l, rfl, fun p hp => by
      rcases List.mem_cons.mp hp with rfl | hp
      · exact e
      · exact hl p hp⟩
theorem join_ltr0 (zs : List Str) (hl : zs.length ≤ 3) (h : ∀ p ∈ zs, IsLtr p) : JoinOk (Str.ofString "") zs = true ∧ TxtOk (Txt.join (Str.ofString "") zs) := by
  unfold TxtOk
  match zs, hl, h with
  | [], _, _ => decide +kernel
  | [p], _, h =>
    rcases h p (by simp) with rfl | rfl | rfl | rfl <;> decide +kernel
  | [p, q], _, h =>
    have e := h p (by simp)
    have e2 := h q (by simp)
    rcases e with rfl | rfl | rfl | rfl <;> rcases e2 with rfl | rfl | rfl | rfl <;> decide +kernel
  | [p, q, r], _, h =>
    have e := h p (by simp)
    have e2 := h q (by simp)
    have e3 := h r (by simp)
    rcases e with rfl | rfl | rfl | rfl <;> rcases e2 with rfl | rfl | rfl | rfl <;> rcases e3 with rfl | rfl | rfl | rfl <;> decide +kernel
  | _ :: _ :: _ :: _ :: _, hl, _ => simp at hl
theorem join_ltr (l : List (Str × Tok)) (hl : l.length ≤ 3) (h : ∀ p ∈ l, IsLtr p.1) : JoinOk (Str.ofString "") (l.map (·.1)) = true ∧ TxtOk (Txt.join (Str.ofString "") (l.map (·.1))) :=
  join_ltr0 _ (by simpa using hl) (by intro p hp; obtain ⟨q, hq, rfl⟩ := List.mem_map.mp hp; exact h q hq)
theorem lst_get {h₀ h : Heap} {L D : Addr} {ys : List Value} {led : List (Addr × Obj)} (N : News h₀ L h led) (hm : (D, lst ys) ∈ led) : h.IsList D ys.toArray := ⟨_, (N _ hm).1, rfl, _, rfl⟩
theorem lines_W11_2 : True := by
  k_with "call builtin:str.join" => (k_dflt (refine SC.join (by first | (exact lst_get (by assumption) (by first | (walk_at "mine mem") | fail "x")) | fail "x") (by rfl) (by assumption) ?_); walk_at "tail 10")
  trivial
section
variable {w : World} {dp un : Nat} {fr : Option (List Env)} {gd : Option (List Code)} {E : Value → Shared → Prop} {s : Shared} {Q : Value → Shared → Prop}
set_option maxHeartbeats 4000000 in
theorem law_text {src : Addr} {x y : Int} {t u : Tok} {n : Nat}
    (W : Wd w (s.heap.hide src)) (hd : dp + 3 < recursionLimit) (hu : un + 150 < cLine) (hs : s.heap.get? src = some (srcO x t y u n))
    (ret : ∀ v tv x' tx y' ty h' tk', TxtOk v → KeepBut src s.heap h' → h'.get? src = some (srcO x' tx y' ty n) → Q (.str v tv) { s with heap := h', toks := tk' }) :
    wpAny (model pg w) (Ar dp un fr gd) (call (.ref 111) [.ref src]) Q E s := by
  k_dflt (refine' enterSC (binds := [("source", .ref src)]) W hs ?k6 ?k7 ?k8 ?k9 ?kB ?kD ?_ ?c2 ?c3 ?c4; (case k6 => k_is); (case k7 => k_is); (case k8 => ktr_room); (case k9 => exact BindsTo.of_eq rfl); (case kB => exact rfl); (case kD => decide +kernel); (case c2 => exact rfl); (case c3 => exact rfl); (case c4 => exact rfl); k_whole)
  intro L h₁ tk₁ cells₁ hL F N Y₁ off₁
  have X := W.K
  refine Wd.elim W fun mean mg mb T => ?_
  k_cells Y₁
  (try simp only [List.cons_append, List.nil_append] at N)
  have off₂ : L + 1 ≠ src := off₁ _ (List.Mem.head _)
  clear off₁
  (try dsimp only)
  (try k_fold)
  rename_i oc dc
  walk_at "mine steps"
  rename IsRange _ _ _ _ _ _ _ _ => R'
  refine comp_range (fun i ys nw => (∃ x' tx y' ty, nw = [(L + 1, oc), (src, srcO x' tx y' ty n)]) ∧ ys.length = i ∧ ∀ v ∈ ys, Ltr v) rfl (by assumption) (by assumption) R' (by assumption) (by omega) ⟨⟨_, _, _, _, rfl⟩, rfl, fun v hv => nomatch hv⟩ ?_ ?_
  · intro s' ys nw hx3 hx4 D h tk F' N' o1
    refine hideG fun G9 kG9 => ?_
    obtain ⟨h', rfl⟩ := hx3
    obtain ⟨⟨x1, tx1, y1, ty1, rfl⟩, hl, hI⟩ := hx4
    clear R'
    obtain ⟨l, rfl, hI'⟩ := ltr_list hI
    obtain ⟨jk1, jk2⟩ := join_ltr l (by rw [strValues, List.length_map] at hl; omega) hI'
    refine kG9 ?_
    clear kG9 G9
    walk_at "mine steps"
    rename News _ _ _ _ => N9
    exact ret _ _ _ _ _ _ _ _ jk2 (keepBut_of (by assumption)) (src_get N9 (by walk_at "mine mem"))
  · intro i ys nw hi hx4 tI I oI C oC D m₂ h tk E' hC hx9 F' N' off ne
    refine hideG fun G9 kG9 => ?_
    obtain ⟨⟨x1, tx1, y1, ty1, rfl⟩, hl, hI⟩ := hx4
    refine kG9 ?_
    clear kG9 G9
    clear R'
    have sI : src ≠ I := off.2.1.1
    have sC : src ≠ C := off.2.1.2.1
    have sD : src ≠ D := off.2.1.2.2
    walk_at "mine steps"
    rename (_ ∈ ([_, _, _, _] : List Value)) => hv
    refine CompEnd.intro (by assumption) (by assumption) [(L + 1, oc), (src, srcO _ _ _ _ _)] (fun p hp => List.Mem.tail _ hp) (by exact off) trivial ⟨⟨_, _, _, _, rfl⟩, by simp [hl], fun v hv' => ?_⟩
    rcases List.mem_append.mp hv' with h | h
    · exact hI v h
    · rw [List.mem_singleton.mp h]; exact ltr_of hv
end
end

section
open PySem PySem.W PyProof.Rows
open PyProof.Rows.LCg
section
variable {prog : Program} {w : World} {A : Around} {E : Value → Shared → Prop} {s : Shared} {h₀ : Heap} {L l b : Addr} {m : Str → Option Value} {news : List (Addr × Obj)} {value slice : PySem.Expr} {vs ws : List Value} {vl vu : Value} {k : Int} {Q : Value → Shared → Prop}
theorem pick_to (vs : List Value) {k : Int} (h : 0 ≤ k) : kms_pick vs none (some k) = vs.take k.toNat := by
  unfold kms_pick kms_lo kms_hi
  simp only [if_neg (show ¬ k < 0 by omega), List.drop_zero, Nat.sub_zero]
  exact kmk_take_min _ _
theorem pick_from (vs : List Value) {k : Int} (h : 0 ≤ k) : kms_pick vs (some k) none = vs.drop k.toNat := by
  unfold kms_pick kms_lo kms_hi
  simp only [if_neg (show ¬ k < 0 by omega)]
  rw [kmk_drop_min, List.take_of_length_le]
  rw [List.length_drop]
  by_cases h2 : k.toNat ≤ vs.length
  · rw [Nat.min_eq_left h2]; exact Nat.le_refl _
  · rw [Nat.min_eq_right (by omega)]; omega
theorem slice_to (F : Fr h₀ L s.heap m) (N : News h₀ L s.heap news) (hl : s.heap.IsList l vs.toArray) (pl : IsPart vl none) (pu : IsPart vu (some k)) (h0 : 0 ≤ k) (hz : vs.length ≤ 1000)
    (h : ∀ D h', Fr h₀ L h' m → News h₀ L h' ((D, listOf (vs.take k.toNat).toArray 0) :: news) → (∀ p ∈ news, p.1 < D) → Q (.ref D) { s with heap := h' })
    (hs : subscripted slice false (.ref l) (.ref s.heap.objs.size) = operate [.ref s.heap.objs.size, .ref l] (getItem (.ref l) (.ref s.heap.objs.size))) (ht : ∀ r, letTemporaryGo value (.ref l) r = pure ()) :
    wpAny (model prog w) A (subscriptTail value slice (.ref l) (.ref s.heap.objs.size)) Q E { s with heap := s.heap.push { cls := .type "slice", data := .fields #[vl, vu, .none] } } :=
  kms_slice_lit F N hl pl pu (pick_to vs h0) h hs ht (by rw [sizeLine_eq]; simp; omega)
theorem slice_from (F : Fr h₀ L s.heap m) (N : News h₀ L s.heap news) (hl : s.heap.IsList l vs.toArray) (pl : IsPart vl (some k)) (pu : IsPart vu none) (h0 : 0 ≤ k) (hz : vs.length ≤ 1000)
    (h : ∀ D h', Fr h₀ L h' m → News h₀ L h' ((D, listOf (vs.drop k.toNat).toArray 0) :: news) → (∀ p ∈ news, p.1 < D) → Q (.ref D) { s with heap := h' })
    (hs : subscripted slice false (.ref l) (.ref s.heap.objs.size) = operate [.ref s.heap.objs.size, .ref l] (getItem (.ref l) (.ref s.heap.objs.size))) (ht : ∀ r, letTemporaryGo value (.ref l) r = pure ()) :
    wpAny (model prog w) A (subscriptTail value slice (.ref l) (.ref s.heap.objs.size)) Q E { s with heap := s.heap.push { cls := .type "slice", data := .fields #[vl, vu, .none] } } :=
  kms_slice_lit F N hl pl pu (pick_from vs h0) h hs ht (by rw [sizeLine_eq]; simp; omega)
theorem my_add (F : Fr h₀ L s.heap m) (N : News h₀ L s.heap news) (ha : s.heap.IsList l vs.toArray) (hb : s.heap.IsList b ws.toArray) (hz : vs.length ≤ 1000) (hz2 : ws.length ≤ 1000)
    (h : ∀ D h', Fr h₀ L h' m → News h₀ L h' ((D, listOf (vs ++ ws).toArray 0) :: news) → (∀ p ∈ news, p.1 < D) → Q (.ref D) { s with heap := h' }) : wpAny (model prog w) A (binaryOp .Add (.ref l) (.ref b)) Q E s :=
  kmk_add_lit F N ha hb rfl h (by rw [sizeLine_eq]; simp; omega)
theorem my_copy (F : Fr h₀ L s.heap m) (N : News h₀ L s.heap news) (ha : s.heap.IsList l vs.toArray) (hz : vs.length ≤ 1000)
    (h : ∀ D c h', Fr h₀ L h' m → News h₀ L h' ((D, listOf vs.toArray c) :: news) → (∀ q ∈ news, q.1 < D) → Q (.ref D) { s with heap := h' }) : wpAny (model prog w) A (call (.type "list") [.ref l]) Q E s :=
  list_copyK F N ha (fun D c h' F' N' l1 => h D c h' F' N' l1) (by rw [sizeLine_eq]; simp; omega)
end
theorem ne_of_all {src D : Addr} {led : List (Addr × Obj)} {o : Obj} (h : ∀ p ∈ led, p.1 < D) (hm : (src, o) ∈ led) : D ≠ src := Nat.ne_of_gt (h _ hm)
/-- a turn that has made things -/
theorem compEnd_fresh {h₀ : Heap} {L I C D : Addr} {m : Str → Option Value} {s₁ : Shared} {oI oC oD : Obj} {S : List (Addr × Obj) → Prop} {rest : Value → List (Addr × Obj) → Prop} {y : Value} {h' : Heap} {tk : Nat} {fr nw nw' led : List (Addr × Obj)}
    (F : Fr h₀ L h' m) (N : News h₀ L h' ((I, oI) :: (C, oC) :: (D, oD) :: nw')) (offL : ∀ p ∈ fr, ∀ q ∈ led, p.1 ≠ q.1) (hI : (I, oI) ∈ led) (hC : (C, oC) ∈ led) (hD : (D, oD) ∈ led) (off : Off3 I C D nw)
    (hn : ∀ p ∈ nw', (∃ q ∈ nw, q.1 = p.1) ∨ p ∈ fr) (hS : S nw') (r : rest y nw') :
    CompEnd h₀ L m s₁ I oI C oC D oD S rest y { s₁ with heap := h', toks := tk } := by
  refine ⟨h', tk, nw', rfl, F, N, Off3.of fun p hp => ?_, hS, r⟩
  rcases hn p hp with ⟨q, hq, e⟩ | hp
  · rw [← e]; exact off.mem q hq
  · exact ⟨offL p hp _ hI, offL p hp _ hC, offL p hp _ hD⟩
theorem tail_sub {fr tl tl' : List (Addr × Obj)} (e : tl' = fr ++ tl) : (∀ p ∈ fr, p ∈ tl') ∧ (∀ p ∈ tl, p ∈ tl') := by
  subst e; exact ⟨fun p hp => List.mem_append_left _ hp, fun p hp => List.mem_append_right _ hp⟩
end

local macro_rules | `(tactic| walk_at "tail 11") => `(tactic| (intro v' tv' x' tx' y' ty' h' tk' hok' kp' hs'; refine' mut_elim ?F ?N ?pk kp' hs' ?_; (case F => k_asm); (case N => k_asm); (case pk => walk_at "mine pick"); intro F' N'; clear kp' hs'; k_sweep))
local macro_rules | `(tactic| walk_at "tail 12") => `(tactic| (intro v' p' q' led' x' tx' y' ty' h' tk' hpq' iv' hf' kp' hs'; refine' mut_elimT ?F ?N ?pk kp' hs' hf' ?_; (case F => k_asm); (case N => k_asm); (case pk => walk_at "mine pickt"); intro tl' etl' of' oL' F' N'; (try dsimp only at N'); clear kp' hs' hf'; k_sweep))
local macro_rules | `(tactic| walk_at "tail 13") => `(tactic| (intro D' h' F' N' l1'; k_sweep))
local macro_rules | `(tactic| walk_at "tail 14") => `(tactic| (intro D' c' h' F' N' l1'; k_sweep))
section
open PySem PySem.W PyProof.Rows PyProof.Rows.LCg
theorem lines_W12_1 : True := by
  k_with_none
  k_with "eval Call" => k_dflt (refine Call_ ?_)
  k_with "subscriptTail Name Constant ref int" => (k_dflt (refine item_tupleT (by first | (is_tup) | fail "x") (by decide) (by decide) (by rfl) (by rfl) ?_; k_whole))
  k_with "mine steps" => (repeat' (first | (k_unfold; (try dsimp only)) | ((fail_if_success (with_reducible show wpAny _ _ (PySem.pyIter _) _ _ _)); first | walk1 | (dsimp only; walk1)) | fail "no step"))
  k_with "mine mem" => (first | exact List.Mem.head _ | (refine List.Mem.tail _ ?_; walk_at "mine mem") | (refine List.mem_append_right _ ?_; walk_at "mine mem") | fail "x")
  k_with "mine ne" => (first | assumption | exact Ne.symm (by assumption) | exact ne_of_all (by assumption) (by first | (walk_at "mine mem") | fail "x") | (refine two_apart (by assumption) (by first | (walk_at "mine mem") | fail "x") (o' := PySem.W.listOf #[.int _ _, .int _ _] _) (by first | (walk_at "mine mem") | fail "x") (by first | (intro e; simp [PySem.W.listOf] at e; done) | fail "x")) | fail "x")
  k_with "mine pick" => (first | exact Pick.last | (refine Pick.skip (by first | (walk_at "mine ne") | fail "x") (by first | (walk_at "mine pick") | fail "x")) | exact Pick.here (by assumption) | fail "x")
  k_with "mine pickt" => (first | exact PickT.last | exact PickT.here (by assumption) | (refine PickT.skip (by first | (walk_at "mine ne") | fail "x") (by first | (walk_at "mine pickt") | fail "x")) | fail "x")
  k_with "mine src" => exact src_get (by assumption) (by first | (walk_at "mine mem") | fail "x")
  k_with "mine list" => (first | exact list_hid₀ (by first | (k_asm) | fail "x") (by assumption) | exact list_hid (by assumption) (by first | (walk_at "mine mem") | fail "x") (by first | (walk_at "mine ne") | fail "x") | fail "x")
  k_with "mine get" => (first | assumption | exact Fr.lst (by first | (k_asm) | fail "x") (by assumption) | exact News.isList (by first | (k_asm) | fail "x") (by first | (walk_at "mine mem") | fail "x") | exact lst_get (by first | (k_asm) | fail "x") (by first | (walk_at "mine mem") | fail "x") | fail "x")
  k_with "mine len" => (first | assumption | (simp only [List.length_take, List.length_drop, List.length_append, List.length_cons, List.length_nil]; omega) | fail "x")
  k_with "call builtin:len" => (k_dflt (refine len_vs (by first | (walk_at "mine get") | fail "x") (by first | (exact rfl) | fail "x") (by first | (walk_at "mine len") | fail "x") ?_; k_whole); walk_at "tail 2")
  k_with "call ref" => (k_here; k_dflt (refine law_take (by first | (exact Wd.hid (by assumption) (by first | (k_asm) | fail "x")) | fail "x") (by ktr_room) (by ktr_units) (by first | (walk_at "mine src") | fail "x") (by omega) (by omega) ?_); walk_at "tail 8")
  k_with "call ref" => (k_here; k_dflt (refine law_text (by first | (exact Wd.hid (by assumption) (by first | (k_asm) | fail "x")) | fail "x") (by ktr_room) (by ktr_units) (by first | (walk_at "mine src") | fail "x") ?_); walk_at "tail 11")
  k_with "call ref" => (k_here; k_dflt (refine law_number (by first | (exact Wd.hid (by assumption) (by first | (k_asm) | fail "x")) | fail "x") (by ktr_room) (by ktr_units) (by first | (walk_at "mine src") | fail "x") ?_); walk_at "tail 12")
  k_with "subscriptTail Name Slice ref ref" => (k_here; k_dflt (first | refine slice_from (by first | (k_asm) | fail "x") (by first | (k_asm) | fail "x") (by first | (walk_at "mine get") | fail "x") (IsPart.int _ _) IsPart.none (by omega) (by first | (walk_at "mine len") | fail "x") ?_ (by with_unfolding_all rfl) (by kmk_pure) | refine slice_to (by first | (k_asm) | fail "x") (by first | (k_asm) | fail "x") (by first | (walk_at "mine get") | fail "x") IsPart.none (IsPart.int _ _) (by omega) (by first | (walk_at "mine len") | fail "x") ?_ (by with_unfolding_all rfl) (by kmk_pure) | fail "x"); walk_at "tail 13")
  k_with "binaryOp Add ref ref" => (k_here; k_dflt (refine my_add (by first | (k_asm) | fail "x") (by first | (k_asm) | fail "x") (by first | (walk_at "mine get") | fail "x") (by first | (walk_at "mine get") | fail "x") (by first | (walk_at "mine len") | fail "x") (by first | (walk_at "mine len") | fail "x") ?_); walk_at "tail 13")
  k_with "call type:list" => (k_here; k_dflt (refine my_copy (by first | (k_asm) | fail "x") (by first | (k_asm) | fail "x") (by first | (walk_at "mine get") | fail "x") (by first | (walk_at "mine len") | fail "x") ?_); walk_at "tail 14")
  k_with "exec Assign cons ListComp" => k_dflt (refine my_Assign_ListComp (by assumption) (by rfl) (by with_unfolding_all rfl) (by rfl) (by decide) (by rfl) (by decide) (by rfl) (by rfl) (by rfl) ?_)
  trivial
theorem FitRow.append : ∀ {os os' : List Od} {r r' : List Cell}, FitRow os r → FitRow os' r' → FitRow (os ++ os') (r ++ r')
  | [], _, [], _, _, h => h
  | _ :: _, _, _ :: _, _, h, h' => ⟨h.1, FitRow.append h.2 h'⟩
  | [], _, _ :: _, _, h, _ => h.elim
  | _ :: _, _, [], _, h, _ => h.elim
theorem FitRow.take : ∀ {os : List Od} {r : List Cell} (k : Nat), FitRow os r → FitRow (os.take k) (r.take k)
  | _, _, 0, _ => by simp only [List.take_zero]; trivial
  | [], [], _ + 1, _ => trivial
  | _ :: _, _ :: _, k + 1, h => ⟨h.1, FitRow.take k h.2⟩
  | [], _ :: _, _ + 1, h => h.elim
  | _ :: _, [], _ + 1, h => h.elim
theorem FitRow.snoc {os : List Od} {r : List Cell} {i : Nat} {o : Od} {c : Cell} (h : FitRow (os.take i) r) (ho : os[i]? = some o) (hc : Fit o c) : FitRow (os.take (i + 1)) (r ++ [c]) := by
  have e : os.take (i + 1) = os.take i ++ [o] := by rw [List.take_add_one, ho]; rfl
  rw [e]; exact h.append ⟨hc, trivial⟩
theorem fit_txt {b : Bool} {w : Option Bool} {z : Str} (h : TxtOk z) : Fit ⟨false, b, w⟩ (.txt z) := ⟨rfl, h⟩
theorem fit_num {b : Bool} {w : Option Bool} {p q : Int} (h : (p, q) ∈ nums) : Fit ⟨true, b, w⟩ (.num p q) := ⟨rfl, h⟩
section
variable {w : World} {dp un : Nat} {fr : Option (List Env)} {gd : Option (List Code)} {E : Value → Shared → Prop} {s : Shared} {Q : Value → Shared → Prop}
set_option maxHeartbeats 4000000 in
theorem law_row1 {src lo lf : Addr} {x y : Int} {t u : Tok} {n : Nat} {vs us : List Value} {os : List Od} {r : List Cell} {P0 : Addr → Obj → Prop}
    (W : Wd w (s.heap.hide src)) (hd : dp + 5 < recursionLimit) (hu : un + 200 < cLine) (hs : s.heap.get? src = some (srcO x t y u n))
    (hP : ∀ a o, P0 a o → (s.heap.hide src).get? a = some o) (LO : (s.heap.hide src).IsList lo vs.toArray) (io : IsAll (At (s.heap.hide src)) vs (os.map Od.py)) (hlen : os.length ≤ 3)
    (LF : IsL P0 lf us) (iF : IsAll P0 us (r.map Cell.py)) (fF : FitRow os r)
    (ret : ∀ a ws r' led x' tx y' ty h' tk', FitRow os r' → IsL (InL led) a ws → IsAll (fun a o => (a, o) ∈ led ∨ P0 a o) ws (r'.map Cell.py) → Fresh s.heap h' led → KeepBut src s.heap h' → h'.get? src = some (srcO x' tx y' ty n) → Q (.ref a) { s with heap := h', toks := tk' }) :
    wpAny (model pg w) (Ar dp un fr gd) (call (.ref 152) [.ref src, .ref lo, .ref lf]) Q E s := by
  have z1 : vs.length = os.length := by simpa using io.length
  have z2 : us.length = os.length := by simpa [fF.length] using iF.length
  have z3 : vs.length ≤ 1000 := by omega
  have z4 : us.length ≤ 1000 := by omega
  have LF' : (s.heap.hide src).IsList lf us.toArray := let ⟨o, n, h1, h2, h3⟩ := LF; ⟨o, hP _ _ h1, h2, n, h3⟩
  k_dflt (refine' enterSC (binds := [("source", .ref src), ("orders", .ref lo), ("former", .ref lf)]) W hs ?k6 ?k7 ?k8 ?k9 ?kB ?kD ?_ ?c2 ?c3 ?c4; (case k6 => k_is); (case k7 => k_is); (case k8 => ktr_room); (case k9 => exact BindsTo.of_eq rfl); (case kB => exact rfl); (case kD => decide +kernel); (case c2 => exact rfl); (case c3 => exact rfl); (case c4 => exact rfl); k_whole)
  intro L h₁ tk₁ cells₁ hL F N Y₁ off₁
  have X := W.K
  refine Wd.elim W fun mean mg mb T => ?_
  k_cells Y₁
  (try simp only [List.cons_append, List.nil_append] at N)
  have off₂ : L + 1 ≠ src := off₁ _ (List.Mem.head _)
  clear off₁
  (try dsimp only)
  (try k_fold)
  rename_i oc dc
  walk_at "mine steps"
  rename_i many tm x1 tx1 y1 ty1 h2 tk2 r0 r1 h3 D1 h4 F4 N4 l4
  have d1 : D1 ≠ src := ne_of_all l4 (by walk_at "mine mem")
  refine comp_list (vs := vs.drop many.toNat) (fun i ys nw => ∃ (tl : List (Addr × Obj)) (cs : List Cell) (x' : Int) (tx : Tok) (y' : Int) (ty : Tok), nw = (D1, listOf (vs.drop many.toNat).toArray 0) :: (L + 1, oc) :: (src, srcO x' tx y' ty n) :: tl ∧ (∀ p ∈ tl, p.1 ≠ src) ∧ IsAll (InL tl) ys (cs.map Cell.py) ∧ FitRow ((os.drop many.toNat).take i) cs) rfl F4 N4
    (.inr ⟨listOf (vs.drop many.toNat).toArray 0, ?_, rfl, 0, rfl⟩) (by walk_at "mine len") ⟨[], [], _, _, _, _, rfl, (fun p hp => nomatch hp), .nil, by simp only [List.take_zero]; trivial⟩ ?_ ?_
  · intro i ys nw hx3
    refine hideG fun G9 kG9 => ?_
    obtain ⟨tl, cs, x2, tx2, y2, ty2, rfl, offs, hI, hf⟩ := hx3
    refine kG9 ?_
    clear kG9 G9
    walk_at "mine mem"
  · intro s' ys nw hx3 hx4 D h tk F' N' o1
    refine hideG fun G9 kG9 => ?_
    obtain ⟨h', rfl⟩ := hx3
    obtain ⟨tl, cs, x2, tx2, y2, ty2, rfl, offs, hI, hf⟩ := hx4
    refine kG9 ?_
    clear kG9 G9
    have hf' : FitRow (os.drop many.toNat) cs := by
      rwa [List.take_of_length_le (by simp only [List.length_drop]; omega)] at hf
    have hy : ys.length ≤ 1000 := by
      have e1 := hI.length
      have e2 := hf'.length
      simp only [List.length_map, List.length_drop] at e1 e2
      omega
    have fit := (fF.take many.toNat).append hf'
    rw [List.take_append_drop] at fit
    clear F4 N4 l4
    walk_at "mine steps"
    rename News _ _ _ _ => N9
    refine ret _ _ _ ((_, listOf (us.take many.toNat ++ ys).toArray 0) :: tl) _ _ _ _ _ _ fit ⟨_, _, .head _, rfl, rfl⟩ ?_ (Fresh.ofS N9 ?_ ?_) (keepBut_of (by assumption)) (src_get N9 (by walk_at "mine mem"))
    · rw [List.map_append, List.map_take]
      exact ((iF.take _).mono fun _ _ q => .inr q).append (hI.mono fun _ _ q => .inl (.tail _ q))
    · intro p hp
      rcases List.mem_cons.mp hp with rfl | hp
      · exact .head _
      · simp [hp]
    · intro p hp
      rcases List.mem_cons.mp hp with rfl | hp
      · exact ne_of_all (by assumption) (by walk_at "mine mem")
      · exact offs p hp
  · intro i ys nw v hv hx5 I oI C oC D m₂ h tk E' hC hx9 F' N' off ne
    refine hideG fun G9 kG9 => ?_
    obtain ⟨tl, cs, x2, tx2, y2, ty2, rfl, offs, hI, hf⟩ := hx5
    have om := off.mem
    have sI : src ≠ I := (om (src, srcO x2 tx2 y2 ty2 n) (by simp)).1
    have sC : src ≠ C := (om (src, srcO x2 tx2 y2 ty2 n) (by simp)).2.1
    have sD : src ≠ D := (om (src, srcO x2 tx2 y2 ty2 n) (by simp)).2.2
    clear om F4 N4 l4
    rw [List.getElem?_drop] at hv
    have hi : many.toNat + i < os.length := by
      have := (List.getElem?_eq_some_iff.mp hv).1; omega
    obtain ⟨o, ho⟩ : ∃ o, os[many.toNat + i]? = some o := ⟨os[many.toNat + i], by simp [hi]⟩
    have ho' : (os.drop many.toNat)[i]? = some o := by rw [List.getElem?_drop]; exact ho
    obtain ⟨v', hv', io1⟩ := io.getO ho
    rw [hv] at hv'; obtain rfl := Option.some.inj hv'
    obtain ⟨ao, oo, vt, nt, rfl, p1, q1, d1', io1⟩ := io1.tupleE
    obtain ⟨w1, rr, rfl, io2, io1⟩ := io1.consE
    obtain ⟨w2, rr, rfl, io3, io1⟩ := io1.consE
    obtain ⟨w3, rr, rfl, io4, io1⟩ := io1.consE
    obtain rfl := io1.nilE
    obtain rfl := io2.boolE
    have TO : IsTup (s.heap.hide src) ao #[.bool o.isNum, w2, w3] := ⟨_, p1, q1, _, d1'⟩
    clear p1 q1 d1' io1 io2 io3 io4
    obtain ⟨b1, b2, wy⟩ := o
    refine kG9 ?_
    clear kG9 G9
    dsimp only at TO
    cases b1
    · walk_at "mine steps"
      rename TxtOk _ => hok9
      refine CompEnd.intro (by assumption) (by assumption) ((D1, listOf (vs.drop many.toNat).toArray 0) :: (L + 1, oc) :: (src, srcO _ _ _ _ _) :: tl) (fun p hp => hp) (by exact off) (.inr ⟨_, .head _, rfl, _, rfl⟩) ⟨tl, cs ++ [.txt _], _, _, _, _, rfl, offs, ?_, FitRow.snoc hf ho' (fit_txt hok9)⟩
      rw [List.map_append]
      exact hI.append (.cons (.str _ _) .nil)
    · walk_at "mine steps"
      rename_i v9 p9 q9 led9 x9 tx9 y9 ty9 h9 tk9 hpq9 iv9 tl9 etl9 of9 oL9 F9 N9
      refine compEnd_fresh F9 N9 oL9 (by walk_at "mine mem") (by walk_at "mine mem") (by walk_at "mine mem") off ?_ (.inr ⟨_, .head _, rfl, _, rfl⟩) ⟨tl9, cs ++ [.num p9 q9], _, _, _, _, rfl, of9, ?_, FitRow.snoc hf ho' (fit_num hpq9)⟩
      · intro p hp
        simp only [List.mem_cons] at hp
        rcases hp with rfl | rfl | rfl | hp
        · exact .inl ⟨_, .head _, rfl⟩
        · exact .inl ⟨_, .tail _ (.head _), rfl⟩
        · exact .inl ⟨_, .tail _ (.tail _ (.head _)), rfl⟩
        · rw [etl9] at hp
          rcases List.mem_append.mp hp with hp | hp
          · exact .inr hp
          · exact .inl ⟨p, by simp [hp], rfl⟩
      · rw [List.map_append]
        exact (hI.mono fun _ _ q => (tail_sub etl9).2 _ q).append (.cons (iv9.mono fun _ _ q => (tail_sub etl9).1 _ q) .nil)
set_option maxHeartbeats 4000000 in
theorem law_row0 {src lo : Addr} {x y : Int} {t u : Tok} {n : Nat} {vs : List Value} {os : List Od}
    (W : Wd w (s.heap.hide src)) (hd : dp + 5 < recursionLimit) (hu : un + 200 < cLine) (hs : s.heap.get? src = some (srcO x t y u n))
    (LO : (s.heap.hide src).IsList lo vs.toArray) (io : IsAll (At (s.heap.hide src)) vs (os.map Od.py)) (hlen : os.length ≤ 3)
    (ret : ∀ a ws r' led x' tx y' ty h' tk', FitRow os r' → IsL (InL led) a ws → IsAll (InL led) ws (r'.map Cell.py) → Fresh s.heap h' led → KeepBut src s.heap h' → h'.get? src = some (srcO x' tx y' ty n) → Q (.ref a) { s with heap := h', toks := tk' }) :
    wpAny (model pg w) (Ar dp un fr gd) (call (.ref 152) [.ref src, .ref lo, .none]) Q E s := by
  have z1 : vs.length = os.length := by simpa using io.length
  have z3 : vs.length ≤ 1000 := by omega
  k_dflt (refine' enterSC (binds := [("source", .ref src), ("orders", .ref lo), ("former", .none)]) W hs ?k6 ?k7 ?k8 ?k9 ?kB ?kD ?_ ?c2 ?c3 ?c4; (case k6 => k_is); (case k7 => k_is); (case k8 => ktr_room); (case k9 => exact BindsTo.of_eq rfl); (case kB => exact rfl); (case kD => decide +kernel); (case c2 => exact rfl); (case c3 => exact rfl); (case c4 => exact rfl); k_whole)
  intro L h₁ tk₁ cells₁ hL F N Y₁ off₁
  have X := W.K
  refine Wd.elim W fun mean mg mb T => ?_
  k_cells Y₁
  (try simp only [List.cons_append, List.nil_append] at N)
  have off₂ : L + 1 ≠ src := off₁ _ (List.Mem.head _)
  clear off₁
  (try dsimp only)
  (try k_fold)
  rename_i oc dc
  walk_at "mine steps"
  rename_i h3 D1 h4 F4 N4 l4
  have d1 : D1 ≠ src := ne_of_all l4 (by walk_at "mine mem")
  refine comp_list (vs := vs.drop (0 : Int).toNat) (fun i ys nw => ∃ (tl : List (Addr × Obj)) (cs : List Cell) (x' : Int) (tx : Tok) (y' : Int) (ty : Tok), nw = (D1, listOf (vs.drop (0 : Int).toNat).toArray 0) :: (L + 1, oc) :: (src, srcO x' tx y' ty n) :: tl ∧ (∀ p ∈ tl, p.1 ≠ src) ∧ IsAll (InL tl) ys (cs.map Cell.py) ∧ FitRow ((os.drop (0 : Int).toNat).take i) cs) rfl F4 N4
    (.inr ⟨listOf (vs.drop (0 : Int).toNat).toArray 0, ?_, rfl, 0, rfl⟩) (by walk_at "mine len") ⟨[], [], _, _, _, _, rfl, (fun p hp => nomatch hp), .nil, by simp only [List.take_zero]; trivial⟩ ?_ ?_
  · intro i ys nw hx3
    refine hideG fun G9 kG9 => ?_
    obtain ⟨tl, cs, x2, tx2, y2, ty2, rfl, offs, hI, hf⟩ := hx3
    refine kG9 ?_
    clear kG9 G9
    walk_at "mine mem"
  · intro s' ys nw hx3 hx4 D h tk F' N' o1
    refine hideG fun G9 kG9 => ?_
    obtain ⟨h', rfl⟩ := hx3
    obtain ⟨tl, cs, x2, tx2, y2, ty2, rfl, offs, hI, hf⟩ := hx4
    refine kG9 ?_
    clear kG9 G9
    have hf' : FitRow (os.drop (0 : Int).toNat) cs := by
      rwa [List.take_of_length_le (by simp only [List.length_drop]; omega)] at hf
    have hy : ys.length ≤ 1000 := by
      have e1 := hI.length
      have e2 := hf'.length
      simp only [List.length_map, List.length_drop] at e1 e2
      omega
    have fit : FitRow os cs := hf'
    clear F4 N4 l4
    walk_at "mine steps"
    rename News _ _ _ _ => N9
    refine ret _ _ _ ((_, listOf ([] ++ ys).toArray 0) :: tl) _ _ _ _ _ _ fit ⟨_, _, .head _, rfl, rfl⟩ ?_ (Fresh.ofS N9 ?_ ?_) (keepBut_of (by assumption)) (src_get N9 (by walk_at "mine mem"))
    · exact hI.mono fun _ _ q => .tail _ q
    · intro p hp
      rcases List.mem_cons.mp hp with rfl | hp
      · exact .head _
      · simp [hp]
    · intro p hp
      rcases List.mem_cons.mp hp with rfl | hp
      · exact ne_of_all (by assumption) (by walk_at "mine mem")
      · exact offs p hp
  · intro i ys nw v hv hx5 I oI C oC D m₂ h tk E' hC hx9 F' N' off ne
    refine hideG fun G9 kG9 => ?_
    obtain ⟨tl, cs, x2, tx2, y2, ty2, rfl, offs, hI, hf⟩ := hx5
    have om := off.mem
    have sI : src ≠ I := (om (src, srcO x2 tx2 y2 ty2 n) (by simp)).1
    have sC : src ≠ C := (om (src, srcO x2 tx2 y2 ty2 n) (by simp)).2.1
    have sD : src ≠ D := (om (src, srcO x2 tx2 y2 ty2 n) (by simp)).2.2
    clear om F4 N4 l4
    rw [List.getElem?_drop] at hv
    have hi : (0 : Int).toNat + i < os.length := by
      have := (List.getElem?_eq_some_iff.mp hv).1; omega
    obtain ⟨o, ho⟩ : ∃ o, os[(0 : Int).toNat + i]? = some o := ⟨os[(0 : Int).toNat + i], by simp [hi]⟩
    have ho' : (os.drop (0 : Int).toNat)[i]? = some o := by rw [List.getElem?_drop]; exact ho
    obtain ⟨v', hv', io1⟩ := io.getO ho
    rw [hv] at hv'; obtain rfl := Option.some.inj hv'
    obtain ⟨ao, oo, vt, nt, rfl, p1, q1, d1', io1⟩ := io1.tupleE
    obtain ⟨w1, rr, rfl, io2, io1⟩ := io1.consE
    obtain ⟨w2, rr, rfl, io3, io1⟩ := io1.consE
    obtain ⟨w3, rr, rfl, io4, io1⟩ := io1.consE
    obtain rfl := io1.nilE
    obtain rfl := io2.boolE
    have TO : IsTup (s.heap.hide src) ao #[.bool o.isNum, w2, w3] := ⟨_, p1, q1, _, d1'⟩
    clear p1 q1 d1' io1 io2 io3 io4
    obtain ⟨b1, b2, wy⟩ := o
    refine kG9 ?_
    clear kG9 G9
    dsimp only at TO
    cases b1
    · walk_at "mine steps"
      rename TxtOk _ => hok9
      refine CompEnd.intro (by assumption) (by assumption) ((D1, listOf (vs.drop (0 : Int).toNat).toArray 0) :: (L + 1, oc) :: (src, srcO _ _ _ _ _) :: tl) (fun p hp => hp) (by exact off) (.inr ⟨_, .head _, rfl, _, rfl⟩) ⟨tl, cs ++ [.txt _], _, _, _, _, rfl, offs, ?_, FitRow.snoc hf ho' (fit_txt hok9)⟩
      rw [List.map_append]
      exact hI.append (.cons (.str _ _) .nil)
    · walk_at "mine steps"
      rename_i v9 p9 q9 led9 x9 tx9 y9 ty9 h9 tk9 hpq9 iv9 tl9 etl9 of9 oL9 F9 N9
      refine compEnd_fresh F9 N9 oL9 (by walk_at "mine mem") (by walk_at "mine mem") (by walk_at "mine mem") off ?_ (.inr ⟨_, .head _, rfl, _, rfl⟩) ⟨tl9, cs ++ [.num p9 q9], _, _, _, _, rfl, of9, ?_, FitRow.snoc hf ho' (fit_num hpq9)⟩
      · intro p hp
        simp only [List.mem_cons] at hp
        rcases hp with rfl | rfl | rfl | hp
        · exact .inl ⟨_, .head _, rfl⟩
        · exact .inl ⟨_, .tail _ (.head _), rfl⟩
        · exact .inl ⟨_, .tail _ (.tail _ (.head _)), rfl⟩
        · rw [etl9] at hp
          rcases List.mem_append.mp hp with hp | hp
          · exact .inr hp
          · exact .inl ⟨p, by simp [hp], rfl⟩
      · rw [List.map_append]
        exact (hI.mono fun _ _ q => (tail_sub etl9).2 _ q).append (.cons (iv9.mono fun _ _ q => (tail_sub etl9).1 _ q) .nil)
end
end

section
open PySem PySem.W PyProof.Rows
abbrev RowP := List Cell × Int
def pairPy (p : RowP) : PyData := .tuple [rowPy p.1, .int p.2]
def Listed (os : List Od) (b : Int) (k : Nat) (rows : List RowP) : Prop :=
  rows.length = k ∧ (∀ p ∈ rows, FitRow os p.1 ∧ b ≤ p.2 ∧ p.2 < b + k) ∧ rows.Pairwise (fun p q => dueRows os p.1 q.1 ≤ 0)
theorem Listed.nil (os : List Od) (b : Int) : Listed os b 0 [] := ⟨rfl, (fun _ h => nomatch h), .nil⟩
theorem Listed.insert {os : List Od} {b : Int} {k s : Nat} {rows : List RowP} {r : List Cell} (h : Listed os b k rows) (hr : FitRow os r) (hs : s ≤ rows.length)
    (h1 : ∀ j p, s ≤ j → rows[j]? = some p → 0 < dueRows os p.1 r) (h2 : s = 0 ∨ ∃ p, rows[s - 1]? = some p ∧ dueRows os p.1 r ≤ 0) :
    Listed os b (k + 1) (rows.take s ++ (r, b + k) :: rows.drop s) := by
  obtain ⟨hl, hf, hp⟩ := h
  have so := dueRows_SO os
  have hrl := hr.length
  refine ⟨by simp [hl]; omega, ?_, ?_⟩
  · intro p hm
    rcases List.mem_append.mp hm with hm | hm
    · obtain ⟨f1, f2, f3⟩ := hf p (List.mem_of_mem_take hm)
      exact ⟨f1, f2, by push_cast; omega⟩
    · rcases List.mem_cons.mp hm with rfl | hm
      · exact ⟨hr, by dsimp only; omega, by dsimp only; push_cast; omega⟩
      · obtain ⟨f1, f2, f3⟩ := hf p (List.mem_of_mem_drop hm)
        exact ⟨f1, f2, by push_cast; omega⟩
  · have hpl : ∀ p ∈ rows, p.1.length = os.length := fun p hm => (hf p hm).1.length
    have hsplit : (rows.take s ++ rows.drop s).Pairwise (fun p q => dueRows os p.1 q.1 ≤ 0) := by rw [List.take_append_drop]; exact hp
    obtain ⟨hp1, hp2, hp3⟩ := List.pairwise_append.mp hsplit
    have left : ∀ p ∈ rows.take s, dueRows os p.1 r ≤ 0 := by
      intro p hm
      rcases h2 with rfl | ⟨q, hq, hd⟩
      · simp at hm
      · obtain ⟨i, hi, e⟩ := List.getElem_of_mem hm
        have hi' : i < s := by simp at hi; omega
        have hpi : rows[i]? = some p := by
          rw [← e]; simp only [List.getElem_take]
          exact List.getElem?_eq_getElem (by omega)
        by_cases hlast : i = s - 1
        · subst hlast; rw [hpi] at hq; cases hq; exact hd
        · have hq2 : s - 1 < rows.length := by omega
          obtain ⟨hh, eq⟩ := List.getElem?_eq_some_iff.mp hq
          obtain ⟨hh2, eq2⟩ := List.getElem?_eq_some_iff.mp hpi
          have := List.pairwise_iff_getElem.mp hp i (s - 1) hh2 hh (by omega)
          rw [eq, eq2] at this
          exact so.trans p.1 q.1 r (hpl p (List.mem_of_mem_take hm)) (hpl q (List.mem_of_getElem? hq)) hrl this hd
    have right : ∀ p ∈ rows.drop s, dueRows os r p.1 ≤ 0 := by
      intro p hm
      obtain ⟨i, hi, e⟩ := List.getElem_of_mem hm
      have hpi : rows[s + i]? = some p := by
        rw [← List.getElem?_drop, ← e]; exact List.getElem?_eq_getElem hi
      have := h1 (s + i) p (by omega) hpi
      have h3 := so.anti r p.1 hrl (hpl p (List.mem_of_mem_drop hm))
      omega
    refine List.pairwise_append.mpr ⟨hp1, List.pairwise_cons.mpr ⟨fun q hq => right q hq, hp2⟩, fun p hm q hq => ?_⟩
    rcases List.mem_cons.mp hq with rfl | hq
    · exact left p hm
    · exact hp3 p hm q hq
/-- merging -/
def mergeL (os : List Od) : List RowP → List RowP → List RowP
  | [], bs => bs
  | as, [] => as
  | a :: as, b :: bs => if dueRows os a.1 b.1 ≤ 0 then a :: mergeL os as (b :: bs) else b :: mergeL os (a :: as) bs
termination_by as bs => as.length + bs.length
def insL (os : List Od) (p : RowP) : List RowP → List RowP
  | [] => [p]
  | q :: r => if q.2 < 10 ∧ dueRows os q.1 p.1 ≤ 0 then q :: insL os p r else p :: q :: r
theorem mergeL_nil (os : List Od) (as : List RowP) : mergeL os as [] = as := by cases as <;> simp [mergeL]
theorem mergeL_nil' (os : List Od) (bs : List RowP) : mergeL os [] bs = bs := by simp [mergeL]
theorem mergeL_cons (os : List Od) (a b : RowP) (as bs : List RowP) : mergeL os (a :: as) (b :: bs) = if dueRows os a.1 b.1 ≤ 0 then a :: mergeL os as (b :: bs) else b :: mergeL os (a :: as) bs := by rw [mergeL]
theorem ins_merge {os : List Od} {o : RowP} {bs : List RowP} (ho : o.1.length = os.length) (hb : ∀ p ∈ bs, p.1.length = os.length ∧ 10 ≤ p.2 ∧ dueRows os o.1 p.1 ≤ 0) :
    ∀ as : List RowP, (∀ p ∈ as, p.1.length = os.length ∧ p.2 < 10) → insL os o (mergeL os as bs) = mergeL os as (o :: bs)
  | [], _ => by
    rw [mergeL_nil', mergeL_nil']
    cases bs with
    | nil => rfl
    | cons b bs =>
      have := (hb b (.head _)).2.1
      simp only [insL]
      rw [if_neg (by omega)]
  | a :: as, ha => by
    have so := dueRows_SO os
    obtain ⟨a1, a2⟩ := ha a (.head _)
    have ih := ins_merge ho hb as fun p hp => ha p (.tail _ hp)
    rw [mergeL_cons]
    by_cases hd : dueRows os a.1 o.1 ≤ 0
    · rw [if_pos hd, ← ih]
      have e : mergeL os (a :: as) bs = a :: mergeL os as bs := by
        cases bs with
        | nil => rw [mergeL_nil, mergeL_nil]
        | cons b bs =>
          obtain ⟨b1, b2, b3⟩ := hb b (.head _)
          rw [mergeL_cons, if_pos (so.trans _ _ _ a1 ho b1 hd b3)]
      rw [e, insL, if_pos ⟨a2, hd⟩]
    · rw [if_neg hd]
      cases bs with
      | nil => rw [mergeL_nil, insL, if_neg (fun h => hd h.2)]
      | cons b bs =>
        obtain ⟨b1, b2, b3⟩ := hb b (.head _)
        rw [mergeL_cons]
        split
        · rw [insL, if_neg (fun h => hd h.2)]
        · rw [insL, if_neg (by omega)]
theorem merge_due {os : List Od} {as : List RowP} (ha : ∀ p ∈ as, p.1.length = os.length ∧ p.2 < 10) : ∀ {bs : List RowP}, (∀ p ∈ bs, p.1.length = os.length ∧ 10 ≤ p.2) → bs.Pairwise (fun p q => dueRows os p.1 q.1 ≤ 0) →
    bs.foldr (insL os) as = mergeL os as bs
  | [], _, _ => (mergeL_nil os as).symm
  | b :: bs, hb, hp => by
    obtain ⟨h1, h2⟩ := List.pairwise_cons.mp hp
    rw [List.foldr_cons, merge_due ha (fun p hm => hb p (.tail _ hm)) h2]
    exact ins_merge (hb b (.head _)).1 (fun p hm => ⟨(hb p (.tail _ hm)).1, (hb p (.tail _ hm)).2, h1 p hm⟩) as ha
end

section
open PySem PySem.W PyProof.Rows
theorem frEq {h₀ h : Heap} {L : Addr} {m m' : Str → Option Value} (F : Fr h₀ L h m) (e : ∀ y, m y = m' y) : Fr h₀ L h m' := (funext e) ▸ F
def WPost (h₀ : Heap) (L : Addr) (xs : List Str) (m₀ : Str → Option Value) (Jn : (Str → Option Value) → List (Addr × Obj) → Prop) (s₁ : Shared) (f : Flow) (s₂ : Shared) : Prop :=
  f = .next ∧ ∃ h' tk m' led', s₂ = { s₁ with heap := h', toks := tk } ∧ Fr h₀ L h' m' ∧ News h₀ L h' led' ∧ (∀ y, xs.contains y = false → m' y = m₀ y) ∧ Jn m' led'
theorem WPost.next {h₀ : Heap} {L : Addr} {xs : List Str} {m₀ : Str → Option Value} {Jn : (Str → Option Value) → List (Addr × Obj) → Prop} {s₁ : Shared} {h' : Heap} {tk : Nat} {m' : Str → Option Value} {led' : List (Addr × Obj)}
    (F : Fr h₀ L h' m') (N : News h₀ L h' led') (hm : ∀ y, xs.contains y = false → m' y = m₀ y) (j : Jn m' led') : WPost h₀ L xs m₀ Jn s₁ .next { s₁ with heap := h', toks := tk } :=
  ⟨rfl, h', tk, m', led', rfl, F, N, hm, j⟩
section
variable {prog : Program} {w : World} {A : Around} {E : Value → Shared → Prop} {s : Shared} {env : Env} {h₀ : Heap} {L : Addr} {Q : Flow → Shared → Prop}
/-- a while with one stored name -/
theorem my_while {test : PySem.Expr} {body : List Stmt} {pos : Pos} {m : Str → Option Value} {news : List (Addr × Obj)} (x : Str) (v₀ : Value) (n₀ : Nat) (J : Nat → Value → List (Addr × Obj) → Prop)
    (F : Fr h₀ L s.heap m) (N : News h₀ L s.heap news) (hx : m x = some v₀) (hJ : J n₀ v₀ news)
    (turn : ∀ n v led h tk, Fr h₀ L h (fun y => if y = x then some v else m y) → News h₀ L h led → J n v led →
      wpAny (model prog w) A (isTrue test env (eval test env)) (fun b s₂ =>
        if b = true then wpAny (model prog w) A (execs body env) (WPost h₀ L [x] m (fun m' led' => ∃ n' v', n' < n ∧ m' x = some v' ∧ J n' v' led') s) E s₂ else Q .next s₂) E { s with heap := h, toks := tk })
    (hE : PassesOwn (model prog w) A env E := by passes_own) :
    wpAny (model prog w) A (exec (.While test body [] pos) env) Q E s := by
  refine While_inv (fun n m₁ led => (∀ y, y ≠ x → m₁ y = m y) ∧ ∃ v, m₁ x = some v ∧ J n v led) (n₀ := n₀) F N ⟨fun _ _ => rfl, v₀, hx, hJ⟩ ?_ hE
  rintro n m₁ led h₁ tk₁ F₁ N₁ ⟨hm, v, hv, j⟩
  have F₂ : Fr h₀ L h₁ (fun y => if y = x then some v else m y) := frEq F₁ fun y => by
    by_cases e : y = x
    · subst e; simp [hv]
    · simp [e, hm y e]
  refine wpAny_mono (turn n v led h₁ tk₁ F₂ N₁ j) (fun b s₂ h₂ => ?_) fun _ _ e => e
  cases b with
  | false => exact h₂
  | true =>
    simp only [if_true] at h₂ ⊢
    refine wpAny_mono h₂ (fun f s₃ h₃ => ?_) fun _ _ e => e
    obtain ⟨rfl, h', tk, m', led', rfl, F', N', hm', n', v', hn, hv', j'⟩ := h₃
    exact ⟨rfl, h', tk, m', led', n', rfl, F', N', hn, fun y hy => hm' y (by simp [hy]), v', hv', j'⟩
/-- a while with two stored names -/
theorem my_while2 {test : PySem.Expr} {body : List Stmt} {pos : Pos} {m : Str → Option Value} {news : List (Addr × Obj)} (x z : Str) (v₀ w₀ : Value) (n₀ : Nat) (J : Nat → Value → Value → List (Addr × Obj) → Prop)
    (hxz : x ≠ z) (F : Fr h₀ L s.heap m) (N : News h₀ L s.heap news) (hx : m x = some v₀) (hz : m z = some w₀) (hJ : J n₀ v₀ w₀ news)
    (turn : ∀ n v u led h tk, Fr h₀ L h (fun y => if y = x then some v else if y = z then some u else m y) → News h₀ L h led → J n v u led →
      wpAny (model prog w) A (isTrue test env (eval test env)) (fun b s₂ =>
        if b = true then wpAny (model prog w) A (execs body env) (WPost h₀ L [x, z] m (fun m' led' => ∃ n' v' u', n' < n ∧ m' x = some v' ∧ m' z = some u' ∧ J n' v' u' led') s) E s₂ else Q .next s₂) E { s with heap := h, toks := tk })
    (hE : PassesOwn (model prog w) A env E := by passes_own) :
    wpAny (model prog w) A (exec (.While test body [] pos) env) Q E s := by
  refine While_inv (fun n m₁ led => (∀ y, y ≠ x → y ≠ z → m₁ y = m y) ∧ ∃ v u, m₁ x = some v ∧ m₁ z = some u ∧ J n v u led) (n₀ := n₀) F N ⟨fun _ _ _ => rfl, v₀, w₀, hx, hz, hJ⟩ ?_ hE
  rintro n m₁ led h₁ tk₁ F₁ N₁ ⟨hm, v, u, hv, hu, j⟩
  have F₂ : Fr h₀ L h₁ (fun y => if y = x then some v else if y = z then some u else m y) := frEq F₁ fun y => by
    by_cases e : y = x
    · subst e; simp [hv]
    · by_cases e2 : y = z
      · subst e2; simp [e, hu]
      · simp [e, e2, hm y e e2]
  refine wpAny_mono (turn n v u led h₁ tk₁ F₂ N₁ j) (fun b s₂ h₂ => ?_) fun _ _ e => e
  cases b with
  | false => exact h₂
  | true =>
    simp only [if_true] at h₂ ⊢
    refine wpAny_mono h₂ (fun f s₃ h₃ => ?_) fun _ _ e => e
    obtain ⟨rfl, h', tk, m', led', rfl, F', N', hm', n', v', u', hn, hv', hu', j'⟩ := h₃
    exact ⟨rfl, h', tk, m', led', n', rfl, F', N', hn, fun y hy hy2 => hm' y (by simp [hy, hy2]), v', u', hv', hu', j'⟩
end
/-- a while whose end is said apart -/
def XPost (h₀ : Heap) (L : Addr) (m : Str → Option Value) (X : List (Addr × Obj) → Prop) (s s₂ : Shared) : Prop := ∃ led h tk, s₂ = { s with heap := h, toks := tk } ∧ Fr h₀ L h m ∧ News h₀ L h led ∧ X led
theorem XPost.intro {h₀ : Heap} {L : Addr} {m : Str → Option Value} {X : List (Addr × Obj) → Prop} {s : Shared} {led : List (Addr × Obj)} {h : Heap} {tk : Nat} (F : Fr h₀ L h m) (N : News h₀ L h led) (x : X led) : XPost h₀ L m X s { s with heap := h, toks := tk } := ⟨led, h, tk, rfl, F, N, x⟩
section
variable {prog : Program} {w : World} {A : Around} {E : Value → Shared → Prop} {s : Shared} {env : Env} {h₀ : Heap} {L : Addr} {Q : Flow → Shared → Prop}
theorem my_whileX {test : PySem.Expr} {body : List Stmt} {pos : Pos} {m : Str → Option Value} {news : List (Addr × Obj)} (x : Str) (v₀ : Value) (n₀ : Nat) (J : Nat → Value → List (Addr × Obj) → Prop) (X : Value → List (Addr × Obj) → Prop)
    (F : Fr h₀ L s.heap m) (N : News h₀ L s.heap news) (hx : m x = some v₀) (hJ : J n₀ v₀ news)
    (turn : ∀ n v led h tk, Fr h₀ L h (fun y => if y = x then some v else m y) → News h₀ L h led → J n v led →
      wpAny (model prog w) A (isTrue test env (eval test env)) (fun b s₂ =>
        if b = true then wpAny (model prog w) A (execs body env) (WPost h₀ L [x] m (fun m' led' => ∃ n' v', n' < n ∧ m' x = some v' ∧ J n' v' led') s) E s₂ else XPost h₀ L (fun y => if y = x then some v else m y) (X v) s s₂) E { s with heap := h, toks := tk })
    (done : ∀ v led h tk, Fr h₀ L h (fun y => if y = x then some v else m y) → News h₀ L h led → X v led → Q .next { s with heap := h, toks := tk })
    (hE : PassesOwn (model prog w) A env E := by passes_own) :
    wpAny (model prog w) A (exec (.While test body [] pos) env) Q E s :=
  my_while x v₀ n₀ J F N hx hJ (fun n v led h tk F' N' j => wpAny_mono (turn n v led h tk F' N' j) (fun b s₂ h₂ => by
    cases b with
    | true => exact h₂
    | false =>
      obtain ⟨led', h', tk', rfl, F2, N2, x2⟩ := h₂
      exact done v led' h' tk' F2 N2 x2) fun _ _ e => e) hE
end
section
variable {prog : Program} {w : World} {A : Around} {E : Value → Shared → Prop} {s : Shared} {env : Env} {h₀ : Heap} {L : Addr}
/-- the end of a statement that stores one name -/
def OPost (h₀ : Heap) (L : Addr) (x : Str) (m₀ : Str → Option Value) (P : Value → List (Addr × Obj) → Prop) (s : Shared) (f : Flow) (s' : Shared) : Prop :=
  f = .next ∧ ∃ v led h tk, s' = { s with heap := h, toks := tk } ∧ Fr h₀ L h (fun y => if y = x then some v else m₀ y) ∧ News h₀ L h led ∧ P v led
theorem OPost.intro {x : Str} {m₀ m : Str → Option Value} {P : Value → List (Addr × Obj) → Prop} {v : Value} {led led' : List (Addr × Obj)} {h : Heap} {tk : Nat} (F : Fr h₀ L h m) (N : News h₀ L h led) (hm : ∀ y, m y = if y = x then some v else m₀ y) (sub : ∀ p ∈ led', p ∈ led) (p : P v led') :
    OPost h₀ L x m₀ P s .next { s with heap := h, toks := tk } := ⟨rfl, v, led', h, tk, rfl, frEq F hm, fun p hp => N p (sub p hp), p⟩
theorem cut_one {st : Stmt} {Q : Flow → Shared → Prop} {m₀ : Str → Option Value} (x : Str) (P : Value → List (Addr × Obj) → Prop) (F : Fr h₀ L s.heap m₀)
    (h1 : wpAny (model prog w) A (exec st env) (OPost h₀ L x m₀ P s) E s)
    (h2 : ∀ v led h tk, Fr h₀ L h (fun y => if y = x then some v else m₀ y) → News h₀ L h led → P v led → Q .next { s with heap := h, toks := tk }) : wpAny (model prog w) A (exec st env) Q E s :=
  wpAny_mono h1 (fun f s' ⟨e, v, led, h, tk, e2, F', N', p⟩ => by subst e; subst e2; exact h2 v led h tk F' N' p) fun _ _ e => e
end
end

local macro_rules | `(tactic| walk_at "tail 15") => `(tactic| (intro a' ws' r' led' x' tx' y' ty' h' tk' fit' il' ia' hf' kp' hs'; refine' mut_elimT ?F ?N ?pk kp' hs' hf' ?_; (case F => k_asm); (case N => k_asm); (case pk => walk_at "mine pickt"); intro tl' etl' of' oL' F' N'; (try dsimp only at N'); clear kp' hs' hf'; k_sweep))
local macro_rules | `(tactic| walk_at "tail 16") => `(tactic| (intro r' t' h' tk' e' k'; (have F' := Fr.grownK (by k_asm) k'); (have N' := News.grown (by k_asm) k'); clear k'; k_sweep))
section
open PySem PySem.W PyProof.Rows PyProof.Rows.LCg
theorem all_hid₀ {h₀ h : Heap} {L src : Addr} {m : Str → Option Value} {vs : List Value} {ds : List PyData} (F : Fr (h₀.hide src) L h m) (i : IsAll (At (h₀.hide src)) vs ds) : IsAll (At (h.hide src)) vs ds := i.mono fun a o e => by
  have hne : a ≠ src := fun q => by subst q; simp only [At] at e; rw [Heap.hide_self] at e; cases e
  show (h.hide src).get? a = some o
  rw [Heap.hide_ne _ hne]; exact F.keep _ _ e
theorem hid_of {h₀ h : Heap} {L src : Addr} {led tl : List (Addr × Obj)} (N : News h₀ L h led) (of : ∀ p ∈ tl, p.1 ≠ src) (sub : ∀ p ∈ tl, p ∈ led) : ∀ a o, InL tl a o → (h.hide src).get? a = some o := fun a o hm => by
  rw [Heap.hide_ne _ (of _ hm)]; exact (N _ (sub _ hm)).1
theorem len_tk {α : Type} {l : List α} {k : Nat} (h : l.length ≤ 999) : (l.take k).length ≤ 1000 := by rw [List.length_take]; omega
theorem len_dr {α : Type} {l : List α} {k : Nat} (h : l.length ≤ 999) : (l.drop k).length ≤ 1000 := by rw [List.length_drop]; omega
theorem len_ta {α : Type} {l : List α} {k : Nat} {x : α} (h : l.length ≤ 999) : (l.take k ++ [x]).length ≤ 1000 := by simp only [List.length_append, List.length_take, List.length_singleton]; omega
theorem tup_at {h₀ h : Heap} {L D : Addr} {v : Value} {z : Int} {t : Tok} {led : List (Addr × Obj)} (N : News h₀ L h led) (hm : (D, ({ cls := .type "tuple", data := .seq #[v, .int z t] } : Obj)) ∈ led) :
    ∃ oT, (D, oT) ∈ led ∧ oT.cls = .type "tuple" ∧ ∃ t, oT.data = .seq #[v, .int z t] := ⟨_, hm, rfl, t, rfl⟩
theorem tupN {h₀ h : Heap} {L a : Addr} {o : Obj} {items : Array Value} {k : Nat} {led : List (Addr × Obj)} (N : News h₀ L h led) (hm : (a, o) ∈ led) (hc : o.cls = .type "tuple") (hd : o.data = .seq items k) : IsTup h a items := ⟨o, (N _ hm).1, hc, k, hd⟩
def Former (os : List Od) (tl : List (Addr × Obj)) (v : Value) : Prop := v = .none ∨ ∃ lf us r, v = .ref lf ∧ IsL (InL tl) lf us ∧ IsAll (InL tl) us (List.map Cell.py r) ∧ FitRow os r
section
variable {w : World} {dp un : Nat} {fr : Option (List Env)} {gd : Option (List Code)} {E : Value → Shared → Prop} {s : Shared} {Q : Value → Shared → Prop}
theorem law_rowF {src lo : Addr} {vf : Value} {x y : Int} {t u : Tok} {n : Nat} {vs : List Value} {os : List Od} {tl : List (Addr × Obj)}
    (W : Wd w (s.heap.hide src)) (hd : dp + 5 < recursionLimit) (hu : un + 200 < cLine) (hs : s.heap.get? src = some (srcO x t y u n))
    (hP : ∀ a o, InL tl a o → (s.heap.hide src).get? a = some o) (LO : (s.heap.hide src).IsList lo vs.toArray) (io : IsAll (At (s.heap.hide src)) vs (os.map Od.py)) (hlen : os.length ≤ 3) (hF : Former os tl vf)
    (ret : ∀ a ws r' led x' tx y' ty h' tk', FitRow os r' → IsL (InL led) a ws → IsAll (fun a o => (a, o) ∈ led ∨ (a, o) ∈ tl) ws (r'.map Cell.py) → Fresh s.heap h' led → KeepBut src s.heap h' → h'.get? src = some (srcO x' tx y' ty n) → Q (.ref a) { s with heap := h', toks := tk' }) :
    wpAny (model pg w) (Ar dp un fr gd) (call (.ref 152) [.ref src, .ref lo, vf]) Q E s := by
  rcases hF with rfl | ⟨lf, us, r, rfl, il, ia, ff⟩
  · exact law_row0 W hd hu hs LO io hlen fun a ws r' led x' tx y' ty h' tk' h1 h2 h3 h4 h5 h6 => ret a ws r' led x' tx y' ty h' tk' h1 h2 (h3.mono fun _ _ q => .inl q) h4 h5 h6
  · exact law_row1 W hd hu hs hP LO io hlen il ia ff ret
end
theorem lines_W13_1 : True := by
  k_with_none
  k_with "eval Call" => k_dflt (refine Call_ ?_)
  k_with "mine steps" => (repeat' (first | (k_unfold; (try dsimp only)) | ((fail_if_success (with_reducible show wpAny _ _ (PySem.pyIter _) _ _ _)); (fail_if_success (with_reducible show wpAny _ _ (PySem.exec (PySem.Stmt.While _ _ _ _) _) _ _ _)); first | walk1 | (dsimp only; walk1)) | fail "no step"))
  k_with "mine mem" => (first | exact List.Mem.head _ | (refine List.Mem.tail _ ?_; walk_at "mine mem") | (refine List.mem_append_right _ ?_; walk_at "mine mem") | fail "x")
  k_with "mine ne" => (first | assumption | exact Ne.symm (by assumption) | exact ne_of_all (by assumption) (by first | (walk_at "mine mem") | fail "x") | (refine two_apart (by assumption) (by first | (walk_at "mine mem") | fail "x") (o' := PySem.W.listOf #[.int _ _, .int _ _] _) (by first | (walk_at "mine mem") | fail "x") (by first | (intro e; simp [PySem.W.listOf] at e; done) | fail "x")) | fail "x")
  k_with "mine pick" => (first | exact Pick.last | (refine Pick.skip (by first | (walk_at "mine ne") | fail "x") (by first | (walk_at "mine pick") | fail "x")) | exact Pick.here (by assumption) | fail "x")
  k_with "mine pickt" => (first | exact PickT.last | exact PickT.here (by assumption) | (refine PickT.skip (by first | (walk_at "mine ne") | fail "x") (by first | (walk_at "mine pickt") | fail "x")) | fail "x")
  k_with "mine src" => exact src_get (by assumption) (by first | (walk_at "mine mem") | fail "x")
  k_with "mine list" => (first | exact list_hid₀ (by first | (k_asm) | fail "x") (by assumption) | exact list_hid (by assumption) (by first | (walk_at "mine mem") | fail "x") (by first | (walk_at "mine ne") | fail "x") | fail "x")
  k_with "mine get" => (first | (with_reducible assumption) | exact Fr.lst (by first | (k_asm) | fail "x") (by assumption) | exact News.isList (by first | (k_asm) | fail "x") (by first | (walk_at "mine mem") | fail "x") | exact lst_get (by first | (k_asm) | fail "x") (by first | (walk_at "mine mem") | fail "x") | fail "x")
  k_with "mine len" => (first | (with_reducible assumption) | exact len_tk (by first | (with_reducible assumption) | fail "x") | exact len_dr (by first | (with_reducible assumption) | fail "x") | exact len_ta (by first | (with_reducible assumption) | fail "x") | (simp only [List.length_take, List.length_drop, List.length_append, List.length_cons, List.length_nil]; omega) | fail "x")
  k_with "call builtin:len" => (k_dflt (refine len_vs (by first | (walk_at "mine get") | fail "x") (by first | (exact rfl) | fail "x") (by first | (walk_at "mine len") | fail "x") ?_; k_whole); walk_at "tail 2")
  k_with "call ref" => (k_here; k_dflt (refine law_take (by first | (exact Wd.hid (by assumption) (by first | (k_asm) | fail "x")) | fail "x") (by ktr_room) (by ktr_units) (by first | (walk_at "mine src") | fail "x") (by omega) (by omega) ?_); walk_at "tail 8")
  k_with "subscriptTail Name Slice ref ref" => (k_here; k_dflt (first | refine slice_from (by first | (k_asm) | fail "x") (by first | (k_asm) | fail "x") (by first | (walk_at "mine get") | fail "x") (IsPart.int _ _) IsPart.none (by omega) (by first | (walk_at "mine len") | fail "x") ?_ (by with_unfolding_all rfl) (by kmk_pure) | refine slice_to (by first | (k_asm) | fail "x") (by first | (k_asm) | fail "x") (by first | (walk_at "mine get") | fail "x") IsPart.none (IsPart.int _ _) (by omega) (by first | (walk_at "mine len") | fail "x") ?_ (by with_unfolding_all rfl) (by kmk_pure) | fail "x"); walk_at "tail 13")
  k_with "binaryOp Add ref ref" => (k_here; k_dflt (refine my_add (by first | (k_asm) | fail "x") (by first | (k_asm) | fail "x") (by first | (walk_at "mine get") | fail "x") (by first | (walk_at "mine get") | fail "x") (by first | (walk_at "mine len") | fail "x") (by first | (walk_at "mine len") | fail "x") ?_); walk_at "tail 13")
  k_with "call type:list" => (k_here; k_dflt (refine my_copy (by first | (k_asm) | fail "x") (by first | (k_asm) | fail "x") (by first | (walk_at "mine get") | fail "x") (by first | (walk_at "mine len") | fail "x") ?_); walk_at "tail 14")
  k_with "mine sub" => (intro p hp; (repeat' (first | exact hp | apply List.Mem.tail)); done)
  k_with "mine wd" => exact Wd.keeps (by assumption) (Fr.keep (by first | (k_asm) | fail "x"))
  k_with "call ref" => (k_here; k_dflt (refine law_rowF (by first | (exact Wd.hid (by assumption) (by first | (k_asm) | fail "x")) | fail "x") (by ktr_room) (by ktr_units) (by first | (walk_at "mine src") | fail "x") (by first | (exact hid_of (by assumption) (by assumption) (by first | (walk_at "mine sub") | fail "x")) | fail "x") (by first | (exact list_hid₀ (by first | (k_asm) | fail "x") (by assumption)) | fail "x") (by first | (exact all_hid₀ (by first | (k_asm) | fail "x") (by assumption)) | fail "x") (by assumption) (by assumption) ?_); walk_at "tail 15")
  k_with "call ref" => (k_here; k_dflt (refine law_due_rows (by first | (walk_at "mine wdh") | fail "x") (by ktr_room) (by ktr_units) (by assumption) (by first | (exact Fr.lst (by first | (k_asm) | fail "x") (by assumption)) | fail "x") (by first | (exact isl_news (by assumption) (by assumption) (by first | (walk_at "mine sub") | fail "x")) | fail "x") (by first | (exact isl_news (by assumption) (by assumption) (by first | (walk_at "mine sub") | fail "x")) | fail "x") (by first | (exact IsAll.base (by first | (k_asm) | fail "x") (by assumption)) | fail "x") (by first | (exact all_news (by assumption) (by assumption) (by first | (walk_at "mine sub") | fail "x")) | fail "x") (by first | (exact all_news (by assumption) (by assumption) (by first | (walk_at "mine sub") | fail "x")) | fail "x") (by assumption) (by assumption) ?_); walk_at "tail 16")
  k_with "mine wdh" => exact Wd.keeps (by assumption) (Fr.keep (by first | (k_asm) | fail "x"))
  k_with "mine memA" => (first | assumption | (refine List.Mem.tail _ ?_; walk_at "mine memA") | fail "x")
  k_with "subscriptTail Name Constant ref int" => (k_dflt (refine item_tupleT (by first | (exact tupN (by assumption) (by first | (walk_at "mine memA") | fail "x") (by assumption) (by assumption)) | fail "x") (by decide) (by decide) (by rfl) (by rfl) ?_; k_whole))
  k_with "subscriptTail Name BinOp ref int" => (k_dflt (refine item_vs (by first | (walk_at "mine get") | fail "x") (by assumption) (by assumption) (by assumption) ?_; k_whole))
  k_with "mine hm" => (intros; first | (refine hm1 (by assumption) ?_; intros; (repeat' (first | with_reducible rfl | refine ifn (by assumption) ?_ | refine ifn (ne_t (by assumption)) ?_ | fail "x")); done) | (refine hm2 (by assumption) ?_; intros; (repeat' (first | with_reducible rfl | refine ifn (by assumption) ?_ | refine ifn (ne_t (by assumption)) ?_ | fail "x")); done) | (refine hm3 (by assumption) ?_; intros; (repeat' (first | with_reducible rfl | refine ifn (by assumption) ?_ | refine ifn (ne_t (by assumption)) ?_ | fail "x")); done) | ((repeat' (first | with_reducible rfl | refine ifn (by assumption) ?_ | refine ifn (ne_t (by assumption)) ?_ | fail "x")); done) | fail "hm")
  trivial
section
variable {w : World} {dp un : Nat} {fr : Option (List Env)} {gd : Option (List Code)} {E : Value → Shared → Prop} {s : Shared} {Q : Value → Shared → Prop}
set_option maxHeartbeats 4000000 in
theorem law_listed {src lo : Addr} {x y : Int} {t u tb : Tok} {n : Nat} {b : Int} {vs : List Value} {os : List Od}
    (W : Wd w (s.heap.hide src)) (hd : dp + 6 < recursionLimit) (hu : un + 250 < cLine) (hs : s.heap.get? src = some (srcO x t y u n))
    (LO : (s.heap.hide src).IsList lo vs.toArray) (io : IsAll (At (s.heap.hide src)) vs (os.map Od.py)) (hlen : os.length ≤ 3)
    (ret : ∀ a ws k rows led x' tx y' ty h' tk', k ≤ 3 → Listed os b k rows → IsL (InL led) a ws → IsAll (InL led) ws (rows.map pairPy) → Fresh s.heap h' led → KeepBut src s.heap h' → h'.get? src = some (srcO x' tx y' ty n) → Q (.ref a) { s with heap := h', toks := tk' }) :
    wpAny (model pg w) (Ar dp un fr gd) (call (.ref 159) [.ref src, .ref lo, .int b tb]) Q E s := by
  k_dflt (refine' enterS (binds := [("source", .ref src), ("orders", .ref lo), ("begin", .int b tb)]) W hs ?k6 ?k7 ?k8 ?k9 ?kB ?_ ?c2 ?c3 ?c4 ?c5; (case k6 => k_is); (case k7 => k_is); (case k8 => ktr_room); (case k9 => exact BindsTo.of_eq rfl); (case c5 => decide); (case kB => exact locs rfl); (case c2 => exact rfl); (case c3 => exact rfl); (case c4 => exact rfl); k_whole)
  intro L h₁ hL F N
  have X := W.K
  refine Wd.elim W fun mean mg mb T => ?_
  (try dsimp only)
  (try k_fold)
  walk_at "mine steps"
  rename_i l0 h6 l1a D0 h5 l1b h4 h3 h2 r9 t9 x9 tx9 y9 ty9 h1' tk9 r0 r1 F9 N9 h0 tk0 t1r u1r v1r R' Fb Nb kb
  obtain ⟨n9, rfl⟩ : ∃ n9 : Nat, r9 = n9 := ⟨r9.toNat, by omega⟩
  have l0s : l0 ≠ src := Nat.ne_of_gt l1a
  refine my_range ["former", "spot", "found"] (fun i u led => ∃ (Lf : Addr) (c : Nat) (ws : List Value) (vf : Value) (rows : List RowP) (tl : List (Addr × Obj)) (x' : Int) (tx : Tok) (y' : Int) (ty : Tok), u (Str.ofString "found") = some (.ref Lf) ∧ u (Str.ofString "former") = some vf ∧ led = (Lf, listOf ws.toArray c) :: (src, srcO x' tx y' ty n) :: tl ∧ Lf ≠ src ∧ (∀ p ∈ tl, p.1 ≠ src) ∧ IsAll (InL tl) ws (rows.map pairPy) ∧ Listed os b i rows ∧ Former os tl vf)
    rfl R' (by omega) Fb (fun p hp => Nb p (.tail _ hp)) ⟨l0, 0, [], .none, [], [], _, _, _, _, rfl, rfl, rfl, l0s, (fun _ h => nomatch h), .nil, .nil os b, .inl rfl⟩ ?_ ?_
  · intro i ti u led h tk I oI hi hj off F' N'
    refine hideG fun G9 kG9 => ?_
    obtain ⟨Lf, c, ws, vf, rows, tl, x2, tx2, y2, ty2, hu1, hu2, rfl, hne, offs, iw, hL', hF⟩ := hj
    refine kG9 ?_
    clear kG9 G9
    dsimp only [envOf] at F' N'
    have F2 := frEq (m' := fun y => if y = Str.ofString "turn" then some (.int (i : Int) ti) else if y = Str.ofString "found" then some (.ref Lf) else if y = Str.ofString "former" then some vf else if y = Str.ofString "spot" then u (Str.ofString "spot") else List.lookup y [(Str.ofString "source", Value.ref src), (Str.ofString "orders", Value.ref lo), (Str.ofString "begin", Value.int b tb)].reverse) F' (by
      intro y
      by_cases e1 : y = Str.ofString "turn"
      · subst e1; rfl
      by_cases e2 : y = Str.ofString "found"
      · subst e2; exact hu1
      by_cases e3 : y = Str.ofString "former"
      · subst e3; exact hu2
      by_cases e4 : y = Str.ofString "spot"
      · subst e4; rfl
      simp [e1, e2, e3, e4])
    have sI : src ≠ I := off (src, srcO x2 tx2 y2 ty2 n) (by simp)
    have hwl9 : ws.length ≤ 999 := by
      have e1 := iw.length
      have e2 := hL'.1
      simp only [List.length_map] at e1
      omega
    have hwl : ws.length ≤ 1000 := Nat.le_trans hwl9 (by decide)
    clear F' R' Fb Nb kb F9 N9
    walk_at "mine steps"
    rename_i a5 ws5 r5 led5 x5 tx5 y5 ty5 h52 tk5 fit5 il5 ia5 tl5 etl5 of5 oL5 h51 tk51 tl51 tkl5 h5x F5 N5
    have s1 := (tail_sub etl5).1
    have s2 := (tail_sub etl5).2
    have ia6 : IsAll (InL tl5) ws5 (r5.map Cell.py) := ia5.mono fun a o q => q.elim (s1 _) (s2 _)
    have il6 : IsL (InL tl5) a5 ws5 := let ⟨o, k, h1, h2⟩ := il5; ⟨o, k, s1 _ h1, h2⟩
    have iw6 : IsAll (InL tl5) ws (rows.map pairPy) := iw.mono fun a o q => s2 _ q
    have oI5 : ∀ p ∈ tl5, p.1 ≠ I := by
      intro p hp
      rw [etl5] at hp
      rcases List.mem_append.mp hp with hp | hp
      · exact oL5 p hp (I, oI) (.head _)
      · exact off p (.tail _ (.tail _ hp))
    have oLf : Lf ≠ I := off (Lf, listOf ws.toArray c) (.head _)
    have hwr : ws.length = rows.length := by simpa using iw.length
    clear etl5 ia5 il5 iw oL5 s1 s2 off offs
    refine' my_whileX (Str.ofString "spot") _ ws.length (fun m v led => ∃ (k : Nat) (t : Tok), v = .int (k : Int) t ∧ k ≤ ws.length ∧ k = m ∧ led = (I, oI) :: (Lf, listOf ws.toArray c) :: (src, srcO x5 tx5 y5 ty5 n) :: tl5 ∧ ∀ j p, k ≤ j → rows[j]? = some p → 0 < dueRows os p.1 r5)
      (fun v led => ∃ (k : Nat) (t : Tok), v = .int (k : Int) t ∧ k ≤ ws.length ∧ led = (I, oI) :: (Lf, listOf ws.toArray c) :: (src, srcO x5 tx5 y5 ty5 n) :: tl5 ∧ (∀ j p, k ≤ j → rows[j]? = some p → 0 < dueRows os p.1 r5) ∧ (k = 0 ∨ ∃ p, rows[k - 1]? = some p ∧ dueRows os p.1 r5 ≤ 0)) ?wF ?wN ?wx ?wJ ?wT ?wD
    case wF => exact F5
    case wN => exact N5
    case wx => rfl
    case wJ =>
      refine ⟨ws.length, _, rfl, Nat.le_refl _, rfl, rfl, fun j p hj hp => ?_⟩
      have := (List.getElem?_eq_some_iff.mp hp).1
      omega
    case wT =>
      intro n1 v led h' tk' F' N' hx7
      refine hideG fun G9 kG9 => ?_
      obtain ⟨k, tv, rfl, hk, rfl, rfl, hall⟩ := hx7
      refine kG9 ?_
      clear kG9 G9
      clear F5 N5
      have hk0 : (0 : Int) ≤ (k : Int) := Int.natCast_nonneg _
      by_cases hkz : k = 0
      · walk_at "mine steps"
        exact XPost.intro (by assumption) (by assumption) ⟨k, _, rfl, hk, rfl, hall, .inl hkz⟩
      · have hkk : (k : Int) - 1 = ((k - 1 : Nat) : Int) := by omega
        have hk1 : k - 1 ≤ 1000 := by omega
        refine hideG fun G9 kG9 => ?_
        obtain ⟨p, hp⟩ : ∃ p, rows[k - 1]? = some p := ⟨rows[k - 1], List.getElem?_eq_getElem (by omega)⟩
        obtain ⟨v, hv, iv⟩ := iw6.get (i := k - 1) (d := pairPy p) (by simp [hp])
        have fitp := (hL'.2.1 p (List.mem_of_getElem? hp)).1
        obtain ⟨ap, op, vp, np, rfl, hm9, hc9, hd9, iv⟩ := iv.tupleE
        obtain ⟨v1, rr, rfl, iv1, iv⟩ := iv.consE
        obtain ⟨v2, rr, rfl, iv2, iv⟩ := iv.consE
        obtain rfl := iv.nilE
        obtain ⟨lr, ol, ul, nl, rfl, g1, g2, g3, iv1⟩ := iv1.listE
        refine kG9 ?_
        clear kG9 G9
        have ilr : IsL (InL tl5) lr ul := ⟨ol, nl, g1, g2, g3⟩
        clear g1 g2 g3 iv iv2
        walk_at "mine steps"
        · refine WPost.next (by assumption) (by assumption) (by intro y hy; simp at hy; simp [hy]) ⟨k - 1, _, by omega, rfl, k - 1, _, congrArg (Value.int · _) hkk, by omega, rfl, rfl, fun j p' hj hp' => ?_⟩
          by_cases ej : j = k - 1
          · subst ej
            rw [hp] at hp'; cases hp'
            omega
          · exact hall j p' (by omega) hp'
        · rename (_ = dueRows os p.1 r5) => e9
          exact XPost.intro (by assumption) (by assumption) ⟨k, _, rfl, hk, rfl, hall, .inr ⟨p, hp, by omega⟩⟩
    case wD =>
      intro v led h' tk' F' N' hx6
      refine hideG fun G9 kG9 => ?_
      obtain ⟨k, tv, rfl, hk, rfl, hall, hno⟩ := hx6
      refine kG9 ?_
      clear kG9 G9
      clear F5 N5
      have hk0 : (0 : Int) ≤ (k : Int) := Int.natCast_nonneg _
      walk_at "mine steps"
      rename_i D4 g6 m3 D3 g5 m1 lq g4 m0 D2 g3 m2 D1 g2 mm1 DD g1 mm g0 FF NN
      have e1 : DD ≠ src := ne_of_all mm (o := srcO x5 tx5 y5 ty5 n) (by walk_at "mine mem")
      have e3 : D3 ≠ src := Nat.ne_of_gt m1.2.2.2.1
      have dI : DD ≠ I := ne_of_all mm (o := oI) (by walk_at "mine mem")
      have d3I : D3 ≠ I := Nat.ne_of_gt m1.2.1
      refine hideG fun G9 kG9 => ?_
      obtain ⟨oT, hmT, hcT, tT, hdT⟩ := tup_at NN (D := D3) (by walk_at "mine mem")
      refine kG9 ?_
      clear kG9 G9
      have ek : (k : Int).toNat = k := Int.toNat_natCast k
      refine TPost.next (led' := (DD, listOf (ws.take (k : Int).toNat ++ [Value.ref D3] ++ ws.drop (k : Int).toNat).toArray 0) :: (src, srcO x5 tx5 y5 ty5 n) :: (D3, oT) :: tl5) FF (fun q hq => NN q ?_) ?_ (by intro y h1 h2; simp at h2; simp [h1, h2])
        ⟨DD, 0, ws.take (k : Int).toNat ++ [Value.ref D3] ++ ws.drop (k : Int).toNat, Value.ref a5, rows.take k ++ (r5, b + i) :: rows.drop k, (D3, oT) :: tl5, x5, tx5, y5, ty5, rfl, rfl, rfl, e1, ?_, ?_, ?_, ?_⟩
      · rcases List.mem_cons.mp hq with rfl | hq
        · walk_at "mine mem"
        rcases List.mem_cons.mp hq with rfl | hq
        · exact .head _
        rcases List.mem_cons.mp hq with rfl | hq
        · walk_at "mine mem"
        rcases List.mem_cons.mp hq with rfl | hq
        · exact hmT
        repeat' (first | exact hq | apply List.Mem.tail)
      · intro q hq
        rcases List.mem_cons.mp hq with rfl | hq
        · exact dI
        rcases List.mem_cons.mp hq with rfl | hq
        · exact sI
        rcases List.mem_cons.mp hq with rfl | hq
        · exact d3I
        exact oI5 q hq
      · intro q hq
        rcases List.mem_cons.mp hq with rfl | hq
        · exact e3
        exact of5 q hq
      · rw [ek]
        have hb := iw6.mono (P' := InL ((D3, oT) :: tl5)) fun a o q => List.Mem.tail _ q
        refine hideG fun G9 kG9 => ?_
        obtain ⟨oR, kR, q1, q2, q3⟩ := il6
        refine kG9 ?_
        clear kG9 G9
        have hT : Is (InL ((D3, oT) :: tl5)) (.ref D3) (pairPy (r5, b + i)) := .tuple (.head _) hcT hdT (.cons (.list (.tail _ q1) q2 q3 (ia6.mono fun a o q => List.Mem.tail _ q)) (.cons (.int _ _) .nil))
        simp only [List.map_append, List.map_cons, List.map_take, List.map_drop, List.append_assoc]
        exact (hb.take k).append (.cons hT (hb.drop k))
      · exact hL'.insert fit5 (by omega) hall hno
      · refine hideG fun G9 kG9 => ?_
        obtain ⟨oR, kR, q1, q2, q3⟩ := il6
        refine kG9 ?_
        clear kG9 G9
        exact .inr ⟨a5, ws5, r5, rfl, ⟨oR, kR, .tail _ q1, q2, q3⟩, ia6.mono fun a o q => List.Mem.tail _ q, fit5⟩
  · intro u led h tk hj F' N'
    refine hideG fun G9 kG9 => ?_
    obtain ⟨Lf, c, ws, vf, rows, tl, x2, tx2, y2, ty2, hu1, hu2, rfl, hne, offs, iw, hL', hF⟩ := hj
    refine kG9 ?_
    clear kG9 G9
    dsimp only [envOf] at F' N'
    have F2 := frEq (m' := fun y => if y = Str.ofString "turn" then u (Str.ofString "turn") else if y = Str.ofString "found" then some (.ref Lf) else if y = Str.ofString "former" then some vf else if y = Str.ofString "spot" then u (Str.ofString "spot") else List.lookup y [(Str.ofString "source", Value.ref src), (Str.ofString "orders", Value.ref lo), (Str.ofString "begin", Value.int b tb)].reverse) F' (by
      intro y
      by_cases e1 : y = Str.ofString "turn"
      · subst e1; rfl
      by_cases e2 : y = Str.ofString "found"
      · subst e2; exact hu1
      by_cases e3 : y = Str.ofString "former"
      · subst e3; exact hu2
      by_cases e4 : y = Str.ofString "spot"
      · subst e4; rfl
      simp [e1, e2, e3, e4])
    clear F' R' Fb Nb kb F9 N9
    walk_at "mine steps"
    rename News _ _ _ _ => NN
    exact ret _ _ n9 rows ((Lf, listOf ws.toArray c) :: tl) _ _ _ _ _ _ (by omega) hL' ⟨_, _, .head _, rfl, rfl⟩ (iw.mono fun a o q => .tail _ q)
      (Fresh.ofS NN (fun p hp => by
        rcases List.mem_cons.mp hp with rfl | hp
        · exact .head _
        · exact .tail _ (.tail _ hp)) (fun p hp => by
        rcases List.mem_cons.mp hp with rfl | hp
        · exact hne
        · exact offs p hp)) (keepBut_of (by assumption)) (src_get NN (by walk_at "mine mem"))
end
end

section
open PySem PySem.W PyProof.Rows PyProof.Rows.LCg
theorem lines_W14_1 : True := by
  k_with_none
  k_with "eval Call" => k_dflt (refine Call_ ?_)
  k_with "mine steps" => (repeat' (first | (k_unfold; (try dsimp only)) | ((fail_if_success (with_reducible show wpAny _ _ (PySem.pyIter _) _ _ _)); first | walk1 | (dsimp only; walk1)) | fail "no step"))
  k_with "call builtin:len" => (k_dflt (refine len_vs (by first | (is_list) | fail "x") (by first | (exact rfl) | fail "x") (by assumption) ?_; k_whole); walk_at "tail 2")
  k_with "subscriptTail Name Name ref int" => (k_dflt (refine item_vs (i := 0) (by first | (is_list) | fail "x") (by rfl) (by decide) (by first | (exact rfl) | fail "x") ?_; k_whole))
  trivial
theorem mulOk_r {a b : Int} (h0 : 0 ≤ b) (h1 : b ≤ 1000000) : IntMulOk a b := IntMulOk.of_right (PySem.intBits_le_64 (by omega) (by omega))
section
variable {w : World} {dp un : Nat} {fr : Option (List Env)} {gd : Option (List Code)} {E : Value → Shared → Prop} {s : Shared} {Q : Value → Shared → Prop}
set_option maxHeartbeats 4000000 in
theorem law_pool {l : Addr} {tk0 : Tok} {us : List Value}
    (W : Wd w s.heap) (hd : dp + 1 < recursionLimit) (hu : un + 100 < cLine)
    (hl : s.heap.IsList l us.toArray) (hlen : us.length ≤ 1000) (hus : us = [] ∨ ∃ z t r, us = .int z t :: r)
    (ret : ∀ a x t y u n h' tk', Ext s.heap h' → s.heap.get? a = none → h'.get? a = some (srcO x t y u n) → Q (.ref a) { s with heap := h', toks := tk' }) :
    wpAny (model pg w) (Ar dp un fr gd) (call (.ref 85) [.ref l, .int 0 tk0]) Q E s := by
  rcases hus with rfl | ⟨z, t, r, rfl⟩
  · k_dflt (refine' enter (binds := [("script", .ref l), ("k", .int 0 tk0)]) W ?k6 ?k7 ?k8 ?k9 ?kB ?_ ?c2 ?c3 ?c4 ?c5; (case k6 => k_is); (case k7 => k_is); (case k8 => ktr_room); (case k9 => exact BindsTo.of_eq rfl); (case c5 => decide); (case kB => exact locs rfl); (case c2 => exact rfl); (case c3 => exact rfl); (case c4 => exact rfl); k_whole)
    intro L h₁ hL F
    have N : News s.heap L h₁ [] := News.nil
    have X := W.K
    refine Wd.elim W fun mean mg mb T => ?_
    (try dsimp only)
    (try k_fold)
    walk_at "mine steps"
    all_goals rename News _ _ _ _ => N9
    all_goals exact ret _ _ _ _ _ _ _ _ (Fr.keep (by assumption)) (N9 _ (.head _)).2.2 (N9 _ (.head _)).1
  · k_dflt (refine' enter (binds := [("script", .ref l), ("k", .int 0 tk0)]) W ?k6 ?k7 ?k8 ?k9 ?kB ?_ ?c2 ?c3 ?c4 ?c5; (case k6 => k_is); (case k7 => k_is); (case k8 => ktr_room); (case k9 => exact BindsTo.of_eq rfl); (case c5 => decide); (case kB => exact locs rfl); (case c2 => exact rfl); (case c3 => exact rfl); (case c4 => exact rfl); k_whole)
    intro L h₁ hL F
    have N : News s.heap L h₁ [] := News.nil
    have X := W.K
    refine Wd.elim W fun mean mg mb T => ?_
    (try dsimp only)
    (try k_fold)
    walk_at "mine steps"
    all_goals rename News _ _ _ _ => N9
    all_goals exact ret _ _ _ _ _ _ _ _ (Fr.keep (by assumption)) (N9 _ (.head _)).2.2 (N9 _ (.head _)).1
end
end

section
open PySem PySem.W PyProof.Rows PyProof.Rows.LCg
theorem ln1 {α : Type} {l : List α} (h : l.length ≤ 300) : l.length ≤ 1000 := by omega
theorem ln2 {α : Type} {l : List α} {k : Nat} (h : l.length ≤ 300) : (l.drop k).length ≤ 1000 := by rw [List.length_drop]; omega
theorem ln3 {α : Type} {l r : List α} {k : Nat} (h : l.length ≤ 300) (h2 : r.length ≤ 300) : (l ++ r.drop k).length ≤ 1000 := by rw [List.length_append, List.length_drop]; omega
theorem lines_W15_1 : True := by
  k_with_none
  k_with "eval Call" => k_dflt (refine Call_ ?_)
  k_with "mine steps" => (repeat' (first | (k_unfold; (try dsimp only)) | ((fail_if_success (with_reducible show wpAny _ _ (PySem.pyIter _) _ _ _)); (fail_if_success (with_reducible show wpAny _ _ (PySem.exec (PySem.Stmt.While _ _ _ _) _) _ _ _)); first | walk1 | (dsimp only; walk1)) | fail "no step"))
  k_with "mine mem" => (first | exact List.Mem.head _ | (refine List.Mem.tail _ ?_; walk_at "mine mem") | fail "x")
  k_with "mine get" => (first | (with_reducible assumption) | exact Fr.lst (by first | (k_asm) | fail "x") (by first | (with_reducible assumption) | fail "x") | exact News.isList (by first | (k_asm) | fail "x") (by first | (walk_at "mine mem") | fail "x") | fail "x")
  k_with "mine len" => (first | (with_reducible assumption) | exact ln1 (by first | (with_reducible assumption) | fail "x") | exact ln2 (by first | (with_reducible assumption) | fail "x") | exact ln3 (by first | (with_reducible assumption) | fail "x") (by first | (with_reducible assumption) | fail "x") | fail "x")
  k_with "call builtin:len" => (k_dflt (refine len_vs (by first | (walk_at "mine get") | fail "x") (by first | (exact rfl) | fail "x") (by first | (walk_at "mine len") | fail "x") ?_; k_whole); walk_at "tail 2")
  k_with "subscriptTail Name Name ref int" => (k_dflt (refine item_vs (by first | (walk_at "mine get") | fail "x") (by first | (exact rfl) | fail "x") (by assumption) (by assumption) ?_; k_whole))
  k_with "subscriptTail Name Constant ref int" => (k_dflt (refine item_tupleT (by first | (is_tup) | fail "x") (by decide) (by decide) (by rfl) (by rfl) ?_; k_whole))
  k_with "subscriptTail Name Slice ref ref" => (k_here; k_dflt (first | refine slice_from (by first | (k_asm) | fail "x") (by first | (k_asm) | fail "x") (by first | (walk_at "mine get") | fail "x") (IsPart.int _ _) IsPart.none (by first | (exact Int.natCast_nonneg _) | fail "x") (by first | (walk_at "mine len") | fail "x") ?_ (by with_unfolding_all rfl) (by kmk_pure) | fail "x"); walk_at "tail 13")
  k_with "binaryOp Add ref ref" => (k_here; k_dflt (refine my_add (by first | (k_asm) | fail "x") (by first | (k_asm) | fail "x") (by first | (walk_at "mine get") | fail "x") (by first | (walk_at "mine get") | fail "x") (by first | (walk_at "mine len") | fail "x") (by first | (walk_at "mine len") | fail "x") ?_); walk_at "tail 13")
  k_with "call ref" => (k_here; k_dflt (refine compared_rows (by first | (exact Wd.keeps (by assumption) (Fr.keep (by first | (k_asm) | fail "x"))) | fail "x") (by ktr_room) (by ktr_units) (by assumption) (by first | (exact Fr.lst (by first | (k_asm) | fail "x") (by assumption)) | fail "x") (by first | (exact Fr.lst (by first | (k_asm) | fail "x") (by assumption)) | fail "x") (by first | (exact Fr.lst (by first | (k_asm) | fail "x") (by assumption)) | fail "x") (by first | (exact OrdIs.base (by first | (k_asm) | fail "x") (by assumption)) | fail "x") (by first | (exact IsAll.base (by first | (k_asm) | fail "x") (by assumption)) | fail "x") (by first | (exact IsAll.base (by first | (k_asm) | fail "x") (by assumption)) | fail "x") (by assumption) (by assumption) ?_); walk_at "tail 16")
  k_with "mine hm" => (intros; first | (refine hm1 (by assumption) ?_; intros; (repeat' (first | with_reducible rfl | refine ifn (by assumption) ?_ | refine ifn (ne_t (by assumption)) ?_ | fail "x")); done) | (refine hm2 (by assumption) ?_; intros; (repeat' (first | with_reducible rfl | refine ifn (by assumption) ?_ | refine ifn (ne_t (by assumption)) ?_ | fail "x")); done) | (refine hm3 (by assumption) ?_; intros; (repeat' (first | with_reducible rfl | refine ifn (by assumption) ?_ | refine ifn (ne_t (by assumption)) ?_ | fail "x")); done) | ((repeat' (first | with_reducible rfl | refine ifn (by assumption) ?_ | refine ifn (ne_t (by assumption)) ?_ | fail "x")); done) | fail "hm")
  trivial
theorem mergeL_end {os : List Od} {as bs : List RowP} (h : as = [] ∨ bs = []) : mergeL os as bs = as ++ bs := by
  rcases h with rfl | rfl
  · rw [mergeL_nil']; rfl
  · rw [mergeL_nil, List.append_nil]
theorem pairE {P : Addr → Obj → Prop} {v : Value} {p : RowP} (h : Is P v (pairPy p)) : ∃ a o t lr n, v = .ref a ∧ P a o ∧ o.cls = .type "tuple" ∧ o.data = .seq #[.ref lr, .int p.2 t] n ∧ ∃ ul, IsL P lr ul ∧ IsAll P ul (p.1.map Cell.py) := by
  refine hideG fun G9 kG9 => ?_
  obtain ⟨ap, op, vp, np, rfl, hm9, hc9, hd9, iv⟩ := h.tupleE
  obtain ⟨v1, rr, rfl, iv1, iv⟩ := iv.consE
  obtain ⟨v2, rr, rfl, iv2, iv⟩ := iv.consE
  obtain rfl := iv.nilE
  obtain ⟨lr, ol, ul, nl, rfl, g1, g2, g3, iv1⟩ := iv1.listE
  obtain ⟨t, rfl⟩ := iv2.intE
  refine kG9 ?_
  clear kG9 G9
  exact ⟨ap, op, t, lr, np, rfl, hm9, hc9, hd9, ul, ⟨ol, nl, g1, g2, g3⟩, iv1⟩
section
variable {w : World} {dp un : Nat} {fr : Option (List Env)} {gd : Option (List Code)} {E : Value → Shared → Prop} {s : Shared} {Q : Value → Shared → Prop}
set_option maxHeartbeats 4000000 in
theorem merged {lo l1 l2 : Addr} {vs us ws : List Value} {os : List Od} {r1 r2 : List RowP}
    (W : Wd w s.heap) (hd : dp + 5 < recursionLimit) (hu : un + 250 < cLine) (hlen : os.length ≤ 3) (n1 : r1.length ≤ 3) (n2 : r2.length ≤ 3)
    (LO : s.heap.IsList lo vs.toArray) (L1 : s.heap.IsList l1 us.toArray) (L2 : s.heap.IsList l2 ws.toArray)
    (io : OrdIs w (At s.heap) vs os) (i1 : IsAll (At s.heap) us (r1.map pairPy)) (i2 : IsAll (At s.heap) ws (r2.map pairPy))
    (f1 : ∀ p ∈ r1, FitRow os p.1) (f2 : ∀ p ∈ r2, FitRow os p.1)
    (ret : ∀ a zs led h' tk', Ext s.heap h' → Fresh s.heap h' led → IsL (InL led) a zs → IsAll (At s.heap) zs ((mergeL os r1 r2).map pairPy) → Q (.ref a) { s with heap := h', toks := tk' }) :
    wpAny (model pg w) (Ar dp un fr gd) (call (.ref 78) [.ref lo, .ref l1, .ref l2]) Q E s := by
  have z1 : us.length = r1.length := by simpa using i1.length
  have z2 : ws.length = r2.length := by simpa using i2.length
  have z3 : us.length ≤ 300 := by omega
  have z4 : ws.length ≤ 300 := by omega
  k_dflt (refine' enter (binds := [("orders", .ref lo), ("one", .ref l1), ("other", .ref l2)]) W ?k6 ?k7 ?k8 ?k9 ?kB ?_ ?c2 ?c3 ?c4 ?c5; (case k6 => k_is); (case k7 => k_is); (case k8 => ktr_room); (case k9 => exact BindsTo.of_eq rfl); (case c5 => decide); (case kB => exact locs rfl); (case c2 => exact rfl); (case c3 => exact rfl); (case c4 => exact rfl); k_whole)
  intro L h₁ hL F
  have N : News s.heap L h₁ [] := News.nil
  have X := W.K
  refine Wd.elim W fun mean mg mb T => ?_
  (try dsimp only)
  (try k_fold)
  walk_at "mine steps"

  rename_i Lf g0 l1 g1 g2 g3 F2 N2
  refine my_while2 (Str.ofString "first") (Str.ofString "second") _ _ (us.length + ws.length) (fun n v u led => ∃ (f g c : Nat) (t1 t2 : Tok) (zs : List Value) (pre : List RowP), v = .int (f : Int) t1 ∧ u = .int (g : Int) t2 ∧ f ≤ us.length ∧ g ≤ ws.length ∧ n = (us.length - f) + (ws.length - g) ∧ led = [(Lf, listOf zs.toArray c)] ∧ zs.length ≤ f + g ∧ IsAll (At s.heap) zs (pre.map pairPy) ∧ mergeL os r1 r2 = pre ++ mergeL os (r1.drop f) (r2.drop g))
    (by decide) F2 N2 rfl rfl ⟨0, 0, 0, _, _, [], [], rfl, rfl, by omega, by omega, by omega, rfl, by simp, .nil, rfl⟩ ?_
  intro n v u led h' tk' F' N' hx8
  refine hideG fun G9 kG9 => ?_
  obtain ⟨f, g, c, t1, t2, zs, pre, rfl, rfl, hf, hg, rfl, rfl, hz, iz, hm⟩ := hx8
  refine kG9 ?_
  clear kG9 G9
  clear F2 N2
  have hz3 : zs.length ≤ 300 := by omega
  have hf1 : f ≤ 1000 := by omega
  have hg1 : g ≤ 1000 := by omega
  by_cases hc : f < us.length ∧ g < ws.length
  · refine hideG fun G9 kG9 => ?_
    obtain ⟨hc1, hc2⟩ := hc
    obtain ⟨p1, hp1⟩ : ∃ p, r1[f]? = some p := ⟨r1[f], List.getElem?_eq_getElem (by omega)⟩
    obtain ⟨p2, hp2⟩ : ∃ p, r2[g]? = some p := ⟨r2[g], List.getElem?_eq_getElem (by omega)⟩
    obtain ⟨v1, hv1, iv1⟩ := i1.get (i := f) (d := pairPy p1) (by simp [hp1])
    obtain ⟨v2, hv2, iv2⟩ := i2.get (i := g) (d := pairPy p2) (by simp [hp2])
    have fit1 := f1 p1 (List.mem_of_getElem? hp1)
    have fit2 := f2 p2 (List.mem_of_getElem? hp2)
    obtain ⟨a1, o1, t3, lr1, k1, rfl, q1, q2, q3, ul1, ⟨x1, y1, w1, w2, w3⟩, iu1⟩ := pairE iv1
    obtain ⟨a2, o2, t4, lr2, k2, rfl, q4, q5, q6, ul2, ⟨x2, y2, w4, w5, w6⟩, iu2⟩ := pairE iv2
    refine kG9 ?_
    clear kG9 G9
    have T1 : IsTup s.heap a1 #[.ref lr1, .int p1.2 t3] := ⟨_, q1, q2, _, q3⟩
    have T2 : IsTup s.heap a2 #[.ref lr2, .int p2.2 t4] := ⟨_, q4, q5, _, q6⟩
    have LL1 : s.heap.IsList lr1 ul1.toArray := ⟨_, w1, w2, _, w3⟩
    have LL2 : s.heap.IsList lr2 ul2.toArray := ⟨_, w4, w5, _, w6⟩
    clear w1 w2 w3 w4 w5 w6 q1 q2 q3 q4 q5 q6
    have d1 := drop_of hp1
    have d2 := drop_of hp2
    rw [d1, d2, mergeL_cons] at hm
    have hfs : (f : Int) + 1 = ((f + 1 : Nat) : Int) := by omega
    have hgs : (g : Int) + 1 = ((g + 1 : Nat) : Int) := by omega
    walk_at "mine steps"
    · rename (_ = dueRows os p1.1 p2.1) => e9
      rename News _ _ _ _ => N9
      rw [if_pos (by omega), ← d2] at hm
      rw [List.push_toArray] at N9
      refine WPost.next (by assumption) N9 (by walk_at "mine hm") ⟨_, _, _, ?_, rfl, rfl, f + 1, g, _, _, _, zs ++ [.ref a1], pre ++ [p1], congrArg (Value.int · _) hfs, rfl, by omega, hg, rfl, rfl, by simp; omega, ?_, by rw [hm, List.append_assoc]; rfl⟩
      · omega
      · rw [List.map_append]; exact iz.append (.cons iv1 .nil)
    · rename (_ = dueRows os p1.1 p2.1) => e9
      rename News _ _ _ _ => N9
      rw [if_neg (by omega), ← d1] at hm
      rw [List.push_toArray] at N9
      refine WPost.next (by assumption) N9 (by walk_at "mine hm") ⟨_, _, _, ?_, rfl, rfl, f, g + 1, _, _, _, zs ++ [.ref a2], pre ++ [p2], rfl, congrArg (Value.int · _) hgs, hf, by omega, rfl, rfl, by simp; omega, ?_, by rw [hm, List.append_assoc]; rfl⟩
      · omega
      · rw [List.map_append]; exact iz.append (.cons iv2 .nil)
  · walk_at "mine steps"
    all_goals
      (try dsimp only)
      rename News _ _ _ _ => N9
      refine ret _ _ [(_, listOf (zs ++ us.drop (f : Int).toNat ++ ws.drop (g : Int).toNat).toArray 0)] _ _ (Fr.keep (by assumption)) (fun q hq => ?_) ⟨_, _, .head _, rfl, rfl⟩ ?_
      · rw [List.mem_singleton.mp hq]; exact ⟨(N9 _ (.head _)).1, (N9 _ (.head _)).2.2⟩
      · rw [Int.toNat_natCast, Int.toNat_natCast, hm, mergeL_end (by
          by_cases h : f < us.length
          · right; exact List.drop_eq_nil_of_le (by omega)
          · left; exact List.drop_eq_nil_of_le (by omega)), ← List.append_assoc]
        simp only [List.map_append, List.map_drop]
        exact (iz.append (i1.drop f)).append (i2.drop g)
end
end

section
open PySem PySem.W PyProof.Rows PyProof.Rows.LCg
def IPost (g : Heap) (L2 x dx C : Addr) (s : Shared) (G : Addr → Obj → Prop) (fl : Flow) (s' : Shared) : Prop :=
  (match fl with | .ret v => v | _ => .none) = .none ∧ ∃ h' tk' od', s' = { s with heap := h', toks := tk' } ∧ (∃ m2, Fr g L2 h' m2) ∧ News g L2 h' [(x, instObj C dx), (dx, od')] ∧ G dx od'
theorem IPost.intro {g h' : Heap} {L2 x dx C : Addr} {s : Shared} {G : Addr → Obj → Prop} {m2 : Str → Option Value} {od' : Obj} {tk' : Nat} (F : Fr g L2 h' m2) (N : News g L2 h' [(x, instObj C dx), (dx, od')]) (gg : G dx od') :
    IPost g L2 x dx C s G .next { s with heap := h', toks := tk' } := ⟨rfl, h', tk', od', rfl, ⟨m2, F⟩, N, gg⟩
/-- making an object: the body of __init__ runs with the caller's names among the ledger's things -/
theorem enterI {w : World} {A : Around} {E : Value → Shared → Prop} {s : Shared} {Q : Value → Shared → Prop} {h₀ : Heap} {L : Addr} {m : Str → Option Value} {led : List (Addr × Obj)} {C f : Addr}
    {name qual : Str} {params : Arguments} {body : List Stmt} {scope : Scope} {dV kV doc pm cdv ct oc : Value} {an od : Option Addr} {osl : Array (Option Value)} {args : List Value} (binds : Value → List (Str × Value)) (G : Addr → Obj → Prop)
    (W : Wd w h₀) (F : Fr h₀ L s.heap m) (N : News h₀ L s.heap led)
    (hm : makesIn (Mine.K0 w.params) C = true) (hi : findIn (Mine.K0 w.params) (.ref C) "__init__" = some (some (.ref f))) (hf : isFn (Mine.K0 w.params) (.ref f) = true)
    (ho : (Mine.K0 w.params).lookup f = some ⟨oc, od, .func (fnOf name qual params body scope dV kV doc pm an cdv ct), osl⟩) (hcd : codeIn (Mine.K0 w.params) cdv qual = true)
    (hroom : (A.under (.builtin "type.__call__" ⟨.ref C :: args, []⟩)).depth < recursionLimit)
    (hbind : ∀ x s', (Mine.K0 w.params).In s'.heap → BindsTo s' (fnOf name qual params body scope dV kV doc pm an cdv ct) ⟨x :: args, []⟩ (binds x)) (hloc : ∀ x, ∀ y ∈ binds x, scope.names.lookup y.1 = some .local)
    (h : ∀ (g : Heap) (x dx L2 : Addr) h₁ tk, Wd w g → (@LT.lt Nat _ dx x) → Fr g L2 h₁ (fun y => (binds (.ref x)).reverse.lookup y) → News g L2 h₁ [(x, instObj C dx), (dx, dictOf [] 0)] →
      wpAny (model pg w) ((A.under (.builtin "type.__call__" ⟨.ref C :: args, []⟩)).deeper (envOf qual scope L2 f cdv)) (execs body (envOf qual scope L2 f cdv))
        (IPost g L2 x dx C s G) (fun _ _ => False)
        { s with heap := h₁, toks := tk })
    (ret : ∀ x dx od' h' tk', dx < x → (∀ p ∈ led, p.1 < dx) → G dx od' → Fr h₀ L h' m → News h₀ L h' ((x, instObj C dx) :: (dx, od') :: led) → Q (.ref x) { s with heap := h', toks := tk' })
    (hco : scope.isCoroutine = false) (hgen : scope.isGenerator = false) (hk : scope.kind = .function)
    (hcell : ∀ x ∈ scope.names, x.2 ≠ .cell) : wpAny (model pg w) A (call (.ref C) args) Q E s := by
  refine call_cls F W.K N hm hi hf fun x dx h' F' N' l1 l2 => ?_
  have W' : Wd w h' := W.keeps F'.keep
  refine hideG fun G9 kG9 => ?_
  obtain ⟨mean', mg', mb', T'⟩ := W'.T
  refine kG9 ?_
  clear kG9 G9
  have nx := N' (x, instObj C dx) (.head _)
  have nd := N' (dx, dictOf [] 0) (.tail _ (.head _))
  have up : ∀ (c : Addr) o, c ≠ x → c ≠ dx → h'.get? c = some o → ((h'.hide x).hide dx).get? c = some o := fun c o c1 c2 e => by
    rw [Heap.hide_ne _ c2, Heap.hide_ne _ c1]; exact e
  have gx : ((h'.hide x).hide dx).get? x = none := by
    rw [Heap.hide_ne _ (Nat.ne_of_gt l2)]; exact Heap.hide_self _ _
  have gd : ((h'.hide x).hide dx).get? dx = none := Heap.hide_self _ _
  have h0 : ∀ (c : Addr) o, h₀.get? c = some o → c ≠ x ∧ c ≠ dx := fun c o e => ⟨(fun q => by rw [q, nx.2.2] at e; cases e), (fun q => by rw [q, nd.2.2] at e; cases e)⟩
  have Wg : Wd w ((h'.hide x).hide dx) := W.keeps fun b o e => up b o (h0 b o e).1 (h0 b o e).2 (F'.keep b o e)
  refine codeAny_call_def (fd := fnOf name qual params body scope dV kV doc pm an cdv ct) (body := body) (binds := binds (.ref x)) hroom (W'.K _ _ ho) rfl T'.nolimit (codeRec_of W'.K hcd) rfl (hbind _ _ W'.K) hcell (hloc _) (fun h₁ hns hk₁ => ?_) hco hgen hk
  have F₁ : Fr ((h'.hide x).hide dx) h'.objs.size h₁ (fun y => (binds (.ref x)).reverse.lookup y) := ⟨hns, fun b o e => hk₁ b o (Heap.of_hide (Heap.of_hide e)), by rw [Heap.hide_size, Heap.hide_size]; exact Nat.le_refl _⟩
  have N₁ : News ((h'.hide x).hide dx) h'.objs.size h₁ [(x, instObj C dx), (dx, dictOf [] 0)] := fun p hp => by
    rcases List.mem_cons.mp hp with rfl | hp
    · exact ⟨hk₁ _ _ nx.1, Nat.ne_of_lt (Heap.lt_size nx.1), gx⟩
    rw [List.mem_singleton.mp hp]
    exact ⟨hk₁ _ _ nd.1, Nat.ne_of_lt (Heap.lt_size nd.1), gd⟩
  refine wpAny_mono (h _ x dx h'.objs.size h₁ _ Wg l2 F₁ N₁) (fun fl s' q => ?_) (fun _ _ q => q.elim)
  refine hideG fun G9 kG9 => ?_
  obtain ⟨hv, h2, tk', od', rfl, ⟨m2, F2⟩, N2, g⟩ := q
  refine kG9 ?_
  clear kG9 G9
  have fin : ∀ (c : Addr) o, c ≠ x → c ≠ dx → h'.get? c = some o → h2.get? c = some o := fun c o c1 c2 e => F2.keep c o (up c o c1 c2 e)
  refine ⟨hv, ret x dx od' h2 tk' l2 l1 g ⟨F'.ns.at' fun o e => fin L o (Ne.symm nx.2.1) (Ne.symm nd.2.1) e, fun b o e => fin b o (h0 b o e).1 (h0 b o e).2 (F'.keep b o e), F'.above⟩ fun p hp => ?_⟩
  rcases List.mem_cons.mp hp with rfl | hp
  · exact ⟨(N2 _ (.head _)).1, nx.2⟩
  rcases List.mem_cons.mp hp with rfl | hp
  · exact ⟨(N2 _ (.tail _ (.head _))).1, nd.2⟩
  have hlt := l1 p hp
  have hpn := N' p (.tail _ (.tail _ hp))
  exact ⟨fin _ _ (Nat.ne_of_lt (Nat.lt_trans hlt l2)) (Nat.ne_of_lt hlt) hpn.1, hpn.2⟩
section
variable {w : World} {dp un : Nat} {fr : Option (List Env)} {gd : Option (List Code)} {E : Value → Shared → Prop} {s : Shared} {Q : Value → Shared → Prop}
def OrdD (w : World) (o : Od) (od : Obj) : Prop := ∃ t1 t2 t3 n, od = dictOf [⟨PyData.keyHash w.params "is_number", .str "is_number" t1, .bool o.isNum⟩, ⟨PyData.keyHash w.params "is_descending", .str "is_descending" t2, .bool o.down⟩, ⟨PyData.keyHash w.params "upper_first", .str "upper_first" t3, wayV o.way⟩] n
set_option maxHeartbeats 4000000 in
theorem order_new {h₀ : Heap} {L : Addr} {m : Str → Option Value} {led : List (Addr × Obj)} {b1 b2 : Bool} {wy : Option Bool}
    (W : Wd w h₀) (F : Fr h₀ L s.heap m) (N : News h₀ L s.heap led) (hd : dp + 2 < recursionLimit) (hu : un + 100 < cLine)
    (ret : ∀ x dx od' h' tk', dx < x → (∀ p ∈ led, p.1 < dx) → OrdD w ⟨b1, b2, wy⟩ od' → Fr h₀ L h' m → News h₀ L h' ((x, instObj 32 dx) :: (dx, od') :: led) → Q (.ref x) { s with heap := h', toks := tk' }) :
    wpAny (model pg w) (Ar dp un fr gd) (call (.ref 32) [.bool b1, .bool b2, wayV wy]) Q E s := by
  refine' enterI (f := 29) (binds := fun x => [("self", x), ("is_number", .bool b1), ("is_descending", .bool b2), ("upper_first", wayV wy)]) (fun dx od => OrdD w ⟨b1, b2, wy⟩ od) W F N ?k1 ?k2 ?k3 ?k6 ?k7 ?k8 ?k9 ?kB ?_ ret ?c2 ?c3 ?c4 ?c5
  case k1 => k_is
  case k2 => k_is
  case k3 => k_is
  case k6 => k_is
  case k7 => k_is
  case k8 => ktr_room
  case k9 => exact fun x s' X => binds_K X rfl (by k_is) rfl rfl rfl
  case kB => exact fun x => locs rfl
  case c2 => exact rfl
  case c3 => exact rfl
  case c4 => exact rfl
  case c5 => decide
  intro g x dx L2 h₁ tk Wg l2 F₁ N₁
  have X := Wg.K
  refine hideG fun G9 kG9 => ?_
  obtain ⟨mean, mg, mb, T⟩ := Wg.T
  refine kG9 ?_
  clear kG9 G9
  (try dsimp only)
  (try k_fold)
  k_steps
  rename News _ _ _ _ => N9
  exact IPost.intro (by assumption) N9 ⟨_, _, _, _, rfl⟩
end
end

section
open PySem PySem.W PyProof.Rows
section
variable {prog : Program} {w : World} {A : Around} {E : Value → Shared → Prop} {s : Shared} {env : Env} {h₀ : Heap} {body : List Stmt} {Q : Flow → Shared → Prop}
/-- for a, b in a list of pairs: in the ground, or one of the ledger that stays -/
theorem my_list2 {a b : Str} {pa pb tp : Pos} {kk : Nat} {l : Addr} {vs : List Value} {m₀ : Str → Option Value} {news : List (Addr × Obj)} (stored : List Str) (J : Nat → (Str → Option Value) → List (Addr × Obj) → Prop) (Pv : Nat → Value → Value → Prop)
    (hh : A.handled = none) (ha : env.kindOf a = some .local) (hb : env.kindOf b = some .local) (hp : (env.scope.kind == .class || (env.scope.kind == .module && env.locals != env.globals)) = false)
    (hl : h₀.IsList l vs.toArray ∨ ∃ o, (∀ i u led, J i u led → (l, o) ∈ led) ∧ o.cls = .type "list" ∧ ∃ k, o.data = .seq vs.toArray k) (F : Fr h₀ env.locals s.heap m₀) (N : News h₀ env.locals s.heap news) (hj : J 0 m₀ news)
    (htup : ∀ i v u led (h : Heap), vs[i]? = some v → J i u led → (∀ c o, h₀.get? c = some o → h.get? c = some o) → (∀ p ∈ led, h.get? p.1 = some p.2) → ∃ T x y, v = .ref T ∧ h.IsTuple T #[x, y] ∧ Pv i x y)
    (turn : ∀ (i : Nat) x y (u : Str → Option Value) led h tk I oI, i < vs.length → Pv i x y → J i u led → (∀ p ∈ led, p.1 ≠ I) → Fr h₀ env.locals h (fun z => if z = b then some y else if z = a then some x else if stored.contains z then u z else m₀ z) → News h₀ env.locals h ((I, oI) :: led) →
      wpAny (model prog w) A (execs body env) (TPost h₀ env.locals b (a :: stored) m₀ (J (i + 1)) (I, oI) { s with heap := h, toks := tk } Q) E { s with heap := h, toks := tk })
    (done : ∀ (u : Str → Option Value) led h tk, J vs.length u led → Fr h₀ env.locals h (fun z => if z = b then u z else if z = a then u z else if stored.contains z then u z else m₀ z) → News h₀ env.locals h led → Q .next { s with heap := h, toks := tk })
    (hpass : PassesOwn (model prog w) A env E := by passes_own) :
    wpAny (model prog w) A (pyIter (.ref l)) (fun it s₂ => TurnsAt prog w A h₀ env (.Tuple [.Name a pa, .Name b pb] kk tp) body Q E it s₂) E s := by
  have hls : s.heap.IsList l vs.toArray := by
    rcases hl with hl | ⟨o, ho, hc, k, hd⟩
    · exact hl.at fun o e => F.keep l o e
    · exact ⟨o, (N _ (ho _ _ _ hj)).1, hc, k, hd⟩
  have hlt : l < s.heap.objs.size := by obtain ⟨_, e, _⟩ := hls; exact Heap.lt_size e
  have hne : l ≠ s.heap.objs.size := Nat.ne_of_lt hlt
  refine wpAny_pyIter_list hls ?_
  obtain ⟨I, hI⟩ : ∃ I, s.heap.objs.size = I := ⟨_, rfl⟩
  have W : KTurns prog w A (.Tuple [.Name a pa, .Name b pb] kk tp) s.heap.objs.size [s.heap.objs.size, l] [s.heap.objs.size] vs.toArray.size _ _ _ := KTurns.ofWalks (Walks.list hh s.heap.objs.size l hne vs.toArray) fun i v s Q E st q => letGo_listiter st.1 q
  have hI₀ : h₀.get? s.heap.objs.size = none := next_is_new F
  have hLf : env.locals ∉ [s.heap.objs.size, l] := by
    intro hm
    rcases List.mem_cons.mp hm with e | hm
    · exact absurd F.ns.lt (e ▸ Nat.lt_irrefl _)
    · rcases hl with ⟨o, e, _⟩ | ⟨o, ho, _⟩
      · exact absurd (Nat.lt_of_lt_of_le (Heap.lt_size e) F.above) ((List.mem_singleton.mp hm) ▸ Nat.lt_irrefl _)
      · exact (N _ (ho _ _ _ hj)).2.1 (List.mem_singleton.mp hm).symm
  let J' : Nat → (Str → Option Value) → List (Addr × Obj) → Prop := fun i m₁ news₁ => (∀ y, y ≠ b → (a :: stored).contains y = false → m₁ y = m₀ y) ∧ J i m₁ news₁
  refine ⟨s.heap.objs.size, _, _, _, _, _, _, m₀, news, J', rfl, W, hLf, ?_, ?_, ⟨⟨_, Heap.get?_push_size _ rfl, rfl, rfl⟩, hls.at fun o e => Heap.get?_push_of_some _ e⟩, F.push _, fun p hp => ⟨Heap.get?_push_of_some _ (N p hp).1, (N p hp).2⟩, ⟨fun _ _ _ => rfl, hj⟩, ?_, ?_⟩
  · intro c hc
    rw [List.mem_singleton.mp hc]; exact hI₀
  · intro p hp hc
    exact absurd (Heap.lt_size (N p hp).1) ((List.mem_singleton.mp hc) ▸ Nat.lt_irrefl _)
  · rintro i v m₁ news₁ h₁ tk₁ own hin hP ⟨hm, hJ⟩ hoff h5 _ h7 hs F₁ N₁
    have hv : vs[i]? = some v := by
      have hP' : vs.toArray[i]? = some v := hP
      simpa using hP'
    have N₁r : ∀ p ∈ news₁, h₁.get? p.1 = some p.2 := fun p hp => (N₁ p (List.mem_append_right _ hp)).1
    obtain ⟨T, x, y, rfl, hT, hPv⟩ := htup i v m₁ news₁ h₁ hv hJ F₁.keep N₁r
    refine kcp_assign hh hT ha hb hp F₁.ns fun h₂ tk₂ hn₂ hk₂ => ?_
    have F₂ : Fr h₀ env.locals h₂ (fun z => if z = b then some y else if z = a then some x else if stored.contains z then m₁ z else m₀ z) := by
      refine frEq ⟨hn₂, fun c o e => hk₂ c o ?_ (F₁.keep c o e), F₁.above⟩ fun z => ?_
      · intro q
        subst q
        exact absurd (Nat.lt_of_lt_of_le (Heap.lt_size e) F₁.above) (Nat.lt_irrefl _)
      · by_cases h1 : z = b
        · simp [h1]
        · by_cases h2 : z = a
          · simp [h1, h2]
          · simp only [if_neg h1, if_neg h2]
            cases h3 : stored.contains z with
            | true => simp
            | false => simp only [Bool.false_eq_true, if_false]; exact hm z h1 (by simp [h2] at h3 ⊢; exact h3)
    obtain ⟨oI, hoI, _⟩ := hs.1
    have hIo : (s.heap.objs.size, oI) ∈ own := h7 _ List.mem_cons_self hI₀ oI hoI
    have N₂ : News h₀ env.locals h₂ (own ++ news₁) := fun p hp => ⟨hk₂ _ _ (N₁ p hp).2.1 (N₁ p hp).1, (N₁ p hp).2⟩
    have hlo : ∀ led, (∀ i u, J i u led → (∃ o, (l, o) ∈ led) ∨ ∃ o, h₀.get? l = some o) := fun led i u j => by
      rcases hl with ⟨o, e, _⟩ | ⟨o, ho, _⟩
      · exact .inr ⟨o, e⟩
      · exact .inl ⟨o, ho _ _ _ j⟩
    have own1 : ∀ (led : List (Addr × Obj)), (∀ o, (∀ i u led, J i u led → (l, o) ∈ led) → (l, o) ∈ led) → ∀ p ∈ own, p ∈ (s.heap.objs.size, oI) :: led := fun led hll p hp => by
      have q := N₁ p (List.mem_append.mpr (.inl hp))
      rcases List.mem_cons.mp (h5 p hp) with e | e
      · have : p = (s.heap.objs.size, oI) := by
          have h4 := q.1; rw [e, hoI] at h4
          exact Prod.ext e (Option.some.inj h4).symm
        rw [this]; exact .head _
      · have e := List.mem_singleton.mp e
        rcases hl with ⟨o, eo, _⟩ | ⟨o, ho, _⟩
        · rw [← e, q.2.2] at eo; cases eo
        · have h4 := (N₁ _ (List.mem_append_right _ (ho i m₁ news₁ hJ))).1
          have h6 := q.1
          rw [e, h4] at h6
          have : p = (l, o) := Prod.ext e (Option.some.inj h6).symm
          rw [this]; exact .tail _ (hll o ho)
    have off1 : ∀ p ∈ news₁, p.1 ≠ s.heap.objs.size := fun p hp q => hoff p hp (by rw [q]; exact List.mem_singleton.mpr rfl)
    have N₃ : News h₀ env.locals h₂ ((s.heap.objs.size, oI) :: news₁) := fun p hp => by
      rcases List.mem_cons.mp hp with rfl | hp
      · exact N₂ _ (List.mem_append_left _ hIo)
      · exact N₂ _ (List.mem_append_right _ hp)
    have hi : i < vs.length := by simpa using hin
    refine wpAny_mono (turn i x y m₁ news₁ h₂ tk₂ s.heap.objs.size oI hi hPv hJ off1 F₂ N₃) (fun f s₂ p => ?_) fun _ _ e => e
    have fin : (∃ h' tk m' led', s₂ = { ({ s with heap := h₂, toks := tk₂ } : Shared) with heap := h', toks := tk } ∧ Fr h₀ env.locals h' m' ∧ News h₀ env.locals h' ((s.heap.objs.size, oI) :: led') ∧ (∀ p ∈ led', p.1 ≠ s.heap.objs.size) ∧ (∀ y, y ≠ b → (a :: stored).contains y = false → m' y = m₀ y) ∧ J (i + 1) m' led') →
        LoopStepU h₀ env.locals [s.heap.objs.size] own (J' (i + 1)) { s with heap := h₁, toks := tk₁ } .next s₂ := by
      rintro ⟨h', tk, m', led', e, F', N', off', hm', hj'⟩
      refine ⟨rfl, h', tk, m', led', e, F', fun p hp => ?_, fun p hp q => off' p hp (List.mem_singleton.mp q), hm', hj'⟩
      rcases List.mem_append.mp hp with hp | hp
      · exact N' p (own1 led' (fun o hb => hb _ _ _ hj') p hp)
      · exact N' p (.tail _ hp)
    cases f with
    | ret v => exact .ret p
    | brk => exact .brk p
    | next => exact .next (fin p)
    | cont => exact .cont (fin p)
  · rintro h' tk m' news' F' N' _ ⟨hm, hJ⟩
    have hJ' : J vs.length m' news' := by simpa using hJ
    refine done m' news' h' tk hJ' (frEq F' fun z => ?_) N'
    by_cases h1 : z = b
    · simp [h1]
    · by_cases h2 : z = a
      · simp [h1, h2]
      · simp only [if_neg h1, if_neg h2]
        cases h3 : stored.contains z with
        | true => simp
        | false => simp only [Bool.false_eq_true, if_false]; exact hm z h1 (by simp [h2] at h3 ⊢; exact h3)
/-- a for over a list display -/
theorem my_For_list {target : PySem.Expr} {elts : List PySem.Expr} {lp pos : Pos}
    (h : wpAny (model prog w) A (eval (.List elts lp) env) (fun xv s₁ => wpAny (model prog w) A (pyIter xv) (fun it s₂ => TurnsAt prog w A h₀ env target body Q E it s₂) E s₁) E s)
    {m : Str → Option Value} (F : Fr h₀ env.locals s.heap m) (hE : PassesOwn (model prog w) A env E := by passes_own) :
    wpAny (model prog w) A (exec (.For target (.List elts lp) body [] pos) env) Q E s := For_turns F h (fun _ => rfl) hE
/-- a for over a name -/
theorem my_For_name {target : PySem.Expr} {x : Str} {lp pos : Pos}
    (h : wpAny (model prog w) A (eval (.Name x lp) env) (fun xv s₁ => wpAny (model prog w) A (pyIter xv) (fun it s₂ => TurnsAt prog w A h₀ env target body Q E it s₂) E s₁) E s)
    {m : Str → Option Value} (F : Fr h₀ env.locals s.heap m) (hE : PassesOwn (model prog w) A env E := by passes_own) :
    wpAny (model prog w) A (exec (.For target (.Name x lp) body [] pos) env) Q E s := For_turns F h (fun _ => rfl) hE
end
end

section
open PySem PySem.W PyProof.Rows PyProof.Rows.LCg
section
variable {w : World} {dp un : Nat} {fr : Option (List Env)} {gd : Option (List Code)} {E : Value → Shared → Prop} {s : Shared} {Q : Value → Shared → Prop}
theorem is_od {h : Heap} {t : Addr} {o : Od} (T : IsTup h t #[.bool o.isNum, .bool o.down, wayV o.way]) : Is (At h) (.ref t) o.py := by
  obtain ⟨ob, h1, h2, n, h3⟩ := T
  have hw : Is (At h) (wayV o.way) (wayD o.way) := by
    cases o.way with
    | none => exact .none
    | some b => exact .bool b
  exact .tuple (vs := [.bool o.isNum, .bool o.down, wayV o.way]) h1 h2 h3 (.cons (.bool _) (.cons (.bool _) (.cons hw .nil)))
theorem due_num {x1 y1 x2 y2 : Int} : due ⟨true, false, none⟩ (.num x1 y1) (.num x2 y2) = sgn (rank x1 y1) (rank x2 y2) := cmpP_one _ _
theorem law_dueN {t : Addr} {v1 v2 : Value} {x1 y1 x2 y2 : Int}
    (W : Wd w s.heap) (hd : dp + 3 < recursionLimit) (hu : un + 150 < cLine)
    (T : IsTup s.heap t #[.bool true, .bool false, .none]) (i1 : Is (At s.heap) v1 (.tuple [.int x1, .int y1])) (i2 : Is (At s.heap) v2 (.tuple [.int x2, .int y2])) (n1 : (x1, y1) ∈ nums) (n2 : (x2, y2) ∈ nums)
    (ret : ∀ r t h' tk', r = sgn (rank x1 y1) (rank x2 y2) → Ext s.heap h' → Q (.int r t) { s with heap := h', toks := tk' }) :
    wpAny (model pg w) (Ar dp un fr gd) (call (.ref 137) [.ref t, v1, v2]) Q E s :=
  law_due (o := ⟨true, false, none⟩) (c1 := .num x1 y1) (c2 := .num x2 y2) W hd hu (is_od (o := ⟨true, false, none⟩) T) i1 i2 (fit_num n1) (fit_num n2) fun r t h' tk' e k => ret r t h' tk' (e.trans due_num) k
theorem law_dueT {t : Addr} {b2 : Bool} {wy : Option Bool} {z1 z2 : Str} {t1 t2 : Tok}
    (W : Wd w s.heap) (hd : dp + 3 < recursionLimit) (hu : un + 150 < cLine)
    (T : IsTup s.heap t #[.bool false, .bool b2, wayV wy]) (n1 : TxtOk z1) (n2 : TxtOk z2)
    (ret : ∀ r t h' tk', r = due ⟨false, b2, wy⟩ (.txt z1) (.txt z2) → Ext s.heap h' → Q (.int r t) { s with heap := h', toks := tk' }) :
    wpAny (model pg w) (Ar dp un fr gd) (call (.ref 137) [.ref t, .str z1 t1, .str z2 t2]) Q E s :=
  law_due (o := ⟨false, b2, wy⟩) (c1 := .txt z1) (c2 := .txt z2) W hd hu (is_od (o := ⟨false, b2, wy⟩) T) (.str _ _) (.str _ _) (fit_txt n1) (fit_txt n2) ret
theorem cmp_txtD {wy : Option Bool} {z1 z2 : Str} {t1 t2 : Tok}
    (W : Wd w s.heap) (hd : dp + 2 < recursionLimit) (hu : un + 100 < cLine) (n1 : TxtOk z1) (n2 : TxtOk z2)
    (ret : ∀ r t h' tk', r = due ⟨false, false, wy⟩ (.txt z1) (.txt z2) → Ext s.heap h' → Q (.int r t) { s with heap := h', toks := tk' }) :
    wpAny (model pg w) (Ar dp un fr gd) (call (.ref 57) [.str z1 t1, .str z2 t2, wayV wy]) Q E s :=
  cmp_txt W hd hu n1.1 n2.1 fun r t h' tk' e k => ret r t h' tk' (e.trans (cmpTxt_due0 (o := ⟨false, false, wy⟩) n1 n2)) k
theorem comparedT {x : Addr} {b2 : Bool} {wy : Option Bool} {z1 z2 : Str} {t1 t2 : Tok}
    (W : Wd w s.heap) (hd : dp + 3 < recursionLimit) (hu : un + 150 < cLine) (io : OrdI w (At s.heap) (.ref x) ⟨false, b2, wy⟩) (n1 : TxtOk z1) (n2 : TxtOk z2)
    (ret : ∀ r t h' tk', r = due ⟨false, b2, wy⟩ (.txt z1) (.txt z2) → Ext s.heap h' → Q (.int r t) { s with heap := h', toks := tk' }) :
    wpAny (model pg w) (Ar dp un fr gd) (call (.ref 64) [.ref x, .str z1 t1, .str z2 t2]) Q E s :=
  compared (c1 := .txt z1) (c2 := .txt z2) W hd hu io (.str _ _) (.str _ _) (fit_txt n1) (fit_txt n2) ret
end
theorem ordI_news {w : World} {h₀ h : Heap} {L x dx : Addr} {o : Od} {od : Obj} {led : List (Addr × Obj)} (N : News h₀ L h led) (h1 : (x, instObj 32 dx) ∈ led) (h2 : (dx, od) ∈ led) (g : OrdD w o od) : OrdI w (At h) (.ref x) o := by
  obtain ⟨t1, t2, t3, n, rfl⟩ := g
  exact ⟨x, dx, t1, t2, t3, n, rfl, (N _ h1).1, (N _ h2).1⟩
theorem way_of {v : Value} (h : v ∈ [Value.none, Value.bool true, Value.bool false]) : ∃ wy, v = wayV wy := by
  simp only [List.mem_cons, List.not_mem_nil, or_false] at h
  rcases h with rfl | rfl | rfl
  · exact ⟨none, rfl⟩
  · exact ⟨some true, rfl⟩
  · exact ⟨some false, rfl⟩
abbrev tup2 (a b : Int) (t u : Tok) : Obj := { cls := .type "tuple", data := .seq #[.int a t, .int b u] }
def PairV (LL : List (Addr × Obj)) (v : Value) : Prop := ∃ T o n, ∃ a b : Nat, ∃ ta tb, v = .ref T ∧ (T, o) ∈ LL ∧ o.cls = .type "tuple" ∧ o.data = .seq #[.int (a : Int) ta, .int (b : Int) tb] n ∧ a < 3 ∧ b < 3
theorem pairs_open {h₀ h : Heap} {L l A1 A2 A3 A4 A5 : Addr} {t1 t2 t3 t4 t5 t6 t7 t8 t9 t0 : Tok} {rest : List (Addr × Obj)}
    (N : News h₀ L h ((l, PySem.W.listOf #[.ref A1, .ref A2, .ref A3, .ref A4, .ref A5] 0) :: (A5, tup2 0 0 t9 t0) :: (A4, tup2 1 0 t7 t8) :: (A3, tup2 2 0 t5 t6) :: (A2, tup2 1 2 t3 t4) :: (A1, tup2 0 1 t1 t2) :: rest)) :
    ∃ LL vs, News h₀ L h LL ∧ (∀ p ∈ rest, p ∈ LL) ∧ (l, PySem.W.listOf (List.toArray vs) 0) ∈ LL ∧ ∀ v ∈ vs, PairV LL v := by
  refine ⟨_, [.ref A1, .ref A2, .ref A3, .ref A4, .ref A5], N, fun p hp => by simp [hp], .head _, fun v hv => ?_⟩
  simp only [List.mem_cons, List.not_mem_nil, or_false] at hv
  rcases hv with rfl | rfl | rfl | rfl | rfl
  · exact ⟨_, tup2 0 1 t1 t2, _, 0, 1, _, _, rfl, by simp, rfl, rfl, by decide, by decide⟩
  · exact ⟨_, tup2 1 2 t3 t4, _, 1, 2, _, _, rfl, by simp, rfl, rfl, by decide, by decide⟩
  · exact ⟨_, tup2 2 0 t5 t6, _, 2, 0, _, _, rfl, by simp, rfl, rfl, by decide, by decide⟩
  · exact ⟨_, tup2 1 0 t7 t8, _, 1, 0, _, _, rfl, by simp, rfl, rfl, by decide, by decide⟩
  · exact ⟨_, tup2 0 0 t9 t0, _, 0, 0, _, _, rfl, by simp, rfl, rfl, by decide, by decide⟩
end

local macro_rules | `(tactic| walk_at "tail 17") => `(tactic| (intro x' dx' od' h' tk' l2' l1' g' F' N'; k_sweep))
section
open PySem PySem.W PyProof.Rows PyProof.Rows.LCg
theorem led4 {h₀ h : Heap} {L D D2 c src : Addr} {oc : Obj} {ys zs : List Value} {x y : Int} {t u : Tok} {n : Nat} {tl led : List (Addr × Obj)} (N : News h₀ L h led) (h1 : (D, lst ys) ∈ led) (h2 : (D2, lst zs) ∈ led) (h3 : (c, oc) ∈ led) (h4 : (src, srcO x t y u n) ∈ led) (h5 : ∀ p ∈ tl, p ∈ led) :
    News h₀ L h ((D, lst ys) :: (D2, lst zs) :: (c, oc) :: (src, srcO x t y u n) :: tl) := fun p hp => by
  simp only [List.mem_cons] at hp
  rcases hp with rfl | rfl | rfl | rfl | hp
  · exact N _ h1
  · exact N _ h2
  · exact N _ h3
  · exact N _ h4
  · exact N _ (h5 p hp)
theorem lines_W17_1 : True := by
  k_with_none
  k_with "eval Call" => k_dflt (refine Call_ ?_)
  k_with "mine steps" => (repeat' (first | (k_unfold; (try dsimp only)) | ((fail_if_success (with_reducible show wpAny _ _ (PySem.pyIter _) _ _ _)); (fail_if_success (with_reducible show wpAny _ _ (PySem.exec (PySem.Stmt.For _ _ _ _ _) _) _ _ _)); first | walk1 | (dsimp only; walk1)) | fail "no step"))
  k_with "mine mem" => (first | exact List.Mem.head _ | (refine List.Mem.tail _ ?_; walk_at "mine mem") | (refine List.mem_append_right _ ?_; walk_at "mine mem") | fail "x")
  k_with "mine ne" => (first | assumption | exact Ne.symm (by assumption) | exact ne_of_all (by assumption) (by first | (walk_at "mine mem") | fail "x") | (refine two_apart (by assumption) (by first | (walk_at "mine mem") | fail "x") (o' := PySem.W.listOf #[.int _ _, .int _ _] _) (by first | (walk_at "mine mem") | fail "x") (by first | (intro e; simp [PySem.W.listOf] at e; done) | fail "x")) | fail "x")
  k_with "mine pick" => (first | exact Pick.last | (refine Pick.skip (by first | (walk_at "mine ne") | fail "x") (by first | (walk_at "mine pick") | fail "x")) | exact Pick.here (by assumption) | fail "x")
  k_with "mine pickt" => (first | exact PickT.last | exact PickT.here (by assumption) | (refine PickT.skip (by first | (walk_at "mine ne") | fail "x") (by first | (walk_at "mine pickt") | fail "x")) | fail "x")
  k_with "mine src" => exact src_get (by assumption) (by first | (walk_at "mine mem") | fail "x")
  k_with "mine list" => (first | exact list_hid₀ (by first | (k_asm) | fail "x") (by assumption) | exact list_hid (by assumption) (by first | (walk_at "mine mem") | fail "x") (by first | (walk_at "mine ne") | fail "x") | fail "x")
  k_with "mine get" => (first | assumption | exact Fr.lst (by first | (k_asm) | fail "x") (by assumption) | exact News.isList (by first | (k_asm) | fail "x") (by first | (walk_at "mine mem") | fail "x") | exact lst_get (by first | (k_asm) | fail "x") (by first | (walk_at "mine mem") | fail "x") | fail "x")
  k_with "mine len" => (first | assumption | (simp only [List.length_take, List.length_drop, List.length_append, List.length_cons, List.length_nil]; omega) | fail "x")
  k_with "call builtin:len" => (k_dflt (refine len_vs (by first | (walk_at "mine get") | fail "x") (by first | (exact rfl) | fail "x") (by first | (walk_at "mine len") | fail "x") ?_; k_whole); walk_at "tail 2")
  k_with "call ref" => (k_here; k_dflt (refine law_take (by first | (exact Wd.hid (by assumption) (by first | (k_asm) | fail "x")) | fail "x") (by ktr_room) (by ktr_units) (by first | (walk_at "mine src") | fail "x") (by omega) (by omega) ?_); walk_at "tail 8")
  k_with "call ref" => (k_here; k_dflt (refine law_text (by first | (exact Wd.hid (by assumption) (by first | (k_asm) | fail "x")) | fail "x") (by ktr_room) (by ktr_units) (by first | (walk_at "mine src") | fail "x") ?_); walk_at "tail 11")
  k_with "call ref" => (k_here; k_dflt (refine law_number (by first | (exact Wd.hid (by assumption) (by first | (k_asm) | fail "x")) | fail "x") (by ktr_room) (by ktr_units) (by first | (walk_at "mine src") | fail "x") ?_); walk_at "tail 12")
  k_with "call ref" => (k_here; k_dflt (refine law_one (by first | (exact Wd.hid (by assumption) (by first | (k_asm) | fail "x")) | fail "x") (by ktr_room) (by ktr_units) (by first | (walk_at "mine src") | fail "x") (by first | (walk_at "mine list") | fail "x") (by first | (exact Nat.le_of_ble_eq_true rfl) | fail "x") (by first | (exact Nat.le_of_ble_eq_true rfl) | fail "x") ?_); walk_at "tail 9")
  k_with "eval ListComp" => k_dflt (refine my_ListComp (by assumption) (by rfl) (by decide) (by rfl) (by decide) (by rfl) ?_)
  k_with "mine memL" => (first | assumption | (refine List.Mem.tail _ ?_; walk_at "mine memL") | exact List.Mem.head _ | fail "x")
  k_with "mine subL" => (intro p hp; (repeat' (first | exact hp | apply List.Mem.tail)); done)
  k_with "subscriptTail Name Name ref int" => (k_dflt (refine item_vs (by first | (exact News.isList (by first | (k_asm) | fail "x") (by first | (walk_at "mine memL") | fail "x")) | fail "x") (by first | (exact rfl) | fail "x") (by assumption) (by assumption) ?_; k_whole))
  k_with "call ref" => (k_here; k_dflt (refine sign_str (by first | (exact Wd.keeps (by assumption) (Fr.keep (by k_asm))) | fail "x") (by ktr_room) (by ktr_units)  ?_; k_whole); walk_at "tail 16")
  k_with "call ref" => (k_here; k_dflt (refine lsign_str (by first | (exact Wd.keeps (by assumption) (Fr.keep (by k_asm))) | fail "x") (by ktr_room) (by ktr_units)  ?_; k_whole); walk_at "tail 16")
  k_with "call ref" => (k_here; k_dflt (refine cmp_num (by first | (exact Wd.keeps (by assumption) (Fr.keep (by k_asm))) | fail "x") (by ktr_room) (by ktr_units) (by first | (exact is_news (by first | (k_asm) | fail "x") (by assumption) (by first | (walk_at "mine subL") | fail "x")) | fail "x") (by first | (exact is_news (by first | (k_asm) | fail "x") (by assumption) (by first | (walk_at "mine subL") | fail "x")) | fail "x") (by assumption) (by assumption) ?_; k_whole); walk_at "tail 16")
  k_with "call ref" => (k_here; k_dflt (refine law_dueN (by first | (exact Wd.keeps (by assumption) (Fr.keep (by k_asm))) | fail "x") (by ktr_room) (by ktr_units) (by first | (is_tup) | fail "x") (by first | (exact is_news (by first | (k_asm) | fail "x") (by assumption) (by first | (walk_at "mine subL") | fail "x")) | fail "x") (by first | (exact is_news (by first | (k_asm) | fail "x") (by assumption) (by first | (walk_at "mine subL") | fail "x")) | fail "x") (by assumption) (by assumption) ?_; k_whole); walk_at "tail 16")
  k_with "call ref" => (k_here; k_dflt (refine cmp_txtD (by first | (exact Wd.keeps (by assumption) (Fr.keep (by k_asm))) | fail "x") (by ktr_room) (by ktr_units) (by assumption) (by assumption) ?_; k_whole); walk_at "tail 16")
  k_with "call ref" => (k_here; k_dflt (refine law_dueT (by first | (exact Wd.keeps (by assumption) (Fr.keep (by k_asm))) | fail "x") (by ktr_room) (by ktr_units) (by first | (is_tup) | fail "x") (by assumption) (by assumption) ?_; k_whole); walk_at "tail 16")
  k_with "call ref" => (k_here; k_dflt (refine comparedT (by first | (exact Wd.keeps (by assumption) (Fr.keep (by k_asm))) | fail "x") (by ktr_room) (by ktr_units) (by first | (exact ordI_news (by first | (k_asm) | fail "x") (by first | (walk_at "mine memL") | fail "x") (by first | (walk_at "mine memL") | fail "x") (by assumption)) | fail "x") (by assumption) (by assumption) ?_; k_whole); walk_at "tail 16")
  k_with "call ref" => (k_here; k_dflt (refine order_new (by assumption) (by first | (k_asm) | fail "x") (by first | (k_asm) | fail "x") (by ktr_room) (by ktr_units) ?_); walk_at "tail 17")
  k_with "mine hm" => (intros; first | (refine hm1 (by assumption) ?_; intros; (repeat' (first | with_reducible rfl | refine ifn (by assumption) ?_ | refine ifn (ne_t (by assumption)) ?_ | fail "x")); done) | (refine hm2 (by assumption) ?_; intros; (repeat' (first | with_reducible rfl | refine ifn (by assumption) ?_ | refine ifn (ne_t (by assumption)) ?_ | fail "x")); done) | (refine hm3 (by assumption) ?_; intros; (repeat' (first | with_reducible rfl | refine ifn (by assumption) ?_ | refine ifn (ne_t (by assumption)) ?_ | fail "x")); done) | ((repeat' (first | with_reducible rfl | refine ifn (by assumption) ?_ | refine ifn (ne_t (by assumption)) ?_ | fail "x")); done) | fail "hm")
  trivial
theorem fr_stored1 {h₀ h : Heap} {L : Addr} {a b c : Str} {x y : Value} {u m₀ : Str → Option Value} (F : Fr h₀ L h (fun z => if z = b then some y else if z = a then some x else if [c].contains z then u z else m₀ z)) :
    Fr h₀ L h (fun z => if z = b then some y else if z = a then some x else if z = c then u c else m₀ z) := frEq F fun z => by
  by_cases e : z = c
  · subst e; simp
  · simp [e]
section
variable {w : World} {dp un : Nat} {fr : Option (List Env)} {gd : Option (List Code)} {E : Value → Shared → Prop} {s : Shared} {Q : Value → Shared → Prop}
def NumC (c : Cell) : Prop := ∃ p q, c = .num p q ∧ (p, q) ∈ nums
set_option maxHeartbeats 4000000 in
theorem law_pairs_right {src : Addr} {x y : Int} {t u : Tok} {n : Nat}
    (W : Wd w (s.heap.hide src)) (hd : dp + 7 < recursionLimit) (hu : un + 400 < cLine) (hs : s.heap.get? src = some (srcO x t y u n))
    (ret : ∀ x' tx y' ty h' tk', KeepBut src s.heap h' → h'.get? src = some (srcO x' tx y' ty n) → Q (.bool true) { s with heap := h', toks := tk' }) :
    wpAny (model pg w) (Ar dp un fr gd) (call (.ref 147) [.ref src]) Q E s := by
  k_dflt (refine' enterSC (binds := [("source", .ref src)]) W hs ?k6 ?k7 ?k8 ?k9 ?kB ?kD ?_ ?c2 ?c3 ?c4; (case k6 => k_is); (case k7 => k_is); (case k8 => ktr_room); (case k9 => exact BindsTo.of_eq rfl); (case kB => exact rfl); (case kD => decide +kernel); (case c2 => exact rfl); (case c3 => exact rfl); (case c4 => exact rfl); k_whole)
  intro L h₁ tk₁ cells₁ hL F N Y₁ off₁
  have X := W.K
  refine Wd.elim W fun mean mg mb T => ?_
  k_cells Y₁
  (try simp only [List.cons_append, List.nil_append] at N)
  have off₂ : L + 1 ≠ src := off₁ _ (List.Mem.head _)
  clear off₁
  (try dsimp only)
  (try k_fold)
  rename_i oc dc
  walk_at "mine steps"
  rename IsRange _ _ _ _ _ _ _ _ => R'
  refine comp_range (fun i ys nw => ∃ (tl : List (Addr × Obj)) (cs : List Cell) (x' : Int) (tx : Tok) (y' : Int) (ty : Tok), nw = (L + 1, oc) :: (src, srcO x' tx y' ty n) :: tl ∧ (∀ p ∈ tl, p.1 ≠ src) ∧ ys.length = i ∧ IsAll (InL tl) ys (cs.map Cell.py) ∧ ∀ c ∈ cs, NumC c) rfl (by assumption) (by assumption) R' (by decide) (by decide)
    ⟨[], [], _, _, _, _, rfl, (fun _ h => nomatch h), rfl, .nil, (fun _ h => nomatch h)⟩ ?_ ?_
  · intro s' ys nw hx3 hx4 D h tk F' N' o1
    refine hideG fun G9 kG9 => ?_
    obtain ⟨h', rfl⟩ := hx3
    obtain ⟨tl, cs, x2, tx2, y2, ty2, rfl, offs, hl, hI, hcs⟩ := hx4
    refine kG9 ?_
    clear kG9 G9
    clear R'
    walk_at "mine steps"
    rename IsRange _ _ _ _ _ _ _ _ => R'
    refine comp_range (fun i zs nw => (∃ (x' : Int) (tx : Tok) (y' : Int) (ty : Tok), nw = (D, lst ys) :: (L + 1, oc) :: (src, srcO x' tx y' ty n) :: tl) ∧ zs.length = i ∧ ∀ v ∈ zs, ∃ z t, v = .str z t ∧ TxtOk z) rfl (by assumption) (by assumption) R' (by decide) (by decide)
      ⟨⟨_, _, _, _, rfl⟩, rfl, (fun _ h => nomatch h)⟩ ?_ ?_
    · intro s' zs nw hx3 hx4 D2 h tk F' N' o2
      refine hideG fun G9 kG9 => ?_
      obtain ⟨h', rfl⟩ := hx3
      obtain ⟨⟨x3, tx3, y3, ty3, rfl⟩, hl2, hzs⟩ := hx4
      refine kG9 ?_
      clear kG9 G9
      clear R'
      have s1 : src ≠ D := o1.2.1
      have s2 : src ≠ D2 := o2.2.2.1
      walk_at "mine steps"
      rename News _ _ _ _ => N8
      have N7 := led4 N8 (D := D) (ys := ys) (by walk_at "mine mem") (D2 := D2) (zs := zs) (by walk_at "mine mem") (c := L + 1) (oc := oc) (by walk_at "mine mem") (src := src) (by walk_at "mine mem") (tl := tl) (by intro p hp; repeat' (first | exact hp | apply List.Mem.tail))
      rename _ ∈ [Value.none, Value.bool true, Value.bool false] => hv9
      obtain ⟨wy, rfl⟩ := way_of hv9
      clear N8 hv9
      rename Fr _ _ _ _ => F7
      refine' my_For_list ?hh ?F ?hE
      case hE => exact PySem.PassesOwn.never
      case F => exact F7
      walk_at "mine steps"
      rename Fr _ _ _ _ => F8
      rename News _ _ _ _ => N8
      refine hideG fun G9 kG9 => ?_
      obtain ⟨LL, vs, N9, hsub, hml, hpv⟩ := pairs_open N8
      refine kG9 ?_
      clear kG9 G9
      have mD : (D, lst ys) ∈ LL := hsub _ (.head _)
      have mD2 : (D2, lst zs) ∈ LL := hsub _ (.tail _ (.head _))
      have mS := hsub _ (.tail _ (.tail _ (.tail _ (.head _))))
      have hI' : IsAll (InL LL) ys (cs.map Cell.py) := hI.mono fun _ _ q => hsub _ (.tail _ (.tail _ (.tail _ (.tail _ q))))
      have hl9 : cs.length = 3 := by have := hI.length; simp only [List.length_map] at this; omega
      have hl8 : zs.length = 3 := hl2
      clear N8 hsub hI hl hl2 offs o1 o2 s1 s2
      refine my_list2 (vs := vs) [Str.ofString "order"] (fun i u led => LL = led) (fun i x y => ∃ a b : Nat, ∃ ta tb, x = .int (a : Int) ta ∧ y = .int (b : Int) tb ∧ a < 3 ∧ b < 3) rfl rfl rfl rfl (.inr ⟨PySem.W.listOf vs.toArray 0, ?_, rfl, 0, rfl⟩) (by assumption) (by assumption) rfl ?_ ?_ ?_
      · intro i u led hj
        rw [← hj]; exact hml
      · rintro i v u led h' hv rfl k1 k2
        refine hideG fun G9 kG9 => ?_
        obtain ⟨T, o, nn, a, b, ta, tb, rfl, hm, hc, hd, ha, hb⟩ := hpv v (List.mem_of_getElem? hv)
        refine kG9 ?_
        clear kG9 G9
        exact ⟨T, _, _, rfl, ⟨o, k2 _ hm, hc, nn, hd⟩, a, b, ta, tb, rfl, rfl, ha, hb⟩
      · intro i xv yv u led h' tk I oI hi hx10 hx11 off F' N'
        refine hideG fun G9 kG9 => ?_
        obtain ⟨a, b, ta, tb, rfl, rfl, ha, hb⟩ := hx10
        obtain rfl := hx11
        have F2 : Fr (s.heap.hide src) L h' _ := fr_stored1 F'
        have N2 : News (s.heap.hide src) L h' ((I, oI) :: LL) := N'
        clear F' N' N9 F8 hml hpv
        obtain ⟨va, hza⟩ : ∃ v, zs[a]? = some v := ⟨_, List.getElem?_eq_getElem (by omega)⟩
        obtain ⟨vb, hzb⟩ : ∃ v, zs[b]? = some v := ⟨_, List.getElem?_eq_getElem (by omega)⟩
        obtain ⟨z1, t1, rfl, ok1⟩ := hzs va (List.mem_of_getElem? hza)
        obtain ⟨z2, t2, rfl, ok2⟩ := hzs vb (List.mem_of_getElem? hzb)
        obtain ⟨c1, hc1⟩ : ∃ c, cs[a]? = some c := ⟨_, List.getElem?_eq_getElem (by omega)⟩
        obtain ⟨c2, hc2⟩ : ∃ c, cs[b]? = some c := ⟨_, List.getElem?_eq_getElem (by omega)⟩
        obtain ⟨na, hya, ia⟩ := hI'.getC hc1
        obtain ⟨nb, hyb, ib⟩ := hI'.getC hc2
        obtain ⟨p1, q1, rfl, n1⟩ := hcs c1 (List.mem_of_getElem? hc1)
        obtain ⟨p2, q2, rfl, n2⟩ := hcs c2 (List.mem_of_getElem? hc2)
        dsimp only [Cell.py] at ia ib
        obtain ⟨r1, _, _, _, _, rfl, _, _, _⟩ := ia.numE
        obtain ⟨r2, _, _, _, _, rfl, _, _, _⟩ := ib.numE
        refine kG9 ?_
        clear kG9 G9
        have ha3 : a ≤ 1000 := by omega
        have hb3 : b ≤ 1000 := by omega
        clear hc1 hc2 hI' hzs hcs ha hb hi hl8 hl9
        walk_at "mine steps"
        iterate 4
          · exfalso
            rename (@Ne Int _ _) => hne
            clear ret
            omega
        rename News _ _ _ _ => N5
        refine TPost.next (by assumption) (fun p hp => N5 p ?_) off (by walk_at "mine hm") rfl
        repeat' (first | exact hp | apply List.Mem.tail)
      · rintro u led h' tk rfl F' N'
        have F2 : Fr (s.heap.hide src) L h' _ := F'
        have N2 : News (s.heap.hide src) L h' LL := N'
        clear F' N' N9 F8
        walk_at "mine steps"
        exact ret _ _ _ _ _ _ (keepBut_of (by assumption)) (src_get (by assumption) mS)
    · intro i zs nw hi hx4 tI I oI C oC D2 m₂ h tk E' hC hx9 F' N' off ne
      refine hideG fun G9 kG9 => ?_
      obtain ⟨⟨x3, tx3, y3, ty3, rfl⟩, hl2, hzs⟩ := hx4
      refine kG9 ?_
      clear kG9 G9
      clear R'
      have om := off.mem
      have sI : src ≠ I := (om (src, srcO x3 tx3 y3 ty3 n) (by simp)).1
      have sC : src ≠ C := (om (src, srcO x3 tx3 y3 ty3 n) (by simp)).2.1
      have sD : src ≠ D2 := (om (src, srcO x3 tx3 y3 ty3 n) (by simp)).2.2
      clear om
      have s1 : src ≠ D := o1.2.1
      walk_at "mine steps"
      rename TxtOk _ => hok9
      refine CompEnd.intro (by assumption) (by assumption) ((D, lst ys) :: (L + 1, oc) :: (src, srcO _ _ _ _ _) :: tl) (fun p hp => hp) (by exact off) trivial ⟨⟨_, _, _, _, rfl⟩, by simp [hl2], fun v hv => ?_⟩
      rcases List.mem_append.mp hv with hv | hv
      · exact hzs v hv
      · rw [List.mem_singleton.mp hv]; exact ⟨_, _, rfl, hok9⟩
  · intro i ys nw hi hx4 tI I oI C oC D m₂ h tk E' hC hx9 F' N' off ne
    refine hideG fun G9 kG9 => ?_
    obtain ⟨tl, cs, x2, tx2, y2, ty2, rfl, offs, hl, hI, hcs⟩ := hx4
    refine kG9 ?_
    clear kG9 G9
    clear R'
    have om := off.mem
    have sI : src ≠ I := (om (src, srcO x2 tx2 y2 ty2 n) (by simp)).1
    have sC : src ≠ C := (om (src, srcO x2 tx2 y2 ty2 n) (by simp)).2.1
    have sD : src ≠ D := (om (src, srcO x2 tx2 y2 ty2 n) (by simp)).2.2
    clear om
    walk_at "mine steps"
    rename_i v9 p9 q9 led9 x9 tx9 y9 ty9 h9 tk9 hpq9 iv9 tl9 etl9 of9 oL9 F9 N9
    refine compEnd_fresh F9 N9 oL9 (by walk_at "mine mem") (by walk_at "mine mem") (by walk_at "mine mem") off ?_ trivial ⟨tl9, cs ++ [.num p9 q9], _, _, _, _, rfl, of9, by simp [hl], ?_, ?_⟩
    · intro p hp
      simp only [List.mem_cons] at hp
      rcases hp with rfl | rfl | hp
      · exact .inl ⟨_, .head _, rfl⟩
      · exact .inl ⟨_, .tail _ (.head _), rfl⟩
      · rw [etl9] at hp
        rcases List.mem_append.mp hp with hp | hp
        · exact .inr hp
        · exact .inl ⟨p, by simp [hp], rfl⟩
    · rw [List.map_append]
      exact (hI.mono fun _ _ q => (tail_sub etl9).2 _ q).append (.cons (iv9.mono fun _ _ q => (tail_sub etl9).1 _ q) .nil)
    · intro c hc
      rcases List.mem_append.mp hc with hc | hc
      · exact hcs c hc
      · rw [List.mem_singleton.mp hc]; exact ⟨_, _, rfl, hpq9⟩
end
end

section
open PySem PySem.W PyProof.Rows
/-! the data that the law compares -/
theorem txt_ok {z : Str} (h : TxtOk z) : PyData.strOk z = true := by
  unfold PyData.strOk
  rw [Array.all_eq_true]
  intro i hi
  have h1 := h.2 z.cps[i] (by simp)
  simp only [decide_eq_true_eq]
  omega
theorem cell_lay {o : Od} {c : Cell} (h : Fit o c) : c.py.canLay0 = true ∧ c.py.depth ≤ 1 := by
  cases c with
  | num x y => simp [Cell.py, PyData.canLay0, PyData.canLayAll0, PyData.depth, PyData.depthAll]
  | txt t => simp [Cell.py, PyData.canLay0, PyData.depth, txt_ok h.2]
theorem row_lay : ∀ {os : List Od} {r : List Cell}, FitRow os r → PyData.canLayAll0 (r.map Cell.py) = true ∧ PyData.depthAll (r.map Cell.py) ≤ 1
  | [], [], _ => by simp [PyData.canLayAll0, PyData.depthAll]
  | o :: os, c :: r, h => by
    have h1 := cell_lay h.1
    have h2 := row_lay h.2
    simp only [List.map_cons, PyData.canLayAll0, PyData.depthAll, h1.1, h2.1, Bool.and_self, true_and]
    omega
  | [], _ :: _, h => h.elim
  | _ :: _, [], h => h.elim
theorem pair_lay {os : List Od} {p : RowP} (h : FitRow os p.1) : (pairPy p).canLay0 = true ∧ (pairPy p).depth ≤ 3 := by
  have h2 := row_lay h
  simp only [pairPy, rowPy, PyData.canLay0, PyData.canLayAll0, PyData.depth, PyData.depthAll, h2.1, Bool.and_self, true_and]
  omega
theorem pairs_lay {os : List Od} : ∀ {rs : List RowP}, (∀ p ∈ rs, FitRow os p.1) → PyData.canLayAll0 (rs.map pairPy) = true ∧ PyData.depthAll (rs.map pairPy) ≤ 3
  | [], _ => by simp [PyData.canLayAll0, PyData.depthAll]
  | p :: rs, h => by
    have h1 := pair_lay (h p (.head _))
    have h2 := pairs_lay fun q hq => h q (.tail _ hq)
    simp only [List.map_cons, PyData.canLayAll0, PyData.depthAll, h1.1, h2.1, Bool.and_self, true_and]
    omega
theorem shaped_pairs {os : List Od} {rs : List RowP} (h : ∀ p ∈ rs, FitRow os p.1) : SeqAt.shaped (.list (rs.map pairPy)) = true := by
  have h2 := pairs_lay h
  unfold SeqAt.shaped
  simp only [PyData.canLay0, PyData.depth, h2.1, Bool.true_and]
  exact decide_eq_true (by omega)
theorem shaped_two {os : List Od} {rs qs : List RowP} (h : ∀ p ∈ rs, FitRow os p.1) (h' : ∀ p ∈ qs, FitRow os p.1) : SeqAt.shaped (.tuple [.list (rs.map pairPy), .list (qs.map pairPy)]) = true := by
  have h2 := pairs_lay h
  have h3 := pairs_lay h'
  unfold SeqAt.shaped
  simp only [PyData.canLay0, PyData.canLayAll0, PyData.depth, PyData.depthAll, h2.1, h3.1, Bool.and_self, Bool.true_and]
  exact decide_eq_true (by omega)
theorem eqv_shaped {d : PyData} (h : SeqAt.shaped d = true) : PyData.eqv d d = true := by
  unfold SeqAt.shaped at h
  rw [Bool.and_eq_true] at h
  exact SeqAt.eqv_refl d h.1
theorem mergeL_mem {os : List Od} : ∀ (as bs : List RowP) {p : RowP}, p ∈ mergeL os as bs → p ∈ as ∨ p ∈ bs
  | [], bs, p, h => by rw [mergeL_nil'] at h; exact .inr h
  | a :: as, [], p, h => by rw [mergeL_nil] at h; exact .inl h
  | a :: as, b :: bs, p, h => by
    rw [mergeL_cons] at h
    split at h
    · rcases List.mem_cons.mp h with rfl | h
      · exact .inl (.head _)
      · rcases mergeL_mem as (b :: bs) h with h | h
        · exact .inl (.tail _ h)
        · exact .inr h
    · rcases List.mem_cons.mp h with rfl | h
      · exact .inr (.head _)
      · rcases mergeL_mem (a :: as) bs h with h | h
        · exact .inl h
        · exact .inr (.tail _ h)
termination_by as bs => as.length + bs.length
theorem eqv_nil_pairs (rs : List RowP) : PyData.eqv (.list (rs.map pairPy)) (.list []) = decide (rs = []) := by
  cases rs <;> simp [PyData.eqv, PyData.eqvAll]
/-- where a row is put -/
theorem insL_at {os : List Od} {p : RowP} : ∀ {due : List RowP} {k : Nat}, k ≤ due.length → (∀ j q, j < k → due[j]? = some q → q.2 < 10 ∧ dueRows os q.1 p.1 ≤ 0) → (∀ q, due[k]? = some q → ¬ (q.2 < 10 ∧ dueRows os q.1 p.1 ≤ 0)) →
    insL os p due = due.take k ++ p :: due.drop k
  | [], 0, _, _, _ => rfl
  | q :: r, 0, _, _, h2 => by
    have := h2 q rfl
    simp only [insL, if_neg this, List.take_zero, List.drop_zero, List.nil_append]
  | q :: r, k + 1, hk, h1, h2 => by
    have h := h1 0 q (by omega) rfl
    have ih := insL_at (os := os) (p := p) (due := r) (k := k) (by simpa using hk) (fun j q' hj hq => h1 (j + 1) q' (by omega) (by simpa using hq)) (fun q' hq => h2 q' (by simpa using hq))
    simp only [insL, if_pos h, ih, List.take_succ_cons, List.drop_succ_cons, List.cons_append]
  | [], k + 1, hk, _, _ => by simp at hk
end

section
open PySem PySem.W PyProof.Rows PyProof.Rows.LCg
theorem mut_elimK {h₀ h h' : Heap} {L src : Addr} {m : Str → Option Value} {S S' : Obj} {led led' : List (Addr × Obj)} {goal : Prop} (kp : KeepBut src h h') (hs : h'.get? src = some S') (F : Fr (h₀.hide src) L h m) (N : News (h₀.hide src) L h led) (pk : Pick src S S' led led')
    (k : Fr (h₀.hide src) L h' m → News (h₀.hide src) L h' led' → goal) : goal := mut_elim F N pk kp hs k
theorem od_made {tl : List (Addr × Obj)} {D : Addr} {b1 b2 : Bool} {wy : Option Bool} {ys : List Value} {os : List Od} (h : IsAll (InL tl) ys (os.map Od.py)) :
    IsAll (InL ((D, ({ cls := .type "tuple", data := .seq #[.bool b1, .bool b2, wayV wy] } : Obj)) :: tl)) (ys ++ [.ref D]) ((os ++ ([⟨b1, b2, wy⟩] : List Od)).map Od.py) := by
  rw [List.map_append]
  refine (h.mono fun a o q => List.Mem.tail _ q).append (.cons (.tuple (vs := [.bool b1, .bool b2, wayV wy]) (.head _) rfl rfl (.cons (.bool _) (.cons (.bool _) (.cons ?_ .nil)))) .nil)
  cases wy with
  | none => exact .none
  | some b => exact .bool b
theorem tupB {h₀ h : Heap} {L D : Addr} {b1 b2 : Bool} {v : Value} {led : List (Addr × Obj)} (N : News h₀ L h ((D, ({ cls := .type "tuple", data := .seq #[.bool b1, .bool b2, v] } : Obj)) :: led)) :
    ∃ c1 c2 : Bool, News h₀ L h ((D, ({ cls := .type "tuple", data := .seq #[.bool c1, .bool c2, v] } : Obj)) :: led) := ⟨_, _, N⟩
theorem OrdIs.snoc {w : World} {P : Addr → Obj → Prop} : ∀ {ys : List Value} {os : List Od} {v : Value} {o : Od}, OrdIs w P ys os → OrdI w P v o → OrdIs w P (ys ++ [v]) (os ++ [o])
  | _, _, _, _, .nil, h => .cons h .nil
  | _, _, _, _, .cons h1 h2, h => .cons h1 (OrdIs.snoc h2 h)
theorem ord_made {w : World} {tl : List (Addr × Obj)} {x dx : Addr} {od : Obj} {o : Od} {ys : List Value} {os : List Od} {i : Nat} (h : OrdIs w (InL tl) ys (os.take i)) (ho : os[i]? = some o) (g : OrdD w o od) :
    OrdIs w (InL ((x, instObj 32 dx) :: (dx, od) :: tl)) (ys ++ [.ref x]) (os.take (i + 1)) := by
  have e : os.take (i + 1) = os.take i ++ [o] := by rw [List.take_add_one, ho]; rfl
  rw [e]
  obtain ⟨t1, t2, t3, n, rfl⟩ := g
  exact (h.mono fun a o q => List.Mem.tail _ (List.Mem.tail _ q)).snoc ⟨x, dx, t1, t2, t3, n, rfl, .head _, .tail _ (.head _)⟩
theorem odE {P : Addr → Obj → Prop} {v : Value} {o : Od} (h : Is P v o.py) : ∃ a ob n, v = .ref a ∧ P a ob ∧ ob.cls = .type "tuple" ∧ ob.data = .seq #[.bool o.isNum, .bool o.down, wayV o.way] n := by
  obtain ⟨ao, oo, vt, nt, rfl, p1, q1, d1', io1⟩ := h.tupleE
  obtain ⟨w1, rr, rfl, io2, io1⟩ := io1.consE
  obtain ⟨w2, rr, rfl, io3, io1⟩ := io1.consE
  obtain ⟨w3, rr, rfl, io4, io1⟩ := io1.consE
  obtain rfl := io1.nilE
  obtain rfl := io2.boolE
  obtain rfl := io3.boolE
  obtain rfl := io4.wayE
  exact ⟨_, _, _, rfl, p1, q1, d1'⟩
section
variable {prog : Program} {w : World} {A : Around} {E : Value → Shared → Prop} {s : Shared} {env : Env} {h₀ : Heap} {L : Addr}
variable {l b : Addr} {m : Str → Option Value} {news : List (Addr × Obj)} {value slice : PySem.Expr} {vs : List Value} {Q : Value → Shared → Prop}
theorem rev_ix (n : Nat) (h : n ≤ 3) : sliceRange (sliceBounds none none (some (-1)) n).1 (sliceBounds none none (some (-1)) n).2.1 (sliceBounds none none (some (-1)) n).2.2 = (List.range n).reverse := by
  match n, h with
  | 0, _ => decide +kernel
  | 1, _ => decide +kernel
  | 2, _ => decide +kernel
  | 3, _ => decide +kernel
theorem rev_pick {vs : List Value} (h : vs.length ≤ 3) : (slicePick vs.toArray none none (some (-1))).toList = vs.reverse := by
  unfold slicePick
  rw [rev_ix _ (by simpa using h)]
  cases vs with
  | nil => rfl
  | cons a r =>
    cases r with
    | nil => rfl
    | cons b r =>
      cases r with
      | nil => rfl
      | cons c r =>
        cases r with
        | nil => rfl
        | cons d r => exact absurd h (by simp)
theorem slice_rev {t : Tok} {ops : List Value} (F : Fr h₀ L s.heap m) (N : News h₀ L s.heap news) (hl : s.heap.IsList l vs.toArray) (hz : vs.length ≤ 3)
    (h : ∀ D h', Fr h₀ L h' m → News h₀ L h' ((D, listOf vs.reverse.toArray 0) :: news) → (∀ p ∈ news, p.1 < D) → Q (.ref D) { s with heap := h' })
    (hs : subscripted slice false (.ref l) (.ref s.heap.objs.size) = operate ops (getItem (.ref l) (.ref s.heap.objs.size))) (ht : ∀ r, letTemporaryGo value (.ref l) r = pure ()) :
    wpAny (model prog w) A (subscriptTail value slice (.ref l) (.ref s.heap.objs.size)) Q E { s with heap := s.heap.push { cls := .type "slice", data := .fields #[.none, .none, .int (-1) t] } } :=
  kmk_slice3_lit F N hl IsPart.none IsPart.none (IsPart.int _ _) (by decide) (rev_pick hz) h hs ht (by rw [sizeLine_eq]; simp; omega)
theorem ne_nil {os : List Od} {rows : List RowP} (i : Is (At s.heap) (.ref l) (.list (rows.map pairPy))) (hb : s.heap.IsList b #[]) (hf : ∀ p ∈ rows, FitRow os p.1) (hu : A.units + 64 < cLine) (h : Q (.bool (!decide (rows = []))) s) :
    wpAny (model prog w) A (compareOp .NotEq (.ref l) (.ref b)) Q E s := by
  obtain ⟨as, ra⟩ := i.reads
  obtain ⟨o, h1, h2, n, h3⟩ := hb
  obtain ⟨bs, rb⟩ := (Is.list (P := At s.heap) (vs := []) (xs := []) h1 h2 h3 .nil).reads
  exact ne_dataH ra rb (shaped_pairs hf) (by rfl) hu (by rw [eqv_nil_pairs]; exact h)
theorem eq_same {a c : Value} {d : PyData} (i : Is (At s.heap) a d) (j : Is (At s.heap) c d) (hd : SeqAt.shaped d = true) (hu : A.units + 64 < cLine) (h : Q (.bool true) s) :
    wpAny (model prog w) A (compareOp .Eq a c) Q E s := by
  obtain ⟨as, ra⟩ := i.reads
  obtain ⟨bs, rb⟩ := j.reads
  exact eq_dataH ra rb hd hd hu (by rw [eqv_shaped hd]; exact h)
end
theorem is_list {P : Addr → Obj → Prop} {a : Addr} {vs : List Value} {xs : List PyData} (h : IsL P a vs) (i : IsAll P vs xs) : Is P (.ref a) (.list xs) :=
  let ⟨_, _, h1, h2, h3⟩ := h; .list h1 h2 h3 i
theorem IsL.sub {led led' : List (Addr × Obj)} {a : Addr} {vs : List Value} (h : IsL (InL led) a vs) (s : ∀ p ∈ led, p ∈ led') : IsL (InL led') a vs :=
  let ⟨o, n, h1, h2, h3⟩ := h; ⟨o, n, s _ h1, h2, h3⟩
section
variable {prog : Program} {w : World} {A : Around} {E : Value → Shared → Prop} {s : Shared} {h₀ : Heap} {L l b : Addr} {led led' : List (Addr × Obj)} {Q : Value → Shared → Prop}
theorem ne_nil0 {os : List Od} (N : News h₀ L s.heap led') (i : Is (InL led) (.ref l) (.list (List.map pairPy []))) (sub : ∀ p ∈ led, p ∈ led') (hb : s.heap.IsList b #[]) (hu : A.units + 64 < cLine) (h : Q (.bool false) s) :
    wpAny (model prog w) A (compareOp .NotEq (.ref l) (.ref b)) Q E s := ne_nil (os := []) (rows := []) (is_news N i sub) hb (fun _ h => nomatch h) hu h
theorem ne_nil1 {os : List Od} {p : RowP} {rows : List RowP} (hf : ∀ q ∈ p :: rows, FitRow os q.1) (N : News h₀ L s.heap led') (i : Is (InL led) (.ref l) (.list (List.map pairPy (p :: rows)))) (sub : ∀ p ∈ led, p ∈ led') (hb : s.heap.IsList b #[]) (hu : A.units + 64 < cLine) (h : Q (.bool true) s) :
    wpAny (model prog w) A (compareOp .NotEq (.ref l) (.ref b)) Q E s := ne_nil (is_news N i sub) hb hf hu h
end
theorem new_other {led : List (Addr × Obj)} {LN DT DL : Addr} {c : Nat} {t : Tok} {ul : List Value} {r : List Cell} (h1 : (LN, PySem.W.listOf #[.ref DT] 0) ∈ led) (h2 : (DT, ({ cls := .type "tuple", data := .seq #[.ref DL, .int 20 t] } : Obj)) ∈ led) (h3 : (DL, PySem.W.listOf ul.toArray c) ∈ led) (i : IsAll (InL led) ul (r.map Cell.py)) :
    IsL (InL led) LN [.ref DT] ∧ IsAll (InL led) [.ref DT] ([((r, 20) : RowP)].map pairPy) :=
  ⟨⟨_, _, h1, rfl, rfl⟩, .cons (.tuple (vs := [.ref DL, .int 20 t]) h2 rfl rfl (.cons (.list h3 rfl rfl i) (.cons (.int _ _) .nil))) .nil⟩
/-- what two lists of pairs must be -/
structure Rows2 (os : List Od) (r2 : List RowP) : Prop where
  len : r2.length ≤ 3
  fit : ∀ p ∈ r2, FitRow os p.1
  ten : ∀ p ∈ r2, 10 ≤ p.2
  ord : r2.Pairwise (fun p q => dueRows os p.1 q.1 ≤ 0)
theorem Listed.rows2 {os : List Od} {k : Nat} {rows : List RowP} (h : Listed os 10 k rows) (hk : k ≤ 3) : Rows2 os rows :=
  ⟨by rw [h.1]; exact hk, fun p hp => (h.2.1 p hp).1, fun p hp => (h.2.1 p hp).2.1, h.2.2⟩
structure Rows1 (os : List Od) (r1 : List RowP) : Prop where
  len : r1.length ≤ 3
  fit : ∀ p ∈ r1, FitRow os p.1
  ten : ∀ p ∈ r1, p.2 < 10
theorem Listed.rows1 {os : List Od} {k : Nat} {rows : List RowP} (h : Listed os 0 k rows) (hk : k ≤ 3) : Rows1 os rows :=
  ⟨by rw [h.1]; exact hk, fun p hp => (h.2.1 p hp).1, fun p hp => by have := (h.2.1 p hp).2.2; omega⟩
theorem rows2_one {os : List Od} {r : List Cell} (h : FitRow os r) : Rows2 os [(r, 20)] :=
  ⟨by simp, fun p hp => by rw [List.mem_singleton.mp hp]; exact h, fun p hp => by rw [List.mem_singleton.mp hp]; show (10 : Int) ≤ 20; decide, List.pairwise_singleton _ _⟩
end

section
open PySem PySem.W PyProof.Rows PyProof.Rows.LCg
def dueAt (os : List Od) (r1 r2 : List RowP) (i : Nat) : List RowP := (r2.drop (r2.length - i)).foldr (insL os) r1
theorem dueAt_zero (os : List Od) (r1 r2 : List RowP) : dueAt os r1 r2 0 = r1 := by
  unfold dueAt; rw [Nat.sub_zero, List.drop_length]; rfl
theorem dueAt_succ {os : List Od} {r1 r2 : List RowP} {i : Nat} {p : RowP} (h : r2[r2.length - 1 - i]? = some p) (hi : i < r2.length) : dueAt os r1 r2 (i + 1) = insL os p (dueAt os r1 r2 i) := by
  unfold dueAt
  have e : r2.length - (i + 1) = r2.length - 1 - i := by omega
  rw [e, drop_of h, List.foldr_cons]
  have e2 : r2.length - 1 - i + 1 = r2.length - i := by omega
  rw [e2]
theorem dueAt_all {os : List Od} {r1 r2 : List RowP} (R1 : Rows1 os r1) (R2 : Rows2 os r2) : dueAt os r1 r2 r2.length = mergeL os r1 r2 := by
  unfold dueAt
  rw [Nat.sub_self, List.drop_zero]
  exact merge_due (fun p hp => ⟨(R1.fit p hp).length, R1.ten p hp⟩) (fun p hp => ⟨(R2.fit p hp).length, R2.ten p hp⟩) R2.ord
theorem insL_mem {os : List Od} {p q : RowP} : ∀ {r : List RowP}, q ∈ insL os p r → q = p ∨ q ∈ r
  | [], h => .inl (List.mem_singleton.mp h)
  | x :: r, h => by
    unfold insL at h
    split at h
    · rcases List.mem_cons.mp h with rfl | h
      · exact .inr (.head _)
      · exact (insL_mem h).imp id (.tail _)
    · exact (List.mem_cons.mp h)
theorem insL_len {os : List Od} {p : RowP} : ∀ r : List RowP, (insL os p r).length = r.length + 1
  | [] => rfl
  | x :: r => by
    unfold insL
    split
    · simp [insL_len r]
    · simp
theorem due_fold {os : List Od} {r1 : List RowP} (h1 : ∀ p ∈ r1, FitRow os p.1) : ∀ {bs : List RowP}, (∀ p ∈ bs, FitRow os p.1) → (∀ p ∈ bs.foldr (insL os) r1, FitRow os p.1) ∧ (bs.foldr (insL os) r1).length = r1.length + bs.length
  | [], _ => ⟨h1, rfl⟩
  | b :: bs, h => by
    obtain ⟨i1, i2⟩ := due_fold h1 fun p hp => h p (.tail _ hp)
    refine ⟨fun p hp => ?_, ?_⟩
    · rcases insL_mem hp with rfl | hp
      · exact h _ (.head _)
      · exact i1 p hp
    · rw [List.foldr_cons, insL_len, i2]; simp; omega
theorem dueAt_fit {os : List Od} {r1 r2 : List RowP} (R1 : Rows1 os r1) (R2 : Rows2 os r2) (i : Nat) : (∀ p ∈ dueAt os r1 r2 i, FitRow os p.1) ∧ (dueAt os r1 r2 i).length ≤ 6 := by
  obtain ⟨a, b⟩ := due_fold R1.fit (bs := r2.drop (r2.length - i)) fun p hp => R2.fit p (List.mem_of_mem_drop hp)
  refine ⟨a, ?_⟩
  unfold dueAt
  have := R1.len; have := R2.len
  rw [b, List.length_drop]; omega
theorem getRev {α : Type} {l : List α} {i : Nat} {v : α} (h : l.reverse[i]? = some v) : i < l.length ∧ l[l.length - 1 - i]? = some v := by
  have hi : i < l.length := by
    have := (List.getElem?_eq_some_iff.mp h).1
    simpa using this
  exact ⟨hi, by rw [← h, List.getElem?_reverse hi]⟩
theorem fr_stored2 {h₀ h : Heap} {L : Addr} {x c d : Str} {v : Option Value} {vd : Value} {u m₀ : Str → Option Value} (F : Fr h₀ L h (fun z => if z = x then v else if [c, d].contains z then u z else m₀ z)) (hd : u d = some vd) :
    Fr h₀ L h (fun z => if z = x then v else if z = d then some vd else if z = c then u c else m₀ z) := frEq F fun z => by
  by_cases e1 : z = x
  · simp [e1]
  by_cases e2 : z = d
  · subst e2; simp [e1, hd]
  by_cases e3 : z = c
  · subst e3; simp [e1, e2]
  simp [e1, e2, e3]
theorem fr_stored2d {h₀ h : Heap} {L : Addr} {x c d : Str} {vd : Value} {u m₀ : Str → Option Value} (F : Fr h₀ L h (fun z => if z = x then u z else if [c, d].contains z then u z else m₀ z)) (hd : u d = some vd) :
    Fr h₀ L h (fun z => if z = x then u x else if z = d then some vd else if z = c then u c else m₀ z) := fr_stored2 (frEq (m' := fun z => if z = x then u x else if [c, d].contains z then u z else m₀ z) F fun z => by
  by_cases e1 : z = x
  · subst e1; simp
  · simp [e1]) hd
theorem fr_stored3 {h₀ h : Heap} {L : Addr} {a b c d : Str} {x y : Value} {u m₀ : Str → Option Value} (F : Fr h₀ L h (fun z => if z = b then some y else if z = a then some x else if [c, d].contains z then u z else m₀ z)) :
    Fr h₀ L h (fun z => if z = b then some y else if z = a then some x else if z = c then u c else if z = d then u d else m₀ z) := frEq F fun z => by
  by_cases e1 : z = c
  · subst e1; simp
  by_cases e2 : z = d
  · subst e2; simp [e1]
  simp [e1, e2]
theorem fr_stored3d {h₀ h : Heap} {L : Addr} {a b c d : Str} {u m₀ : Str → Option Value} (F : Fr h₀ L h (fun z => if z = b then u z else if z = a then u z else if [c, d].contains z then u z else m₀ z)) :
    Fr h₀ L h (fun z => if z = b then u b else if z = a then u a else if z = c then u c else if z = d then u d else m₀ z) := frEq F fun z => by
  by_cases e3 : z = b
  · subst e3; simp
  by_cases e4 : z = a
  · subst e4; simp [e3]
  by_cases e1 : z = c
  · subst e1; simp [e3, e4]
  by_cases e2 : z = d
  · subst e2; simp [e3, e4, e1]
  simp [e1, e2, e3, e4]
theorem fr_stored0 {h₀ h : Heap} {L : Addr} {a b : Str} {x y : Value} {u m₀ : Str → Option Value} (F : Fr h₀ L h (fun z => if z = b then some y else if z = a then some x else if ([] : List Str).contains z then u z else m₀ z)) :
    Fr h₀ L h (fun z => if z = b then some y else if z = a then some x else m₀ z) := frEq F fun z => by simp
theorem ords_news {w : World} {h₀ h : Heap} {L : Addr} {vs : List Value} {os : List Od} {led led' : List (Addr × Obj)} (N : News h₀ L h led') (i : OrdIs w (InL led) vs os) (sub : ∀ p ∈ led, p ∈ led') : OrdIs w (At h) vs os := i.mono fun a o hm => (N _ (sub _ hm)).1
def PairXY (led : List (Addr × Obj)) (rows : List RowP) (i : Nat) (x y : Value) : Prop := ∃ p lr ul t, rows[i]? = some p ∧ x = .ref lr ∧ y = .int p.2 t ∧ IsL (InL led) lr ul ∧ IsAll (InL led) ul (p.1.map Cell.py)
abbrev tupR (a b : Addr) : Obj := { cls := .type "tuple", data := .seq #[.ref a, .ref b] }
theorem two_is {led : List (Addr × Obj)} {T a b : Addr} {d e : PyData} (h : (T, tupR a b) ∈ led) (i : Is (InL led) (.ref a) d) (j : Is (InL led) (.ref b) e) : Is (InL led) (.ref T) (.tuple [d, e]) :=
  .tuple (vs := [.ref a, .ref b]) h rfl rfl (.cons i (.cons j .nil))
theorem both_is {h₀ h : Heap} {L T1 T2 C1 C2 l1 l3 : Addr} {c1 c2 : Nat} {us1 us3 : List Value} {r1 r2 : List RowP} {e : Addr × Obj} {led : List (Addr × Obj)} (N : News h₀ L h ((T2, tupR l1 l3) :: (T1, tupR C1 C2) :: (C2, PySem.W.listOf us3.toArray c2) :: (C1, PySem.W.listOf us1.toArray c1) :: e :: led))
    (il1 : IsL (InL led) l1 us1) (ia1 : IsAll (InL led) us1 (r1.map pairPy)) (il3 : IsL (InL led) l3 us3) (ia3 : IsAll (InL led) us3 (r2.map pairPy)) :
    Is (At h) (.ref T2) (.tuple [.list (r1.map pairPy), .list (r2.map pairPy)]) ∧ Is (At h) (.ref T1) (.tuple [.list (r1.map pairPy), .list (r2.map pairPy)]) := by
  have sub : ∀ p ∈ led, p ∈ (T2, tupR l1 l3) :: (T1, tupR C1 C2) :: (C2, PySem.W.listOf us3.toArray c2) :: (C1, PySem.W.listOf us1.toArray c1) :: e :: led := fun p hp => by simp [hp]
  exact ⟨is_news N (two_is (.head _) (is_list (il1.sub sub) (ia1.mono fun _ _ q => sub _ q)) (is_list (il3.sub sub) (ia3.mono fun _ _ q => sub _ q))) fun _ h => h,
    is_news N (two_is (.tail _ (.head _)) (.list (o := PySem.W.listOf us1.toArray c1) (.tail _ (.tail _ (.tail _ (.head _)))) rfl rfl (ia1.mono fun _ _ q => sub _ q)) (.list (o := PySem.W.listOf us3.toArray c2) (.tail _ (.tail _ (.head _))) rfl rfl (ia3.mono fun _ _ q => sub _ q))) fun _ h => h⟩
theorem due_end {h₀ h : Heap} {L D I : Addr} {o oI : Obj} {e1 e2 e3 e4 e5 r : Addr × Obj} {led : List (Addr × Obj)} (N : News h₀ L h ((D, o) :: e1 :: e2 :: e3 :: e4 :: (I, oI) :: e5 :: r :: led)) (hall : ∀ p ∈ e1 :: e2 :: e3 :: e4 :: (I, oI) :: e5 :: r :: led, p.1 < D) :
    D ≠ I ∧ News h₀ L h ((I, oI) :: (D, o) :: r :: led) := by
  refine ⟨Nat.ne_of_gt (hall (I, oI) (by simp)), fun p hp => N p ?_⟩
  simp only [List.mem_cons] at hp ⊢
  rcases hp with rfl | rfl | rfl | hp <;> simp [*]
theorem pure_elim {h₀ h h' : Heap} {L : Addr} {m : Str → Option Value} {led : List (Addr × Obj)} {goal : Prop} (k : Ext h h') (F : Fr h₀ L h m) (N : News h₀ L h led) (g : Fr h₀ L h' m → News h₀ L h' led → goal) : goal := g (Fr.grownK F k) (News.grown N k)
/-- a pair of a list of rows -/
def PairAt (led : List (Addr × Obj)) (p : RowP) (v : Value) : Prop := ∃ a o t lr n ul, v = .ref a ∧ (a, o) ∈ led ∧ o.cls = .type "tuple" ∧ o.data = .seq #[.ref lr, .int p.2 t] n ∧ IsL (InL led) lr ul ∧ IsAll (InL led) ul (p.1.map Cell.py)
theorem pair_at {led : List (Addr × Obj)} {us : List Value} {rows : List RowP} {i : Nat} {p : RowP} (h : IsAll (InL led) us (rows.map pairPy)) (hp : rows[i]? = some p) : ∃ v, us[i]? = some v ∧ PairAt led p v ∧ Is (InL led) v (pairPy p) := by
  obtain ⟨v, hv, iv⟩ := h.get (i := i) (d := pairPy p) (by simp [hp])
  obtain ⟨ap, op, tp, lr, np, rfl, hm9, hc9, hd9, ul, ilr, iur1⟩ := pairE iv
  exact ⟨_, hv, ⟨_, _, _, _, _, _, rfl, hm9, hc9, hd9, ilr, iur1⟩, iv⟩
theorem pair_of {led : List (Addr × Obj)} {us : List Value} {rows : List RowP} {i : Nat} {v : Value} (h : IsAll (InL led) us (rows.map pairPy)) (hv : us[i]? = some v) : ∃ p, rows[i]? = some p ∧ PairAt led p v ∧ Is (InL led) v (pairPy p) := by
  have hi := (List.getElem?_eq_some_iff.mp hv).1
  have e := h.length
  simp only [List.length_map] at e
  have hp : rows[i]? = some rows[i] := List.getElem?_eq_getElem (by omega)
  obtain ⟨v', hv', q⟩ := pair_at h hp
  rw [hv] at hv'; cases hv'
  exact ⟨_, hp, q⟩
theorem pair_xy {led led' : List (Addr × Obj)} {us : List Value} {rows : List RowP} {i : Nat} {v : Value} {h : Heap} (ia : IsAll (InL led) us (rows.map pairPy)) (hv : us[i]? = some v) (sub : ∀ p ∈ led, p ∈ led') (hk : ∀ p ∈ led', h.get? p.1 = some p.2) :
    ∃ T x y, v = .ref T ∧ h.IsTuple T #[x, y] ∧ PairXY led rows i x y := by
  obtain ⟨p, hp, ⟨a, o, t, lr, n, ul, rfl, h1, h2, h3, h4, h5⟩, _⟩ := pair_of ia hv
  exact ⟨a, _, _, rfl, ⟨o, hk _ (sub _ h1), h2, n, h3⟩, p, lr, ul, t, hp, rfl, rfl, h4, h5⟩
end

section
open PySem PySem.W PyProof.Rows PyProof.Rows.LCg
theorem new_sub {h₀ h : Heap} {L : Addr} {led led' : List (Addr × Obj)} {vs : List Value} {ds : List PyData} (N : News h₀ L h led') (i : IsAll (InL led) vs ds) (s : ∀ p ∈ led, p ∈ led') : IsAll (InL led') vs ds := i.mono fun a o q => s (a, o) q
-- LINES
theorem lines18 : True := by
  k_with_none
  k_with "eval Call" => k_dflt (refine Call_ ?_)
  k_with "exec Assign cons ListComp" => k_dflt (refine my_Assign_ListComp (by assumption) (by rfl) (by with_unfolding_all rfl) (by rfl) (by decide) (by rfl) (by decide) (by rfl) (by rfl) (by rfl) ?_)
  k_with "mine steps" => repeat' (first | (k_unfold; (try dsimp only)) | ((fail_if_success (with_reducible show wpAny _ _ (PySem.pyIter _) _ _ _)); (fail_if_success (with_reducible show wpAny _ _ (PySem.exec (PySem.Stmt.For _ _ _ _ _) _) _ _ _)); (fail_if_success (with_reducible show wpAny _ _ (PySem.call (PySem.Value.ref 159) _) _ _ _)); (fail_if_success (with_reducible show wpAny _ _ (PySem.call (PySem.Value.ref 78) _) _ _ _)); (fail_if_success (with_reducible show wpAny _ _ (PySem.compareOp PySem.CmpOp.Eq (PySem.Value.ref _) (PySem.Value.ref _)) _ _ _)); (fail_if_success (with_reducible show wpAny _ _ (PySem.exec (PySem.Stmt.If (PySem.Expr.BoolOp _ _ _) _ _ _) _) _ _ _)); (fail_if_success (with_reducible show wpAny _ _ (PySem.exec (PySem.Stmt.While _ _ _ _) _) _ _ _)); first | walk1 | (dsimp only; walk1)) | fail "no step")
  k_with "mine mem" => first | exact List.Mem.head _ | (refine List.Mem.tail _ ?_; walk_at "mine mem") | fail "x"
  k_with "mine memA" => first | assumption | (refine List.Mem.tail _ ?_; walk_at "mine memA") | fail "x"
  k_with "mine sub" => (intro p hp; (repeat' (first | exact hp | apply List.Mem.tail)); done)
  k_with "mine ne" => first | assumption | exact Ne.symm (by assumption) | exact ne_of_all (by assumption) (by first | (walk_at "mine mem") | fail "x") | (refine two_apart (by assumption) (by first | (walk_at "mine mem") | fail "x") (o' := PySem.W.listOf #[.int _ _, .int _ _] _) (by first | (walk_at "mine mem") | fail "x") (by first | (intro e; simp [PySem.W.listOf] at e; done) | fail "x")) | fail "x"
  k_with "mine pick" => first | exact Pick.last | (refine Pick.skip (by first | (walk_at "mine ne") | fail "x") (by first | (walk_at "mine pick") | fail "x")) | exact Pick.here (by assumption) | fail "x"
  k_with "mine pickt" => first | exact PickT.last | exact PickT.here (by assumption) | (refine PickT.skip (by first | (walk_at "mine ne") | fail "x") (by first | (walk_at "mine pickt") | fail "x")) | fail "x"
  k_with "mine src" => exact src_get (by assumption) (by first | (walk_at "mine mem") | fail "x")
  k_with "mine list" => first | exact list_hid₀ (by first | (k_asm) | fail "x") (by assumption) | exact list_hid (by assumption) (by first | (walk_at "mine mem") | fail "x") (by first | (walk_at "mine ne") | fail "x") | fail "x"
  k_with "in mut" => (intros; refine mut_elimK (by assumption) (by assumption) (by first | (k_asm) | fail "x") (by first | (k_asm) | fail "x") (by first | (walk_at "mine pick") | fail "x") ?_; intros; (rename KeepBut _ _ _ => kp9; clear kp9); k_sweep)
  k_with "call ref" => (k_here; k_dflt (refine law_take (by first | (exact Wd.hid (by assumption) (by first | (k_asm) | fail "x")) | fail "x") (by ktr_room) (by ktr_units) (by first | (walk_at "mine src") | fail "x") (by omega) (by omega) ?_); walk_at "in mut")
  k_with "call ref" => (k_here; k_dflt (refine law_one (by first | (exact Wd.hid (by assumption) (by first | (k_asm) | fail "x")) | fail "x") (by ktr_room) (by ktr_units) (by first | (walk_at "mine src") | fail "x") (by first | (walk_at "mine list") | fail "x") (by first | (exact Nat.le_of_ble_eq_true rfl) | fail "x") (by first | (exact Nat.le_of_ble_eq_true rfl) | fail "x") ?_); walk_at "in mut")
  k_with "call ref" => (k_here; k_dflt (refine order_new (by assumption) (by first | (k_asm) | fail "x") (by first | (k_asm) | fail "x") (by ktr_room) (by ktr_units) ?_); intros; k_sweep)
  k_with "subscriptTail Name Constant ref int" => (k_dflt (refine item_tupleT (by first | (exact tupN (by assumption) (by first | (walk_at "mine memA") | fail "x") (by assumption) (by assumption)) | fail "x") (by decide) (by decide) (by rfl) (by rfl) ?_; k_whole))
  k_with "subscriptTail Name Constant ref int" => (k_dflt (refine item_vs (i := 0) (by first | (exact isl_news (by assumption) (by assumption) (by first | (walk_at "mine sub") | fail "x")) | fail "x") (by rfl) (by decide) (by rfl) ?_; k_whole))
  k_with "subscriptTail Subscript Constant ref int" => (k_dflt (refine item_tupleT (by first | (exact tupN (by assumption) (by first | (walk_at "mine memA") | fail "x") (by assumption) (by assumption)) | fail "x") (by decide) (by decide) (by rfl) (by rfl) ?_; k_whole))
  k_with "compareOp NotEq ref ref" => (k_here; k_dflt (first | refine ne_nil0 (os := []) (by assumption) (by assumption) (by first | (walk_at "mine sub") | fail "x") (by first | (exact News.isList (by assumption) (by first | (walk_at "mine mem") | fail "x")) | fail "x") (by ktr_units) ?_ | refine ne_nil1 (by assumption) (by assumption) (by assumption) (by first | (walk_at "mine sub") | fail "x") (by first | (exact News.isList (by assumption) (by first | (walk_at "mine mem") | fail "x")) | fail "x") (by ktr_units) ?_ | fail "x"))
  k_with "call type:list" => (k_here; k_dflt (refine my_copy (by first | (k_asm) | fail "x") (by first | (k_asm) | fail "x") (by first | (exact isl_news (by assumption) (by assumption) (by first | (walk_at "mine sub") | fail "x")) | fail "x") (by first | assumption | omega | fail "x") ?_); intros; k_sweep)
  k_with "mine len" => first | (with_reducible assumption) | exact len_tk (by with_reducible assumption) | exact len_dr (by with_reducible assumption) | exact len_ta (by with_reducible assumption) | (simp only [List.length_cons, List.length_nil]; omega) | fail "x"
  k_with "in pure" => (intros; refine pure_elim (by assumption) (by first | (k_asm) | fail "x") (by first | (k_asm) | fail "x") ?_; intros; (rename Ext _ _ => kp9; clear kp9); k_sweep)
  k_with "call builtin:len" => (k_dflt (refine len_vs (by first | (exact News.isList (by assumption) (by first | (walk_at "mine mem") | fail "x")) | fail "x") (by rfl) (by first | (walk_at "mine len") | fail "x") ?_); intros)
  k_with "subscriptTail Name Name ref int" => (k_dflt (refine item_vs (by first | (exact News.isList (by assumption) (by first | (walk_at "mine mem") | fail "x")) | fail "x") (by rfl) (by assumption) (by assumption) ?_; k_whole))
  k_with "subscriptTail Name Slice ref ref" => (k_here; k_dflt (first | refine slice_rev (by first | (k_asm) | fail "x") (by first | (k_asm) | fail "x") (by first | (exact isl_news (by assumption) (by assumption) (by first | (walk_at "mine sub") | fail "x")) | fail "x") (by assumption) ?_ (by with_unfolding_all rfl) (by kmk_pure) | refine slice_from (by first | (k_asm) | fail "x") (by first | (k_asm) | fail "x") (by first | (exact News.isList (by assumption) (by first | (walk_at "mine mem") | fail "x")) | fail "x") (IsPart.int _ _) IsPart.none (by exact Int.natCast_nonneg _) (by first | (walk_at "mine len") | fail "x") ?_ (by with_unfolding_all rfl) (by kmk_pure) | refine slice_to (by first | (k_asm) | fail "x") (by first | (k_asm) | fail "x") (by first | (exact News.isList (by assumption) (by first | (walk_at "mine mem") | fail "x")) | fail "x") IsPart.none (IsPart.int _ _) (by exact Int.natCast_nonneg _) (by first | (walk_at "mine len") | fail "x") ?_ (by with_unfolding_all rfl) (by kmk_pure) | fail "x"); intros; k_sweep)
  k_with "binaryOp Add ref ref" => (k_here; k_dflt (refine my_add (by first | (k_asm) | fail "x") (by first | (k_asm) | fail "x") (by first | (exact News.isList (by assumption) (by first | (walk_at "mine mem") | fail "x")) | fail "x") (by first | (exact News.isList (by assumption) (by first | (walk_at "mine mem") | fail "x")) | fail "x") (by first | (walk_at "mine len") | fail "x") (by first | (walk_at "mine len") | fail "x") ?_); intros; k_sweep)
  k_with "call ref" => (k_here; k_dflt (refine law_due_rows (by exact Wd.keeps (by assumption) (Fr.keep (by first | (k_asm) | fail "x"))) (by ktr_room) (by ktr_units) (by assumption) (by first | (exact isl_news (by assumption) (by assumption) (by first | (walk_at "mine sub") | fail "x")) | fail "x") (by first | (exact isl_news (by assumption) (by assumption) (by first | (walk_at "mine sub") | fail "x")) | fail "x") (by first | (exact isl_news (by assumption) (by assumption) (by first | (walk_at "mine sub") | fail "x")) | fail "x") (by first | (exact all_news (by assumption) (by assumption) (by first | (walk_at "mine sub") | fail "x")) | fail "x") (by first | (exact all_news (by assumption) (by assumption) (by first | (walk_at "mine sub") | fail "x")) | fail "x") (by first | (exact all_news (by assumption) (by assumption) (by first | (walk_at "mine sub") | fail "x")) | fail "x") (by assumption) (by assumption) ?_); walk_at "in pure")
  k_with "call ref" => (k_here; k_dflt (refine compared_rows (by exact Wd.keeps (by assumption) (Fr.keep (by first | (k_asm) | fail "x"))) (by ktr_room) (by ktr_units) (by assumption) (by first | (exact isl_news (by assumption) (by assumption) (by first | (walk_at "mine sub") | fail "x")) | fail "x") (by first | (exact isl_news (by assumption) (by assumption) (by first | (walk_at "mine sub") | fail "x")) | fail "x") (by first | (exact isl_news (by assumption) (by assumption) (by first | (walk_at "mine sub") | fail "x")) | fail "x") (by first | (exact ords_news (by assumption) (by assumption) (by first | (walk_at "mine sub") | fail "x")) | fail "x") (by first | (exact all_news (by assumption) (by assumption) (by first | (walk_at "mine sub") | fail "x")) | fail "x") (by first | (exact all_news (by assumption) (by assumption) (by first | (walk_at "mine sub") | fail "x")) | fail "x") (by assumption) (by assumption) ?_); walk_at "in pure")
  k_with "mine hm" => (intros; first | (refine hm1 (by assumption) ?_; intros; (repeat' (first | with_reducible rfl | refine ifn (by assumption) ?_ | refine ifn (ne_t (by assumption)) ?_ | refine ifn Bool.false_ne_true ?_ | fail "x")); done) | (refine hm2 (by assumption) ?_; intros; (repeat' (first | with_reducible rfl | refine ifn (by assumption) ?_ | refine ifn (ne_t (by assumption)) ?_ | refine ifn Bool.false_ne_true ?_ | fail "x")); done) | (refine hm3 (by assumption) ?_; intros; (repeat' (first | with_reducible rfl | refine ifn (by assumption) ?_ | refine ifn (ne_t (by assumption)) ?_ | refine ifn Bool.false_ne_true ?_ | fail "x")); done) | ((repeat' (first | with_reducible rfl | refine ifn (by assumption) ?_ | refine ifn (ne_t (by assumption)) ?_ | refine ifn Bool.false_ne_true ?_ | fail "x")); done) | fail "hm")
  trivial
-- ENDLINES
section
variable {w : World} {dp un : Nat} {fr : Option (List Env)} {gd : Option (List Code)} {E : Value → Shared → Prop} {s : Shared} {Q : Value → Shared → Prop}
set_option maxHeartbeats 4000000 in
theorem law_merged_right {src : Addr} {x y : Int} {t u : Tok} {n : Nat}
    (W : Wd w (s.heap.hide src)) (hd : dp + 9 < recursionLimit) (hu : un + 500 < cLine) (hs : s.heap.get? src = some (srcO x t y u n))
    (ret : ∀ h' tk', KeepBut src s.heap h' → Q (.bool true) { s with heap := h', toks := tk' }) :
    wpAny (model pg w) (Ar dp un fr gd) (call (.ref 164) [.ref src]) Q E s := by
  k_dflt (refine' enterSC (binds := [("source", .ref src)]) W hs ?k6 ?k7 ?k8 ?k9 ?kB ?kD ?_ ?c2 ?c3 ?c4; (case k6 => k_is); (case k7 => k_is); (case k8 => ktr_room); (case k9 => exact BindsTo.of_eq rfl); (case kB => exact rfl); (case kD => decide +kernel); (case c2 => exact rfl); (case c3 => exact rfl); (case c4 => exact rfl); k_whole)
  intro L h₁ tk₁ cells₁ hL F N Y₁ off₁
  have X := W.K
  refine Wd.elim W fun mean mg mb T => ?_
  k_cells Y₁
  (try simp only [List.cons_append, List.nil_append] at N)
  have off₂ : L + 1 ≠ src := off₁ _ (List.Mem.head _)
  clear off₁
  (try dsimp only)
  (try k_fold)
  rename_i oc dc
  walk_at "mine steps"
  rename IsRange _ _ _ _ _ _ _ _ => R'
  refine comp_range (fun i ys nw => ∃ (tl : List (Addr × Obj)) (os : List Od) (x' : Int) (tx : Tok) (y' : Int) (ty : Tok), nw = (L + 1, oc) :: (src, srcO x' tx y' ty n) :: tl ∧ (∀ p ∈ tl, p.1 ≠ src) ∧ os.length = i ∧ IsAll (InL tl) ys (os.map Od.py)) rfl (by assumption) (by assumption) R' (by omega) (by omega)
    ⟨[], [], _, _, _, _, rfl, (fun _ h => nomatch h), rfl, .nil⟩ ?_ ?_
  · intro s' ovs nw hx3 hx4 D h tk F' N' o1
    refine hideG fun G9 kG9 => ?_
    obtain ⟨h', rfl⟩ := hx3
    obtain ⟨tl, os, x2, tx2, y2, ty2, rfl, offs, hl, hI⟩ := hx4
    refine kG9 ?_
    clear kG9 G9
    clear R'
    walk_at "mine steps"
    refine comp_list (vs := ovs) (fun i ys nw => ∃ tl2, nw = (D, lst ovs) :: (L + 1, oc) :: (src, srcO x2 tx2 y2 ty2 n) :: tl2 ∧ (∀ p ∈ tl2, p.1 ≠ src) ∧ (∀ p ∈ tl, p ∈ tl2) ∧ OrdIs w (InL tl2) ys (os.take i)) rfl (by assumption) (by assumption)
      (.inr ⟨lst ovs, ?_, rfl, _, rfl⟩) ?_ ⟨tl, rfl, offs, (fun _ h => h), by simp only [List.take_zero]; exact .nil⟩ ?_ ?_
    · rintro i ys nw ⟨tl2, rfl, _⟩
      exact .head _
    · have := hI.length
      simp only [List.length_map] at this
      omega
    · intro s' mvs nw hx3 hx4 D2 h tk F' N' o2
      refine hideG fun G9 kG9 => ?_
      obtain ⟨h', rfl⟩ := hx3
      obtain ⟨tl2, rfl, offs2, hsub, hO⟩ := hx4
      refine kG9 ?_
      clear kG9 G9
      have hlen : os.length ≤ 3 := by omega
      have D_s : D ≠ src := fun q => o1.2.1 q.symm
      have D2_s : D2 ≠ src := fun q => o2.2.2.1 q.symm
      have hI2 : IsAll (InL tl2) ovs (os.map Od.py) := hI.mono fun _ _ q => hsub _ q
      have hO2 : OrdIs w (InL tl2) mvs os := by
        rwa [List.take_of_length_le (by have := hI.length; simp only [List.length_map] at this; omega)] at hO
      clear hsub hO hI offs o1 o2
      walk_at "mine steps"
      rename Fr _ _ _ _ => F3
      rename News _ _ _ _ => N3
      refine law_listed (Wd.hid W F3) (by ktr_room) (by ktr_units) (src_get N3 (by walk_at "mine mem")) (list_hid N3 (List.Mem.tail _ (List.Mem.head _)) D_s) (hI2.mono (hid_of N3 offs2 (by walk_at "mine sub"))) hlen ?_
      intro l1 us1 k1 rows1 led1 x3 tx3 y3 ty3 h3 tk3 hk1 hL1 il1 ia1 hf1 kp1 hs1
      refine mut_elimT F3 N3 (by walk_at "mine pickt") kp1 hs1 hf1 ?_
      intro tl3 etl3 of3 oL3 F4 N4
      (try dsimp only at N4)
      clear F3 N3 kp1 hs1 hf1 oL3
      have s1 := (tail_sub etl3).1
      have s2 := (tail_sub etl3).2
      walk_at "mine steps"
      rename Fr _ _ _ _ => F5
      rename News _ _ _ _ => N5
      refine law_listed (Wd.hid W F5) (by ktr_room) (by ktr_units) (src_get N5 (by walk_at "mine mem")) (list_hid N5 (List.Mem.tail _ (List.Mem.head _)) D_s) (hI2.mono (hid_of N5 offs2 (fun p hp => by have := s2 p hp; walk_at "mine memA"))) hlen ?_
      intro l2 us2 k2 rows2 led2 x4 tx4 y4 ty4 h4 tk4 hk2 hL2 il2 ia2 hf2 kp2 hs2
      refine mut_elimT F5 N5 (by walk_at "mine pickt") kp2 hs2 hf2 ?_
      intro tl4 etl4 of4 oL4 F6 N6
      (try dsimp only at N6)
      clear F5 N5 kp2 hs2 hf2 oL4
      have s3 := (tail_sub etl4).1
      have s4 := (tail_sub etl4).2
      have R1 := hL1.rows1 hk1
      have R2 := hL2.rows2 hk2
      have hI4 : IsAll (InL tl4) ovs (os.map Od.py) := hI2.mono fun _ _ q => s4 _ (s2 _ q)
      have hO4 : OrdIs w (InL tl4) mvs os := hO2.mono fun _ _ q => s4 _ (s2 _ q)
      have il14 : IsL (InL tl4) l1 us1 := let ⟨o, k, a, b⟩ := il1; ⟨o, k, s4 _ (s1 _ a), b⟩
      have ia14 : IsAll (InL tl4) us1 (rows1.map pairPy) := ia1.mono fun _ _ q => s4 _ (s1 _ q)
      have il24 : IsL (InL tl4) l2 us2 := let ⟨o, k, a, b⟩ := il2; ⟨o, k, s3 _ a, b⟩
      have ia24 : IsAll (InL tl4) us2 (rows2.map pairPy) := ia2.mono fun _ _ q => s3 _ q
      clear hI2 hO2 s1 s2 s3 s4 etl3 etl4 il1 ia1 il2 ia2 hL1 hL2 hk1 hk2 offs2 of3 hl
      walk_at "mine steps"
      rename Fr _ _ _ _ => F8
      rename News _ _ _ _ => N8
      have J1 := is_list il14 ia14
      have hf1 := R1.fit
      refine' cut_one (Str.ofString "other") (fun v led => ∃ l us r2, v = .ref l ∧ (D2, lst mvs) ∈ led ∧ (D, lst ovs) ∈ led ∧ (∀ p ∈ tl4, p ∈ led) ∧ IsL (InL led) l us ∧ IsAll (InL led) us (r2.map pairPy) ∧ Rows2 os r2) ?cF ?cA ?cB
      case cF => exact F8
      case cA =>
        clear hI4 hO4
        rcases rows1 with _ | ⟨p1, rows1⟩
        · walk1
          walk_at "mine steps"
          rename News _ _ _ _ => N9
          rename Fr _ _ _ _ => F9
          refine OPost.intro (v := .ref l2) (led' := (D2, lst mvs) :: (D, lst ovs) :: tl4) F9 N9 ?_ ?_ ⟨l2, us2, rows2, rfl, .head _, .tail _ (.head _), fun p hp => .tail _ (.tail _ hp), il24.sub fun p hp => .tail _ (.tail _ hp), ia24.mono fun a o q => .tail _ (.tail _ q), R2⟩
          · intro y
            by_cases e : y = Str.ofString "other"
            · subst e; rfl
            · simp [e]
          · intro p hp
            simp only [List.mem_cons] at hp
            rcases hp with rfl | rfl | hp <;> (repeat' (first | assumption | exact List.Mem.head _ | apply List.Mem.tail))
        · refine hideG fun G9 kG9 => ?_
          obtain ⟨v1, ur, rfl, i1, iur⟩ := ia14.consE
          obtain ⟨ap, op, tp, lr, np, rfl, hm9, hc9, hd9, ul, ilr, iur1⟩ := pairE i1
          refine kG9 ?_
          clear kG9 G9
          have hul : ul.length ≤ 1000 := by
            have e1 := iur1.length
            have e2 := (R1.fit p1 (.head _)).length
            simp only [List.length_map] at e1
            omega
          clear i1 iur
          walk1
          walk_at "mine steps"
          · rename News _ _ _ _ => N9
            rename Fr _ _ _ _ => F9
            obtain ⟨q1, q2⟩ := new_other (List.Mem.head _) (List.Mem.tail _ (List.Mem.head _)) (List.Mem.tail _ (List.Mem.tail _ (List.Mem.head _))) (new_sub N9 iur1 (by walk_at "mine sub"))
            refine OPost.intro F9 N9 ?_ (fun p hp => hp) ⟨_, _, [(p1.1, 20)], rfl, ?_, ?_, ?_, q1, q2, rows2_one (R1.fit p1 (.head _))⟩
            · intro y
              by_cases e : y = Str.ofString "other"
              · subst e; rfl
              · simp [e]
            · walk_at "mine mem"
            · walk_at "mine mem"
            · walk_at "mine sub"
          · rename News _ _ _ _ => N9
            rename Fr _ _ _ _ => F9
            refine OPost.intro (v := .ref l2) (led' := (D2, lst mvs) :: (D, lst ovs) :: tl4) F9 N9 ?_ ?_ ⟨l2, us2, rows2, rfl, .head _, .tail _ (.head _), fun p hp => .tail _ (.tail _ hp), il24.sub fun p hp => .tail _ (.tail _ hp), ia24.mono fun a o q => .tail _ (.tail _ q), R2⟩
            · intro y
              by_cases e : y = Str.ofString "other"
              · subst e; rfl
              · simp [e]
            · intro p hp
              simp only [List.mem_cons] at hp
              rcases hp with rfl | rfl | hp <;> (repeat' (first | assumption | exact List.Mem.head _ | apply List.Mem.tail))
      case cB =>
        clear il24 ia24 R2 F8 N8 J1
        intro v led h tk F9 N9 hx6
        refine hideG fun G9 kG9 => ?_
        obtain ⟨l, us3, r2, rfl, mD2, mD, sub, il3, ia3, R2⟩ := hx6
        refine kG9 ?_
        clear kG9 G9
        have il1 := il14.sub sub
        have ia1 : IsAll (InL led) us1 (rows1.map pairPy) := ia14.mono fun _ _ q => sub _ q
        have ilo : IsL (InL led) D ovs := ⟨_, _, mD, rfl, rfl⟩
        have ilm : IsL (InL led) D2 mvs := ⟨_, _, mD2, rfl, rfl⟩
        have iao : IsAll (InL led) ovs (os.map Od.py) := hI4.mono fun _ _ q => sub _ q
        have iam : OrdIs w (InL led) mvs os := hO4.mono fun _ _ q => sub _ q
        have hu1 : us1.length ≤ 3 := by
          have e1 := ia1.length
          have e2 := R1.len
          simp only [List.length_map] at e1
          omega
        have hu3 : us3.length = r2.length := by simpa using ia3.length
        have hu3' : us3.length ≤ 3 := by have := R2.len; omega
        clear il14 ia14 hI4 hO4 sub mD mD2 hf1
        walk_at "mine steps"
        rename Fr _ _ _ _ => F10
        rename News _ _ _ _ => N10
        rename_i D5 c5 h5 all5 h6
        refine' For_invVF ?f1 ?f2 ?f3 ?f4
        case f1 => exact F10
        case f2 => rfl
        case f3 => rfl
        walk_at "mine steps"
        rename Fr _ _ _ _ => F11
        rename News _ _ _ _ => N11
        rename_i RV h11 all11
        have d1 := dueAt_fit R1 R2
        refine' my_list (vs := us3.reverse) [Str.ofString "spot", Str.ofString "due"] (fun i u lg => ∃ (Dd : Addr) (c : Nat) (zs : List Value), u (Str.ofString "due") = some (.ref Dd) ∧ lg = (Dd, listOf zs.toArray c) :: (RV, listOf us3.reverse.toArray 0) :: led ∧ IsAll (InL led) zs ((dueAt os rows1 r2 i).map pairPy))
          rfl (.inr ⟨listOf us3.reverse.toArray 0, ?_, rfl, 0, rfl⟩) ?gF ?gN ?gJ ?_ ?_
        case gF => exact F11
        case gJ => exact ⟨D5, c5, us1, rfl, rfl, by rw [dueAt_zero]; exact ia1⟩
        case gN =>
          intro p hp
          simp only [List.mem_cons] at hp
          rcases hp with rfl | rfl | hp
          · exact N11 _ (.tail _ (.head _))
          · exact N11 _ (.head _)
          · exact N11 _ (.tail _ (.tail _ hp))
        · intro i u lg hx3
          refine hideG fun G9 kG9 => ?_
          obtain ⟨Dd, c, zs, _, rfl, _⟩ := hx3
          refine kG9 ?_
          clear kG9 G9
          exact .tail _ (.head _)
        · intro i v u lg h' tk I oI hv hx9 off F' N'
          refine hideG fun G9 kG9 => ?_
          obtain ⟨Dd, c, zs, hu9, rfl, iz⟩ := hx9
          obtain ⟨hi, hv2⟩ := getRev hv
          obtain ⟨p, hp, ⟨ap, op, tp, lr, np, ul, rfl, ma, mc, md, ilr, iul⟩, ip⟩ := pair_of ia3 hv2
          have F2 : Fr (s.heap.hide src) L h' _ := fr_stored2 F' hu9
          have N2 : News (s.heap.hide src) L h' ((I, oI) :: (Dd, listOf zs.toArray c) :: (RV, listOf us3.reverse.toArray 0) :: led) := N'
          clear F' N' N11 hv hv2
          obtain ⟨df, dl⟩ := d1 i
          refine kG9 ?_
          clear kG9 G9
          have hzd : zs.length = (dueAt os rows1 r2 i).length := by simpa using iz.length
          have hz9 : zs.length ≤ 999 := by omega
          have hz1 : zs.length ≤ 1000 := by omega
          have fp := R2.fit p (List.mem_of_getElem? hp)
          have dsucc := dueAt_succ (os := os) (r1 := rows1) (r2 := r2) (i := i) (p := p) (by rw [← hu3]; exact hp) (by omega)
          walk_at "mine steps"
          rename Fr _ _ _ _ => F3
          rename News _ _ _ _ => N3
          refine' my_whileX (Str.ofString "spot") _ zs.length (fun n v lg => ∃ (k : Nat) (t : Tok), v = .int (k : Int) t ∧ k ≤ zs.length ∧ n = zs.length - k ∧ lg = (I, oI) :: (Dd, listOf zs.toArray c) :: (RV, listOf us3.reverse.toArray 0) :: led ∧ ∀ j q, j < k → (dueAt os rows1 r2 i)[j]? = some q → q.2 < 10 ∧ dueRows os q.1 p.1 ≤ 0)
            (fun v lg => ∃ (k : Nat) (t : Tok), v = .int (k : Int) t ∧ k ≤ zs.length ∧ lg = (I, oI) :: (Dd, listOf zs.toArray c) :: (RV, listOf us3.reverse.toArray 0) :: led ∧ (∀ j q, j < k → (dueAt os rows1 r2 i)[j]? = some q → q.2 < 10 ∧ dueRows os q.1 p.1 ≤ 0) ∧ ∀ q, (dueAt os rows1 r2 i)[k]? = some q → ¬ (q.2 < 10 ∧ dueRows os q.1 p.1 ≤ 0)) ?wF ?wN ?wx ?wJ ?wT ?wD
          case wF => exact F3
          case wN => exact N3
          case wx => rfl
          case wJ => exact ⟨0, _, rfl, Nat.zero_le _, rfl, rfl, fun j q hj => absurd hj (Nat.not_lt_zero _)⟩
          case wT =>
            intro n1 v lg h2 tk2 F4 N4 hx7
            refine hideG fun G9 kG9 => ?_
            obtain ⟨k, tv, rfl, hk, rfl, rfl, hall⟩ := hx7
            refine kG9 ?_
            clear kG9 G9
            clear F3 N3
            have hk3 : k ≤ 1000 := by omega
            by_cases hkz : k < zs.length
            · refine hideG fun G9 kG9 => ?_
              obtain ⟨q, hq⟩ : ∃ q, (dueAt os rows1 r2 i)[k]? = some q := ⟨_, List.getElem?_eq_getElem (by omega)⟩
              obtain ⟨vq, hvq, ⟨aq, oq, tq, lq, nq, uq, rfl, ma2, mc2, md2, ilq, iuq⟩, _⟩ := pair_at iz hq
              refine kG9 ?_
              clear kG9 G9
              have fq := df q (List.mem_of_getElem? hq)
              have hks : (k : Int) + 1 = ((k + 1 : Nat) : Int) := by omega
              walk_at "mine steps"
              · rename (_ = dueRows os q.1 p.1) => e9
                refine WPost.next (by assumption) (by assumption) (by walk_at "mine hm") ⟨zs.length - (k + 1), _, by omega, rfl, k + 1, _, congrArg (Value.int · _) hks, by omega, rfl, rfl, fun j q' hj hq' => ?_⟩
                by_cases ej : j = k
                · subst ej
                  rw [hq] at hq'; cases hq'
                  exact ⟨by assumption, by omega⟩
                · exact hall j q' (by omega) hq'
              · rename (_ = dueRows os q.1 p.1) => e9
                refine XPost.intro (by assumption) (by assumption) ⟨k, _, rfl, hk, rfl, hall, fun q' hq' => ?_⟩
                rw [hq] at hq'; cases hq'
                rintro ⟨_, h9⟩
                omega
              · refine XPost.intro (by assumption) (by assumption) ⟨k, _, rfl, hk, rfl, hall, fun q' hq' => ?_⟩
                rw [hq] at hq'; cases hq'
                rintro ⟨h9, _⟩
                omega
            · walk_at "mine steps"
              refine XPost.intro (by assumption) (by assumption) ⟨k, _, rfl, hk, rfl, hall, fun q' hq' => ?_⟩
              have := (List.getElem?_eq_some_iff.mp hq').1
              omega
          case wD =>
            intro v lg h2 tk2 F4 N4 hx6
            refine hideG fun G9 kG9 => ?_
            obtain ⟨k, tv, rfl, hk, rfl, hall, hno⟩ := hx6
            refine kG9 ?_
            clear kG9 G9
            clear F3 N3
            walk_at "mine steps"
            rename News _ _ _ _ => N6
            have q9 := due_end N6 (by assumption)
            refine TPost.next (by assumption) q9.2 ?_ (by walk_at "mine hm") ⟨_, 0, zs.take (k : Int).toNat ++ [Value.ref ap] ++ zs.drop (k : Int).toNat, rfl, rfl, ?_⟩
            · intro e he
              rcases List.mem_cons.mp he with rfl | he
              · exact q9.1
              · exact off e (.tail _ he)
            · rw [dsucc, insL_at (by omega) hall hno, Int.toNat_natCast]
              simp only [List.map_append, List.map_cons, List.map_take, List.map_drop, List.append_assoc]
              exact (iz.take k).append (.cons ip (iz.drop k))
        · intro u lg h2 tk2 hx4 F' N'
          refine hideG fun G9 kG9 => ?_
          obtain ⟨Dd, c, zs, hu9, rfl, iz⟩ := hx4
          refine kG9 ?_
          clear kG9 G9
          have F2 : Fr (s.heap.hide src) L h2 _ := fr_stored2d F' hu9
          have N2 : News (s.heap.hide src) L h2 ((Dd, listOf zs.toArray c) :: (RV, listOf us3.reverse.toArray 0) :: led) := N'
          have e9 : us3.reverse.length = r2.length := by simp [hu3]
          rw [e9, dueAt_all R1 R2] at iz
          clear F' N' N11 hu9
          walk_at "mine steps"
          refine hideG fun G9 kG9 => ?_
          obtain ⟨o1, k1', m1, c1, d1'⟩ := id il1
          obtain ⟨o3, k3', m3, c3, d3'⟩ := id il3
          refine kG9 ?_
          clear kG9 G9
          refine' my_For_name ?n1 ?n2
          case n2 => exact F2
          walk_at "mine steps"
          refine' my_list2 (vs := us1) [Str.ofString "second", Str.ofString "number"] (fun i u lg => (Dd, listOf zs.toArray c) :: led = lg) (PairXY led rows1) rfl rfl rfl rfl (.inr ⟨o1, ?m1, c1, k1', d1'⟩) ?m2 ?m3 rfl ?m4 ?m5 ?m6
          case m1 =>
            rintro i u lg rfl
            exact .tail _ m1
          case m2 => assumption
          case m3 =>
            intro p hp
            refine N2 p ?_
            rcases List.mem_cons.mp hp with rfl | hp
            · exact .head _
            · exact .tail _ (.tail _ hp)
          case m4 =>
            rintro i v u lg h3 hv rfl _ hk
            exact pair_xy ia1 hv (fun p hp => .tail _ hp) hk
          case m5 =>
            intro i xv yv u lg h3 tk3 I oI hi hx10 hx11 off F' N'
            refine hideG fun G9 kG9 => ?_
            obtain ⟨p, lr, ul, tp, hp, rfl, rfl, ilr, iul⟩ := hx10
            obtain rfl := hx11
            refine kG9 ?_
            clear kG9 G9
            have F3 : Fr (s.heap.hide src) L h3 _ := fr_stored3 F'
            have N3 : News (s.heap.hide src) L h3 ((I, oI) :: (Dd, listOf zs.toArray c) :: led) := N'
            clear F' N' F2 N2
            have fp := R1.fit p (List.mem_of_getElem? hp)
            walk_at "mine steps"
            refine' my_For_name ?n3 ?n4
            case n4 => exact F3
            walk_at "mine steps"
            refine' my_list2 (vs := us3) [] (fun i u lg => (I, oI) :: (Dd, listOf zs.toArray c) :: led = lg) (PairXY led r2) rfl rfl rfl rfl (.inr ⟨o3, ?m11, c3, k3', d3'⟩) ?m12 ?m13 rfl ?m14 ?m15 ?m16
            case m11 =>
              rintro i u lg rfl
              exact .tail _ (.tail _ m3)
            case m12 => assumption
            case m13 => exact N3
            case m14 =>
              rintro i v u lg h3 hv rfl _ hk
              exact pair_xy ia3 hv (fun p hp => .tail _ (.tail _ hp)) hk
            case m15 =>
              intro i2 xv yv u lg h4 tk4 I2 oI2 hi2 hx10 hx11 off2 F' N'
              refine hideG fun G9 kG9 => ?_
              obtain ⟨q, lq, uq, tq, hq, rfl, rfl, ilq, iuq⟩ := hx10
              obtain rfl := hx11
              refine kG9 ?_
              clear kG9 G9
              have F4 : Fr (s.heap.hide src) L h4 _ := fr_stored0 F'
              have N4 : News (s.heap.hide src) L h4 ((I2, oI2) :: (I, oI) :: (Dd, listOf zs.toArray c) :: led) := N'
              clear F' N' F3 N3
              have fq := R2.fit q (List.mem_of_getElem? hq)
              walk_at "mine steps"
              · exfalso
                rename (@Ne Int _ _) => hne
                clear ret
                omega
              · rename News _ _ _ _ => N5
                exact TPost.next (by assumption) N5 off2 (by walk_at "mine hm") rfl
            case m16 =>
              rintro u lg h4 tk4 rfl F' N'
              have F4 : Fr (s.heap.hide src) L h4 _ := F'
              have N4 : News (s.heap.hide src) L h4 ((I, oI) :: (Dd, listOf zs.toArray c) :: led) := N'
              walk_at "mine steps"
              exact TPost.next F4 N4 off (by walk_at "mine hm") rfl
          case m6 =>
            rintro u lg h3 tk3 rfl F' N'
            have F3 : Fr (s.heap.hide src) L h3 _ := fr_stored3d F'
            have N3 : News (s.heap.hide src) L h3 ((Dd, listOf zs.toArray c) :: led) := N'
            clear F' N' F2 N2
            walk_at "mine steps"
            rename Fr _ _ _ _ => F5
            rename News _ _ _ _ => N5
            have jD : Is (InL ((Dd, listOf zs.toArray c) :: led)) (.ref Dd) (.list ((mergeL os rows1 r2).map pairPy)) := .list (.head _) rfl rfl (iz.mono fun _ _ q => .tail _ q)
            have shm : ∀ p ∈ mergeL os rows1 r2, FitRow os p.1 := fun p hp => (mergeL_mem _ _ hp).elim (R1.fit p) (R2.fit p)
            refine merged (Wd.keeps W F5.keep) (by ktr_room) (by ktr_units) hlen R1.len R2.len (isl_news N5 ilm (by walk_at "mine sub")) (isl_news N5 il1 (by walk_at "mine sub")) (isl_news N5 il3 (by walk_at "mine sub")) (ords_news N5 iam (by walk_at "mine sub")) (all_news N5 ia1 (by walk_at "mine sub")) (all_news N5 ia3 (by walk_at "mine sub")) R1.fit R2.fit ?_
            intro a9 ws9 led9 h9 tk9 ex9 fr9 il9 ia9
            have F6 := Fr.grownK F5 ex9
            have N6 := News.grown N5 ex9
            have j9 : Is (At h9) (.ref a9) (.list ((mergeL os rows1 r2).map pairPy)) := let ⟨o, n, q1, q2, q3⟩ := il9; .list (fr9 _ q1).1 q2 q3 (ia9.mono fun a o q => ex9 a o q)
            clear F5 N5 il9 ia9 fr9 ex9
            walk_at "mine steps"
            refine eq_same j9 (is_news N6 jD (by walk_at "mine sub")) (shaped_pairs shm) (by ktr_units) ?_
            clear j9 jD
            walk_at "mine steps"
            rename News _ _ _ _ => N8
            obtain ⟨q1, q2⟩ := both_is N8 il1 ia1 il3 ia3
            refine eq_same q1 q2 (shaped_two R1.fit R2.fit) (by ktr_units) ?_
            walk_at "mine steps"
            exact ret _ _ (keepBut_of (by assumption))
    · intro i ys nw v hv hx5 I oI C oC D2 m₂ h tk E' hC hx9 F' N' off ne
      refine hideG fun G9 kG9 => ?_
      obtain ⟨tl2, rfl, offs2, hsub, hO⟩ := hx5
      have hi : i < os.length := by
        have e1 := (List.getElem?_eq_some_iff.mp hv).1
        have e2 := hI.length
        simp only [List.length_map] at e2
        omega
      obtain ⟨o, ho⟩ : ∃ o, os[i]? = some o := ⟨_, List.getElem?_eq_getElem hi⟩
      obtain ⟨v', hv', io1⟩ := hI.getO ho
      rw [hv] at hv'; obtain rfl := Option.some.inj hv'
      obtain ⟨ao, oo, nt, rfl, p1, q1, d1⟩ := odE io1
      refine kG9 ?_
      clear kG9 G9
      replace p1 := hsub _ p1
      have om := off.mem
      walk_at "mine steps"
      rename_i x9 dx9 od9 h9 tk9 lt9 all9 g9 F9 N9
      refine CompEnd.intro F9 N9 ((D, lst ovs) :: (L + 1, oc) :: (src, srcO x2 tx2 y2 ty2 n) :: (x9, instObj 32 dx9) :: (dx9, od9) :: tl2) ?_ (Off3.of fun p hp => ?_) (.inr ⟨_, .head _, rfl, _, rfl⟩) ⟨_, rfl, fun p hp => ?_, fun p hp => .tail _ (.tail _ (hsub p hp)), ord_made hO ho g9⟩
      · intro p hp
        simp only [List.mem_cons] at hp
        rcases hp with rfl | rfl | rfl | rfl | rfl | rfl | rfl | rfl | hp <;> (repeat' (first | assumption | exact List.Mem.head _ | apply List.Mem.tail))
      · have l1 := all9 (I, oI) (by walk_at "mine mem")
        have l2 := all9 (C, oC) (by walk_at "mine mem")
        have l3 := all9 (D2, lst ys) (by walk_at "mine mem")
        simp only [List.mem_cons] at hp
        rcases hp with rfl | rfl | rfl | rfl | rfl | hp
        · exact om _ (by walk_at "mine mem")
        · exact om _ (by walk_at "mine mem")
        · exact om _ (by walk_at "mine mem")
        · exact ⟨Nat.ne_of_gt (Nat.lt_trans l1 lt9), Nat.ne_of_gt (Nat.lt_trans l2 lt9), Nat.ne_of_gt (Nat.lt_trans l3 lt9)⟩
        · exact ⟨Nat.ne_of_gt l1, Nat.ne_of_gt l2, Nat.ne_of_gt l3⟩
        · exact om _ (by walk_at "mine memA")
      · have l4 := all9 (src, srcO x2 tx2 y2 ty2 n) (by walk_at "mine mem")
        simp only [List.mem_cons] at hp
        rcases hp with rfl | rfl | hp
        · exact Nat.ne_of_gt (Nat.lt_trans l4 lt9)
        · exact Nat.ne_of_gt l4
        · exact offs2 p hp
  · intro i ys nw hi hx4 tI I oI C oC D m₂ h tk E' hC hx9 F' N' off ne
    refine hideG fun G9 kG9 => ?_
    obtain ⟨tl, os, x2, tx2, y2, ty2, rfl, offs, hl, hI⟩ := hx4
    refine kG9 ?_
    clear kG9 G9
    clear R'
    have om := off.mem
    have sI : src ≠ I := (om (src, srcO x2 tx2 y2 ty2 n) (by walk_at "mine mem")).1
    have sC : src ≠ C := (om (src, srcO x2 tx2 y2 ty2 n) (by walk_at "mine mem")).2.1
    have sD : src ≠ D := (om (src, srcO x2 tx2 y2 ty2 n) (by walk_at "mine mem")).2.2
    walk_at "mine steps"
    rename _ ∈ [Value.none, Value.bool true, Value.bool false] => hv9
    rename_i x9 tx9 y9 ty9 h8 tk8 hs8 D9 h9 F9 N9 l9
    refine hideG fun G9 kG9 => ?_
    obtain ⟨wy, rfl⟩ := way_of hv9
    obtain ⟨c1, c2, N9⟩ := tupB N9
    refine kG9 ?_
    clear kG9 G9
    refine CompEnd.intro F9 N9 ((L + 1, oc) :: (src, srcO x9 tx9 y9 ty9 n) :: (D9, { cls := .type "tuple", data := .seq #[.bool c1, .bool c2, wayV wy] }) :: tl) ?_ (Off3.of fun p hp => ?_) trivial ⟨_, os ++ [⟨c1, c2, wy⟩], _, _, _, _, rfl, fun p hp => ?_, by simp [hl], od_made hI⟩
    · intro p hp
      simp only [List.mem_cons] at hp
      rcases hp with rfl | rfl | rfl | rfl | rfl | rfl | hp <;> (repeat' (first | assumption | exact List.Mem.head _ | apply List.Mem.tail))
    · simp only [List.mem_cons] at hp
      rcases hp with rfl | rfl | rfl | hp
      · exact om _ (by walk_at "mine mem")
      · exact om (src, srcO x2 tx2 y2 ty2 n) (by walk_at "mine mem")
      · exact ⟨Nat.ne_of_gt l9.2.1, Nat.ne_of_gt l9.2.2.1, Nat.ne_of_gt l9.2.2.2.1⟩
      · exact om _ (by walk_at "mine memA")
    · rcases List.mem_cons.mp hp with rfl | hp
      · exact Nat.ne_of_gt l9.2.2.2.2.2.1
      · exact offs p hp
end
end

section
open PySem PySem.W PyProof.Rows PyProof.Rows.LCg
theorem heard1 : cmpTxt (Str.ofString "A") (Str.ofString "a") (some true) = -1 := by decide +kernel
theorem heard2 : cmpTxt (Str.ofString "A") (Str.ofString "a") (some false) = 1 := by decide +kernel
theorem heard3 : cmpTxt (Str.ofString "a") (Str.ofString "B") (some true) = -1 := by decide +kernel
theorem ints_us {vs : List Value} {ns : List Int} (h : IntsAre vs ns) : vs = [] ∨ ∃ z t r, vs = .int z t :: r := by
  cases h with
  | nil => exact .inl rfl
  | cons => exact .inr ⟨_, _, _, rfl⟩
theorem mut_out {h₀ h h' : Heap} {L src : Addr} {m : Str → Option Value} (F : Fr h₀ L h m) (hn : h₀.get? src = none) (hL : L ≠ src) (kp : KeepBut src h h') : Fr h₀ L h' m :=
  ⟨F.ns.at' fun o e => kp L o hL e, fun b o e => kp b o (fun q => by rw [q, hn] at e; cases e) (F.keep b o e), F.above⟩
theorem wd_hide {w : World} {h₀ h : Heap} {src : Addr} (W : Wd w h₀) (k : Ext h₀ h) (hn : h₀.get? src = none) : Wd w (h.hide src) :=
  W.keeps fun b o e => by
    have hne : b ≠ src := fun q => by rw [q, hn] at e; cases e
    rw [Heap.hide_ne _ hne]; exact k b o e
theorem fr_L {h₀ h : Heap} {L src : Addr} {m : Str → Option Value} (F : Fr h₀ L h m) (hn : h.get? src = none) : h₀.get? src = none ∧ L ≠ src := by
  refine ⟨?_, fun q => ?_⟩
  · cases e : h₀.get? src with
    | none => rfl
    | some o => have := F.keep _ _ e; rw [hn] at this; cases this
  · obtain ⟨oL, _, _, hL, _⟩ := F.ns
    rw [q, hn] at hL; cases hL
section
variable {w : World} {dp un : Nat} {fr : Option (List Env)} {gd : Option (List Code)} {E : Value → Shared → Prop} {s : Shared} {Q : Value → Shared → Prop}
theorem cmp_txtB {x y : Str} {t1 t2 : Tok} {b : Bool} {r : Int} (hr : cmpTxt x y (some b) = r)
    (W : Wd w s.heap) (hd : dp + 2 < recursionLimit) (hu : un + 100 < cLine) (l1 : x.length ≤ 3) (l2 : y.length ≤ 3)
    (ret : ∀ t h' tk', Ext s.heap h' → Q (.int r t) { s with heap := h', toks := tk' }) :
    wpAny (model pg w) (Ar dp un fr gd) (call (.ref 57) [.str x t1, .str y t2, .bool b]) Q E s :=
  cmp_txt (way := some b) W hd hu l1 l2 fun r' t h' tk' e k => by rw [e, hr]; exact ret t h' tk' k
end
end

section
open PySem PySem.W PyProof.Rows PyProof.Rows.LCg
theorem lines19 : True := by
  k_with_none
  k_with "eval Call" => k_dflt (refine Call_ ?_)
  k_with "mine steps" => repeat' (first | (k_unfold; (try dsimp only)) | ((fail_if_success (with_reducible show wpAny _ _ (PySem.call (PySem.Value.ref 85) _) _ _ _)); (fail_if_success (with_reducible show wpAny _ _ (PySem.call (PySem.Value.ref 147) _) _ _ _)); (fail_if_success (with_reducible show wpAny _ _ (PySem.call (PySem.Value.ref 164) _) _ _ _)); first | walk1 | (dsimp only; walk1)) | fail "no step")
  k_with "call ref" => (k_here; k_dflt (first | refine cmp_txtB heard1 (by first | (exact Wd.keeps (by assumption) (Fr.keep (by first | (k_asm) | fail "x"))) | fail "x") (by ktr_room) (by ktr_units) (by decide) (by decide) ?_ | refine cmp_txtB heard2 (by first | (exact Wd.keeps (by assumption) (Fr.keep (by first | (k_asm) | fail "x"))) | fail "x") (by ktr_room) (by ktr_units) (by decide) (by decide) ?_ | refine cmp_txtB heard3 (by first | (exact Wd.keeps (by assumption) (Fr.keep (by first | (k_asm) | fail "x"))) | fail "x") (by ktr_room) (by ktr_units) (by decide) (by decide) ?_ | fail "x"); intros; refine pure_elim (by assumption) (by first | (k_asm) | fail "x") (by first | (k_asm) | fail "x") ?_; intros; (rename Ext _ _ => kp9; clear kp9); k_sweep)
  trivial
set_option maxHeartbeats 4000000 in
theorem fin : PySem.Challenge.rw_xm0634_01.Holds := by
  refine hd ?_
  k_fill
  intro w s₀ s₁ mg mb G Y fa o pm cd doc dV kV ho hfd hcd hD hmg hg args vals as hpre hlay hrd hwl hlo
  have KX := kIn_of Y
  have X := (Ground.X G).1
  have V := (Ground.X G).2
  refine Ground.open G ?_
  intro T B D TE TW
  (try (refine guard_noD D (by decide +kernel) ?_; clear D))
  obtain ⟨_, _, M⟩ := bmod_of_top T
  have TA := at_of_top T
  (try (obtain ⟨_, _, he, B0⟩ := based_of_top T rfl hmg ho hfd; have he' : cd = _ := he; subst he'; clear he))
  clear hmg
  wrow_args hpre hlay hrd hwl hlo
  all_goals (
    first | refine callC_kw (enter_call ?_) | refine enter_call ?_ | refine callC_kw (enter_callW ?_) | refine enter_callW ?_
    w_top on
    try refine codeAny_mono ?_ (fun _ _ g => GoodW.toG g)
    have KB := below_caller (Top.heap T)
    w_call any ho hfd hcd hD T F
    clear hfd TA
    k_drop)
  all_goals (try k_fold)
  rename (K0 _).In _ => KX
  rename Top _ _ _ _ _ _ => T
  rename IntsAre _ _ => hI
  rename Heap.IsList _ _ _ => hL
  rename ¬ _ < _ => hc
  have W := Wd.mk KX ⟨_, _, _, T⟩
  have hus := ints_us hI
  have hul : _ := hI.length
  walk_at "mine steps"
  rename Fr _ _ _ _ => F1
  rename News _ _ _ _ => N1
  k_dflt (refine law_pool (Wd.keeps W F1.keep) (by ktr_room) (by ktr_units) (Fr.lst F1 hL) (by omega) hus ?_)
  intro a x0 t0 y0 u0 n0 h2 tk2 ex2 hn2 hs2
  obtain ⟨hg, hLa⟩ := fr_L F1 hn2
  have F2 : Fr _ _ h2 _ := Fr.grownK F1 ex2
  have N2 : News _ _ h2 [(a, srcO x0 t0 y0 u0 n0)] := fun p hp => by
    rw [List.mem_singleton.mp hp]
    exact ⟨hs2, Ne.symm hLa, hg⟩
  clear F1 N1 hs2 hn2 ex2
  walk_at "mine steps"
  rename Fr _ _ _ _ => F3
  rename News _ _ _ _ => N3
  k_dflt (refine law_pairs_right (wd_hide W F3.keep hg) (by ktr_room) (by ktr_units) (N3 _ (List.Mem.head _)).1 ?_)
  intro x3 t3 y3 u3 h3 tk3 kp3 hs3
  have F4 : Fr _ _ h3 _ := mut_out F3 hg hLa kp3
  have N4 : News _ _ h3 [(a, srcO x3 t3 y3 u3 n0)] := fun p hp => by
    rw [List.mem_singleton.mp hp]
    exact ⟨hs3, Ne.symm hLa, hg⟩
  clear F3 N3 kp3 hs3
  walk_at "mine steps"
  rename Fr _ _ _ _ => F5
  rename News _ _ _ _ => N5
  k_dflt (refine law_merged_right (wd_hide W F5.keep hg) (by ktr_room) (by ktr_units) (N5 _ (List.Mem.head _)).1 ?_)
  intro h4 tk4 kp4
  have F6 : Fr _ _ h4 _ := mut_out F5 hg hLa kp4
  clear F5 N5 kp4
  walk_at "mine steps"
  (try dsimp only)
  k_steps
end
end Mine
theorem PySem.Challenge.cw_xm0634_01_holds : PySem.Challenge.rw_xm0634_01.Holds :=
  Mine.fin
