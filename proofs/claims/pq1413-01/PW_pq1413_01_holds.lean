import PyProof.Rows.All
import Wide.All
import OpenK.AllK
import Wide.FinOn
import Lean
import PySem.Challenge.RW_pq1413_01
open PySem PySem.W PySem.Calls PyProof.Rows
set_option Elab.async false
set_option compiler.extract_closed false
set_option maxRecDepth 100000
set_option maxHeartbeats 0
set_option rowWalk.seconds 100000
set_option linter.unusedVariables false
namespace Mine
noncomputable def K : Params → Frag := by
  refine' (?f : ∀ (x0 : Stmt) (x1 : Stmt) (x2 : Stmt) (n3m0 : Str) (p3m0 : Arguments) (b3m0 : List Stmt) (d3m0 : List Expr) (r3m0 : Option Expr) (t3m0 : List TypeParam) (c3m0 : Scope) (u3m0 : Option Scope) (v3m0 : Str) (w3m0 : Pos) (n3 : Str) (g3 : List Expr) (k3 : List Keyword) (d3 : List Expr) (t3 : List TypeParam) (c3 : Scope) (u3 : Option Scope) (v3 : Str) (a3 : List Str) (w3 : Pos) (x4 : Stmt) (x5 : Stmt) (n6m0 : Str) (p6m0 : Arguments) (b6m0 : List Stmt) (d6m0 : List Expr) (r6m0 : Option Expr) (t6m0 : List TypeParam) (c6m0 : Scope) (u6m0 : Option Scope) (v6m0 : Str) (w6m0 : Pos) (n6m1 : Str) (p6m1 : Arguments) (b6m1 : List Stmt) (d6m1 : List Expr) (r6m1 : Option Expr) (t6m1 : List TypeParam) (c6m1 : Scope) (u6m1 : Option Scope) (v6m1 : Str) (w6m1 : Pos) (n6 : Str) (g6 : List Expr) (k6 : List Keyword) (d6 : List Expr) (t6 : List TypeParam) (c6 : Scope) (u6 : Option Scope) (v6 : Str) (a6 : List Str) (w6 : Pos) (n7 : Str) (p7 : Arguments) (b7 : List Stmt) (d7 : List Expr) (r7 : Option Expr) (t7 : List TypeParam) (c7 : Scope) (u7 : Option Scope) (v7 : Str) (w7 : Pos) (n8 : Str) (p8 : Arguments) (b8 : List Stmt) (d8 : List Expr) (r8 : Option Expr) (t8 : List TypeParam) (c8 : Scope) (u8 : Option Scope) (v8 : Str) (w8 : Pos) (x9 : Stmt) (x10 : Stmt) (x11 : Stmt) (x12 : Stmt) (x13 : Stmt) (n14 : Str) (p14 : Arguments) (b14 : List Stmt) (d14 : List Expr) (r14 : Option Expr) (t14 : List TypeParam) (c14 : Scope) (u14 : Option Scope) (v14 : Str) (w14 : Pos) (n15 : Str) (p15 : Arguments) (b15 : List Stmt) (d15 : List Expr) (r15 : Option Expr) (t15 : List TypeParam) (c15 : Scope) (u15 : Option Scope) (v15 : Str) (w15 : Pos) (n16 : Str) (p16 : Arguments) (b16 : List Stmt) (d16 : List Expr) (r16 : Option Expr) (t16 : List TypeParam) (c16 : Scope) (u16 : Option Scope) (v16 : Str) (w16 : Pos) (n17 : Str) (p17 : Arguments) (b17 : List Stmt) (d17 : List Expr) (r17 : Option Expr) (t17 : List TypeParam) (c17 : Scope) (u17 : Option Scope) (v17 : Str) (w17 : Pos) (n18 : Str) (p18 : Arguments) (b18 : List Stmt) (d18 : List Expr) (r18 : Option Expr) (t18 : List TypeParam) (c18 : Scope) (u18 : Option Scope) (v18 : Str) (w18 : Pos) (x19 : Stmt) (x20 : Stmt) (x21 : Stmt) (x22 : Stmt) (x23 : Stmt) (x24 : Stmt) (x25 : Stmt) (x26 : Stmt) (x27 : Stmt) (x28 : Stmt) (x29 : Stmt) (x30 : Stmt) (x31 : Stmt) (x32 : Stmt) (x33 : Stmt) (x34 : Stmt) (x35 : Stmt) (x36 : Stmt) (x37 : Stmt) (x38 : Stmt) (x39 : Stmt) (x40 : Stmt) (x41 : Stmt) (x42 : Stmt) (x43 : Stmt) (x44 : Stmt) (x45 : Stmt) (x46 : Stmt) (x47 : Stmt) (x48 : Stmt) (x49 : Stmt) (x50 : Stmt) (x51 : Stmt) (x52 : Stmt) (x53 : Stmt) (x54 : Stmt) (x55 : Stmt) (x56 : Stmt) (n57 : Str) (p57 : Arguments) (b57 : List Stmt) (d57 : List Expr) (r57 : Option Expr) (t57 : List TypeParam) (c57 : Scope) (u57 : Option Scope) (v57 : Str) (w57 : Pos) (x58 : Stmt) (n59 : Str) (p59 : Arguments) (b59 : List Stmt) (d59 : List Expr) (r59 : Option Expr) (t59 : List TypeParam) (c59 : Scope) (u59 : Option Scope) (v59 : Str) (w59 : Pos) (n60 : Str) (p60 : Arguments) (b60 : List Stmt) (d60 : List Expr) (r60 : Option Expr) (t60 : List TypeParam) (c60 : Scope) (u60 : Option Scope) (v60 : Str) (w60 : Pos) (x61 : Stmt) (x62 : Stmt) (x63 : Stmt) (x64 : Stmt) (x65 : Stmt) (x66 : Stmt) (x67 : Stmt) (x68 : Stmt) (x69 : Stmt) (x70 : Stmt) (x71 : Stmt) (x72 : Stmt) (x73 : Stmt) (x74 : Stmt) (x75 : Stmt) (x76 : Stmt) (x77 : Stmt) (n78 : Str) (p78 : Arguments) (b78 : List Stmt) (d78 : List Expr) (r78 : Option Expr) (t78 : List TypeParam) (c78 : Scope) (u78 : Option Scope) (v78 : Str) (w78 : Pos) (n79 : Str) (p79 : Arguments) (b79 : List Stmt) (d79 : List Expr) (r79 : Option Expr) (t79 : List TypeParam) (c79 : Scope) (u79 : Option Scope) (v79 : Str) (w79 : Pos) (x80 : Stmt) (x81 : Stmt) (x82 : Stmt) (x83 : Stmt) (n84m0 : Str) (p84m0 : Arguments) (b84m0 : List Stmt) (d84m0 : List Expr) (r84m0 : Option Expr) (t84m0 : List TypeParam) (c84m0 : Scope) (u84m0 : Option Scope) (v84m0 : Str) (w84m0 : Pos) (n84 : Str) (g84 : List Expr) (k84 : List Keyword) (d84 : List Expr) (t84 : List TypeParam) (c84 : Scope) (u84 : Option Scope) (v84 : Str) (a84 : List Str) (w84 : Pos) (n85 : Str) (p85 : Arguments) (b85 : List Stmt) (d85 : List Expr) (r85 : Option Expr) (t85 : List TypeParam) (c85 : Scope) (u85 : Option Scope) (v85 : Str) (w85 : Pos) (n86 : Str) (p86 : Arguments) (b86 : List Stmt) (d86 : List Expr) (r86 : Option Expr) (t86 : List TypeParam) (c86 : Scope) (u86 : Option Scope) (v86 : Str) (w86 : Pos) (n87m0 : Str) (p87m0 : Arguments) (b87m0 : List Stmt) (d87m0 : List Expr) (r87m0 : Option Expr) (t87m0 : List TypeParam) (c87m0 : Scope) (u87m0 : Option Scope) (v87m0 : Str) (w87m0 : Pos) (n87m1 : Str) (p87m1 : Arguments) (b87m1 : List Stmt) (d87m1 : List Expr) (r87m1 : Option Expr) (t87m1 : List TypeParam) (c87m1 : Scope) (u87m1 : Option Scope) (v87m1 : Str) (w87m1 : Pos) (n87m2 : Str) (p87m2 : Arguments) (b87m2 : List Stmt) (d87m2 : List Expr) (r87m2 : Option Expr) (t87m2 : List TypeParam) (c87m2 : Scope) (u87m2 : Option Scope) (v87m2 : Str) (w87m2 : Pos) (n87m3 : Str) (p87m3 : Arguments) (b87m3 : List Stmt) (d87m3 : List Expr) (r87m3 : Option Expr) (t87m3 : List TypeParam) (c87m3 : Scope) (u87m3 : Option Scope) (v87m3 : Str) (w87m3 : Pos) (n87 : Str) (g87 : List Expr) (k87 : List Keyword) (d87 : List Expr) (t87 : List TypeParam) (c87 : Scope) (u87 : Option Scope) (v87 : Str) (a87 : List Str) (w87 : Pos) (n88 : Str) (p88 : Arguments) (b88 : List Stmt) (d88 : List Expr) (r88 : Option Expr) (t88 : List TypeParam) (c88 : Scope) (u88 : Option Scope) (v88 : Str) (w88 : Pos) (n89 : Str) (p89 : Arguments) (b89 : List Stmt) (d89 : List Expr) (r89 : Option Expr) (t89 : List TypeParam) (c89 : Scope) (u89 : Option Scope) (v89 : Str) (w89 : Pos) (x90 : Stmt) (x91 : Stmt) (x92 : Stmt) (x93 : Stmt) (x94 : Stmt) (x95 : Stmt) (x96 : Stmt) (x97 : Stmt) (n98 : Str) (p98 : Arguments) (b98 : List Stmt) (d98 : List Expr) (r98 : Option Expr) (t98 : List TypeParam) (c98 : Scope) (u98 : Option Scope) (v98 : Str) (w98 : Pos) (n99 : Str) (p99 : Arguments) (b99 : List Stmt) (d99 : List Expr) (r99 : Option Expr) (t99 : List TypeParam) (c99 : Scope) (u99 : Option Scope) (v99 : Str) (w99 : Pos) (n100 : Str) (p100 : Arguments) (b100 : List Stmt) (d100 : List Expr) (r100 : Option Expr) (t100 : List TypeParam) (c100 : Scope) (u100 : Option Scope) (v100 : Str) (w100 : Pos) (n101 : Str) (p101 : Arguments) (b101 : List Stmt) (d101 : List Expr) (r101 : Option Expr) (t101 : List TypeParam) (c101 : Scope) (u101 : Option Scope) (v101 : Str) (w101 : Pos) (x102 : Stmt) (n103 : Str) (p103 : Arguments) (b103 : List Stmt) (d103 : List Expr) (r103 : Option Expr) (t103 : List TypeParam) (c103 : Scope) (u103 : Option Scope) (v103 : Str) (w103 : Pos) (n104 : Str) (p104 : Arguments) (b104 : List Stmt) (d104 : List Expr) (r104 : Option Expr) (t104 : List TypeParam) (c104 : Scope) (u104 : Option Scope) (v104 : Str) (w104 : Pos) (n105 : Str) (p105 : Arguments) (b105 : List Stmt) (d105 : List Expr) (r105 : Option Expr) (t105 : List TypeParam) (c105 : Scope) (u105 : Option Scope) (v105 : Str) (w105 : Pos) (n106 : Str) (p106 : Arguments) (b106 : List Stmt) (d106 : List Expr) (r106 : Option Expr) (t106 : List TypeParam) (c106 : Scope) (u106 : Option Scope) (v106 : Str) (w106 : Pos),
    PySem.Challenge.pw_pq1413_01.main.body = x0 :: x1 :: x2 :: .ClassDef n3 g3 k3 [.FunctionDef n3m0 p3m0 b3m0 d3m0 r3m0 t3m0 c3m0 u3m0 v3m0 w3m0] d3 t3 c3 u3 v3 a3 w3 :: x4 :: x5 :: .ClassDef n6 g6 k6 [.FunctionDef n6m0 p6m0 b6m0 d6m0 r6m0 t6m0 c6m0 u6m0 v6m0 w6m0, .FunctionDef n6m1 p6m1 b6m1 d6m1 r6m1 t6m1 c6m1 u6m1 v6m1 w6m1] d6 t6 c6 u6 v6 a6 w6 :: .FunctionDef n7 p7 b7 d7 r7 t7 c7 u7 v7 w7 :: .FunctionDef n8 p8 b8 d8 r8 t8 c8 u8 v8 w8 :: x9 :: x10 :: x11 :: x12 :: x13 :: .FunctionDef n14 p14 b14 d14 r14 t14 c14 u14 v14 w14 :: .FunctionDef n15 p15 b15 d15 r15 t15 c15 u15 v15 w15 :: .FunctionDef n16 p16 b16 d16 r16 t16 c16 u16 v16 w16 :: .FunctionDef n17 p17 b17 d17 r17 t17 c17 u17 v17 w17 :: .FunctionDef n18 p18 b18 d18 r18 t18 c18 u18 v18 w18 :: x19 :: x20 :: x21 :: x22 :: x23 :: x24 :: x25 :: x26 :: x27 :: x28 :: x29 :: x30 :: x31 :: x32 :: x33 :: x34 :: x35 :: x36 :: x37 :: x38 :: x39 :: x40 :: x41 :: x42 :: x43 :: x44 :: x45 :: x46 :: x47 :: x48 :: x49 :: x50 :: x51 :: x52 :: x53 :: x54 :: x55 :: x56 :: .FunctionDef n57 p57 b57 d57 r57 t57 c57 u57 v57 w57 :: x58 :: .FunctionDef n59 p59 b59 d59 r59 t59 c59 u59 v59 w59 :: .FunctionDef n60 p60 b60 d60 r60 t60 c60 u60 v60 w60 :: x61 :: x62 :: x63 :: x64 :: x65 :: x66 :: x67 :: x68 :: x69 :: x70 :: x71 :: x72 :: x73 :: x74 :: x75 :: x76 :: x77 :: .FunctionDef n78 p78 b78 d78 r78 t78 c78 u78 v78 w78 :: .FunctionDef n79 p79 b79 d79 r79 t79 c79 u79 v79 w79 :: x80 :: x81 :: x82 :: x83 :: .ClassDef n84 g84 k84 [.FunctionDef n84m0 p84m0 b84m0 d84m0 r84m0 t84m0 c84m0 u84m0 v84m0 w84m0] d84 t84 c84 u84 v84 a84 w84 :: .FunctionDef n85 p85 b85 d85 r85 t85 c85 u85 v85 w85 :: .FunctionDef n86 p86 b86 d86 r86 t86 c86 u86 v86 w86 :: .ClassDef n87 g87 k87 [.FunctionDef n87m0 p87m0 b87m0 d87m0 r87m0 t87m0 c87m0 u87m0 v87m0 w87m0, .FunctionDef n87m1 p87m1 b87m1 d87m1 r87m1 t87m1 c87m1 u87m1 v87m1 w87m1, .FunctionDef n87m2 p87m2 b87m2 d87m2 r87m2 t87m2 c87m2 u87m2 v87m2 w87m2, .FunctionDef n87m3 p87m3 b87m3 d87m3 r87m3 t87m3 c87m3 u87m3 v87m3 w87m3] d87 t87 c87 u87 v87 a87 w87 :: .FunctionDef n88 p88 b88 d88 r88 t88 c88 u88 v88 w88 :: .FunctionDef n89 p89 b89 d89 r89 t89 c89 u89 v89 w89 :: x90 :: x91 :: x92 :: x93 :: x94 :: x95 :: x96 :: x97 :: .FunctionDef n98 p98 b98 d98 r98 t98 c98 u98 v98 w98 :: .FunctionDef n99 p99 b99 d99 r99 t99 c99 u99 v99 w99 :: .FunctionDef n100 p100 b100 d100 r100 t100 c100 u100 v100 w100 :: .FunctionDef n101 p101 b101 d101 r101 t101 c101 u101 v101 w101 :: x102 :: .FunctionDef n103 p103 b103 d103 r103 t103 c103 u103 v103 w103 :: .FunctionDef n104 p104 b104 d104 r104 t104 c104 u104 v104 w104 :: .FunctionDef n105 p105 b105 d105 r105 t105 c105 u105 v105 w105 :: .FunctionDef n106 p106 b106 d106 r106 t106 c106 u106 v106 w106 :: [] → Params → Frag) _ _ _ _ _ _ _ _ _ _ _ _ _ _ _ _ _ _ _ _ _ _ _ _ _ _ _ _ _ _ _ _ _ _ _ _ _ _ _ _ _ _ _ _ _ _ _ _ _ _ _ _ _ _ _ _ _ _ _ _ _ _ _ _ _ _ _ _ _ _ _ _ _ _ _ _ _ _ _ _ _ _ _ _ _ _ _ _ _ _ _ _ _ _ _ _ _ _ _ _ _ _ _ _ _ _ _ _ _ _ _ _ _ _ _ _ _ _ _ _ _ _ _ _ _ _ _ _ _ _ _ _ _ _ _ _ _ _ _ _ _ _ _ _ _ _ _ _ _ _ _ _ _ _ _ _ _ _ _ _ _ _ _ _ _ _ _ _ _ _ _ _ _ _ _ _ _ _ _ _ _ _ _ _ _ _ _ _ _ _ _ _ _ _ _ _ _ _ _ _ _ _ _ _ _ _ _ _ _ _ _ _ _ _ _ _ _ _ _ _ _ _ _ _ _ _ _ _ _ _ _ _ _ _ _ _ _ _ _ _ _ _ _ _ _ _ _ _ _ _ _ _ _ _ _ _ _ _ _ _ _ _ _ _ _ _ _ _ _ _ _ _ _ _ _ _ _ _ _ _ _ _ _ _ _ _ _ _ _ _ _ _ _ _ _ _ _ _ _ _ _ _ _ _ _ _ _ _ _ _ _ _ _ _ _ _ _ _ _ _ _ _ _ _ _ _ _ _ _ _ _ _ _ _ _ _ _ _ _ _ _ _ _ _ _ _ _ _ _ _ _ _ _ _ _ _ _ _ _ _ _ _ _ _ _ _ _ _ _ _ _ _ _ _ _ _ _ _ _ _ _ _ _ _ _ _ _ _ _ _ _ _ _ _ _ _ _ _ _ _ _ _ _ _ _ _ _ _ _ _ _ _ _ _ _ _ _ _ _ _ _ _ _ _ _ _ _ _ _ _ _ _ _ _ _ _ _ _ _ rfl
  exact fun x0 x1 x2 n3m0 p3m0 b3m0 d3m0 r3m0 t3m0 c3m0 u3m0 v3m0 w3m0 n3 g3 k3 d3 t3 c3 u3 v3 a3 w3 x4 x5 n6m0 p6m0 b6m0 d6m0 r6m0 t6m0 c6m0 u6m0 v6m0 w6m0 n6m1 p6m1 b6m1 d6m1 r6m1 t6m1 c6m1 u6m1 v6m1 w6m1 n6 g6 k6 d6 t6 c6 u6 v6 a6 w6 n7 p7 b7 d7 r7 t7 c7 u7 v7 w7 n8 p8 b8 d8 r8 t8 c8 u8 v8 w8 x9 x10 x11 x12 x13 n14 p14 b14 d14 r14 t14 c14 u14 v14 w14 n15 p15 b15 d15 r15 t15 c15 u15 v15 w15 n16 p16 b16 d16 r16 t16 c16 u16 v16 w16 n17 p17 b17 d17 r17 t17 c17 u17 v17 w17 n18 p18 b18 d18 r18 t18 c18 u18 v18 w18 x19 x20 x21 x22 x23 x24 x25 x26 x27 x28 x29 x30 x31 x32 x33 x34 x35 x36 x37 x38 x39 x40 x41 x42 x43 x44 x45 x46 x47 x48 x49 x50 x51 x52 x53 x54 x55 x56 n57 p57 b57 d57 r57 t57 c57 u57 v57 w57 x58 n59 p59 b59 d59 r59 t59 c59 u59 v59 w59 n60 p60 b60 d60 r60 t60 c60 u60 v60 w60 x61 x62 x63 x64 x65 x66 x67 x68 x69 x70 x71 x72 x73 x74 x75 x76 x77 n78 p78 b78 d78 r78 t78 c78 u78 v78 w78 n79 p79 b79 d79 r79 t79 c79 u79 v79 w79 x80 x81 x82 x83 n84m0 p84m0 b84m0 d84m0 r84m0 t84m0 c84m0 u84m0 v84m0 w84m0 n84 g84 k84 d84 t84 c84 u84 v84 a84 w84 n85 p85 b85 d85 r85 t85 c85 u85 v85 w85 n86 p86 b86 d86 r86 t86 c86 u86 v86 w86 n87m0 p87m0 b87m0 d87m0 r87m0 t87m0 c87m0 u87m0 v87m0 w87m0 n87m1 p87m1 b87m1 d87m1 r87m1 t87m1 c87m1 u87m1 v87m1 w87m1 n87m2 p87m2 b87m2 d87m2 r87m2 t87m2 c87m2 u87m2 v87m2 w87m2 n87m3 p87m3 b87m3 d87m3 r87m3 t87m3 c87m3 u87m3 v87m3 w87m3 n87 g87 k87 d87 t87 c87 u87 v87 a87 w87 n88 p88 b88 d88 r88 t88 c88 u88 v88 w88 n89 p89 b89 d89 r89 t89 c89 u89 v89 w89 x90 x91 x92 x93 x94 x95 x96 x97 n98 p98 b98 d98 r98 t98 c98 u98 v98 w98 n99 p99 b99 d99 r99 t99 c99 u99 v99 w99 n100 p100 b100 d100 r100 t100 c100 u100 v100 w100 n101 p101 b101 d101 r101 t101 c101 u101 v101 w101 x102 n103 p103 b103 d103 r103 t103 c103 u103 v103 w103 n104 p104 b104 d104 r104 t104 c104 u104 v104 w104 n105 p105 b105 d105 r105 t105 c105 u105 v105 w105 n106 p106 b106 d106 r106 t106 c106 u106 v106 w106 _ P =>
    (nat_lit 2, ⟨.none, none, (.dict #[⟨PyData.keyHash P (Str.ofString "type.__subclasses__.Exception.0"), (.str (Str.ofString "type.__subclasses__.Exception.0") 212), (.int 31 0)⟩, ⟨PyData.keyHash P (Str.ofString "type.__subclasses__.Exception.n"), (.str (Str.ofString "type.__subclasses__.Exception.n") 213), (.int 1 0)⟩] 2), #[]⟩) ::
    (nat_lit 3, ⟨(.type "dict"), none, (.dict #[⟨PyData.keyHash P (Str.ofString "__name__"), (.str (Str.ofString "__name__") 165), (.str (Str.ofString "law_pq1413_01") 1130)⟩, ⟨PyData.keyHash P (Str.ofString "__doc__"), (.str (Str.ofString "__doc__") 166), .none⟩, ⟨PyData.keyHash P (Str.ofString "__package__"), (.str (Str.ofString "__package__") 167), .none⟩, ⟨PyData.keyHash P (Str.ofString "__loader__"), (.str (Str.ofString "__loader__") 168), (.builtin "__main__.__loader__#opaque")⟩, ⟨PyData.keyHash P (Str.ofString "__spec__"), (.str (Str.ofString "__spec__") 169), .none⟩, ⟨PyData.keyHash P (Str.ofString "__annotations__"), (.str (Str.ofString "__annotations__") 170), (.ref 6)⟩, ⟨PyData.keyHash P (Str.ofString "__builtins__"), (.str (Str.ofString "__builtins__") 171), (.ref 4)⟩, ⟨PyData.keyHash P (Str.ofString "__file__"), (.str (Str.ofString "__file__") 173), (.str (Str.ofString "/claim/cut.py") 172)⟩, ⟨PyData.keyHash P (Str.ofString "__cached__"), (.str (Str.ofString "__cached__") 174), .none⟩, ⟨PyData.keyHash P (Str.ofString "_wall"), (.str (Str.ofString "_wall") 193), (.ref 21)⟩, ⟨PyData.keyHash P (Str.ofString "CoveError"), (.str (Str.ofString "CoveError") 215), (.ref 31)⟩, ⟨PyData.keyHash P (Str.ofString "Refusal"), (.str (Str.ofString "Refusal") 240), (.ref 51)⟩, ⟨PyData.keyHash P (Str.ofString "MOST_LENGTH"), (.str (Str.ofString "MOST_LENGTH") 244), (.int 1000000 243)⟩, ⟨PyData.keyHash P (Str.ofString "Vector"), (.str (Str.ofString "Vector") 286), (.ref 78)⟩, ⟨PyData.keyHash P (Str.ofString "room"), (.str (Str.ofString "room") 293), (.ref 89)⟩, ⟨PyData.keyHash P (Str.ofString "character"), (.str (Str.ofString "character") 300), (.ref 96)⟩, ⟨PyData.keyHash P (Str.ofString "length"), (.str (Str.ofString "length") 308), (.ref 103)⟩, ⟨PyData.keyHash P (Str.ofString "is_atomic"), (.str (Str.ofString "is_atomic") 315), (.ref 110)⟩, ⟨PyData.keyHash P (Str.ofString "share"), (.str (Str.ofString "share") 322), (.ref 117)⟩, ⟨PyData.keyHash P (Str.ofString "ROW_SHARE"), (.str (Str.ofString "ROW_SHARE") 326), (.int 50 325)⟩, ⟨PyData.keyHash P (Str.ofString "grown_text"), (.str (Str.ofString "grown_text") 334), (.ref 124)⟩, ⟨PyData.keyHash P (Str.ofString "joined_text"), (.str (Str.ofString "joined_text") 344), (.ref 131)⟩, ⟨PyData.keyHash P (Str.ofString "paste_texts"), (.str (Str.ofString "paste_texts") 359), (.ref 138)⟩, ⟨PyData.keyHash P (Str.ofString "paste_vectors"), (.str (Str.ofString "paste_vectors") 369), (.ref 145)⟩, ⟨PyData.keyHash P (Str.ofString "sub_fixed"), (.str (Str.ofString "sub_fixed") 383), (.ref 152)⟩, ⟨PyData.keyHash P (Str.ofString "NAN"), (.str (Str.ofString "NAN") 388), (.ref 153)⟩, ⟨PyData.keyHash P (Str.ofString "INF"), (.str (Str.ofString "INF") 391), (.ref 154)⟩, ⟨PyData.keyHash P (Str.ofString "ZERO"), (.str (Str.ofString "ZERO") 394), (.ref 155)⟩, ⟨PyData.keyHash P (Str.ofString "MOST_FIGURES"), (.str (Str.ofString "MOST_FIGURES") 396), (.int 5000 395)⟩, ⟨PyData.keyHash P (Str.ofString "MOST_PART"), (.str (Str.ofString "MOST_PART") 399), (.int 100000000000000000000000000000000000000000000000000000000000000000000000000000000000000000000000000000000000000000000000000000000000000000000000000000000000000000000000000000000000000000000000000000000000000000000000000000000000000000000000000000000000000000000000000000000000000000000000000000000000000000000000000000000000000000000000000000000000000000000000000000000000000000000000000000000000000000000000000000000000000000000000000000000000000000000000000000000000000000000000000000000000000000000000000000000000000000000000000000000000000000000000000000000000000000000000000000000000000000000000000000000000000000000000000000000000000000000000000000000000000000000000000000000000000000000000000000000000000000000000000000000000000000000000000000000000000000000000000000000000000000000000000000000000000000000000000000000000000000000000000000000000000000000000000000000000000000000000000000000000000000000000000000000000000000000000000000000000000000000000000000000000000000000000000000000000000000000000000000000000000000000000000000000000000000000000000000000000000000000000000000000000000000000000000000000000000000000000000000000000000000000000000000000000000000000000000000000000000000000000000000000000000000000000000000000000000000000000000000000000000000000000000000000000000000000000000000000000000000000000000000000000000000000000000000000000000000000000000000000000000000000000000000000000000000000000000000000000000000000000000000000000000000000000000000000000000000000000000000000000000000000000000000000000000000000000000000000000000000000000000000000000000000000000000000000000000000000000000000000000000000000000000000000000000000000000000000000000000000000000000000000000000000000000000000000000000000000000000000000000000000000000000000000000000000000000000000000000000000000000000000000000000000000000000000000000000000000000000000000000000000000000000000000000000000000000000000000000000000000000000000000000000000000000000000000000000000000000000000000000000000000000000000000000000000000000000000000000000000000000000000000000000000000000000000000000000000000000000000000000000000000000000000000000000000000000000000000000000000000000000000000000000000000000000000000000000000000000000000000000000000000000000000000000000000000000000000000000000000000000000000000000000000000000000000000000000000000000000000000000000000000000000000000000000000000000000000000000000000000000000000000000000000000000000000000000000000000000000000000000000000000000000000000000000000000000000000000000000000000000000000000000000000000000000000000000000000000000000000000000000000000000000000000000000000000000000000000000000000000000000000000000000000000000000000000000000000000000000000000000000000000000000000000000000000000000000000000000000000000000000000000000000000000000000000000000000000000000000000000000000000000000000000000000000000000000000000000000000000000000000000000000000000000000000000000000000000000000000000000000000000000000000000000000000000000000000000000000000000000000000000000000000000000000000000000000000000000000000000000000000000000000000000000000000000000000000000000000000000000000000000000000000000000000000000000000000000000000000000000000000000000000000000000000000000000000000000000000000000000000000000000000000000000000000000000000000000000000000000000000000000000000000000000000000000000000000000000000000000000000000000000000000000000000000000000000000000000000000000000000000000000000000000000000000000000000000000000000000000000000000000000000000000000000000000000000000000000000000000000000000000000000000000000000000000000000000000000000000000000000000000000000000000000000000000000000000000000000000000000000000000000000000000000000000000000000000000000000000000000000000000000000000000000000000000000000000000000000000000000000000000000000000000000000000000000000000000000000000000000000000000000000000000000000000000000000000000000000000000000000000000000000000000000000000000000000000000000000000000000000000000000000000000000000000000000000000000000000000000000000000000000000000000000000000000000000000000000000000000000000000000000000000000000000000000000000000000000000000000000000000000000000000000000000000000000000000000000000000000000000000000000000000000000000000000000000000000000000000000000000000000000000000000000000000000000000000000000000000000000000000000000000000000000000000000000000000000000000000000000000000000000000000000000000000000000000000000000000000000000000000000000000000000000000000000000000000000000000000000000000000000000000000000000000000000000000000000000000000000000000000000000000000000000000000000000000000000000000000000000000000000000000000000000000000000000000000000000000000000000000000000000000000000000000000000000000000000000000000000000000000000000000000000000000000000000000000000000000000000000000000000000000000000000000000000000000000000000000000000000000000000000000000000000000000000000000000000000000000000000000000000000000000000000000000000000000000000000000000000000000000000000000000000000 398)⟩, ⟨PyData.keyHash P (Str.ofString "gcd"), (.str (Str.ofString "gcd") 407), (.ref 162)⟩, ⟨PyData.keyHash P (Str.ofString "bounded"), (.str (Str.ofString "bounded") 415), (.ref 169)⟩, ⟨PyData.keyHash P (Str.ofString "make"), (.str (Str.ofString "make") 424), (.ref 176)⟩, ⟨PyData.keyHash P (Str.ofString "from_int"), (.str (Str.ofString "from_int") 431), (.ref 183)⟩, ⟨PyData.keyHash P (Str.ofString "is_na"), (.str (Str.ofString "is_na") 438), (.ref 190)⟩, ⟨PyData.keyHash P (Str.ofString "is_finite"), (.str (Str.ofString "is_finite") 445), (.ref 197)⟩, ⟨PyData.keyHash P (Str.ofString "neg"), (.str (Str.ofString "neg") 452), (.ref 204)⟩, ⟨PyData.keyHash P (Str.ofString "to_whole"), (.str (Str.ofString "to_whole") 460), (.ref 211)⟩, ⟨PyData.keyHash P (Str.ofString "nearest_whole"), (.str (Str.ofString "nearest_whole") 470), (.ref 218)⟩, ⟨PyData.keyHash P (Str.ofString "exponent"), (.str (Str.ofString "exponent") 480), (.ref 225)⟩, ⟨PyData.keyHash P (Str.ofString "MOST_EXPONENT"), (.str (Str.ofString "MOST_EXPONENT") 484), (.int 4096 483)⟩, ⟨PyData.keyHash P (Str.ofString "MOST_SIGNS"), (.str (Str.ofString "MOST_SIGNS") 486), (.int 5000 485)⟩, ⟨PyData.keyHash P (Str.ofString "whole_text"), (.str (Str.ofString "whole_text") 496), (.ref 232)⟩, ⟨PyData.keyHash P (Str.ofString "special_text"), (.str (Str.ofString "special_text") 503), (.ref 239)⟩, ⟨PyData.keyHash P (Str.ofString "scaled"), (.str (Str.ofString "scaled") 513), (.ref 246)⟩, ⟨PyData.keyHash P (Str.ofString "significant"), (.str (Str.ofString "significant") 523), (.ref 253)⟩, ⟨PyData.keyHash P (Str.ofString "without_tail"), (.str (Str.ofString "without_tail") 531), (.ref 260)⟩, ⟨PyData.keyHash P (Str.ofString "scientific_text"), (.str (Str.ofString "scientific_text") 543), (.ref 267)⟩, ⟨PyData.keyHash P (Str.ofString "fixed_text"), (.str (Str.ofString "fixed_text") 553), (.ref 274)⟩, ⟨PyData.keyHash P (Str.ofString "measures"), (.str (Str.ofString "measures") 566), (.ref 281)⟩, ⟨PyData.keyHash P (Str.ofString "chosen_form"), (.str (Str.ofString "chosen_form") 583), (.ref 288)⟩, ⟨PyData.keyHash P (Str.ofString "formed"), (.str (Str.ofString "formed") 592), (.ref 295)⟩, ⟨PyData.keyHash P (Str.ofString "common_texts"), (.str (Str.ofString "common_texts") 598), (.ref 300)⟩, ⟨PyData.keyHash P (Str.ofString "number_text"), (.str (Str.ofString "number_text") 607), (.ref 308)⟩, ⟨PyData.keyHash P (Str.ofString "digits_value"), (.str (Str.ofString "digits_value") 617), (.ref 315)⟩, ⟨PyData.keyHash P (Str.ofString "digit_run"), (.str (Str.ofString "digit_run") 626), (.ref 322)⟩, ⟨PyData.keyHash P (Str.ofString "exponent_value"), (.str (Str.ofString "exponent_value") 635), (.ref 329)⟩, ⟨PyData.keyHash P (Str.ofString "powered"), (.str (Str.ofString "powered") 644), (.ref 336)⟩, ⟨PyData.keyHash P (Str.ofString "unsigned_number"), (.str (Str.ofString "unsigned_number") 663), (.ref 343)⟩, ⟨PyData.keyHash P (Str.ofString "parse_number"), (.str (Str.ofString "parse_number") 675), (.ref 350)⟩, ⟨PyData.keyHash P (Str.ofString "get_attr"), (.str (Str.ofString "get_attr") 685), (.ref 357)⟩, ⟨PyData.keyHash P (Str.ofString "label_text"), (.str (Str.ofString "label_text") 693), (.ref 364)⟩, ⟨PyData.keyHash P (Str.ofString "names_of"), (.str (Str.ofString "names_of") 699), (.ref 369)⟩, ⟨PyData.keyHash P (Str.ofString "dim_of"), (.str (Str.ofString "dim_of") 707), (.ref 376)⟩, ⟨PyData.keyHash P (Str.ofString "dimnames_of"), (.str (Str.ofString "dimnames_of") 713), (.ref 381)⟩, ⟨PyData.keyHash P (Str.ofString "class_attr"), (.str (Str.ofString "class_attr") 721), (.ref 388)⟩, ⟨PyData.keyHash P (Str.ofString "MOST_INTEGER"), (.str (Str.ofString "MOST_INTEGER") 725), (.int 2147483647 724)⟩, ⟨PyData.keyHash P (Str.ofString "note"), (.str (Str.ofString "note") 733), (.ref 395)⟩, ⟨PyData.keyHash P (Str.ofString "as_logical_text"), (.str (Str.ofString "as_logical_text") 740), (.ref 402)⟩, ⟨PyData.keyHash P (Str.ofString "double_to_integer"), (.str (Str.ofString "double_to_integer") 749), (.ref 409)⟩, ⟨PyData.keyHash P (Str.ofString "text_to_double"), (.str (Str.ofString "text_to_double") 759), (.ref 416)⟩, ⟨PyData.keyHash P (Str.ofString "to_logical"), (.str (Str.ofString "to_logical") 767), (.ref 423)⟩, ⟨PyData.keyHash P (Str.ofString "to_integer"), (.str (Str.ofString "to_integer") 776), (.ref 430)⟩, ⟨PyData.keyHash P (Str.ofString "to_double"), (.str (Str.ofString "to_double") 785), (.ref 437)⟩, ⟨PyData.keyHash P (Str.ofString "to_text"), (.str (Str.ofString "to_text") 793), (.ref 444)⟩, ⟨PyData.keyHash P (Str.ofString "item_as"), (.str (Str.ofString "item_as") 803), (.ref 451)⟩, ⟨PyData.keyHash P (Str.ofString "is_atomic_kind"), (.str (Str.ofString "is_atomic_kind") 810), (.ref 458)⟩, ⟨PyData.keyHash P (Str.ofString "list_item_as"), (.str (Str.ofString "list_item_as") 820), (.ref 465)⟩, ⟨PyData.keyHash P (Str.ofString "refuse_type"), (.str (Str.ofString "refuse_type") 828), (.ref 472)⟩, ⟨PyData.keyHash P (Str.ofString "as_vector_kind"), (.str (Str.ofString "as_vector_kind") 834), (.ref 477)⟩, ⟨PyData.keyHash P (Str.ofString "with_names"), (.str (Str.ofString "with_names") 842), (.ref 484)⟩, ⟨PyData.keyHash P (Str.ofString "as_kind"), (.str (Str.ofString "as_kind") 848), (.ref 489)⟩, ⟨PyData.keyHash P (Str.ofString "FLAGS"), (.str (Str.ofString "FLAGS") 852), (.str (Str.ofString "-+ 0#") 851)⟩, ⟨PyData.keyHash P (Str.ofString "WIDEST"), (.str (Str.ofString "WIDEST") 854), (.int 8192 853)⟩, ⟨PyData.keyHash P (Str.ofString "MOST_WHOLE"), (.str (Str.ofString "MOST_WHOLE") 856), (.int 2147483647 855)⟩, ⟨PyData.keyHash P (Str.ofString "Spec"), (.str (Str.ofString "Spec") 888), (.ref 506)⟩, ⟨PyData.keyHash P (Str.ofString "is_digit"), (.str (Str.ofString "is_digit") 895), (.ref 517)⟩, ⟨PyData.keyHash P (Str.ofString "digits_at"), (.str (Str.ofString "digits_at") 904), (.ref 524)⟩, ⟨PyData.keyHash P (Str.ofString "Source"), (.str (Str.ofString "Source") 968), (.ref 562)⟩, ⟨PyData.keyHash P (Str.ofString "read_spec"), (.str (Str.ofString "read_spec") 981), (.ref 573)⟩, ⟨PyData.keyHash P (Str.ofString "padded"), (.str (Str.ofString "padded") 989), (.ref 580)⟩, ⟨PyData.keyHash P (Str.ofString "signed"), (.str (Str.ofString "signed") 1002), (.ref 588)⟩, ⟨PyData.keyHash P (Str.ofString "marked"), (.str (Str.ofString "marked") 1010), (.ref 595)⟩, ⟨PyData.keyHash P (Str.ofString "base_digits"), (.str (Str.ofString "base_digits") 1021), (.ref 602)⟩, ⟨PyData.keyHash P (Str.ofString "whole_item"), (.str (Str.ofString "whole_item") 1030), (.ref 609)⟩, ⟨PyData.keyHash P (Str.ofString "whole_form"), (.str (Str.ofString "whole_form") 1045), (.ref 616)⟩, ⟨PyData.keyHash P (Str.ofString "without_zeros"), (.str (Str.ofString "without_zeros") 1054), (.ref 623)⟩, ⟨PyData.keyHash P (Str.ofString "general_text"), (.str (Str.ofString "general_text") 1066), (.ref 630)⟩, ⟨PyData.keyHash P (Str.ofString "number_form"), (.str (Str.ofString "number_form") 1080), (.ref 637)⟩, ⟨PyData.keyHash P (Str.ofString "text_form"), (.str (Str.ofString "text_form") 1090), (.ref 644)⟩, ⟨PyData.keyHash P (Str.ofString "one_form"), (.str (Str.ofString "one_form") 1100), (.ref 651)⟩, ⟨PyData.keyHash P (Str.ofString "sprintf_one"), (.str (Str.ofString "sprintf_one") 1115), (.ref 658)⟩, ⟨PyData.keyHash P (Str.ofString "sprintf_vectors"), (.str (Str.ofString "sprintf_vectors") 1129), (.ref 665)⟩, ⟨PyData.keyHash P (Str.ofString "_law_size"), (.str (Str.ofString "_law_size") 1140), (.ref 672)⟩, ⟨PyData.keyHash P (Str.ofString "_law_small"), (.str (Str.ofString "_law_small") 1149), (.ref 679)⟩, ⟨PyData.keyHash P (Str.ofString "_law_words"), (.str (Str.ofString "_law_words") 1156), (.ref 686)⟩, ⟨PyData.keyHash P (Str.ofString "law"), (.str (Str.ofString "law") 1177), (.ref 693)⟩] 107), #[]⟩) ::
    (nat_lit 22, ⟨(.type "tuple"), none, (.seq #[(.type "Exception")] 0), #[]⟩) ::
    (nat_lit 29, ⟨(.type "tuple"), none, (.seq #[] 0), #[]⟩) ::
    (nat_lit 30, ⟨(.type "dict"), none, (.dict #[⟨PyData.keyHash P (Str.ofString "__module__"), (.str (Str.ofString "__module__") 203), (.str (Str.ofString "vectorcove.errors") 194)⟩, ⟨PyData.keyHash P (Str.ofString "__firstlineno__"), (.str (Str.ofString "__firstlineno__") 207), (.int 5 206)⟩, ⟨PyData.keyHash P (Str.ofString "__static_attributes__"), (.str (Str.ofString "__static_attributes__") 208), (.ref 29)⟩, ⟨PyData.keyHash P (Str.ofString "__weakref__"), (.str (Str.ofString "__weakref__") 210), (.ref 32)⟩, ⟨PyData.keyHash P (Str.ofString "__doc__"), (.str (Str.ofString "__doc__") 211), .none⟩] 3), #[]⟩) ::
    (nat_lit 31, ⟨(.type "type"), none, (.cls ⟨(Str.ofString "CoveError"), [(.type "Exception")], [(.ref 31), (.type "Exception"), (.type "BaseException"), (.type "object")], 30, (Str.ofString "CoveError"), true, [], [(.ref 51)], false, none, false⟩), #[(some (.ref 22)), none, (some (.str (Str.ofString "CoveError") 196)), (some (.str (Str.ofString "CoveError") 204)), (some (.builtin "Exception.__new__")), (some (.bool true))]⟩) ::
    (nat_lit 32, ⟨(.type "getset_descriptor"), none, (.fields #[(.str (Str.ofString "__weakref__") 209), (.ref 31), (.builtin "ExceptionGroup.__weakref__"), .none]), #[]⟩) ::
    (nat_lit 35, ⟨(.type "tuple"), none, (.seq #[(.ref 31)] 0), #[]⟩) ::
    (nat_lit 42, ⟨(.type "tuple"), none, (.seq #[] 0), #[]⟩) ::
    (nat_lit 44, ⟨(.type "tuple"), none, (.seq #[(.str (Str.ofString "self") 231), (.str (Str.ofString "message") 232)] 0), #[]⟩) ::
    (nat_lit 45, ⟨(.type "tuple"), none, (.seq #[] 0), #[]⟩) ::
    (nat_lit 47, ⟨(.type "code"), none, (.fields #[(.str (Str.ofString "__init__") 228), (.str (Str.ofString "Refusal.__init__") 229), (.str (Str.ofString "/claim/cut.py") 230), (.int 9 0), (.int 2 0), (.int 0 0), (.int 0 0), (.int 3 0), (.ref 42), (.bool true), (.int 181 0), (.ref 43), .none, (.ref 44), (.ref 45), (.ref 46), (.int 233 0), (.int 9 0), (.str (Str.ofString "/claim/cut.py") 234)]), #[]⟩) ::
    (nat_lit 48, ⟨(.type "function"), none, (.func ⟨(Str.ofString "__init__"), (Str.ofString "Refusal.__init__"), p3m0, .stmts b3m0, c3m0, 3, [], .none, .none, .none, (.str (Str.ofString "vectorcove.errors") 194), none, (.ref 47), .none, 0⟩), #[]⟩) ::
    (nat_lit 49, ⟨(.type "tuple"), none, (.seq #[(.str (Str.ofString "message") 236)] 0), #[]⟩) ::
    (nat_lit 50, ⟨(.type "dict"), none, (.dict #[⟨PyData.keyHash P (Str.ofString "__module__"), (.str (Str.ofString "__module__") 223), (.str (Str.ofString "vectorcove.errors") 194)⟩, ⟨PyData.keyHash P (Str.ofString "__firstlineno__"), (.str (Str.ofString "__firstlineno__") 227), (.int 7 226)⟩, ⟨PyData.keyHash P (Str.ofString "__init__"), (.str (Str.ofString "__init__") 235), (.ref 48)⟩, ⟨PyData.keyHash P (Str.ofString "__static_attributes__"), (.str (Str.ofString "__static_attributes__") 237), (.ref 49)⟩, ⟨PyData.keyHash P (Str.ofString "__doc__"), (.str (Str.ofString "__doc__") 238), .none⟩] 2), #[]⟩) ::
    (nat_lit 51, ⟨(.type "type"), none, (.cls ⟨(Str.ofString "Refusal"), [(.ref 31)], [(.ref 51), (.ref 31), (.type "Exception"), (.type "BaseException"), (.type "object")], 50, (Str.ofString "Refusal"), true, [], [], false, none, false⟩), #[(some (.ref 35)), none, (some (.str (Str.ofString "Refusal") 216)), (some (.str (Str.ofString "Refusal") 224)), (some (.builtin "Exception.__new__")), (some (.bool true))]⟩) ::
    (nat_lit 61, ⟨(.type "tuple"), none, (.seq #[.none] 0), #[]⟩) ::
    (nat_lit 62, ⟨(.type "tuple"), none, (.seq #[] 0), #[]⟩) ::
    (nat_lit 64, ⟨(.type "tuple"), none, (.seq #[(.str (Str.ofString "self") 260), (.str (Str.ofString "kind") 261), (.str (Str.ofString "items") 262), (.str (Str.ofString "attrs") 263)] 0), #[]⟩) ::
    (nat_lit 65, ⟨(.type "tuple"), none, (.seq #[] 0), #[]⟩) ::
    (nat_lit 67, ⟨(.type "code"), none, (.fields #[(.str (Str.ofString "__init__") 257), (.str (Str.ofString "Vector.__init__") 258), (.str (Str.ofString "/claim/cut.py") 259), (.int 15 0), (.int 4 0), (.int 0 0), (.int 0 0), (.int 3 0), (.ref 62), (.bool true), (.int 181 0), (.ref 63), .none, (.ref 64), (.ref 65), (.ref 66), (.int 264 0), (.int 15 0), (.str (Str.ofString "/claim/cut.py") 265)]), #[]⟩) ::
    (nat_lit 68, ⟨(.type "function"), none, (.func ⟨(Str.ofString "__init__"), (Str.ofString "Vector.__init__"), p6m0, .stmts b6m0, c6m0, 3, [], (.ref 61), .none, .none, (.str (Str.ofString "vectorcove.values") 241), none, (.ref 67), .none, 0⟩), #[]⟩) ::
    (nat_lit 69, ⟨(.type "tuple"), none, (.seq #[] 0), #[]⟩) ::
    (nat_lit 71, ⟨(.type "tuple"), none, (.seq #[(.str (Str.ofString "self") 270)] 0), #[]⟩) ::
    (nat_lit 72, ⟨(.type "tuple"), none, (.seq #[] 0), #[]⟩) ::
    (nat_lit 74, ⟨(.type "code"), none, (.fields #[(.str (Str.ofString "copy") 267), (.str (Str.ofString "Vector.copy") 268), (.str (Str.ofString "/claim/cut.py") 269), (.int 22 0), (.int 1 0), (.int 0 0), (.int 0 0), (.int 3 0), (.ref 69), (.bool true), (.int 181 0), (.ref 70), .none, (.ref 71), (.ref 72), (.ref 73), (.int 271 0), (.int 22 0), (.str (Str.ofString "/claim/cut.py") 272)]), #[]⟩) ::
    (nat_lit 75, ⟨(.type "function"), none, (.func ⟨(Str.ofString "copy"), (Str.ofString "Vector.copy"), p6m1, .stmts b6m1, c6m1, 3, [], .none, .none, .none, (.str (Str.ofString "vectorcove.values") 241), none, (.ref 74), .none, 0⟩), #[]⟩) ::
    (nat_lit 76, ⟨(.type "tuple"), none, (.seq #[(.str (Str.ofString "attrs") 274), (.str (Str.ofString "items") 275), (.str (Str.ofString "kind") 276), (.str (Str.ofString "loose") 277), (.str (Str.ofString "shared") 278)] 0), #[]⟩) ::
    (nat_lit 77, ⟨(.type "dict"), none, (.dict #[⟨PyData.keyHash P (Str.ofString "__module__"), (.str (Str.ofString "__module__") 252), (.str (Str.ofString "vectorcove.values") 241)⟩, ⟨PyData.keyHash P (Str.ofString "__firstlineno__"), (.str (Str.ofString "__firstlineno__") 256), (.int 13 255)⟩, ⟨PyData.keyHash P (Str.ofString "__init__"), (.str (Str.ofString "__init__") 266), (.ref 68)⟩, ⟨PyData.keyHash P (Str.ofString "copy"), (.str (Str.ofString "copy") 273), (.ref 75)⟩, ⟨PyData.keyHash P (Str.ofString "__static_attributes__"), (.str (Str.ofString "__static_attributes__") 279), (.ref 76)⟩, ⟨PyData.keyHash P (Str.ofString "__dict__"), (.str (Str.ofString "__dict__") 281), (.ref 79)⟩, ⟨PyData.keyHash P (Str.ofString "__weakref__"), (.str (Str.ofString "__weakref__") 283), (.ref 80)⟩, ⟨PyData.keyHash P (Str.ofString "__doc__"), (.str (Str.ofString "__doc__") 284), .none⟩] 4), #[]⟩) ::
    (nat_lit 78, ⟨(.type "type"), none, (.cls ⟨(Str.ofString "Vector"), [(.type "object")], [(.ref 78), (.type "object")], 77, (Str.ofString "Vector"), true, [], [], false, none, false⟩), #[none, none, (some (.str (Str.ofString "Vector") 245)), (some (.str (Str.ofString "Vector") 253)), (some (.builtin "object.__new__")), (some (.bool true))]⟩) ::
    (nat_lit 79, ⟨(.type "getset_descriptor"), none, (.fields #[(.str (Str.ofString "__dict__") 280), (.ref 78), (.builtin "function.__dict__"), (.builtin "function.__dict__#set")]), #[]⟩) ::
    (nat_lit 80, ⟨(.type "getset_descriptor"), none, (.fields #[(.str (Str.ofString "__weakref__") 282), (.ref 78), (.builtin "ExceptionGroup.__weakref__"), .none]), #[]⟩) ::
    (nat_lit 83, ⟨(.type "tuple"), none, (.seq #[] 0), #[]⟩) ::
    (nat_lit 85, ⟨(.type "tuple"), none, (.seq #[(.str (Str.ofString "n") 290)] 0), #[]⟩) ::
    (nat_lit 86, ⟨(.type "tuple"), none, (.seq #[] 0), #[]⟩) ::
    (nat_lit 88, ⟨(.type "code"), none, (.fields #[(.str (Str.ofString "room") 287), (.str (Str.ofString "room") 288), (.str (Str.ofString "/claim/cut.py") 289), (.int 24 0), (.int 1 0), (.int 0 0), (.int 0 0), (.int 3 0), (.ref 83), (.bool true), (.int 181 0), (.ref 84), .none, (.ref 85), (.ref 86), (.ref 87), (.int 291 0), (.int 24 0), (.str (Str.ofString "/claim/cut.py") 292)]), #[]⟩) ::
    (nat_lit 89, ⟨(.type "function"), none, (.func ⟨(Str.ofString "room"), (Str.ofString "room"), p7, .stmts b7, c7, 3, [], .none, .none, .none, (.str (Str.ofString "vectorcove.values") 241), none, (.ref 88), .none, 0⟩), #[]⟩) ::
    (nat_lit 90, ⟨(.type "tuple"), none, (.seq #[] 0), #[]⟩) ::
    (nat_lit 92, ⟨(.type "tuple"), none, (.seq #[(.str (Str.ofString "items") 297)] 0), #[]⟩) ::
    (nat_lit 93, ⟨(.type "tuple"), none, (.seq #[] 0), #[]⟩) ::
    (nat_lit 95, ⟨(.type "code"), none, (.fields #[(.str (Str.ofString "character") 294), (.str (Str.ofString "character") 295), (.str (Str.ofString "/claim/cut.py") 296), (.int 28 0), (.int 1 0), (.int 0 0), (.int 0 0), (.int 3 0), (.ref 90), (.bool true), (.int 181 0), (.ref 91), .none, (.ref 92), (.ref 93), (.ref 94), (.int 298 0), (.int 28 0), (.str (Str.ofString "/claim/cut.py") 299)]), #[]⟩) ::
    (nat_lit 96, ⟨(.type "function"), none, (.func ⟨(Str.ofString "character"), (Str.ofString "character"), p8, .stmts b8, c8, 3, [], .none, .none, .none, (.str (Str.ofString "vectorcove.values") 241), none, (.ref 95), .none, 0⟩), #[]⟩) ::
    (nat_lit 118, ⟨(.type "tuple"), none, (.seq #[] 0), #[]⟩) ::
    (nat_lit 120, ⟨(.type "tuple"), none, (.seq #[(.str (Str.ofString "total") 330), (.str (Str.ofString "text") 331)] 0), #[]⟩) ::
    (nat_lit 121, ⟨(.type "tuple"), none, (.seq #[] 0), #[]⟩) ::
    (nat_lit 123, ⟨(.type "code"), none, (.fields #[(.str (Str.ofString "grown_text") 327), (.str (Str.ofString "grown_text") 328), (.str (Str.ofString "/claim/cut.py") 329), (.int 49 0), (.int 2 0), (.int 0 0), (.int 0 0), (.int 3 0), (.ref 118), (.bool true), (.int 181 0), (.ref 119), .none, (.ref 120), (.ref 121), (.ref 122), (.int 332 0), (.int 49 0), (.str (Str.ofString "/claim/cut.py") 333)]), #[]⟩) ::
    (nat_lit 124, ⟨(.type "function"), none, (.func ⟨(Str.ofString "grown_text"), (Str.ofString "grown_text"), p14, .stmts b14, c14, 3, [], .none, .none, .none, (.str (Str.ofString "vectorcove.texts") 323), none, (.ref 123), .none, 0⟩), #[]⟩) ::
    (nat_lit 125, ⟨(.type "tuple"), none, (.seq #[] 0), #[]⟩) ::
    (nat_lit 127, ⟨(.type "tuple"), none, (.seq #[(.str (Str.ofString "parts") 338), (.str (Str.ofString "sep") 339), (.str (Str.ofString "size") 340), (.str (Str.ofString "part") 341)] 0), #[]⟩) ::
    (nat_lit 128, ⟨(.type "tuple"), none, (.seq #[] 0), #[]⟩) ::
    (nat_lit 130, ⟨(.type "code"), none, (.fields #[(.str (Str.ofString "joined_text") 335), (.str (Str.ofString "joined_text") 336), (.str (Str.ofString "/claim/cut.py") 337), (.int 54 0), (.int 2 0), (.int 0 0), (.int 0 0), (.int 3 0), (.ref 125), (.bool true), (.int 181 0), (.ref 126), .none, (.ref 127), (.ref 128), (.ref 129), (.int 342 0), (.int 54 0), (.str (Str.ofString "/claim/cut.py") 343)]), #[]⟩) ::
    (nat_lit 131, ⟨(.type "function"), none, (.func ⟨(Str.ofString "joined_text"), (Str.ofString "joined_text"), p15, .stmts b15, c15, 3, [], .none, .none, .none, (.str (Str.ofString "vectorcove.texts") 323), none, (.ref 130), .none, 0⟩), #[]⟩) ::
    (nat_lit 132, ⟨(.type "tuple"), none, (.seq #[] 0), #[]⟩) ::
    (nat_lit 134, ⟨(.type "tuple"), none, (.seq #[(.str (Str.ofString "rows") 348), (.str (Str.ofString "sep") 349), (.str (Str.ofString "count") 350), (.str (Str.ofString "row") 351), (.str (Str.ofString "found") 352), (.str (Str.ofString "total") 353), (.str (Str.ofString "place") 354), (.str (Str.ofString "parts") 355), (.str (Str.ofString "text") 356)] 0), #[]⟩) ::
    (nat_lit 135, ⟨(.type "tuple"), none, (.seq #[] 0), #[]⟩) ::
    (nat_lit 137, ⟨(.type "code"), none, (.fields #[(.str (Str.ofString "paste_texts") 345), (.str (Str.ofString "paste_texts") 346), (.str (Str.ofString "/claim/cut.py") 347), (.int 60 0), (.int 2 0), (.int 0 0), (.int 0 0), (.int 3 0), (.ref 132), (.bool true), (.int 181 0), (.ref 133), .none, (.ref 134), (.ref 135), (.ref 136), (.int 357 0), (.int 60 0), (.str (Str.ofString "/claim/cut.py") 358)]), #[]⟩) ::
    (nat_lit 138, ⟨(.type "function"), none, (.func ⟨(Str.ofString "paste_texts"), (Str.ofString "paste_texts"), p16, .stmts b16, c16, 3, [], .none, .none, .none, (.str (Str.ofString "vectorcove.texts") 323), none, (.ref 137), .none, 0⟩), #[]⟩) ::
    (nat_lit 139, ⟨(.type "tuple"), none, (.seq #[] 0), #[]⟩) ::
    (nat_lit 141, ⟨(.type "tuple"), none, (.seq #[(.str (Str.ofString "rows") 363), (.str (Str.ofString "sep") 364), (.str (Str.ofString "collapse") 365), (.str (Str.ofString "found") 366)] 0), #[]⟩) ::
    (nat_lit 142, ⟨(.type "tuple"), none, (.seq #[] 0), #[]⟩) ::
    (nat_lit 144, ⟨(.type "code"), none, (.fields #[(.str (Str.ofString "paste_vectors") 360), (.str (Str.ofString "paste_vectors") 361), (.str (Str.ofString "/claim/cut.py") 362), (.int 77 0), (.int 3 0), (.int 0 0), (.int 0 0), (.int 3 0), (.ref 139), (.bool true), (.int 181 0), (.ref 140), .none, (.ref 141), (.ref 142), (.ref 143), (.int 367 0), (.int 77 0), (.str (Str.ofString "/claim/cut.py") 368)]), #[]⟩) ::
    (nat_lit 145, ⟨(.type "function"), none, (.func ⟨(Str.ofString "paste_vectors"), (Str.ofString "paste_vectors"), p17, .stmts b17, c17, 3, [], .none, .none, .none, (.str (Str.ofString "vectorcove.texts") 323), none, (.ref 144), .none, 0⟩), #[]⟩) ::
    (nat_lit 146, ⟨(.type "tuple"), none, (.seq #[] 0), #[]⟩) ::
    (nat_lit 148, ⟨(.type "tuple"), none, (.seq #[(.str (Str.ofString "pattern") 373), (.str (Str.ofString "replacement") 374), (.str (Str.ofString "text") 375), (.str (Str.ofString "every") 376), (.str (Str.ofString "at") 377), (.str (Str.ofString "count") 378), (.str (Str.ofString "parts") 379), (.str (Str.ofString "start") 380)] 0), #[]⟩) ::
    (nat_lit 149, ⟨(.type "tuple"), none, (.seq #[] 0), #[]⟩) ::
    (nat_lit 151, ⟨(.type "code"), none, (.fields #[(.str (Str.ofString "sub_fixed") 370), (.str (Str.ofString "sub_fixed") 371), (.str (Str.ofString "/claim/cut.py") 372), (.int 82 0), (.int 4 0), (.int 0 0), (.int 0 0), (.int 3 0), (.ref 146), (.bool true), (.int 181 0), (.ref 147), .none, (.ref 148), (.ref 149), (.ref 150), (.int 381 0), (.int 82 0), (.str (Str.ofString "/claim/cut.py") 382)]), #[]⟩) ::
    (nat_lit 152, ⟨(.type "function"), none, (.func ⟨(Str.ofString "sub_fixed"), (Str.ofString "sub_fixed"), p18, .stmts b18, c18, 3, [], .none, .none, .none, (.str (Str.ofString "vectorcove.texts") 323), none, (.ref 151), .none, 0⟩), #[]⟩) ::
    (nat_lit 351, ⟨(.type "tuple"), none, (.seq #[] 0), #[]⟩) ::
    (nat_lit 353, ⟨(.type "tuple"), none, (.seq #[(.str (Str.ofString "v") 681), (.str (Str.ofString "name") 682)] 0), #[]⟩) ::
    (nat_lit 354, ⟨(.type "tuple"), none, (.seq #[] 0), #[]⟩) ::
    (nat_lit 356, ⟨(.type "code"), none, (.fields #[(.str (Str.ofString "get_attr") 678), (.str (Str.ofString "get_attr") 679), (.str (Str.ofString "/claim/cut.py") 680), (.int 339 0), (.int 2 0), (.int 0 0), (.int 0 0), (.int 3 0), (.ref 351), (.bool true), (.int 181 0), (.ref 352), .none, (.ref 353), (.ref 354), (.ref 355), (.int 683 0), (.int 339 0), (.str (Str.ofString "/claim/cut.py") 684)]), #[]⟩) ::
    (nat_lit 357, ⟨(.type "function"), none, (.func ⟨(Str.ofString "get_attr"), (Str.ofString "get_attr"), p57, .stmts b57, c57, 3, [], .none, .none, .none, (.str (Str.ofString "vectorcove.attrs") 676), none, (.ref 356), .none, 0⟩), #[]⟩) ::
    (nat_lit 365, ⟨(.type "tuple"), none, (.seq #[] 0), #[]⟩) ::
    (nat_lit 368, ⟨(.type "code"), none, (.fields #[(.str (Str.ofString "names_of") 694), (.str (Str.ofString "names_of") 695), (.str (Str.ofString "/claim/cut.py") 696), (.int 353 0), (.int 1 0), (.int 0 0), (.int 0 0), (.int 3 0), (.ref 365), (.bool true), (.int 181 0), (.ref 366), .none, .none, .none, (.ref 367), (.int 697 0), (.int 353 0), (.str (Str.ofString "/claim/cut.py") 698)]), #[]⟩) ::
    (nat_lit 369, ⟨(.type "function"), none, (.func ⟨(Str.ofString "names_of"), (Str.ofString "names_of"), p59, .stmts b59, c59, 3, [], .none, .none, .none, (.str (Str.ofString "vectorcove.attrs") 676), none, (.ref 368), .none, 0⟩), #[]⟩) ::
    (nat_lit 370, ⟨(.type "tuple"), none, (.seq #[] 0), #[]⟩) ::
    (nat_lit 372, ⟨(.type "tuple"), none, (.seq #[(.str (Str.ofString "v") 703), (.str (Str.ofString "dims") 704)] 0), #[]⟩) ::
    (nat_lit 373, ⟨(.type "tuple"), none, (.seq #[] 0), #[]⟩) ::
    (nat_lit 375, ⟨(.type "code"), none, (.fields #[(.str (Str.ofString "dim_of") 700), (.str (Str.ofString "dim_of") 701), (.str (Str.ofString "/claim/cut.py") 702), (.int 369 0), (.int 1 0), (.int 0 0), (.int 0 0), (.int 3 0), (.ref 370), (.bool true), (.int 181 0), (.ref 371), .none, (.ref 372), (.ref 373), (.ref 374), (.int 705 0), (.int 369 0), (.str (Str.ofString "/claim/cut.py") 706)]), #[]⟩) ::
    (nat_lit 376, ⟨(.type "function"), none, (.func ⟨(Str.ofString "dim_of"), (Str.ofString "dim_of"), p60, .stmts b60, c60, 3, [], .none, .none, .none, (.str (Str.ofString "vectorcove.attrs") 676), none, (.ref 375), .none, 0⟩), #[]⟩) ::
    (nat_lit 478, ⟨(.type "tuple"), none, (.seq #[] 0), #[]⟩) ::
    (nat_lit 480, ⟨(.type "tuple"), none, (.seq #[(.str (Str.ofString "v") 838), (.str (Str.ofString "names") 839)] 0), #[]⟩) ::
    (nat_lit 481, ⟨(.type "tuple"), none, (.seq #[] 0), #[]⟩) ::
    (nat_lit 483, ⟨(.type "code"), none, (.fields #[(.str (Str.ofString "with_names") 835), (.str (Str.ofString "with_names") 836), (.str (Str.ofString "/claim/cut.py") 837), (.int 479 0), (.int 2 0), (.int 0 0), (.int 0 0), (.int 3 0), (.ref 478), (.bool true), (.int 181 0), (.ref 479), .none, (.ref 480), (.ref 481), (.ref 482), (.int 840 0), (.int 479 0), (.str (Str.ofString "/claim/cut.py") 841)]), #[]⟩) ::
    (nat_lit 484, ⟨(.type "function"), none, (.func ⟨(Str.ofString "with_names"), (Str.ofString "with_names"), p78, .stmts b78, c78, 3, [], .none, .none, .none, (.str (Str.ofString "vectorcove.coerce") 722), none, (.ref 483), .none, 0⟩), #[]⟩) ::
    (nat_lit 485, ⟨(.type "tuple"), none, (.seq #[] 0), #[]⟩) ::
    (nat_lit 488, ⟨(.type "code"), none, (.fields #[(.str (Str.ofString "as_kind") 843), (.str (Str.ofString "as_kind") 844), (.str (Str.ofString "/claim/cut.py") 845), (.int 483 0), (.int 3 0), (.int 0 0), (.int 0 0), (.int 3 0), (.ref 485), (.bool true), (.int 181 0), (.ref 486), .none, .none, .none, (.ref 487), (.int 846 0), (.int 483 0), (.str (Str.ofString "/claim/cut.py") 847)]), #[]⟩) ::
    (nat_lit 489, ⟨(.type "function"), none, (.func ⟨(Str.ofString "as_kind"), (Str.ofString "as_kind"), p79, .stmts b79, c79, 3, [], .none, .none, .none, (.str (Str.ofString "vectorcove.coerce") 722), none, (.ref 488), .none, 0⟩), #[]⟩) ::
    (nat_lit 497, ⟨(.type "tuple"), none, (.seq #[] 0), #[]⟩) ::
    (nat_lit 499, ⟨(.type "tuple"), none, (.seq #[(.str (Str.ofString "self") 872)] 0), #[]⟩) ::
    (nat_lit 500, ⟨(.type "tuple"), none, (.seq #[] 0), #[]⟩) ::
    (nat_lit 502, ⟨(.type "code"), none, (.fields #[(.str (Str.ofString "__init__") 869), (.str (Str.ofString "Spec.__init__") 870), (.str (Str.ofString "/claim/cut.py") 871), (.int 496 0), (.int 1 0), (.int 0 0), (.int 0 0), (.int 3 0), (.ref 497), (.bool true), (.int 181 0), (.ref 498), .none, (.ref 499), (.ref 500), (.ref 501), (.int 873 0), (.int 496 0), (.str (Str.ofString "/claim/cut.py") 874)]), #[]⟩) ::
    (nat_lit 503, ⟨(.type "function"), none, (.func ⟨(Str.ofString "__init__"), (Str.ofString "Spec.__init__"), p84m0, .stmts b84m0, c84m0, 3, [], .none, .none, .none, (.str (Str.ofString "vectorcove.sprintf") 849), none, (.ref 502), .none, 0⟩), #[]⟩) ::
    (nat_lit 504, ⟨(.type "tuple"), none, (.seq #[(.str (Str.ofString "flags") 876), (.str (Str.ofString "letter") 877), (.str (Str.ofString "precision") 878), (.str (Str.ofString "which") 879), (.str (Str.ofString "width") 880)] 0), #[]⟩) ::
    (nat_lit 505, ⟨(.type "dict"), none, (.dict #[⟨PyData.keyHash P (Str.ofString "__module__"), (.str (Str.ofString "__module__") 864), (.str (Str.ofString "vectorcove.sprintf") 849)⟩, ⟨PyData.keyHash P (Str.ofString "__firstlineno__"), (.str (Str.ofString "__firstlineno__") 868), (.int 494 867)⟩, ⟨PyData.keyHash P (Str.ofString "__init__"), (.str (Str.ofString "__init__") 875), (.ref 503)⟩, ⟨PyData.keyHash P (Str.ofString "__static_attributes__"), (.str (Str.ofString "__static_attributes__") 881), (.ref 504)⟩, ⟨PyData.keyHash P (Str.ofString "__dict__"), (.str (Str.ofString "__dict__") 883), (.ref 507)⟩, ⟨PyData.keyHash P (Str.ofString "__weakref__"), (.str (Str.ofString "__weakref__") 885), (.ref 508)⟩, ⟨PyData.keyHash P (Str.ofString "__doc__"), (.str (Str.ofString "__doc__") 886), .none⟩] 4), #[]⟩) ::
    (nat_lit 506, ⟨(.type "type"), none, (.cls ⟨(Str.ofString "Spec"), [(.type "object")], [(.ref 506), (.type "object")], 505, (Str.ofString "Spec"), true, [], [], false, none, false⟩), #[none, none, (some (.str (Str.ofString "Spec") 857)), (some (.str (Str.ofString "Spec") 865)), (some (.builtin "object.__new__")), (some (.bool true))]⟩) ::
    (nat_lit 507, ⟨(.type "getset_descriptor"), none, (.fields #[(.str (Str.ofString "__dict__") 882), (.ref 506), (.builtin "function.__dict__"), (.builtin "function.__dict__#set")]), #[]⟩) ::
    (nat_lit 508, ⟨(.type "getset_descriptor"), none, (.fields #[(.str (Str.ofString "__weakref__") 884), (.ref 506), (.builtin "ExceptionGroup.__weakref__"), .none]), #[]⟩) ::
    (nat_lit 511, ⟨(.type "tuple"), none, (.seq #[] 0), #[]⟩) ::
    (nat_lit 513, ⟨(.type "tuple"), none, (.seq #[(.str (Str.ofString "sign") 892)] 0), #[]⟩) ::
    (nat_lit 514, ⟨(.type "tuple"), none, (.seq #[] 0), #[]⟩) ::
    (nat_lit 516, ⟨(.type "code"), none, (.fields #[(.str (Str.ofString "is_digit") 889), (.str (Str.ofString "is_digit") 890), (.str (Str.ofString "/claim/cut.py") 891), (.int 502 0), (.int 1 0), (.int 0 0), (.int 0 0), (.int 3 0), (.ref 511), (.bool true), (.int 181 0), (.ref 512), .none, (.ref 513), (.ref 514), (.ref 515), (.int 893 0), (.int 502 0), (.str (Str.ofString "/claim/cut.py") 894)]), #[]⟩) ::
    (nat_lit 517, ⟨(.type "function"), none, (.func ⟨(Str.ofString "is_digit"), (Str.ofString "is_digit"), p85, .stmts b85, c85, 3, [], .none, .none, .none, (.str (Str.ofString "vectorcove.sprintf") 849), none, (.ref 516), .none, 0⟩), #[]⟩) ::
    (nat_lit 518, ⟨(.type "tuple"), none, (.seq #[] 0), #[]⟩) ::
    (nat_lit 520, ⟨(.type "tuple"), none, (.seq #[(.str (Str.ofString "fmt") 899), (.str (Str.ofString "at") 900), (.str (Str.ofString "end") 901)] 0), #[]⟩) ::
    (nat_lit 521, ⟨(.type "tuple"), none, (.seq #[] 0), #[]⟩) ::
    (nat_lit 523, ⟨(.type "code"), none, (.fields #[(.str (Str.ofString "digits_at") 896), (.str (Str.ofString "digits_at") 897), (.str (Str.ofString "/claim/cut.py") 898), (.int 504 0), (.int 2 0), (.int 0 0), (.int 0 0), (.int 3 0), (.ref 518), (.bool true), (.int 181 0), (.ref 519), .none, (.ref 520), (.ref 521), (.ref 522), (.int 902 0), (.int 504 0), (.str (Str.ofString "/claim/cut.py") 903)]), #[]⟩) ::
    (nat_lit 524, ⟨(.type "function"), none, (.func ⟨(Str.ofString "digits_at"), (Str.ofString "digits_at"), p86, .stmts b86, c86, 3, [], .none, .none, .none, (.str (Str.ofString "vectorcove.sprintf") 849), none, (.ref 523), .none, 0⟩), #[]⟩) ::
    (nat_lit 532, ⟨(.type "tuple"), none, (.seq #[] 0), #[]⟩) ::
    (nat_lit 534, ⟨(.type "tuple"), none, (.seq #[(.str (Str.ofString "self") 920), (.str (Str.ofString "vs") 921), (.str (Str.ofString "turn") 922)] 0), #[]⟩) ::
    (nat_lit 535, ⟨(.type "tuple"), none, (.seq #[] 0), #[]⟩) ::
    (nat_lit 537, ⟨(.type "code"), none, (.fields #[(.str (Str.ofString "__init__") 917), (.str (Str.ofString "Source.__init__") 918), (.str (Str.ofString "/claim/cut.py") 919), (.int 515 0), (.int 3 0), (.int 0 0), (.int 0 0), (.int 3 0), (.ref 532), (.bool true), (.int 181 0), (.ref 533), .none, (.ref 534), (.ref 535), (.ref 536), (.int 923 0), (.int 515 0), (.str (Str.ofString "/claim/cut.py") 924)]), #[]⟩) ::
    (nat_lit 538, ⟨(.type "function"), none, (.func ⟨(Str.ofString "__init__"), (Str.ofString "Source.__init__"), p87m0, .stmts b87m0, c87m0, 3, [], .none, .none, .none, (.str (Str.ofString "vectorcove.sprintf") 849), none, (.ref 537), .none, 0⟩), #[]⟩) ::
    (nat_lit 539, ⟨(.type "tuple"), none, (.seq #[] 0), #[]⟩) ::
    (nat_lit 541, ⟨(.type "tuple"), none, (.seq #[(.str (Str.ofString "self") 929), (.str (Str.ofString "which") 930), (.str (Str.ofString "number") 931), (.str (Str.ofString "v") 932)] 0), #[]⟩) ::
    (nat_lit 542, ⟨(.type "tuple"), none, (.seq #[] 0), #[]⟩) ::
    (nat_lit 544, ⟨(.type "code"), none, (.fields #[(.str (Str.ofString "take") 926), (.str (Str.ofString "Source.take") 927), (.str (Str.ofString "/claim/cut.py") 928), (.int 520 0), (.int 2 0), (.int 0 0), (.int 0 0), (.int 3 0), (.ref 539), (.bool true), (.int 181 0), (.ref 540), .none, (.ref 541), (.ref 542), (.ref 543), (.int 933 0), (.int 520 0), (.str (Str.ofString "/claim/cut.py") 934)]), #[]⟩) ::
    (nat_lit 545, ⟨(.type "function"), none, (.func ⟨(Str.ofString "take"), (Str.ofString "Source.take"), p87m1, .stmts b87m1, c87m1, 3, [], .none, .none, .none, (.str (Str.ofString "vectorcove.sprintf") 849), none, (.ref 544), .none, 0⟩), #[]⟩) ::
    (nat_lit 546, ⟨(.type "tuple"), none, (.seq #[] 0), #[]⟩) ::
    (nat_lit 548, ⟨(.type "tuple"), none, (.seq #[(.str (Str.ofString "self") 939), (.str (Str.ofString "which") 940), (.str (Str.ofString "number") 941), (.str (Str.ofString "kind") 942), (.str (Str.ofString "item") 943), (.str (Str.ofString "v") 944), (.str (Str.ofString "levels") 945)] 0), #[]⟩) ::
    (nat_lit 549, ⟨(.type "tuple"), none, (.seq #[] 0), #[]⟩) ::
    (nat_lit 551, ⟨(.type "code"), none, (.fields #[(.str (Str.ofString "take_text") 936), (.str (Str.ofString "Source.take_text") 937), (.str (Str.ofString "/claim/cut.py") 938), (.int 532 0), (.int 2 0), (.int 0 0), (.int 0 0), (.int 3 0), (.ref 546), (.bool true), (.int 181 0), (.ref 547), .none, (.ref 548), (.ref 549), (.ref 550), (.int 946 0), (.int 532 0), (.str (Str.ofString "/claim/cut.py") 947)]), #[]⟩) ::
    (nat_lit 552, ⟨(.type "function"), none, (.func ⟨(Str.ofString "take_text"), (Str.ofString "Source.take_text"), p87m2, .stmts b87m2, c87m2, 3, [], .none, .none, .none, (.str (Str.ofString "vectorcove.sprintf") 849), none, (.ref 551), .none, 0⟩), #[]⟩) ::
    (nat_lit 553, ⟨(.type "tuple"), none, (.seq #[] 0), #[]⟩) ::
    (nat_lit 555, ⟨(.type "tuple"), none, (.seq #[(.str (Str.ofString "self") 952), (.str (Str.ofString "kind") 953), (.str (Str.ofString "item") 954)] 0), #[]⟩) ::
    (nat_lit 556, ⟨(.type "tuple"), none, (.seq #[] 0), #[]⟩) ::
    (nat_lit 558, ⟨(.type "code"), none, (.fields #[(.str (Str.ofString "take_whole") 949), (.str (Str.ofString "Source.take_whole") 950), (.str (Str.ofString "/claim/cut.py") 951), (.int 543 0), (.int 1 0), (.int 0 0), (.int 0 0), (.int 3 0), (.ref 553), (.bool true), (.int 181 0), (.ref 554), .none, (.ref 555), (.ref 556), (.ref 557), (.int 955 0), (.int 543 0), (.str (Str.ofString "/claim/cut.py") 956)]), #[]⟩) ::
    (nat_lit 559, ⟨(.type "function"), none, (.func ⟨(Str.ofString "take_whole"), (Str.ofString "Source.take_whole"), p87m3, .stmts b87m3, c87m3, 3, [], .none, .none, .none, (.str (Str.ofString "vectorcove.sprintf") 849), none, (.ref 558), .none, 0⟩), #[]⟩) ::
    (nat_lit 560, ⟨(.type "tuple"), none, (.seq #[(.str (Str.ofString "taken") 958), (.str (Str.ofString "turn") 959), (.str (Str.ofString "vs") 960)] 0), #[]⟩) ::
    (nat_lit 561, ⟨(.type "dict"), none, (.dict #[⟨PyData.keyHash P (Str.ofString "__module__"), (.str (Str.ofString "__module__") 912), (.str (Str.ofString "vectorcove.sprintf") 849)⟩, ⟨PyData.keyHash P (Str.ofString "__firstlineno__"), (.str (Str.ofString "__firstlineno__") 916), (.int 513 915)⟩, ⟨PyData.keyHash P (Str.ofString "__init__"), (.str (Str.ofString "__init__") 925), (.ref 538)⟩, ⟨PyData.keyHash P (Str.ofString "take"), (.str (Str.ofString "take") 935), (.ref 545)⟩, ⟨PyData.keyHash P (Str.ofString "take_text"), (.str (Str.ofString "take_text") 948), (.ref 552)⟩, ⟨PyData.keyHash P (Str.ofString "take_whole"), (.str (Str.ofString "take_whole") 957), (.ref 559)⟩, ⟨PyData.keyHash P (Str.ofString "__static_attributes__"), (.str (Str.ofString "__static_attributes__") 961), (.ref 560)⟩, ⟨PyData.keyHash P (Str.ofString "__dict__"), (.str (Str.ofString "__dict__") 963), (.ref 563)⟩, ⟨PyData.keyHash P (Str.ofString "__weakref__"), (.str (Str.ofString "__weakref__") 965), (.ref 564)⟩, ⟨PyData.keyHash P (Str.ofString "__doc__"), (.str (Str.ofString "__doc__") 966), .none⟩] 4), #[]⟩) ::
    (nat_lit 562, ⟨(.type "type"), none, (.cls ⟨(Str.ofString "Source"), [(.type "object")], [(.ref 562), (.type "object")], 561, (Str.ofString "Source"), true, [], [], false, none, false⟩), #[none, none, (some (.str (Str.ofString "Source") 905)), (some (.str (Str.ofString "Source") 913)), (some (.builtin "object.__new__")), (some (.bool true))]⟩) ::
    (nat_lit 563, ⟨(.type "getset_descriptor"), none, (.fields #[(.str (Str.ofString "__dict__") 962), (.ref 562), (.builtin "function.__dict__"), (.builtin "function.__dict__#set")]), #[]⟩) ::
    (nat_lit 564, ⟨(.type "getset_descriptor"), none, (.fields #[(.str (Str.ofString "__weakref__") 964), (.ref 562), (.builtin "ExceptionGroup.__weakref__"), .none]), #[]⟩) ::
    (nat_lit 567, ⟨(.type "tuple"), none, (.seq #[] 0), #[]⟩) ::
    (nat_lit 569, ⟨(.type "tuple"), none, (.seq #[(.str (Str.ofString "fmt") 972), (.str (Str.ofString "at") 973), (.str (Str.ofString "source") 974), (.str (Str.ofString "spec") 975), (.str (Str.ofString "found") 976), (.str (Str.ofString "end") 977), (.str (Str.ofString "precision") 978)] 0), #[]⟩) ::
    (nat_lit 570, ⟨(.type "tuple"), none, (.seq #[] 0), #[]⟩) ::
    (nat_lit 572, ⟨(.type "code"), none, (.fields #[(.str (Str.ofString "read_spec") 969), (.str (Str.ofString "read_spec") 970), (.str (Str.ofString "/claim/cut.py") 971), (.int 550 0), (.int 3 0), (.int 0 0), (.int 0 0), (.int 3 0), (.ref 567), (.bool true), (.int 181 0), (.ref 568), .none, (.ref 569), (.ref 570), (.ref 571), (.int 979 0), (.int 550 0), (.str (Str.ofString "/claim/cut.py") 980)]), #[]⟩) ::
    (nat_lit 573, ⟨(.type "function"), none, (.func ⟨(Str.ofString "read_spec"), (Str.ofString "read_spec"), p88, .stmts b88, c88, 3, [], .none, .none, .none, (.str (Str.ofString "vectorcove.sprintf") 849), none, (.ref 572), .none, 0⟩), #[]⟩) ::
    (nat_lit 574, ⟨(.type "tuple"), none, (.seq #[] 0), #[]⟩) ::
    (nat_lit 576, ⟨(.type "tuple"), none, (.seq #[(.str (Str.ofString "body") 985), (.str (Str.ofString "spec") 986)] 0), #[]⟩) ::
    (nat_lit 577, ⟨(.type "tuple"), none, (.seq #[] 0), #[]⟩) ::
    (nat_lit 579, ⟨(.type "code"), none, (.fields #[(.str (Str.ofString "padded") 982), (.str (Str.ofString "padded") 983), (.str (Str.ofString "/claim/cut.py") 984), (.int 583 0), (.int 2 0), (.int 0 0), (.int 0 0), (.int 3 0), (.ref 574), (.bool true), (.int 181 0), (.ref 575), .none, (.ref 576), (.ref 577), (.ref 578), (.int 987 0), (.int 583 0), (.str (Str.ofString "/claim/cut.py") 988)]), #[]⟩) ::
    (nat_lit 580, ⟨(.type "function"), none, (.func ⟨(Str.ofString "padded"), (Str.ofString "padded"), p89, .stmts b89, c89, 3, [], .none, .none, .none, (.str (Str.ofString "vectorcove.sprintf") 849), none, (.ref 579), .none, 0⟩), #[]⟩) ::
    (nat_lit 638, ⟨(.type "tuple"), none, (.seq #[] 0), #[]⟩) ::
    (nat_lit 640, ⟨(.type "tuple"), none, (.seq #[(.str (Str.ofString "kind") 1084), (.str (Str.ofString "item") 1085), (.str (Str.ofString "spec") 1086), (.str (Str.ofString "body") 1087)] 0), #[]⟩) ::
    (nat_lit 641, ⟨(.type "tuple"), none, (.seq #[] 0), #[]⟩) ::
    (nat_lit 643, ⟨(.type "code"), none, (.fields #[(.str (Str.ofString "text_form") 1081), (.str (Str.ofString "text_form") 1082), (.str (Str.ofString "/claim/cut.py") 1083), (.int 683 0), (.int 3 0), (.int 0 0), (.int 0 0), (.int 3 0), (.ref 638), (.bool true), (.int 181 0), (.ref 639), .none, (.ref 640), (.ref 641), (.ref 642), (.int 1088 0), (.int 683 0), (.str (Str.ofString "/claim/cut.py") 1089)]), #[]⟩) ::
    (nat_lit 644, ⟨(.type "function"), none, (.func ⟨(Str.ofString "text_form"), (Str.ofString "text_form"), p98, .stmts b98, c98, 3, [], .none, .none, .none, (.str (Str.ofString "vectorcove.sprintf") 849), none, (.ref 643), .none, 0⟩), #[]⟩) ::
    (nat_lit 645, ⟨(.type "tuple"), none, (.seq #[] 0), #[]⟩) ::
    (nat_lit 647, ⟨(.type "tuple"), none, (.seq #[(.str (Str.ofString "spec") 1094), (.str (Str.ofString "source") 1095), (.str (Str.ofString "kind") 1096), (.str (Str.ofString "item") 1097)] 0), #[]⟩) ::
    (nat_lit 648, ⟨(.type "tuple"), none, (.seq #[] 0), #[]⟩) ::
    (nat_lit 650, ⟨(.type "code"), none, (.fields #[(.str (Str.ofString "one_form") 1091), (.str (Str.ofString "one_form") 1092), (.str (Str.ofString "/claim/cut.py") 1093), (.int 690 0), (.int 2 0), (.int 0 0), (.int 0 0), (.int 3 0), (.ref 645), (.bool true), (.int 181 0), (.ref 646), .none, (.ref 647), (.ref 648), (.ref 649), (.int 1098 0), (.int 690 0), (.str (Str.ofString "/claim/cut.py") 1099)]), #[]⟩) ::
    (nat_lit 651, ⟨(.type "function"), none, (.func ⟨(Str.ofString "one_form"), (Str.ofString "one_form"), p99, .stmts b99, c99, 3, [], .none, .none, .none, (.str (Str.ofString "vectorcove.sprintf") 849), none, (.ref 650), .none, 0⟩), #[]⟩) ::
    (nat_lit 652, ⟨(.type "tuple"), none, (.seq #[] 0), #[]⟩) ::
    (nat_lit 654, ⟨(.type "tuple"), none, (.seq #[(.str (Str.ofString "fmt") 1104), (.str (Str.ofString "vs") 1105), (.str (Str.ofString "turn") 1106), (.str (Str.ofString "source") 1107), (.str (Str.ofString "parts") 1108), (.str (Str.ofString "at") 1109), (.str (Str.ofString "size") 1110), (.str (Str.ofString "end") 1111), (.str (Str.ofString "spec") 1112)] 0), #[]⟩) ::
    (nat_lit 655, ⟨(.type "tuple"), none, (.seq #[] 0), #[]⟩) ::
    (nat_lit 657, ⟨(.type "code"), none, (.fields #[(.str (Str.ofString "sprintf_one") 1101), (.str (Str.ofString "sprintf_one") 1102), (.str (Str.ofString "/claim/cut.py") 1103), (.int 700 0), (.int 3 0), (.int 0 0), (.int 0 0), (.int 3 0), (.ref 652), (.bool true), (.int 181 0), (.ref 653), .none, (.ref 654), (.ref 655), (.ref 656), (.int 1113 0), (.int 700 0), (.str (Str.ofString "/claim/cut.py") 1114)]), #[]⟩) ::
    (nat_lit 658, ⟨(.type "function"), none, (.func ⟨(Str.ofString "sprintf_one"), (Str.ofString "sprintf_one"), p100, .stmts b100, c100, 3, [], .none, .none, .none, (.str (Str.ofString "vectorcove.sprintf") 849), none, (.ref 657), .none, 0⟩), #[]⟩) ::
    (nat_lit 659, ⟨(.type "tuple"), none, (.seq #[] 0), #[]⟩) ::
    (nat_lit 661, ⟨(.type "tuple"), none, (.seq #[(.str (Str.ofString "fmt") 1119), (.str (Str.ofString "vs") 1120), (.str (Str.ofString "count") 1121), (.str (Str.ofString "v") 1122), (.str (Str.ofString "found") 1123), (.str (Str.ofString "total") 1124), (.str (Str.ofString "turn") 1125), (.str (Str.ofString "form") 1126)] 0), #[]⟩) ::
    (nat_lit 662, ⟨(.type "tuple"), none, (.seq #[] 0), #[]⟩) ::
    (nat_lit 664, ⟨(.type "code"), none, (.fields #[(.str (Str.ofString "sprintf_vectors") 1116), (.str (Str.ofString "sprintf_vectors") 1117), (.str (Str.ofString "/claim/cut.py") 1118), (.int 716 0), (.int 2 0), (.int 0 0), (.int 0 0), (.int 3 0), (.ref 659), (.bool true), (.int 181 0), (.ref 660), .none, (.ref 661), (.ref 662), (.ref 663), (.int 1127 0), (.int 716 0), (.str (Str.ofString "/claim/cut.py") 1128)]), #[]⟩) ::
    (nat_lit 665, ⟨(.type "function"), none, (.func ⟨(Str.ofString "sprintf_vectors"), (Str.ofString "sprintf_vectors"), p101, .stmts b101, c101, 3, [], .none, .none, .none, (.str (Str.ofString "vectorcove.sprintf") 849), none, (.ref 664), .none, 0⟩), #[]⟩) ::
    (nat_lit 666, ⟨(.type "tuple"), none, (.seq #[] 0), #[]⟩) ::
    (nat_lit 668, ⟨(.type "tuple"), none, (.seq #[(.str (Str.ofString "script") 1135), (.str (Str.ofString "spot") 1136), (.str (Str.ofString "sizes") 1137)] 0), #[]⟩) ::
    (nat_lit 669, ⟨(.type "tuple"), none, (.seq #[] 0), #[]⟩) ::
    (nat_lit 671, ⟨(.type "code"), none, (.fields #[(.str (Str.ofString "_law_size") 1132), (.str (Str.ofString "_law_size") 1133), (.str (Str.ofString "/claim/cut.py") 1134), (.int 736 0), (.int 2 0), (.int 0 0), (.int 0 0), (.int 3 0), (.ref 666), (.bool true), (.int 181 0), (.ref 667), .none, (.ref 668), (.ref 669), (.ref 670), (.int 1138 0), (.int 736 0), (.str (Str.ofString "/claim/cut.py") 1139)]), #[]⟩) ::
    (nat_lit 672, ⟨(.type "function"), none, (.func ⟨(Str.ofString "_law_size"), (Str.ofString "_law_size"), p103, .stmts b103, c103, 3, [], .none, .none, .none, (.str (Str.ofString "law_pq1413_01") 1130), none, (.ref 671), .none, 0⟩), #[]⟩) ::
    (nat_lit 673, ⟨(.type "tuple"), none, (.seq #[] 0), #[]⟩) ::
    (nat_lit 675, ⟨(.type "tuple"), none, (.seq #[(.str (Str.ofString "script") 1144), (.str (Str.ofString "spot") 1145), (.str (Str.ofString "ways") 1146)] 0), #[]⟩) ::
    (nat_lit 676, ⟨(.type "tuple"), none, (.seq #[] 0), #[]⟩) ::
    (nat_lit 678, ⟨(.type "code"), none, (.fields #[(.str (Str.ofString "_law_small") 1141), (.str (Str.ofString "_law_small") 1142), (.str (Str.ofString "/claim/cut.py") 1143), (.int 739 0), (.int 3 0), (.int 0 0), (.int 0 0), (.int 3 0), (.ref 673), (.bool true), (.int 181 0), (.ref 674), .none, (.ref 675), (.ref 676), (.ref 677), (.int 1147 0), (.int 739 0), (.str (Str.ofString "/claim/cut.py") 1148)]), #[]⟩) ::
    (nat_lit 679, ⟨(.type "function"), none, (.func ⟨(Str.ofString "_law_small"), (Str.ofString "_law_small"), p104, .stmts b104, c104, 3, [], .none, .none, .none, (.str (Str.ofString "law_pq1413_01") 1130), none, (.ref 678), .none, 0⟩), #[]⟩) ::
    (nat_lit 680, ⟨(.type "tuple"), none, (.seq #[] 0), #[]⟩) ::
    (nat_lit 682, ⟨(.type "tuple"), none, (.seq #[(.str (Str.ofString "size") 1153)] 0), #[]⟩) ::
    (nat_lit 683, ⟨(.type "tuple"), none, (.seq #[] 0), #[]⟩) ::
    (nat_lit 685, ⟨(.type "code"), none, (.fields #[(.str (Str.ofString "_law_words") 1150), (.str (Str.ofString "_law_words") 1151), (.str (Str.ofString "/claim/cut.py") 1152), (.int 741 0), (.int 1 0), (.int 0 0), (.int 0 0), (.int 3 0), (.ref 680), (.bool true), (.int 181 0), (.ref 681), .none, (.ref 682), (.ref 683), (.ref 684), (.int 1154 0), (.int 741 0), (.str (Str.ofString "/claim/cut.py") 1155)]), #[]⟩) ::
    (nat_lit 686, ⟨(.type "function"), none, (.func ⟨(Str.ofString "_law_words"), (Str.ofString "_law_words"), p105, .stmts b105, c105, 3, [], .none, .none, .none, (.str (Str.ofString "law_pq1413_01") 1130), none, (.ref 685), .none, 0⟩), #[]⟩) ::
    (nat_lit 687, ⟨(.type "tuple"), none, (.seq #[] 0), #[]⟩) ::
    (nat_lit 689, ⟨(.type "tuple"), none, (.seq #[(.str (Str.ofString "script") 1160), (.str (Str.ofString "one") 1161), (.str (Str.ofString "two") 1162), (.str (Str.ofString "gap") 1163), (.str (Str.ofString "size") 1164), (.str (Str.ofString "told") 1165), (.str (Str.ofString "refusal") 1166), (.str (Str.ofString "count") 1167), (.str (Str.ofString "pattern_here") 1168), (.str (Str.ofString "new") 1169), (.str (Str.ofString "rest") 1170), (.str (Str.ofString "every") 1171), (.str (Str.ofString "turns") 1172), (.str (Str.ofString "due") 1173), (.str (Str.ofString "total") 1174)] 0), #[]⟩) ::
    (nat_lit 690, ⟨(.type "tuple"), none, (.seq #[] 0), #[]⟩) ::
    (nat_lit 692, ⟨(.type "code"), none, (.fields #[(.str (Str.ofString "law") 1157), (.str (Str.ofString "law") 1158), (.str (Str.ofString "/claim/cut.py") 1159), (.int 743 0), (.int 1 0), (.int 0 0), (.int 0 0), (.int 3 0), (.ref 687), (.bool true), (.int 181 0), (.ref 688), .none, (.ref 689), (.ref 690), (.ref 691), (.int 1175 0), (.int 743 0), (.str (Str.ofString "/claim/cut.py") 1176)]), #[]⟩) ::
    (nat_lit 693, ⟨(.type "function"), none, (.func ⟨(Str.ofString "law"), (Str.ofString "law"), p106, .stmts b106, c106, 3, [], .none, .none, .none, (.str (Str.ofString "law_pq1413_01") 1130), none, (.ref 692), .none, 0⟩), #[]⟩) :: []
noncomputable def ks : List Addr := nat_lit 2 :: nat_lit 3 :: nat_lit 22 :: nat_lit 29 :: nat_lit 30 :: nat_lit 31 :: nat_lit 32 :: nat_lit 35 :: nat_lit 42 :: nat_lit 44 :: nat_lit 45 :: nat_lit 47 :: nat_lit 48 :: nat_lit 49 :: nat_lit 50 :: nat_lit 51 :: nat_lit 61 :: nat_lit 62 :: nat_lit 64 :: nat_lit 65 :: nat_lit 67 :: nat_lit 68 :: nat_lit 69 :: nat_lit 71 :: nat_lit 72 :: nat_lit 74 :: nat_lit 75 :: nat_lit 76 :: nat_lit 77 :: nat_lit 78 :: nat_lit 79 :: nat_lit 80 :: nat_lit 83 :: nat_lit 85 :: nat_lit 86 :: nat_lit 88 :: nat_lit 89 :: nat_lit 90 :: nat_lit 92 :: nat_lit 93 :: nat_lit 95 :: nat_lit 96 :: nat_lit 118 :: nat_lit 120 :: nat_lit 121 :: nat_lit 123 :: nat_lit 124 :: nat_lit 125 :: nat_lit 127 :: nat_lit 128 :: nat_lit 130 :: nat_lit 131 :: nat_lit 132 :: nat_lit 134 :: nat_lit 135 :: nat_lit 137 :: nat_lit 138 :: nat_lit 139 :: nat_lit 141 :: nat_lit 142 :: nat_lit 144 :: nat_lit 145 :: nat_lit 146 :: nat_lit 148 :: nat_lit 149 :: nat_lit 151 :: nat_lit 152 :: nat_lit 351 :: nat_lit 353 :: nat_lit 354 :: nat_lit 356 :: nat_lit 357 :: nat_lit 365 :: nat_lit 368 :: nat_lit 369 :: nat_lit 370 :: nat_lit 372 :: nat_lit 373 :: nat_lit 375 :: nat_lit 376 :: nat_lit 478 :: nat_lit 480 :: nat_lit 481 :: nat_lit 483 :: nat_lit 484 :: nat_lit 485 :: nat_lit 488 :: nat_lit 489 :: nat_lit 497 :: nat_lit 499 :: nat_lit 500 :: nat_lit 502 :: nat_lit 503 :: nat_lit 504 :: nat_lit 505 :: nat_lit 506 :: nat_lit 507 :: nat_lit 508 :: nat_lit 511 :: nat_lit 513 :: nat_lit 514 :: nat_lit 516 :: nat_lit 517 :: nat_lit 518 :: nat_lit 520 :: nat_lit 521 :: nat_lit 523 :: nat_lit 524 :: nat_lit 532 :: nat_lit 534 :: nat_lit 535 :: nat_lit 537 :: nat_lit 538 :: nat_lit 539 :: nat_lit 541 :: nat_lit 542 :: nat_lit 544 :: nat_lit 545 :: nat_lit 546 :: nat_lit 548 :: nat_lit 549 :: nat_lit 551 :: nat_lit 552 :: nat_lit 553 :: nat_lit 555 :: nat_lit 556 :: nat_lit 558 :: nat_lit 559 :: nat_lit 560 :: nat_lit 561 :: nat_lit 562 :: nat_lit 563 :: nat_lit 564 :: nat_lit 567 :: nat_lit 569 :: nat_lit 570 :: nat_lit 572 :: nat_lit 573 :: nat_lit 574 :: nat_lit 576 :: nat_lit 577 :: nat_lit 579 :: nat_lit 580 :: nat_lit 638 :: nat_lit 640 :: nat_lit 641 :: nat_lit 643 :: nat_lit 644 :: nat_lit 645 :: nat_lit 647 :: nat_lit 648 :: nat_lit 650 :: nat_lit 651 :: nat_lit 652 :: nat_lit 654 :: nat_lit 655 :: nat_lit 657 :: nat_lit 658 :: nat_lit 659 :: nat_lit 661 :: nat_lit 662 :: nat_lit 664 :: nat_lit 665 :: nat_lit 666 :: nat_lit 668 :: nat_lit 669 :: nat_lit 671 :: nat_lit 672 :: nat_lit 673 :: nat_lit 675 :: nat_lit 676 :: nat_lit 678 :: nat_lit 679 :: nat_lit 680 :: nat_lit 682 :: nat_lit 683 :: nat_lit 685 :: nat_lit 686 :: nat_lit 687 :: nat_lit 689 :: nat_lit 690 :: nat_lit 692 :: nat_lit 693 :: []

noncomputable def loose : List Str := Str.ofString "_wall" :: Str.ofString "CoveError" :: Str.ofString "Refusal" :: Str.ofString "MOST_LENGTH" :: Str.ofString "Vector" :: Str.ofString "room" :: Str.ofString "character" :: Str.ofString "length" :: Str.ofString "is_atomic" :: Str.ofString "share" :: Str.ofString "ROW_SHARE" :: Str.ofString "grown_text" :: Str.ofString "joined_text" :: Str.ofString "paste_texts" :: Str.ofString "paste_vectors" :: Str.ofString "sub_fixed" :: Str.ofString "NAN" :: Str.ofString "INF" :: Str.ofString "ZERO" :: Str.ofString "MOST_FIGURES" :: Str.ofString "MOST_PART" :: Str.ofString "gcd" :: Str.ofString "bounded" :: Str.ofString "make" :: Str.ofString "from_int" :: Str.ofString "is_na" :: Str.ofString "is_finite" :: Str.ofString "neg" :: Str.ofString "to_whole" :: Str.ofString "nearest_whole" :: Str.ofString "exponent" :: Str.ofString "MOST_EXPONENT" :: Str.ofString "MOST_SIGNS" :: Str.ofString "whole_text" :: Str.ofString "special_text" :: Str.ofString "scaled" :: Str.ofString "significant" :: Str.ofString "without_tail" :: Str.ofString "scientific_text" :: Str.ofString "fixed_text" :: Str.ofString "measures" :: Str.ofString "chosen_form" :: Str.ofString "formed" :: Str.ofString "common_texts" :: Str.ofString "number_text" :: Str.ofString "digits_value" :: Str.ofString "digit_run" :: Str.ofString "exponent_value" :: Str.ofString "powered" :: Str.ofString "unsigned_number" :: Str.ofString "parse_number" :: Str.ofString "get_attr" :: Str.ofString "label_text" :: Str.ofString "names_of" :: Str.ofString "dim_of" :: Str.ofString "dimnames_of" :: Str.ofString "class_attr" :: Str.ofString "MOST_INTEGER" :: Str.ofString "note" :: Str.ofString "as_logical_text" :: Str.ofString "double_to_integer" :: Str.ofString "text_to_double" :: Str.ofString "to_logical" :: Str.ofString "to_integer" :: Str.ofString "to_double" :: Str.ofString "to_text" :: Str.ofString "item_as" :: Str.ofString "is_atomic_kind" :: Str.ofString "list_item_as" :: Str.ofString "refuse_type" :: Str.ofString "as_vector_kind" :: Str.ofString "with_names" :: Str.ofString "as_kind" :: Str.ofString "FLAGS" :: Str.ofString "WIDEST" :: Str.ofString "MOST_WHOLE" :: Str.ofString "Spec" :: Str.ofString "is_digit" :: Str.ofString "digits_at" :: Str.ofString "Source" :: Str.ofString "read_spec" :: Str.ofString "padded" :: Str.ofString "signed" :: Str.ofString "marked" :: Str.ofString "base_digits" :: Str.ofString "whole_item" :: Str.ofString "whole_form" :: Str.ofString "without_zeros" :: Str.ofString "general_text" :: Str.ofString "number_form" :: Str.ofString "text_form" :: Str.ofString "one_form" :: Str.ofString "sprintf_one" :: Str.ofString "sprintf_vectors" :: Str.ofString "_law_size" :: Str.ofString "_law_small" :: Str.ofString "_law_words" :: []

noncomputable def q : Program := view PySem.Challenge.pw_pq1413_01 [106]
noncomputable def ann : Option Value := some (.ref 6)
noncomputable def q0 : Pos := ⟨0, 0, 0, 0⟩
noncomputable def env : Env := { scope := PySem.Challenge.pw_pq1413_01.main.scope, locals := mainNs, globals := mainNs, cells := [], code := .ref 13, frame := some 14 }
noncomputable def cE : Code := .body (behindTheImports PySem.Challenge.pw_pq1413_01) env
noncomputable def o11 : Obj := ⟨.type "tuple", none, .seq #[] 0, #[]⟩
noncomputable def o12 : Obj := ⟨.none, none, .fields #[], #[]⟩
noncomputable def o13 : Obj := ⟨.type "code", none, .fields #[.str (Str.ofString "<module>") 182, .str (Str.ofString "<module>") 183, .str (Str.ofString "/claim/cut.py") 184, .int 1 0, .int 0 0, .int 0 0, .int 0 0, .int 0 0, .ref 11, .bool false, .int 181 0, .ref 12, .none, .none, .none, .none, .int 185 0, .int 1 0, .str (Str.ofString "/claim/cut.py") 186], #[]⟩
noncomputable def o14 : Obj := ⟨.type "frame", none, .plain, #[some (.ref 13), some (.ref 3), some (.ref 3), none, some (.str (Str.ofString "__main__") 164), none, some (.ref 0)]⟩
noncomputable def tr (P : Params) : BT := (.node (boot_o_0 P) (.node (boot_o_1 P) (.node (boot_o_3 P) (.node (boot_o_7 P) .nil .nil) (.node o11 .nil .nil)) (.node (boot_o_5 P) (.node (boot_o_9 P) .nil .nil) (.node o13 .nil .nil))) (.node (boot_o_2 P) (.node (boot_o_4 P) (.node (boot_o_8 P) .nil .nil) (.node o12 .nil .nil)) (.node (boot_o_6 P) (.node (boot_o_10 P) .nil .nil) (.node o14 .nil .nil))))
noncomputable def sT (w : World) (os : OsState) : SharedT := ⟨tr w.params, 15, (boot_heap w.params).life, Array.mk [], boot_drawn, 187, os⟩
noncomputable def sg (n : Nat) (l : List Stmt) (p : Pos) (w : World) (s : SharedT) : Option (Flow × SharedT × Code × Pos) := PySem.W.Fast.tw10110043849684766642 PySem.W.Fast.tw14364793385576792824 PySem.Challenge.pw_pq1413_01 w 11 ann 1 n s (⟨(PySem.W.Fast.tw12563942051412417395 l env).wrap doneF deadEnd id id, cE, p, [topFrame q0]⟩ : Thread)
noncomputable def lk (r : Option (Flow × SharedT × Code × Pos)) (a : Nat) : Obj := match r with
  | some x => (x.2.1.tree.get a).getD default
  | none => default
noncomputable def dec : Nat → List Nat → List Value
  | n + 1, a :: b :: r => .int (Int.ofNat a) 0 :: .int 0 0 :: .ref b :: dec n r
  | _, _ => []
noncomputable def lin : List Nat := nat_lit 1 :: nat_lit 20 :: nat_lit 5 :: nat_lit 27 :: nat_lit 7 :: nat_lit 40 :: nat_lit 13 :: nat_lit 59 :: nat_lit 24 :: nat_lit 88 :: nat_lit 28 :: nat_lit 95 :: nat_lit 30 :: nat_lit 102 :: nat_lit 41 :: nat_lit 109 :: nat_lit 43 :: nat_lit 116 :: nat_lit 49 :: nat_lit 123 :: nat_lit 54 :: nat_lit 130 :: nat_lit 60 :: nat_lit 137 :: nat_lit 77 :: nat_lit 144 :: nat_lit 82 :: nat_lit 151 :: nat_lit 110 :: nat_lit 161 :: nat_lit 114 :: nat_lit 168 :: nat_lit 118 :: nat_lit 175 :: nat_lit 128 :: nat_lit 182 :: nat_lit 132 :: nat_lit 189 :: nat_lit 134 :: nat_lit 196 :: nat_lit 136 :: nat_lit 203 :: nat_lit 140 :: nat_lit 210 :: nat_lit 145 :: nat_lit 217 :: nat_lit 151 :: nat_lit 224 :: nat_lit 165 :: nat_lit 231 :: nat_lit 176 :: nat_lit 238 :: nat_lit 184 :: nat_lit 245 :: nat_lit 189 :: nat_lit 252 :: nat_lit 198 :: nat_lit 259 :: nat_lit 203 :: nat_lit 266 :: nat_lit 210 :: nat_lit 273 :: nat_lit 218 :: nat_lit 280 :: nat_lit 225 :: nat_lit 287 :: nat_lit 245 :: nat_lit 294 :: nat_lit 252 :: nat_lit 299 :: nat_lit 256 :: nat_lit 307 :: nat_lit 258 :: nat_lit 314 :: nat_lit 263 :: nat_lit 321 :: nat_lit 267 :: nat_lit 328 :: nat_lit 277 :: nat_lit 335 :: nat_lit 287 :: nat_lit 342 :: nat_lit 321 :: nat_lit 349 :: nat_lit 339 :: nat_lit 356 :: nat_lit 343 :: nat_lit 363 :: nat_lit 353 :: nat_lit 368 :: nat_lit 369 :: nat_lit 375 :: nat_lit 374 :: nat_lit 380 :: nat_lit 379 :: nat_lit 387 :: nat_lit 386 :: nat_lit 394 :: nat_lit 389 :: nat_lit 401 :: nat_lit 395 :: nat_lit 408 :: nat_lit 403 :: nat_lit 415 :: nat_lit 409 :: nat_lit 422 :: nat_lit 419 :: nat_lit 429 :: nat_lit 427 :: nat_lit 436 :: nat_lit 433 :: nat_lit 443 :: nat_lit 441 :: nat_lit 450 :: nat_lit 455 :: nat_lit 457 :: nat_lit 457 :: nat_lit 464 :: nat_lit 463 :: nat_lit 471 :: nat_lit 465 :: nat_lit 476 :: nat_lit 479 :: nat_lit 483 :: nat_lit 483 :: nat_lit 488 :: nat_lit 494 :: nat_lit 495 :: nat_lit 502 :: nat_lit 516 :: nat_lit 504 :: nat_lit 523 :: nat_lit 513 :: nat_lit 530 :: nat_lit 550 :: nat_lit 572 :: nat_lit 583 :: nat_lit 579 :: nat_lit 587 :: nat_lit 587 :: nat_lit 601 :: nat_lit 594 :: nat_lit 608 :: nat_lit 601 :: nat_lit 616 :: nat_lit 608 :: nat_lit 626 :: nat_lit 615 :: nat_lit 644 :: nat_lit 622 :: nat_lit 653 :: nat_lit 629 :: nat_lit 661 :: nat_lit 636 :: nat_lit 683 :: nat_lit 643 :: nat_lit 690 :: nat_lit 650 :: nat_lit 700 :: nat_lit 657 :: nat_lit 716 :: nat_lit 664 :: nat_lit 736 :: nat_lit 671 :: nat_lit 739 :: nat_lit 678 :: nat_lit 741 :: nat_lit 685 :: nat_lit 743 :: nat_lit 692 :: []
noncomputable def dat (k : Nat) (s : Str) (t : Nat) : Obj → Obj
  | ⟨c, d, .dict es _, sl⟩ => ⟨c, d, .dict (Array.mk (match es.toList with | e :: r => ⟨e.hash, e.key, .str s t⟩ :: r.take (k - 1) | [] => [])) k, sl⟩
  | o => o
noncomputable def fill (f : Nat → Obj) : Nat → Nat → List (Nat × Obj) → List Obj
  | 0, _, _ => []
  | n + 1, a, [] => f a :: fill f n (a + 1) []
  | n + 1, a, (b, o) :: r => match Nat.beq a b with
    | true => o :: fill f n (a + 1) r
    | false => f a :: fill f n (a + 1) ((b, o) :: r)
noncomputable def alt : List Obj → List Obj
  | [] => []
  | [x] => [x]
  | x :: _ :: r => x :: alt r
noncomputable def toT : Nat → List Obj → BT
  | 0, _ => .nil
  | _, [] => .nil
  | n + 1, o :: r => .node o (toT n (alt r)) (toT n (alt r.tail))
noncomputable def st (k j : Nat) (s : String) (t n u : Nat) (f : Nat → Obj) (w : World) (os : OsState) : SharedT := ⟨toT 11 ((fun P => match K P with
  | (_, x) :: (_, y) :: r => boot_o_0 P :: boot_o_1 P :: x :: dat k (Str.ofString s) t y :: boot_o_4 P :: boot_o_5 P :: boot_o_6 P :: boot_o_7 P :: boot_o_8 P :: boot_o_9 P :: boot_o_10 P :: o11 :: ⟨.none, none, .fields (Array.mk (dec j lin)), #[]⟩ :: o13 :: o14 :: fill f (n - 15) 15 r
  | _ => []) w.params), n, (boot_heap w.params).life, Array.mk [], boot_drawn, u, os⟩
noncomputable def p1 : Pos := ⟨47, 0, 47, 8⟩
noncomputable def r1 : List Stmt := List.drop 13 (behindTheImports PySem.Challenge.pw_pq1413_01)
noncomputable def l0 : List Stmt := List.take 13 (behindTheImports PySem.Challenge.pw_pq1413_01)
noncomputable def s1 : (Nat → Obj) → World → OsState → SharedT := st 19 9 "vectorcove.texts" 323 118 325
noncomputable def g0 (w : World) (os : OsState) : Nat → Obj := lk (sg 913 l0 q0 w (sT w os))
theorem c0 (w : World) (os : OsState) : sg 913 l0 q0 w (sT w os) = some (.next, s1 (g0 w os) w os, cE, p1) := by kernel_rfl
noncomputable def p2 : Pos := ⟨151, 0, 161, 12⟩
noncomputable def r2 : List Stmt := List.drop 22 (r1)
noncomputable def l1 : List Stmt := List.take 22 (r1)
noncomputable def s2 (f : Nat → Obj) : World → OsState → SharedT := st 40 24 "vectorcove.rational" 384 226 481 f
noncomputable def g1 (f : Nat → Obj) (w : World) (os : OsState) : Nat → Obj := lk (sg 548 l1 p1 w (s1 f w os))
theorem c1 (f : Nat → Obj) (w : World) (os : OsState) : sg 548 l1 p1 w (s1 f w os) = some (.next, s2 (g1 f w os) w os, cE, p2) := by kernel_rfl
noncomputable def p3 : Pos := ⟨338, 0, 338, 8⟩
noncomputable def r3 : List Stmt := List.drop 22 (r2)
noncomputable def l2 : List Stmt := List.take 22 (r2)
noncomputable def s3 (f : Nat → Obj) : World → OsState → SharedT := st 60 42 "vectorcove.attrs" 676 351 678 f
noncomputable def g2 (f : Nat → Obj) (w : World) (os : OsState) : Nat → Obj := lk (sg 621 l2 p2 w (s2 f w os))
theorem c2 (f : Nat → Obj) (w : World) (os : OsState) : sg 621 l2 p2 w (s2 f w os) = some (.next, s3 (g2 f w os) w os, cE, p3) := by kernel_rfl
noncomputable def p4 : Pos := ⟨463, 0, 464, 90⟩
noncomputable def r4 : List Stmt := List.drop 20 (r3)
noncomputable def l3 : List Stmt := List.take 20 (r3)
noncomputable def s4 (f : Nat → Obj) : World → OsState → SharedT := st 79 60 "vectorcove.coerce" 722 473 829 f
noncomputable def g3 (f : Nat → Obj) (w : World) (os : OsState) : Nat → Obj := lk (sg 558 l3 p3 w (s3 f w os))
theorem c3 (f : Nat → Obj) (w : World) (os : OsState) : sg 558 l3 p3 w (s3 f w os) = some (.next, s4 (g3 f w os) w os, cE, p4) := by kernel_rfl
noncomputable def p5 : Pos := ⟨513, 0, 549, 19⟩
noncomputable def r5 : List Stmt := List.drop 11 (r4)
noncomputable def l4 : List Stmt := List.take 11 (r4)
noncomputable def s5 (f : Nat → Obj) : World → OsState → SharedT := st 89 67 "vectorcove.sprintf" 849 567 969 f
noncomputable def g4 (f : Nat → Obj) (w : World) (os : OsState) : Nat → Obj := lk (sg 733 l4 p4 w (s4 f w os))
theorem c4 (f : Nat → Obj) (w : World) (os : OsState) : sg 733 l4 p4 w (s4 f w os) = some (.next, s5 (g4 f w os) w os, cE, p5) := by kernel_rfl
noncomputable def p6 : Pos := ⟨743, 0, 788, 31⟩
noncomputable def l5 : List Stmt := r5
noncomputable def s6 (f : Nat → Obj) : World → OsState → SharedT := st 107 85 "law_pq1413_01" 1130 694 1178 fun a => match Nat.beq a 688 with | true => o12 | false => f a
noncomputable def g5 (f : Nat → Obj) (w : World) (os : OsState) : Nat → Obj := lk (sg 614 l5 p5 w (s5 f w os))
theorem c5 (f : Nat → Obj) (w : World) (os : OsState) : sg 614 l5 p5 w (s5 f w os) = some (.next, s6 (g5 f w os) w os, cE, p6) := by kernel_rfl
noncomputable def F1 (w : World) (os : OsState) : Nat → Obj := g0 w os
noncomputable def F2 (w : World) (os : OsState) : Nat → Obj := g1 (F1 w os) w os
noncomputable def F3 (w : World) (os : OsState) : Nat → Obj := g2 (F2 w os) w os
noncomputable def F4 (w : World) (os : OsState) : Nat → Obj := g3 (F3 w os) w os
noncomputable def F5 (w : World) (os : OsState) : Nat → Obj := g4 (F4 w os) w os
noncomputable def F6 (w : World) (os : OsState) : Nat → Obj := g5 (F5 w os) w os
noncomputable def resS (w : World) (os : OsState) : SharedT := s6 (F6 w os) w os
theorem pre (w : World) (os : OsState) : topGo treeTable PySem.Challenge.pw_pq1413_01 w 11 ann 12 ⟨boot_heap w.params, Array.mk [], boot_drawn, boot_toks, os⟩ (topStub PySem.Challenge.pw_pq1413_01) = some ((sT w os).abs, ⟨denote treeTable cE, cE, q0, [topFrame q0]⟩) := by
  rewrite [PySem.W.Fast.te15667345088766844465, PySem.W.Fast.te14364793385576792824, PySem.W.Fast.te11892475500146522536]
  kernel_rfl
theorem blk (w : World) (os : OsState) : segRun treeTable PySem.Challenge.pw_pq1413_01 w 11 ann 1 1 (sT w os).abs (blockOf (behindTheImports PySem.Challenge.pw_pq1413_01) env cE q0 [topFrame q0]) = some (.next, (sT w os).abs, cE, q0) := by
  kernel_rfl
theorem fin (w : World) (s : SharedT) (c : Code) (p : Pos) : topRun treeTable PySem.Challenge.pw_pq1413_01 w 11 ann 2 s.abs ⟨doneF .next, c, p, [topFrame q0]⟩ = some s.abs := by
  kernel_rfl
noncomputable def mods : List Str := importedModules PySem.Challenge.pw_pq1413_01.main.body
theorem big2 (f : Nat → Obj) (w : World) (os : OsState) : (staticsOk mods (boot_heap w.params) (s6 f w os).abs.heap && namesBound PySem.Challenge.pw_pq1413_01 (s6 f w os).abs.heap && gensDone (s6 f w os).abs && laidKept (boot_heap w.params) (s6 f w os).abs.heap) = true := by kernel_rfl
theorem big3 (f : Nat → Obj) (w : World) (os : OsState) : PySem.W.Fast.tw4187177175401517315 q loose mods (fun s => xlAt q [] s && recOk [] s) true (s6 f w os).abs = openGood q loose := by kernel_rfl
theorem big4 (f : Nat → Obj) (w : World) (os : OsState) : ks.map (s6 f w os).abs.heap.get? = (K w.params).map (fun p => some p.2) := by kernel_rfl
theorem sg_of {n : Nat} {l : List Stmt} {p p' : Pos} {w : World} {s s' : SharedT} (h : sg n l p w s = some (.next, s', cE, p')) : segRun treeTable PySem.Challenge.pw_pq1413_01 w 11 ann 1 n s.abs (piecesOf l env cE p [topFrame q0]) = some (.next, s'.abs, cE, p') := by
  unfold sg at h
  rewrite [← PySem.W.Fast.te10110043849684766642, ← PySem.W.Fast.te14364793385576792824, ← PySem.W.Fast.te12563942051412417395] at h
  exact segRun_of h
theorem lnk {n N j : Nat} {s s' r : Shared} {l : List Stmt} {p p' : Pos} {w : World} (h : segRun treeTable PySem.Challenge.pw_pq1413_01 w 11 ann 1 n s (piecesOf (List.take j l) env cE p [topFrame q0]) = some (.next, s', cE, p'))
    (k : topRun treeTable PySem.Challenge.pw_pq1413_01 w 11 ann N s' (restOf (List.drop j l) env cE p' [topFrame q0]) = some r) : topRun treeTable PySem.Challenge.pw_pq1413_01 w 11 ann (n + N) s (restOf l env cE p [topFrame q0]) = some r := by
  have h2 := piece_app h k
  rwa [List.take_append_drop] at h2
theorem run (w : World) (os : OsState) : topRun treeTable PySem.Challenge.pw_pq1413_01 w 11 ann (12 + (1 + (913 + (548 + (621 + (558 + (733 + (614 + 2)))))))) ⟨boot_heap w.params, Array.mk [], boot_drawn, boot_toks, os⟩ (topStub PySem.Challenge.pw_pq1413_01) = some (resS w os).abs := by
  have h2 := piece_app (rest := []) (sg_of (c5 (F5 w os) w os)) (fin w (resS w os) cE p6)
  rewrite [List.append_nil] at h2
  exact go_top (n := 12) (pre w os) (piece_block (n := 1) (blk w os) (lnk (sg_of (c0 w os)) (lnk (sg_of (c1 (F1 w os) w os)) (lnk (sg_of (c2 (F2 w os) w os)) (lnk (sg_of (c3 (F3 w os) w os)) (lnk (sg_of (c4 (F4 w os) w os)) h2))))))
theorem zee (w : World) : ((boot_heap w.params).isNs mainGlobals && (Array.mk [] : Array GenState).size == 0, (boot_heap w.params).objs.size, (boot_heap w.params).nsMap mainGlobals "__annotations__") = (true, 11, ann) := by kernel_rfl
theorem left_of {p q : Program} {loose : List Str} {Xt : Shared → Bool} {α : Type} {Yf : Shared → α} {Ya : World → α} {N M m₀ : Nat} {ann : Option Value} {H₀ : Params → Heap} {gs : Array GenState} {d : Drawn} {k : Nat} (S : World → OsState → Shared)
    (opn : ∀ w : World, (fencedOpening treeTable p w N).map (fun s => (s.heap, s.gens, s.drawn, s.toks)) = some (H₀ w.params, gs, d, k))
    (size : ∀ w : World, ((H₀ w.params).isNs mainGlobals && gs.size == 0, (H₀ w.params).objs.size, (H₀ w.params).nsMap mainGlobals "__annotations__") = (true, m₀, ann))
    (run : ∀ (w : World) (os : OsState), topRun treeTable p w m₀ ann M ⟨H₀ w.params, gs, d, k, os⟩ (topStub p) = some (S w os)) (le : Nat.ble M N = true)
    (ok : ∀ (w : World) (os : OsState), (staticsOk (importedModules p.main.body) (H₀ w.params) (S w os).heap && namesBound p (S w os).heap && gensDone (S w os) && laidKept (H₀ w.params) (S w os).heap) = true)
    (see : ∀ (w : World) (os : OsState), openSeen q loose (importedModules p.main.body) Xt true (S w os) = openGood q loose) (obs : ∀ (w : World) (os : OsState), Yf (S w os) = Ya w) : LeftO p q loose Xt Yf Ya N := fun w => by
  obtain ⟨⟨h, g, d', k', os⟩, e, e'⟩ := Option.map_eq_some_iff.mp (opn w)
  simp only [Prod.mk.injEq] at e'
  obtain ⟨e1, e2, e3, e4⟩ := e'
  subst e1 e2 e3 e4
  obtain ⟨z1, z23⟩ := Prod.mk.inj (size w)
  obtain ⟨z2, z3⟩ := Prod.mk.inj z23
  have r := topRun_mono (N - M) _ _ _ _ (run w os)
  rw [show M + (N - M) = N by have := Nat.le_of_ble_eq_true le; omega] at r
  have t : topFrom treeTable p w N ⟨H₀ w.params, g, d', k', os⟩ = some (S w os) := by
    unfold topFrom
    dsimp only
    rw [z1, z2, z3, r]
    show (match staticsOk (importedModules p.main.body) (H₀ w.params) (S w os).heap && namesBound p (S w os).heap && gensDone (S w os) && laidKept (H₀ w.params) (S w os).heap with | true => _ | false => _) = _
    rw [ok w os]
  unfold openEnds
  rw [e]
  show (topFrom treeTable p w N _).map _ = _
  rw [t]
  show some (_, _) = some (_, _)
  rw [see w os, obs w os]
theorem see (w : World) (os : OsState) : openSeen q loose mods (fun s => xlAt q [] s && recOk [] s) true (resS w os).abs = openGood q loose := by
  have h := big3 (F6 w os) w os
  rewrite [← PySem.W.Fast.te4187177175401517315] at h
  exact h
theorem ks_of (P : Params) : ks = (K P).map (·.1) := by kernel_rfl
theorem opens (w : World) : (fencedOpening treeTable PySem.Challenge.pw_pq1413_01 w 8000).map (fun s => (s.heap, s.gens, s.drawn, s.toks)) = some (boot_heap w.params, Array.mk [], boot_drawn, boot_toks) :=
  boot_open (by kernel_rfl) (by kernel_rfl) (fun _ => by kernel_rfl) w
theorem left : LeftO PySem.Challenge.pw_pq1413_01 q loose (fun s => xlAt q [] s && recOk [] s) (kHook K ks ks_of).obs (kHook K ks ks_of).val 8000 :=
  left_of (fun w os => (resS w os).abs) opens zee run (by kernel_rfl) (fun w os => big2 (F6 w os) w os) see (fun w os => big4 (F6 w os) w os)
theorem fl_of {f : Str → Bool} {a b c : Str} (h1 : f a = false) (h2 : f b = false) (h3 : f c = false) : PySem.W.R.filterR f [a, b, c] = [] := by
  have h : ∀ (x : Str) (l : List Str), f x = false → PySem.W.R.filterR f (x :: l) = PySem.W.R.filterR f l := fun x l e => by
    show @Bool.rec (fun _ => List Str) (PySem.W.R.filterR f l) (x :: PySem.W.R.filterR f l) (f x) = _
    rw [e]
  rw [h _ _ h1, h _ _ h2, h _ _ h3]; rfl
theorem lk_of {s : Bool} {bs : List Str} {l : List Stmt} (h1 : (!s) = false) (h2 : bs = []) (h : PySem.W.Fast.tw8326940854005059898 { strict := false, foot := none, bare := [] } l = true) : PySem.W.Fast.tw8326940854005059898 { strict := !s, foot := none, bare := bs } l = true := by
  rw [h1, h2]; exact h
theorem said : PySem.Challenge.rw_pq1413_01.wellSaid = true := by
  rewrite [PySem.W.Fast.te9446332074065402090]
  delta PySem.W.Fast.tw9446332074065402090
  delta PySem.W.Fast.tw17960256430627541270
  delta PySem.W.Fast.tw2436336058641802641
  delta PySem.W.Fast.tw12908688711261696721
  repeat' (with_reducible first | refine look_both ?_ ?_ | refine lk_of ?_ ?_ ?_ | refine fl_of ?_ ?_ ?_)
  all_goals as_aux_lemma => kernel_rfl


theorem ws_cut (k : Nat) {t sc : Scope} {cx : TablesWhole.Ctx} {l : List Stmt} (h1 : TablesWhole.wSs TablesWhole.holds t cx sc (List.take k l) = true) (h2 : TablesWhole.wSs TablesWhole.holds t cx sc (List.drop k l) = true) : TablesWhole.wSs TablesWhole.holds t cx sc l = true := by
  have app : ∀ a b : List Stmt, TablesWhole.wSs TablesWhole.holds t cx sc (a ++ b) = (TablesWhole.wSs TablesWhole.holds t cx sc a && TablesWhole.wSs TablesWhole.holds t cx sc b) := fun a b => by
    induction a with
    | nil => exact (Bool.true_and _).symm
    | cons x r ih =>
      show (TablesWhole.wS TablesWhole.holds t cx sc x && TablesWhole.wSs TablesWhole.holds t cx sc (r ++ b)) = ((TablesWhole.wS TablesWhole.holds t cx sc x && TablesWhole.wSs TablesWhole.holds t cx sc r) && TablesWhole.wSs TablesWhole.holds t cx sc b)
      rw [ih, Bool.and_assoc]
  rw [← List.take_append_drop k l, app, h1, h2]; rfl
theorem tables_of {p : Program} (hm : p.modules = []) (hp : p.parses = []) (hh : p.harvested = []) (h0 : TablesWhole.wSs TablesWhole.gather p.main.scope ⟨p.main.scope, [], [], [], none⟩ p.main.scope p.main.body = []) (h1 : TablesWhole.noTwice p.main.scope = true)
    (h2 : TablesWhole.wSs TablesWhole.holds p.main.scope ⟨p.main.scope, [], [], [], none⟩ p.main.scope p.main.body = true) : p.tablesWhole = true := by
  show (TablesWhole.holds.all [TablesWhole.wModule TablesWhole.holds p.main, TablesWhole.holds.all (p.modules.map fun (_, _, m) => TablesWhole.wModule TablesWhole.holds m), TablesWhole.holds.all (p.parses.map (TablesWhole.wParse TablesWhole.holds)), TablesWhole.holds.all (p.harvested.map (TablesWhole.wParse TablesWhole.holds))]) = true
  rw [hm, hp, hh]
  show (TablesWhole.wModule TablesWhole.holds p.main && true) = true
  unfold TablesWhole.wModule
  show ((true && (TablesWhole.noTwice p.main.scope && (TablesWhole.wSs TablesWhole.holds p.main.scope ⟨p.main.scope, [], TablesWhole.wSs TablesWhole.gather p.main.scope ⟨p.main.scope, [], [], [], none⟩ p.main.scope p.main.body, [], none⟩ p.main.scope p.main.body && true))) && true) = true
  rw [h0, h1, h2]; rfl
theorem hw : (PySem.Challenge.rw_pq1413_01.row).toRowW.promised := by w_witness2
theorem hok : (chainsOk q && opensWell PySem.Challenge.rw_pq1413_01.row.prog && (frees PySem.Challenge.rw_pq1413_01.row.toRowW && List.isEmpty PySem.Challenge.rw_pq1413_01.row.within)) = true := by decide +kernel
theorem ht : PySem.Challenge.rw_pq1413_01.row.prog.tablesWhole = true := by
  refine tables_of rfl rfl rfl ?_ ?_ (ws_cut 30 ?_ (ws_cut 26 ?_ (ws_cut 22 ?_ ?_)))
  all_goals decide +kernel
theorem hb : PySem.Challenge.rw_pq1413_01.row.prog.bare := ⟨rfl, rfl, rfl, rfl, rfl, ht⟩
theorem hd {d : DefRec} {kwd : List (Str × PySem.Expr)} (hdef : defOf q PySem.Challenge.rw_pq1413_01.row.name = some (d, kwd)) (hp : PySem.Challenge.rw_pq1413_01.row.prog.theDef PySem.Challenge.rw_pq1413_01.row.name = some (d.params, d.body, d.scope)) (hk : kwWritten? d.params.kwonlyargs d.params.kw_defaults = some kwd)
    (walk : WalkO q loose (XL q []) (kHook K ks ks_of).says PySem.Challenge.rw_pq1413_01.row.toRowW d kwd fun f vs => PySem.call f vs) : PySem.Challenge.rw_pq1413_01.Holds :=
  holds_law said fun s => holds_open left (kHook K ks ks_of).of (kHook K ks ks_of).keeps (fun s e => xl_of s (Bool.and_eq_true_iff.mp e).1) XL.keeps hdef hp hk (fun s e => recFacts_of (Bool.and_eq_true_iff.mp e).2) rfl s hok hb hw walk

/-- trees whose writes keep every object's dict and free none -/
def Safe {α : Type} : Sem α → Prop
  | .rule _ k => Safe (k ())
  | .at _ k => Safe (k ())
  | .load _ _ k => ∀ o, Safe (k o)
  | .update _ _ f k => (∀ o, (f o).dict = o.dict ∧ (o.isFreed = false → (f o).isFreed = false)) ∧ Safe (k ())
  | .alloc _ k => ∀ a, Safe (k a)
  | .loadIfAlive _ k => ∀ o, Safe (k o)
  | .point _ k => Safe (k ())
  | .fresh k => ∀ t, Safe (k t)
  | .ask k => ∀ x, Safe (k x)
  | .stack k => ∀ x, Safe (k x)
  | .handled _ k => ∀ x, Safe (k x)
  | .call .. => False
  | .choose .. => False
  | .os .. => False
  | .genState .. => False
  | .newGen .. => False
  | .resume .. => False
  | .thread _ => False
  | _ => True
def KD (h h' : Heap) : Prop := ∀ b o, h.get? b = some o → ∃ o', h'.get? b = some o' ∧ o'.dict = o.dict
theorem KD.refl (h : Heap) : KD h h := fun _ o e => ⟨o, e, rfl⟩
theorem KD.trans {a b c : Heap} (x : KD a b) (y : KD b c) : KD a c := fun p o e =>
  let ⟨o1, e1, d1⟩ := x p o e
  let ⟨o2, e2, d2⟩ := y p o1 e1
  ⟨o2, e2, d2.trans d1⟩
theorem KD.push (h : Heap) (o : Obj) : KD h (h.push o) := fun _ o' e => ⟨o', Heap.get?_push_of_some o e, rfl⟩
theorem KD.update (h : Heap) (a : Addr) (f : Obj → Obj) (hf : ∀ o, (f o).dict = o.dict ∧ (o.isFreed = false → (f o).isFreed = false)) : KD h (h.update a f) := fun b o e => by
  by_cases q : b = a
  · subst q
    have hn : o.isFreed = false := (Heap.get?_some_iff.mp e).2
    exact ⟨f o, Heap.get?_update_self f e ((hf o).2 hn), (hf o).1⟩
  · exact ⟨o, (Heap.get?_update_ne _ _ _ _ q).trans e, rfl⟩
theorem safe_wp {α : Type} {M : Model} {Γ : Ctx} : ∀ (t : Sem α) (Q : α → Pos → Shared → Prop) (E : Value → Pos → Shared → Prop) (p : Pos) (s : Shared), Safe t → Sem.wp M Γ t Q E p s → Sem.wp M Γ t (fun a p' s' => Q a p' s' ∧ KD s.heap s'.heap) E p s := by
  intro t
  induction t with
  | pure a => intro Q E p s _ h; exact ⟨h, KD.refl _⟩
  | raise e => intro Q E p s _ h; exact h
  | unsupported w => intro Q E p s _ h; exact h
  | finish e => intro Q E p s _ h; exact h
  | rule g k ih => intro Q E p s hs h; exact ih () Q E p s hs h
  | «at» q k ih => intro Q E p s hs h; exact ih () Q E q s hs h
  | load a q k ih => intro Q E p s hs h; obtain ⟨o, ho, h⟩ := h; exact ⟨o, ho, ih o Q E p s (hs o) h⟩
  | update a q f k ih =>
    intro Q E p s hs h
    refine ⟨h.1, Sem.wp_mono M Γ (k ()) (fun b p' s' x => ⟨x.1, (KD.update _ _ _ hs.1).trans x.2⟩) (fun _ _ _ x => x) _ _ (ih () Q E p _ hs.2 h.2)⟩
  | alloc o k ih => intro Q E p s hs h; exact Sem.wp_mono M Γ (k _) (fun b p' s' x => ⟨x.1, (KD.push _ _).trans x.2⟩) (fun _ _ _ x => x) _ _ (ih _ Q E p _ (hs _) h)
  | loadIfAlive a k ih => intro Q E p s hs h; exact ih _ Q E p s (hs _) h
  | point l k ih => intro Q E p s hs h; exact ih () Q E p s hs h
  | register a k ih => intro Q E p s _ h; exact h
  | fresh k ih => intro Q E p s hs h; exact ih _ Q E p _ (hs _) h
  | ask k ih => intro Q E p s hs h; exact ih _ Q E p s (hs _) h
  | choose a n k ih => intro Q E p s hs _; exact hs.elim
  | os a l k ih => intro Q E p s hs _; exact hs.elim
  | call c a b l k ih => intro Q E p s hs _; exact hs.elim
  | handled o k ih => intro Q E p s hs h; exact ih _ Q E p s (hs _) h
  | newGen c k ih => intro Q E p s hs _; exact hs.elim
  | genState g k ih => intro Q E p s hs _; exact hs.elim
  | resume g r l k ih => intro Q E p s hs _; exact hs.elim
  | «yield» v g l k ih => intro Q E p s _ h; exact h
  | stack k ih => intro Q E p s hs h; exact ih _ Q E p s (hs _) h
  | fork c k ih => intro Q E p s _ h; exact h
  | thread k ih => intro Q E p s hs _; exact hs.elim
  | await a t d l k ih => intro Q E p s _ h; exact h
theorem safe_any {α : Type} {M : Model} {A : Around} {t : Sem α} {Q : α → Shared → Prop} {E : Value → Shared → Prop} {s : Shared} (hs : Safe t) (h : wpAny M A t Q E s) : wpAny M A t (fun a s' => Q a s' ∧ KD s.heap s'.heap) E s :=
  fun Γ p hΓ => safe_wp t _ _ p s hs (h Γ p hΓ)
theorem Safe.bind {α β : Type} : ∀ {m : Sem α} {f : α → Sem β}, Safe m → (∀ a, Safe (f a)) → Safe (m >>= f) := by
  intro m f
  show Safe m → _ → Safe (m.bind f)
  induction m with
  | pure a => intro _ h; exact h a
  | rule g k ih => intro hs h; exact ih () hs h
  | «at» q k ih => intro hs h; exact ih () hs h
  | load a q k ih => intro hs h o; exact ih o (hs o) h
  | update a q g k ih => intro hs h; exact ⟨hs.1, ih () hs.2 h⟩
  | alloc o k ih => intro hs h a; exact ih a (hs a) h
  | loadIfAlive a k ih => intro hs h o; exact ih o (hs o) h
  | point l k ih => intro hs h; exact ih () hs h
  | fresh k ih => intro hs h a; exact ih a (hs a) h
  | ask k ih => intro hs h a; exact ih a (hs a) h
  | handled o k ih => intro hs h a; exact ih a (hs a) h
  | stack k ih => intro hs h a; exact ih a (hs a) h
  | choose a n k ih => intro hs _; exact hs.elim
  | os a l k ih => intro hs _; exact hs.elim
  | call c a b l k ih => intro hs _; exact hs.elim
  | newGen c k ih => intro hs _; exact hs.elim
  | genState g k ih => intro hs _; exact hs.elim
  | resume g r l k ih => intro hs _; exact hs.elim
  | thread k ih => intro hs _; exact hs.elim
  | _ => intro _ _; trivial
theorem safe_pure {α : Type} (a : α) : Safe (pure a : Sem α) := trivial
theorem safe_fields (v : Value) : Safe (fieldsOf v) := by
  unfold fieldsOf
  split
  · refine Safe.bind (fun _ => trivial) fun o => ?_
    split <;> trivial
  · trivial
theorem safe_field (v : Value) (i : Nat) : Safe (field v i) := by
  unfold field
  refine Safe.bind (safe_fields v) fun o => ?_
  split <;> trivial
theorem mapFields_dict (f : Array Value → Array Value) (o : Obj) : (Obj.mapFields f o).dict = o.dict ∧ (o.isFreed = false → (Obj.mapFields f o).isFreed = false) := by
  obtain ⟨c, d, x, sl⟩ := o
  cases x <;> exact ⟨rfl, fun h => h⟩
theorem safe_setField (v : Value) (i : Nat) (x : Value) : Safe (setField v i x) := by
  unfold setField
  split
  · unfold updateField
    refine Safe.bind (fun _ => trivial) fun o => ?_
    split
    · split
      · exact ⟨mapFields_dict _, trivial⟩
      · trivial
    · trivial
  · trivial
theorem safe_setFlight (e : Value) (f : Option Addr) : Safe (setFlight e f) := by
  unfold setFlight
  refine Safe.bind (safe_field _ _) fun tb => ?_
  split
  · exact safe_setField _ _ _
  · trivial
theorem safe_newFields (ty : String) (vs : List Value) : Safe (newFields ty vs) := by
  unfold newFields newObj
  dsimp only
  split
  · exact Safe.bind (m := unsupported "record:memory") trivial fun _ => (by unfold newObjAsIs; exact fun _ => trivial)
  · unfold newObjAsIs
    exact fun _ => trivial
theorem safe_under : Safe underTheClaimsCaller := fun _ => trivial
theorem safe_behind (env : Env) (outer : List Env) : Safe (behindIsImport env outer) := by
  unfold behindIsImport
  split
  · trivial
  · split
    · trivial
    · exact Safe.bind (safe_field _ _) fun _ => trivial
theorem safe_keptBack (env : Env) (i : Bool) (l : List Env) : Safe (keptBack env i l) := by
  cases l with
  | nil =>
    unfold keptBack
    dsimp only
    split
    · trivial
    · exact Safe.bind safe_under fun _ => trivial
  | cons c r => exact trivial
theorem safe_ready : ∀ l : List Env, Safe (readyFrames l)
  | [] => trivial
  | env :: outer => by
    unfold readyFrames
    split
    · refine Safe.bind (fun _ => trivial) fun o => ?_
      split
      · trivial
      · refine Safe.bind (safe_behind _ _) fun i => Safe.bind (safe_keptBack _ _ _) fun b => Safe.bind ⟨fun o => by obtain ⟨c, d, x, sl⟩ := o; cases x <;> exact ⟨rfl, fun h => h⟩, trivial⟩ fun _ => safe_ready outer
    · trivial
theorem safe_frameObject : ∀ l : List Env, Safe (frameObject l)
  | [] => trivial
  | env :: outer => by
    unfold frameObject
    exact Safe.bind (safe_ready _) fun _ => trivial
theorem safe_frameOf (env : Env) : Safe (PySem.frameOf env) := by
  unfold PySem.frameOf
  refine Safe.bind (fun _ => trivial) fun l => Safe.bind (safe_frameObject _) fun r => ?_
  split <;> trivial
theorem safe_place (f : Addr) (b : Bool) : Safe (entryPlaceOf f b) := by
  unfold entryPlaceOf
  refine Safe.bind (fun _ => trivial) fun l => ?_
  split
  · split <;> trivial
  · trivial
theorem safe_note (e : Value) (env : Env) : Safe (noteFrame e env) := by
  have tail : ∀ (f : Addr) (head : Value) (b : Bool), Safe (do let a ← PySem.frameOf env; let pl ← entryPlaceOf f b; let c ← EntryCells.newEntry head a .none (rawInt f) .none pl; setField e 1 c) := fun f head b =>
    Safe.bind (safe_frameOf _) fun _ => Safe.bind (safe_place _ _) fun _ => Safe.bind (safe_newFields _ _) fun _ => safe_setField _ _ _
  unfold noteFrame
  split
  · refine Safe.bind (safe_field _ _) fun head => ?_
    split
    · refine Safe.bind (safe_field _ _) fun x => ?_
      split
      · trivial
      · exact Safe.bind (safe_setField _ _ _) fun _ => tail _ _ _
    · exact tail _ _ _
  · trivial
theorem safe_leaving (env : Env) (e : Value) : Safe (leaving env e) := Safe.bind (safe_note _ _) fun _ => safe_setFlight _ _

abbrev excO (t d : Addr) : Obj := { cls := .ref 51, dict := some d, data := .fields #[.ref t, .none, .none, .none, .bool false, .none] }
def HasDict (h : Heap) (e d : Addr) : Prop := ∃ oe, h.get? e = some oe ∧ oe.dict = some d
theorem HasDict.kd {h h' : Heap} {e d : Addr} (x : HasDict h e d) (k : KD h h') : HasDict h' e d := by
  obtain ⟨oe, he, hd⟩ := x
  obtain ⟨o', e', d'⟩ := k e oe he
  exact ⟨o', e', d'.trans hd⟩
/-- a Refusal in flight: it has left every frame but those of l; its dict is at d and stands as es -/
def RaisedN (nw : List (Addr × Obj)) (base : Heap) (l : List Env) (e d : Addr) (es : List DictEntry) (n : Nat) (h : Heap) : Prop :=
  ∃ B a0, base.StaysIn B ∧ B.get? d = some (dictOf es n) ∧ base.get? d = none ∧ Heap.FlyingW B l e (.ref 51) a0 h ∧ HasDict h e d ∧ ∀ p ∈ nw, B.get? p.1 = some p.2 ∧ base.get? p.1 = none
abbrev RaisedR (base : Heap) (l : List Env) (e d : Addr) (es : List DictEntry) (n : Nat) (h : Heap) : Prop := RaisedN [] base l e d es n h
section
variable {M : Model} {A : Around} {E : Value → Shared → Prop} {s' : Shared} {base g g₂ h : Heap} {outer : List Env} {L a e t d : Addr} {m : Str → Option Value} {name : Str} {scope : Scope} {cd : Value} {Q : Unit → Shared → Prop} {news : List (Addr × Obj)} {es : List DictEntry} {n : Nat} {nw : List (Addr × Obj)}
theorem hide_none_of {h : Heap} {l : List Addr} {b : Addr} (e : h.get? b = none) : (hideAll h l).get? b = none := by
  cases q : (hideAll h l).get? b with
  | none => rfl
  | some o => have := of_hideAll _ q; rw [e] at this; cases this
theorem leave_first (K : Below A base outer g) (F : Fr g L s'.heap m) (N : News g L s'.heap news) (he : (e, excO t d) ∈ news) (hd : (d, dictOf es n) ∈ news) (kn : ∀ p ∈ nw, p ∈ news ∧ p.1 ≠ e)
    (hQ : ∀ h', RaisedN nw base outer e d es n h' → g.UpToSlots h' → Q () { s' with heap := h' }) (hk : scope.kind = .function := by rfl) :
    wpAny M (A.deeper (envOf name scope L a cd)) (leaving (envOf name scope L a cd) (.ref e)) Q E s' := by
  have K' := K.push (name := name) (a := a) (cd := cd) F hk
  have e1 : s'.heap.get? e = some (excO t d) := (N _ he).1
  have e3 : g.get? e = none := (N _ he).2.2
  have d1 : s'.heap.get? d = some (dictOf es n) := (N _ hd).1
  have d2 : d ≠ L := (N _ hd).2.1
  have d3 : g.get? d = none := (N _ hd).2.2
  have hed : d ≠ e := fun q => by rw [q, e1] at d1; cases d1
  have st : base.StaysIn (hideAll s'.heap (e :: (envOf name scope L a cd :: outer).filterMap (·.frame))) := fun b o q => hideAll_get _ (K'.stays b o q) fun hm => by
    rcases List.mem_cons.mp hm with rfl | hm
    · rw [fresh_of_stays K.stays e3] at q; cases q
    · rw [(K'.frames.mem hm).1] at q; cases q
  have hdB : (hideAll s'.heap (e :: (envOf name scope L a cd :: outer).filterMap (·.frame))).get? d = some (dictOf es n) := hideAll_get _ d1 fun hm => by
    rcases List.mem_cons.mp hm with q | hm
    · exact hed q
    · obtain ⟨env, hv, hf⟩ := List.mem_filterMap.mp hm
      rcases List.mem_cons.mp hv with rfl | hv
      · exact d2 (Option.some.inj hf).symm
      · obtain ⟨o, ho, _⟩ := (K.frames.mem (List.mem_filterMap.mpr ⟨env, hv, hf⟩)).2
        rw [d3] at ho; cases ho
  have hnB : ∀ p ∈ nw, (hideAll s'.heap (e :: (envOf name scope L a cd :: outer).filterMap (·.frame))).get? p.1 = some p.2 ∧ base.get? p.1 = none := fun p hp => by
    have n1 := N p (kn p hp).1
    refine ⟨hideAll_get _ n1.1 fun hm => ?_, fresh_of_stays K.stays n1.2.2⟩
    rcases List.mem_cons.mp hm with q | hm
    · exact (kn p hp).2 q
    · rcases List.mem_cons.mp hm with q | q
      · exact n1.2.1 q
      · obtain ⟨o, ho, _⟩ := (K.frames.mem q).2
        rw [n1.2.2] at ho; exact nomatch ho
  have hen : (hideAll s'.heap (e :: (envOf name scope L a cd :: outer).filterMap (·.frame))).get? e = none := hideAll_none _ (.head _)
  have ff : s'.heap.FunFrames (hideAll s'.heap (e :: (envOf name scope L a cd :: outer).filterMap (·.frame))) (envOf name scope L a cd :: outer) :=
    funFrames_hide K'.frames fun env hv b hb => .tail _ (List.mem_filterMap.mpr ⟨env, hv, hb⟩)
  have main := wpAny_leaving_firstW (M := M) (A := A.deeper (envOf name scope L a cd)) (E := E) (s := s') (a0 := .ref t) (Q := fun _ s'' => ∃ a0, Heap.FlyingW (hideAll s'.heap (e :: (envOf name scope L a cd :: outer).filterMap (·.frame))) outer e (.ref 51) a0 s''.heap ∧ g.UpToSlots s''.heap ∧ s'' = { s' with heap := s''.heap })
    K'.stack ff rfl e1 (fun b o hb => of_hideAll _ hb) hen rfl rfl rfl fun h' hL => by
      obtain ⟨k1, ⟨_, _, k2⟩, k3, k4⟩ := hL
      exact ⟨_, ⟨k1, hen, k2, k3⟩, (Heap.UpToSlots.of_keeps F.keep).trans k4, rfl⟩
  refine wpAny_mono (safe_any (safe_leaving _ _) main) (fun _ s'' x => ?_) fun _ _ x => x
  obtain ⟨⟨a0, fl, us, q⟩, kd⟩ := x
  rw [q]
  exact hQ _ ⟨_, a0, st, hdB, fresh_of_stays K.stays d3, fl, HasDict.kd (h := s'.heap) ⟨_, e1, rfl⟩ kd, hnB⟩ us
theorem leave_next (K : Below A base outer g) (F : Fr g L g₂ m) (R : RaisedN nw base (envOf name scope L a cd :: outer) e d es n s'.heap) (hsm : g₂.UpToSlots s'.heap)
    (hQ : ∀ h', RaisedN nw base outer e d es n h' → g.UpToSlots h' → Q () { s' with heap := h' }) :
    wpAny M (A.deeper (envOf name scope L a cd)) (leaving (envOf name scope L a cd) (.ref e)) Q E s' := by
  obtain ⟨B, a0, hB, hl, hn, hfl, hd, hnB⟩ := R
  have main := wpAny_leaves_onW (M := M) (E := E) (s := s') (Q := fun _ s'' => Heap.FlyingW B outer e (.ref 51) a0 s''.heap ∧ s'.heap.UpToSlots s''.heap ∧ s'' = { s' with heap := s''.heap }) (Around.frames_deeper K.stack) rfl hfl fun h' x1 x2 => ⟨x1, x2, rfl⟩
  refine wpAny_mono (safe_any (safe_leaving _ _) main) (fun _ s'' x => ?_) fun _ _ x => x
  obtain ⟨⟨fl, us, q⟩, kd⟩ := x
  rw [q]
  exact hQ _ ⟨B, a0, hB, hl, hn, fl, hd.kd kd, hnB⟩ ((Heap.UpToSlots.of_keeps F.keep).trans (hsm.trans us))
end
def mroOk (K : Frag) : Prop := ∃ nm qn N bs bm hdct sn sub ab col dd k0 k1 k2 k3 k5 newId, K.lookup 51 = some (excClassObj nm qn 51 N bs bm hdct sn sub ab col dd k0 k1 k2 k3 k5 newId) ∧ bm.contains (.type "BaseException") = true
theorem exc_obj {K : Frag} {h : Heap} (X : K.In h) (q : mroOk K) : ∃ nm qn N bs bm hdct sn sub ab col dd k0 k1 k2 k3 k5 newId, h.get? 51 = some (excClassObj nm qn 51 N bs bm hdct sn sub ab col dd k0 k1 k2 k3 k5 newId) ∧ bm.contains (.type "BaseException") = true := by
  obtain ⟨nm, qn, N, bs, bm, hdct, sn, sub, ab, col, dd, k0, k1, k2, k3, k5, newId, ho, hb⟩ := q
  exact ⟨nm, qn, N, bs, bm, hdct, sn, sub, ab, col, dd, k0, k1, k2, k3, k5, newId, X _ _ ho, hb⟩
section
variable {prog : Program} {w : World} {A₀ : Around} {E : Value → Shared → Prop} {s' : Shared} {h₀ h : Heap} {outer : List Env} {L a e d : Addr} {m : Str → Option Value} {name : Str} {scope : Scope} {cd : Value}
  {n : Str} {b₀ : Stmt} {suite : List Stmt} {pos np : Pos} {rest : List ExceptHandler} {Q : Flow → Shared → Prop} {KF : Frag} {es : List DictEntry} {k : Nat} {nw : List (Addr × Obj)}
  {p : Program} {loose : List Str} {mg mb : Str → Option Value} {x : Str}
theorem caught_as (K : Below A₀ h₀ outer h₀) (F : Fr h₀ L h m) (hsm : h.UpToSlots s'.heap) (R : RaisedN nw h₀ (envOf name scope L a cd :: outer) e d es k s'.heap)
    (X : KF.In h₀) (T : TopRead p loose mg mb h₀) (ex : nsIn KF mainGlobals x = some (some (.ref 51))) (q : mroOk KF)
    (kk : ∀ h' oe tk, Fr h₀ L h' (fun y => if y = n then some (.ref e) else m y) → News h₀ L h' ((e, oe) :: (d, dictOf es k) :: nw) → oe.cls = .ref 51 → oe.dict = some d → notCls oe = true →
      wpAny (model prog w) ((A₀.deeper (envOf name scope L a cd)).mark (some (.ref e))) (execs (b₀ :: suite) (envOf name scope L a cd))
        (fun f s₄ => wpAny (model prog w) (A₀.deeper (envOf name scope L a cd)) (do bindName (envOf name scope L a cd) n .none; unbindBehindTheSuite (envOf name scope L a cd) n pos) (fun _ s₅ => Q f s₅) E s₄)
        (AsSuiteRaised (model prog w) ((A₀.deeper (envOf name scope L a cd)).mark (some (.ref e))) (envOf name scope L a cd) n pos (notedBy (model prog w) ((A₀.deeper (envOf name scope L a cd)).mark (some (.ref e))) (envOf name scope L a cd) (cameBackBy (model prog w) (A₀.deeper (envOf name scope L a cd)) (envOf name scope L a cd) E)))
        { s' with heap := h', toks := tk })
    (hk : scope.kind = .function := by rfl) (hlo : (envOf name scope L a cd).kindOf n = some .local := by rfl) (hx : (envOf name scope L a cd).kindOf x = some .globalImplicit := by rfl) (hd : (x == ("__debug__" : Str)) = false := by decide) :
    wpAny (model prog w) (A₀.deeper (envOf name scope L a cd)) (noteFrame (.ref e) (envOf name scope L a cd))
      (fun _ s₂ => wpAny (model prog w) (A₀.deeper (envOf name scope L a cd)) (setFlight (.ref e) none) (fun _ s₃ =>
        wpAny (model prog w) (A₀.deeper (envOf name scope L a cd)) (handleBy (.ref e) (envOf name scope L a cd) (.ExceptHandler (some (.Name x np)) (some n) (b₀ :: suite) pos :: rest)) Q E s₃) E s₂) E s' := by
  obtain ⟨B, a0, hB, hl, hnd, hfl, hdict, hnB⟩ := R
  have hL : B.get? L = none := by
    obtain ⟨_, ⟨L', _, hf, hn', _⟩, _⟩ := hfl.2.2.1
    obtain rfl : L = L' := Option.some.inj hf
    exact hn'
  have m1 := wpAny_looks_onW (M := model prog w) (E := E) (s := s') (Q := fun _ s'' => Heap.HeldW B (envOf name scope L a cd :: outer) e (.ref 51) a0 L s''.heap ∧ s'.heap.UpToSlots s''.heap ∧ s'' = { s' with heap := s''.heap }) (Around.frames_deeper K.stack) rfl hfl fun h' x1 x2 => ⟨x1, x2, rfl⟩
  refine wpAny_mono (safe_any (safe_note _ _) m1) (fun _ s₂ y => ?_) fun _ _ y => y
  obtain ⟨⟨hheld₄, hsm₄, q₂⟩, kd₂⟩ := y
  have m2 := wpAny_landsW (M := model prog w) (A := A₀.deeper (envOf name scope L a cd)) (E := E) (s := s₂) (Q := fun _ s'' => Heap.FlyingW B (envOf name scope L a cd :: outer) e (.ref 51) a0 s''.heap ∧ s₂.heap.UpToSlots s''.heap ∧ s'' = { s₂ with heap := s''.heap }) hheld₄ fun h' x1 x2 => ⟨x1, x2, rfl⟩
  refine wpAny_mono (safe_any (safe_setFlight _ _) m2) (fun _ s₃ y => ?_) fun _ _ y => y
  obtain ⟨⟨hheld, hsm₅', q₃⟩, kd₃⟩ := y
  have hsm₅ := hsm₄.trans hsm₅'
  have hheld' := flyingW_base hB hheld
  have F₅ := F.of_stays hheld'.1 (hsm.trans hsm₅)
  obtain ⟨ob, hob, hobc⟩ := hheld'.there
  have es₃ : s₃ = { s' with heap := s₃.heap } := by rw [q₃, q₂]
  rw [es₃]
  refine wpAny_handleBy_cons (codeAny_handlers_test (name_K F₅ X T ex ?_ hk hx hd)) (by intro q; cases q)
  obtain ⟨nm, qn, N, bs, bm, hdct, sn, sub, ab, col, dd, k0, k1, k2, k3, k5, newId, hC, hbm⟩ := exc_obj (X.keeps F₅.keep) q
  refine wpAny_excMatches_sub_self hC hob hobc hbm (codeAny_handlers_suite_as ?_)
  have m3 := lands_againW (M := model prog w) (A := (A₀.deeper (envOf name scope L a cd)).mark (some (.ref e))) (E := notedBy (model prog w) ((A₀.deeper (envOf name scope L a cd)).mark (some (.ref e))) (envOf name scope L a cd) fun x s' => (cameBackBy (model prog w) (A₀.deeper (envOf name scope L a cd)) (envOf name scope L a cd) E) x s')
    (s := { s' with heap := s₃.heap }) (Q := fun _ s'' => Heap.FlyingW B (envOf name scope L a cd :: outer) e (.ref 51) a0 s''.heap ∧ s₃.heap.UpToSlots s''.heap ∧ s'' = { s' with heap := s''.heap }) hheld fun h' x1 x2 => ⟨x1, x2, rfl⟩
  refine wpAny_mono (safe_any (safe_setFlight _ _) m3) (fun _ s₆ y => ?_) fun _ _ y => y
  obtain ⟨⟨hfl₆, hsm₆, q₆⟩, kd₆⟩ := y
  rw [q₆]
  have hfl₆' := flyingW_base hB hfl₆
  have F₆ := F.of_stays hfl₆'.1 ((hsm.trans hsm₅).trans hsm₆)
  obtain ⟨oe, ws, hoe, hoec, hoed, hoe0⟩ := hfl₆'.first
  have Nl : News h₀ L s₆.heap ((d, dictOf es k) :: nw) := fun r hr => by
    rcases List.mem_cons.mp hr with rfl | hr
    · exact ⟨hfl₆.1 _ _ hl, (fun z => by have := hl; dsimp only at z; rw [z, hL] at this; cases this), hnd⟩
    · exact ⟨hfl₆.1 _ _ (hnB r hr).1, (fun z => by have := (hnB r hr).1; rw [z, hL] at this; cases this), (hnB r hr).2⟩
  have N₆ := News.more F₆ Nl hoe (fun es n q => by rw [hoed] at q; cases q) hfl₆'.2.1
  obtain ⟨oe', hoe', hdd⟩ := ((hdict.kd kd₂).kd kd₃).kd kd₆
  have eo : oe' = oe := Option.some.inj (hoe'.symm.trans hoe)
  rw [eo] at hdd
  refine stN F₆ N₆ (fun h₇ F₇ N₇ => ?_) hk hlo
  exact kk h₇ oe _ F₇ N₇ hoec hdd (by unfold notCls; rw [hoed])
theorem caught_no (K : Below A₀ h₀ outer h₀) (F : Fr h₀ L h m) (hsm : h.UpToSlots s'.heap) (R : RaisedN nw h₀ (envOf name scope L a cd :: outer) e d es k s'.heap)
    (X : KF.In h₀) (T : TopRead p loose mg mb h₀) (ex : nsIn KF mainGlobals x = some (some (.ref 51))) (q : mroOk KF)
    (kk : ∀ h', Fr h₀ L h' m → News h₀ L h' [] →
      wpAny (model prog w) ((A₀.deeper (envOf name scope L a cd)).mark (some (.ref e))) (execs (b₀ :: suite) (envOf name scope L a cd)) Q E { s' with heap := h' })
    (hk : scope.kind = .function := by rfl) (hx : (envOf name scope L a cd).kindOf x = some .globalImplicit := by rfl) (hd : (x == ("__debug__" : Str)) = false := by decide)
    (hE : PassesOwnAt (model prog w) ((A₀.deeper (envOf name scope L a cd)).mark (some (.ref e))) (A₀.deeper (envOf name scope L a cd)) (envOf name scope L a cd) E := by passes_own) :
    wpAny (model prog w) (A₀.deeper (envOf name scope L a cd)) (noteFrame (.ref e) (envOf name scope L a cd))
      (fun _ s₂ => wpAny (model prog w) (A₀.deeper (envOf name scope L a cd)) (setFlight (.ref e) none) (fun _ s₃ =>
        wpAny (model prog w) (A₀.deeper (envOf name scope L a cd)) (handleBy (.ref e) (envOf name scope L a cd) (.ExceptHandler (some (.Name x np)) none (b₀ :: suite) pos :: rest)) Q E s₃) E s₂) E s' := by
  obtain ⟨B, a0, hB, hl, hnd, hfl, hdict, hnB⟩ := R
  refine wpAny_looks_onW (Around.frames_deeper K.stack) rfl hfl fun h₄ hheld₄ hsm₄ => ?_
  refine wpAny_landsW hheld₄ fun h₅ hheld hsm₅' => ?_
  have hsm₅ := hsm₄.trans hsm₅'
  have hheld' := flyingW_base hB hheld
  have F₅ := F.of_stays hheld'.1 (hsm.trans hsm₅)
  obtain ⟨ob, hob, hobc⟩ := hheld'.there
  refine wpAny_handleBy_cons (codeAny_handlers_test (name_K F₅ X T ex ?_ hk hx hd)) (by intro q; cases q)
  obtain ⟨nm, qn, N, bs, bm, hdct, sn, sub, ab, col, dd, k0, k1, k2, k3, k5, newId, hC, hbm⟩ := exc_obj (X.keeps F₅.keep) q
  refine wpAny_excMatches_sub_self hC hob hobc hbm (codeAny_handlers_suite ?_)
  refine lands_againW hheld fun h₆ hfl₆ hsm₆ => ?_
  have hfl₆' := flyingW_base hB hfl₆
  have F₆ := F.of_stays hfl₆'.1 ((hsm.trans hsm₅).trans hsm₆)
  exact wpAny_passesOwnAt hE (kk h₆ F₆ News.nil)
end

section
variable {prog : Program} {w : World} {A : Around} {E : Value → Shared → Prop} {h : Heap} {g : Array GenState} {d : Drawn} {t : Nat} {os : OsState}
variable {nm q : Str} {C N : Addr} {bs bm bmB : List Value} {hdct : Bool} {sn : List Str} {sub : List Value} {ab : Bool} {col : Option Bool} {dd : Option Addr} {k0 k1 k2 k3 k5 : Option Value} {B newId initId : String} {KF : Frag} {fI : Addr}
abbrev excP (C t : Addr) : Obj := { cls := .ref C, data := .fields #[.ref t, .none, .none, .none, .bool false, .none] }
abbrev tupO (vs : List Value) : Obj := { cls := .type "tuple", data := .seq vs.toArray }
theorem type_call_R {A' : Around} (F : ExcBaseFacts B newId initId bmB) (T : OwnTail h bmB bm) (X : KF.In h) {rest : List Value} {R : Result → Shared → Prop}
    (hC : h.get? C = some (excClassObj nm q C N bs bm hdct sn sub ab col dd k0 k1 k2 k3 k5 newId)) (hi : findIn KF (.ref C) "__init__" = some (some (.ref fI))) (hf : typeIn KF (.ref fI) = some (.type "function"))
    (hq : codeAny (model prog w) A (.call (.ref fI) ⟨.ref (h.objs.size + 1) :: rest, []⟩) (InitBack (h.objs.size + 1) R) ⟨(h.push (tupO rest)).push (excP C h.objs.size), g, d, t, os⟩) (hrest : rest.length ≤ sizeLine) :
    wpAny (model prog w) A (Builtin.«type.__call__» ⟨.ref C :: rest, []⟩) (fun fin s' => match fin with | .done f => R (.ok f) s' | .again c' => c'.quiet = true ∧ codeAny (model prog w) A' c' R s') (fun e s' => R (.error e) s') ⟨h, g, d, t, os⟩ := by
  repeat (first | with_reducible refine wpAny_loadPart_at hC ?_ | with_reducible refine wpAny_madeBy_exc hC ?_ | wp_step)
  refine codeAny_call_builtin_code (Code.quiet_builtin _ F.quiet) (wpAny_check_new_subT F T hC ?_)
  refine codeAny_exc_new_subT F T hC ?_ hrest
  show wpAny _ _ _ _ _ _
  have k : ∀ b o, h.get? b = some o → ((h.push (tupO rest)).push (excP C h.objs.size)).get? b = some o := fun b o e => Heap.get?_push_of_some _ (Heap.get?_push_of_some _ e)
  have hC₁ := k _ _ hC
  have hget : ((h.push (tupO rest)).push (excP C h.objs.size)).get? (h.objs.size + 1) = some (excP C h.objs.size) := by heap_get
  have hcC : (Value.ref C :: bm).contains (.ref C) = true := by simp
  have i1 := (looks_findIn (M := model prog w) X hi).keeps k
  have b1 := (bind_fn (M := model prog w) X (.ref (h.objs.size + 1)) hf).keeps k
  unfold isInstance
  repeat (first | with_reducible refine wpAny_loadPart_at hget ?_ | (with_reducible refine wpAny_isSubtype_exc hC₁ ?_; rw [hcC]) | wp_step)
  show wpAny _ _ (typeLookup (.ref C) _) _ _ _
  refine i1.here ?_
  refine wpAny_holding (wpAny_bind (b1.here ?_))
  refine wpAny_bind (wpAny_call ?_)
  refine codeAny_mono hq fun r s' z => ?_
  rcases r with e | (v | _ | _ | _) <;> first | exact z | exact z.elim | skip
  obtain ⟨rfl, z⟩ := z
  exact wpAny_pure (wpAny_pure z)
theorem call_exc (F : ExcBaseFacts B newId initId bmB) (T : OwnTail h bmB bm) (X : KF.In h) {rest : List Value} {R : Result → Shared → Prop}
    (hC : h.get? C = some (excClassObj nm q C N bs bm hdct sn sub ab col dd k0 k1 k2 k3 k5 newId)) (hi : findIn KF (.ref C) "__init__" = some (some (.ref fI))) (hf : typeIn KF (.ref fI) = some (.type "function"))
    (hq : codeAny (model prog w) (A.under (.builtin "type.__call__" ⟨.ref C :: rest, []⟩)) (.call (.ref fI) ⟨.ref (h.objs.size + 1) :: rest, []⟩) (InitBack (h.objs.size + 1) R) ⟨(h.push (tupO rest)).push (excP C h.objs.size), g, d, t, os⟩) (hrest : rest.length ≤ sizeLine) :
    codeAny (model prog w) A (.call (.ref C) ⟨rest, []⟩) R ⟨h, g, d, t, os⟩ := by
  have f1 := tc_lookup
  have f2 := tc_bind (.ref C)
  have hT : (⟨h, g, d, t, os⟩ : Shared).TypeIs (.ref C) "type" := ⟨_, hC, rfl⟩
  refine codeAny_of_tree ?_
  show wpAny _ _ (callAny (.ref C) _) _ _ _
  repeat (any_goals (first | assumption | with_reducible refine wpAny_loadPart_at hC ?_ | wp_step))
  refine ⟨rfl, ?_⟩
  exact codeAny_call_builtin_at (Code.quiet_builtin _ (by decide +kernel)) entry_typeCall (wpAny_check_type_call_sub hC (type_call_R F T X hC hi hf hq hrest))
end
def mroAll (K : Frag) : Prop := ∃ nm qn N bs bm hdct sn sub ab col dd k0 k1 k2 k3 k5, K.lookup 51 = some (excClassObj nm qn 51 N bs bm hdct sn sub ab col dd k0 k1 k2 k3 k5 "Exception.__new__") ∧ tailIn K [.type "Exception", .type "BaseException", .type "object"] bm = true
theorem exc_all {K : Frag} {h : Heap} (X : K.In h) (q : mroAll K) : ∃ nm qn N bs bm hdct sn sub ab col dd k0 k1 k2 k3 k5, h.get? 51 = some (excClassObj nm qn 51 N bs bm hdct sn sub ab col dd k0 k1 k2 k3 k5 "Exception.__new__") ∧ OwnTail h [.type "Exception", .type "BaseException", .type "object"] bm := by
  obtain ⟨nm, qn, N, bs, bm, hdct, sn, sub, ab, col, dd, k0, k1, k2, k3, k5, ho, hb⟩ := q
  exact ⟨nm, qn, N, bs, bm, hdct, sn, sub, ab, col, dd, k0, k1, k2, k3, k5, X _ _ ho, tail_of_in X hb⟩
section
variable {prog : Program} {w : World} {A : Around} {E : Value → Shared → Prop} {s : Shared} {h₀ : Heap} {L : Addr} {m : Str → Option Value} {news : List (Addr × Obj)} {KF : Frag}
theorem call_R {rest : List Value} {fI : Addr} {Q : Value → Shared → Prop} (F : Fr h₀ L s.heap m) (N : News h₀ L s.heap news) (X : KF.In s.heap) (q : mroAll KF) (hi : findIn KF (.ref 51) "__init__" = some (some (.ref fI))) (hf : isFn KF (.ref fI) = true) (hrest : rest.length ≤ sizeLine)
    (h : ∀ e t h', Fr h₀ L h' m → News h₀ L h' ((e, excP 51 t) :: (t, tupO rest) :: news) → (∀ p ∈ news, p.1 < t) → t < e →
      codeAny (model prog w) (A.under (.builtin "type.__call__" ⟨.ref 51 :: rest, []⟩)) (.call (.ref fI) ⟨.ref e :: rest, []⟩) (InitBack e fun r s' => match r with | .ok (.ret v) => Q v s' | .ok _ => False | .error e => E e s') { s with heap := h' }) :
    wpAny (model prog w) A (call (.ref 51) rest) Q E s := by
  obtain ⟨hh, g, d, t, os⟩ := s
  obtain ⟨nm, qn, N', bs, bm, hdct, sn, sub, ab, col, dd, k0, k1, k2, k3, k5, hC, T⟩ := exc_all X q
  refine wpAny_call (call_exc PySem.F.excBase_Exception T X hC hi (beq_iff_eq.mp hf) (h _ hh.objs.size _ ((F.push _).push _) ?_ (fun p hp => Heap.lt_size (N p hp).1) (Nat.lt_succ_self _)) hrest)
  have := (N.push F (tupO rest)).push (F.push _) (excP 51 hh.objs.size)
  rwa [Heap.size_push] at this
end

theorem refuse_exc (self : Value) : refuseLoop self "__setattr__" [.type "Exception", .type "BaseException", .type "object"] = pure () := by kernel_rfl
def mroIs51 (K : Frag) : Bool := (clsIn K 51).any fun cd => cd.hasDict && cd.mro == [.ref 51, .ref 31, .type "Exception", .type "BaseException", .type "object"]
section
variable {prog : Program} {w : World} {A : Around} {E : Value → Shared → Prop} {s : Shared} {h₀ : Heap} {L e t : Addr} {m : Str → Option Value} {news : List (Addr × Obj)} {KF : Frag} {v : Value}
theorem set_R {Q : Unit → Shared → Prop} (F : Fr h₀ L s.heap m) (N : News h₀ L s.heap ((e, excP 51 t) :: news)) (hd : ∀ p ∈ news, p.1 ≠ e) (X : KF.In s.heap) (q : mroIs51 KF = true)
    (hs : findIn KF (.ref 51) "__setattr__" = some (some (.builtin "object.__setattr__"))) (ha : findIn KF (.ref 51) "message" = some none)
    (h : ∀ h' d tk tk', Fr h₀ L h' m → News h₀ L h' ((e, excO t d) :: (d, dictOf [⟨PyData.keyHash w.params "message", .str "message" tk, v⟩] 1) :: news) → (∀ p ∈ news, p.1 < d) → e < d → Q () { s with heap := h', toks := tk' }) :
    wpAny (model prog w) A (setAttr (.ref e) "message" v) Q E s := by
  obtain ⟨hh, g, dr, tk0, os⟩ := s
  dsimp only at F N X h
  obtain ⟨cd, hc, hq⟩ := any_some q
  simp only [Bool.and_eq_true, beq_iff_eq] at hq
  obtain ⟨hdict, hmro⟩ := hq
  have he : hh.get? e = some (excP 51 t) := (N _ (.head _)).1
  have I : InstAt hh e (excP 51 t) 51 none := ⟨he, rfl, rfl, trivial⟩
  refine set_plain X I hs ?_
  have SF := PySem.F.store_object
  have sub : Looks (model prog w) hh (isInstance (.ref e) (.type "object")) true := I.type.andThen (looks_mroIn X (by unfold mroIn; rw [hc, Option.bind_some, hmro]; rfl))
  refine codeAny_call_builtin SF.slot.plain SF.entry (@check_slot (model prog w) _ _ _ "object.__setattr__" "object" "__setattr__" (.ref e) [.str "message" tk0, v] [] _ SF.kind SF.split sub (SF.args (.ref e) (.str "message" tk0) v) ?_)
  have hm : Looks (model prog w) hh (mroOf (.ref 51)) cd.mro := (looks_clsIn X hc).andThen .now
  rw [osa_eq, refuse_eq]
  refine wpAny_bind (wpAny_bind (I.type.here (wpAny_bind (hm.here ?_))))
  rw [hmro, refuseLoop_ref, refuseLoop_ref, refuse_exc]
  refine wpAny_pure (wpAny_bind (I.type.here (wpAny_bind ((looks_findIn X ha).here (wpAny_bind (wpAny_pure ?_))))))
  refine wpAny_bind (wpAny_pure (wpAny_bind (wpAny_bind (wpAny_loadPart he (wpAny_bind ((looks_clsIn X hc).here ?_))))))
  rw [hdict]
  have F1 := F.push { cls := .type "dict", data := .dict #[] }
  have N1 := N.push F { cls := .type "dict", data := .dict #[] }
  have hne : hh.objs.size ≠ e := Nat.ne_of_gt (Heap.lt_size he)
  have hlt : ∀ p ∈ news, p.1 < hh.objs.size := fun p hp => Heap.lt_size (N p (.tail _ hp)).1
  obtain ⟨F2, N2⟩ := news_upd (pre := [(hh.objs.size, { cls := .type "dict", data := .dict #[] })]) (post := news) (o' := excO t hh.objs.size) (f := fun o => { o with dict := some hh.objs.size }) F1 N1 (fun p hp => by rw [List.mem_singleton.mp hp]; exact hne) hd rfl rfl
  obtain ⟨F3, N3⟩ := news_upd (pre := []) (post := (e, excO t hh.objs.size) :: news) (o' := dictOf [⟨PyData.keyHash w.params "message", .str "message" (tk0 + 1), v⟩] 1) (f := Obj.putName "message" (PyData.keyHash w.params "message") (.str "message" (tk0 + 1)) v) F2 N2 (fun _ hp => nomatch hp) (fun p hp => by
    rcases List.mem_cons.mp hp with rfl | hp
    · exact Ne.symm hne
    · exact Nat.ne_of_lt (hlt p hp)) rfl rfl
  have D2 := (N2 (hh.objs.size, { cls := .type "dict", data := .dict #[] }) (.head _)).1
  have D3 := (N3 (hh.objs.size, _) (.head _)).1
  have he1 : (hh.push { cls := .type "dict", data := .dict #[] }).get? e = some (excP 51 t) := (N1 _ (.tail _ (.head _))).1
  show wpAny _ _ (alloc { cls := .type "dict", data := .dict #[] } >>= fun d => update e (fun o => { o with dict := some d }) >>= fun _ => (pure (some d) : Sem (Option Addr))) _ _ _
  refine wpAny_bind (wpAny_alloc (wpAny_bind (wpAny_update he1 (wpAny_pure ?_))))
  show wpAny _ _ (nsSet hh.objs.size "message" v >>= fun _ => lookBehind hh.objs.size (some (.str "message" 0)) >>= fun _ => ret .none) _ _ _
  unfold nsSet
  refine wpAny_bind (wpAny_bind (wpAny_bind (wpAny_askSetting (wpAny_pure (wpAny_bind (wpAny_mkText (wpAny_bind (wpAny_loadPart D2 ?_))))))))
  show wpAny _ _ (updatePart hh.objs.size (some (.str "message" 0)) (Obj.putName "message" (PyData.keyHash w.params "message") (.str "message" (tk0 + 1)) v)) _ _ _
  refine wpAny_updatePart D2 (wpAny_bind (wpAny_lookBehind D3 rfl (wpAny_pure ?_)))
  refine h _ hh.objs.size (tk0 + 1) _ F3 (fun p hp => ?_) hlt (Heap.lt_size he)
  rcases List.mem_cons.mp hp with rfl | hp
  · exact N3 _ (.tail _ (.head _))
  · rcases List.mem_cons.mp hp with rfl | hp
    · exact N3 _ (.head _)
    · exact N3 _ (.tail _ (.tail _ hp))
end

section
variable {M : Model} {A : Around} {E : Value → Shared → Prop} {s : Shared} {env : Env}
def RaiseBack (E : Value → Shared → Prop) (v : Value) (s : Shared) : Prop := ∃ e t d, ∃ KF : Frag, v = .ref e ∧ mroOk KF ∧ KF.In s.heap ∧ s.heap.get? e = some (excO t d) ∧ E (.ref e) s
theorem raise_R {x : PySem.Expr} {pos : Pos} {Q : Flow → Shared → Prop} (hh : A.handled = none) (h : wpAny M A (eval x env) (RaiseBack E) E s) : wpAny M A (exec (.Raise (some x) none pos) env) Q E s := by
  rw [arm_exec_Raise]
  refine wpAny_bind (wpAny_standAt ?_)
  unfold raiseStmt
  refine wpAny_bind (wpAny_mono (wpAny_bind (wpAny_mono h (fun v s₁ h₁ => wpAny_bind (wpAny_standAt (wpAny_pure h₁))) fun _ _ x => x) : wpAny M A (eval x env >>= fun v => standAt pos >>= fun _ => pure v) (RaiseBack E) E s) (fun v s₁ h₁ => ?_) fun _ _ x => x)
  obtain ⟨e, t, d, KF, rfl, q, X, he, hE⟩ := h₁
  obtain ⟨nm, qn, N, bs, bm, hdct, sn, sub, ab, col, dd, k0, k1, k2, k3, k5, newId, hC, hbm⟩ := exc_obj X q
  have hcB : (Value.ref 51 :: bm).contains (.type "BaseException") = true := by rw [List.contains_cons, hbm, Bool.or_true]
  obtain ⟨hp, g, dr, tk, os⟩ := s₁
  repeat (first | with_reducible refine wpAny_loadPart_at he ?_ | with_reducible refine wpAny_loadPart_at hC ?_ | (with_reducible refine wpAny_isSubtype_exc hC ?_; rw [hcB]) | wp_step)
  exact wpAny_raiseNew_none hh hE
end
theorem ne_of_two {news : List (Addr × Obj)} {t e : Addr} {o : Obj} (l1 : ∀ p ∈ news, p.1 < t) (l2 : t < e) : ∀ p ∈ (t, o) :: news, p.1 ≠ e := fun p hp => by
  rcases List.mem_cons.mp hp with rfl | hp
  · exact Nat.ne_of_lt l2
  · exact Nat.ne_of_lt (Nat.lt_trans (l1 p hp) l2)


theorem mro_ok (P : Params) : mroOk (K P) := ⟨Str.ofString "Refusal", Str.ofString "Refusal", 50, [.ref 31], [.ref 31, .type "Exception", .type "BaseException", .type "object"], true, [], [], false, none, none, some (.ref 35), none, some (.str (Str.ofString "Refusal") 216), some (.str (Str.ofString "Refusal") 224), some (.bool true), "Exception.__new__", by kernel_rfl, by kernel_rfl⟩
theorem mro_all (P : Params) : mroAll (K P) := ⟨Str.ofString "Refusal", Str.ofString "Refusal", 50, [.ref 31], [.ref 31, .type "Exception", .type "BaseException", .type "object"], true, [], [], false, none, none, some (.ref 35), none, some (.str (Str.ofString "Refusal") 216), some (.str (Str.ofString "Refusal") 224), some (.bool true), by kernel_rfl, by kernel_rfl⟩
theorem mro_is (P : Params) : mroIs51 (K P) = true := by kernel_rfl
theorem find_set (P : Params) : findIn (K P) (.ref 51) "__setattr__" = some (some (.builtin "object.__setattr__")) := by kernel_rfl
theorem find_msg (P : Params) : findIn (K P) (.ref 51) "message" = some none := by kernel_rfl
theorem find_init (P : Params) : findIn (K P) (.ref 51) "__init__" = some (some (.ref 48)) := by kernel_rfl
theorem fn_init (P : Params) : isFn (K P) (.ref 48) = true := by kernel_rfl
local macro_rules | `(tactic| k_room) => `(tactic| ktr_room)
local macro_rules | `(tactic| walk_at "exec Raise some none") => `(tactic| (k_here; k_dflt (refine' raise_R ?h ?_; (case h => first | rfl | assumption))))
local macro_rules | `(tactic| walk_at "m:c") => `(tactic| ((case k1 => k_asm); (case k2 => k_asm); (case k3 => k_in); (case k4 => k_asm); (case k5 => k_asm); (case k6 => first | exact rfl | assumption); (case kr => ktr_room); (case ku => ktr_units)))
local macro_rules | `(tactic| walk_at "m:x") => `(tactic| (rotate_left; intros; intro e' d' hs' t1' t2' h' tk' R' U'; rotate_right; intros))
local macro_rules | `(tactic| walk_at "call ref") => `(tactic| (k_here; (with_reducible show wpAny _ _ (call (Value.ref 51) _) _ _ _); k_dflt (refine' call_R ?k1 ?k2 ?k3 (mro_all _) (find_init _) (fn_init _) (Nat.le_of_ble_eq_true rfl) ?_; (case k1 => k_asm); (case k2 => k_asm); (case k3 => k_in); k_whole; intro e' t' h' F' N' l1 l2; (try k_lt l1); (try k_lt2 l2); (try k_sweep); k_enter)))
local macro_rules | `(tactic| walk_at "setAttr ref") => `(tactic| (k_here; k_dflt (refine' set_R ?k1 ?k2 ?k3 ?k4 (mro_is _) (find_set _) (find_msg _) ?_; (case k1 => k_asm); (case k2 => k_asm); (case k3 => first | exact ne_of_two (by assumption) (by assumption) | k_all); (case k4 => k_in); k_whole; intro h' d' tk' tk2' F' N' l1 l2)))
def words (n : Int) : Str := Str.ofString "cannot allocate vector of length " ++ Str.ofString (toString n)
def GotRefusalN (nw : List (Addr × Obj)) (base : Heap) (l : List Env) (g : Heap) (n : Int) (E : Value → Shared → Prop) (s : Shared) : Prop :=
  ∀ (e d : Addr) (hs : Int) (t1 t2 : Tok) (h' : Heap) (tk' : Nat), RaisedN nw base l e d [⟨hs, .str "message" t1, .str (words n) t2⟩] 1 h' → g.UpToSlots h' → E (.ref e) { s with heap := h', toks := tk' }
abbrev GotRefusal (base : Heap) (l : List Env) (g : Heap) (n : Int) (E : Value → Shared → Prop) (s : Shared) : Prop := GotRefusalN [] base l g n E s
theorem room_spec {nw : List (Addr × Obj)} {w : World} {loose : List Str} {mean : ExcName → Option Value} {mg mb : Str → Option Value} {dp un : Nat} {gd : Option (List Code)} {cn : Str} {cs : Scope} {a : Addr} {ccd : Value} {outer : List Env} {A₀ : Around} {base h₀ : Heap} {L : Addr} {m : Str → Option Value} {news : List (Addr × Obj)} {s : Shared} {Q E : Value → Shared → Prop} {n : Int} {tk : Tok}
    (B : Below A₀ base outer h₀) (F : Fr h₀ L s.heap m) (X : (K w.params).In h₀) (N : News h₀ L s.heap news) (T : Top q loose mean mg mb h₀) (hk : cs.kind = .function) (h0 : 0 ≤ n) (hn : n < 10 ^ 10) (hd : dp + 4 < recursionLimit) (hu : un + 20 < cLine) (kn : ∀ p ∈ nw, p ∈ news)
    (hret : n ≤ 1000000 → ∀ t h' tk', Fr h₀ L h' m → News h₀ L h' news → Q (.int n t) { s with heap := h', toks := tk' })
    (hraise : 1000000 < n → ∀ g, Fr h₀ L g m → GotRefusalN nw base (envOf cn cs L a ccd :: outer) g n E s) :
    wpAny (model PySem.Challenge.rw_pq1413_01.row.prog w) (ktrTop dp un gd cn cs L a ccd [] outer) (call (.ref 89) [.int n tk]) Q E s := by
  revert X
  k_fill
  intro X
  refine wpAny_call ?_
  k_dflt cell_enter
  k_steps
  · refine ⟨_, _, _, K w.params, rfl, mro_ok _, (by k_in), News.get (by assumption) (List.Mem.head _), ?_⟩
    k_unfold
    refine leave_first (by assumption) (by assumption) (by assumption) (.head _) (.tail _ (.head _)) (fun p hp => ⟨.tail _ (.tail _ (.tail _ (kn p hp))), Nat.ne_of_lt (Nat.lt_trans (‹∀ p ∈ news, p.1 < _› p (kn p hp)) (by assumption))⟩) (fun h' R U => ?_)
    exact hraise (by assumption) _ (by assumption) _ _ _ _ _ _ _ R U
  · exact absurd (by have : (10 : Int) ^ Int.toNat 18 = 1000000000000000000 := by decide
                     omega) (by assumption : ¬ n < 10 ^ Int.toNat 18)
  · exact hret (by omega) _ _ _ (by assumption) (by assumption)

theorem find_ga (P : Params) : findIn (K P) (.ref 51) "__getattribute__" = some (some (.builtin "BaseException.__getattribute__")) := by kernel_rfl
theorem find_g0 (P : Params) : findIn (K P) (.ref 51) "__getattr__" = some none := by kernel_rfl
theorem mro_be (P : Params) : mroIn (K P) 51 (.type "BaseException") = some true := by kernel_rfl
theorem ns_R (P : Params) : nsIn (K P) mainGlobals "Refusal" = some (some (.ref 51)) := by kernel_rfl
theorem cls_R (P : Params) : (clsIn (K P) 51).any (fun cd => cd.hasDict) = true := by kernel_rfl
theorem find_own {P : Params} {hs : Int} {t1 t2 : Tok} {x : Str} : findObj (K P) 51 (some (dictOf [⟨hs, .str "message" t1, .str x t2⟩] 1)) "message" = some (.value (.str x t2)) := by
  obtain ⟨cd, hc, hd⟩ := any_some (cls_R P)
  have e : W.ownOf cd (some (dictOf [⟨hs, .str "message" t1, .str x t2⟩] 1)) "message" = some (some (.str x t2)) := by
    unfold W.ownOf
    rw [hd, if_pos rfl]
    kernel_rfl
  unfold findObj
  rw [hc, Option.bind_some, find_msg, Option.bind_some]
  dsimp only
  rw [Option.bind_some, Option.bind_some]
  dsimp only
  rw [e]
  rfl
section
variable {prog : Program} {w : World} {A : Around} {E : Value → Shared → Prop} {s : Shared} {KF : Frag} {a : Addr} {o od : Obj} {y : Str} {ty : Tok} {P : Params}
theorem msg_get {expr : Bool} {Q : Value → Shared → Prop} (X : (K P).In s.heap) (I : InstAt s.heap a o 51 (some od)) (hf : findObj (K P) 51 (some od) "message" = some (.value (.str y ty)))
    (h : Q (.str y ty) { s with toks := s.toks + 1 }) : wpAny (model prog w) A (getAttr (.ref a) "message" expr) Q E s := by
  obtain ⟨hp, g, d, t, os⟩ := s
  have L0 := I.type (M := model prog w)
  have L1 := looks_findIn (M := model prog w) X (find_ga P)
  have L2 := looks_findIn (M := model prog w) X (find_g0 P)
  have L3 := looks_find (M := model prog w) X I hf
  have f3 := PySem.F.attrBase_Exception.ga.bind (.ref a)
  have hx0 : (expr && onTheHeap (Value.builtin "BaseException.__getattribute__")) = false := by cases expr <;> rfl
  have hx2 : (Value.builtin "BaseException.__getattribute__" == Value.builtin "object.__getattribute__") = false := by decide +kernel
  unfold getAttr getAttrBy
  refine wpAny_bind (wpAny_mkText (wpAny_holding (wpAny_bind (L0.at (wpAny_bind (L1.at ?_))))))
  dsimp only
  rw [hx2, Bool.and_false, if_neg (by decide)]
  unfold getAttrByItsOwn hookBefore callGetattribute
  rw [if_pos (by rfl), hx0, if_neg (by decide)]
  refine wpAny_bind (L2.at ?_)
  have call : ∀ (A' : Around) (R : Result → Shared → Prop), R (.ok (.ret (.str y ty))) ⟨hp, g, d, t + 1, os⟩ → codeAny (model prog w) A' (.call (.builtin "BaseException.__getattribute__") ⟨[.ref a, .str "message" t], []⟩) R ⟨hp, g, d, t + 1, os⟩ := by
    intro A' R hq
    have sub : Looks (model prog w) hp (isInstance (.ref a) (.type "BaseException")) true := L0.andThen (looks_mroIn X (mro_be P))
    refine codeAny_call_builtin PySem.F.attrBase_Exception.ga.plain PySem.F.entry_bexc_ga (@check_slot (model prog w) _ _ _ "BaseException.__getattribute__" "BaseException" "__getattribute__" (.ref a) [.str "message" t] [] _ (by decide +kernel) (by decide +kernel) sub (PySem.F.args_bexc_ga (.ref a) _) ?_)
    refine wpAny_bind (wpAny_pure (wpAny_bind (wpAny_pure (wpAny_bind (L0.at (wpAny_bind (L3.at ?_)))))))
    exact wpAny_pure hq
  repeat (any_goals (first | assumption | wp_step))
  refine call _ _ ?_
  repeat (any_goals (first | assumption | wp_step))
end

local macro_rules | `(tactic| walk_at "leaving ref") => `(tactic| (k_here; (refine' leave_next ?k1 ?k2 ?k3 ?k4 ?_; (case k3 => assumption); (case k1 => assumption); (case k4 => assumption); (case k2 => assumption); k_whole; intro h' R' U'; (try dsimp only at R' U' ⊢))))
theorem no_nw {P : Addr × Obj → Prop} : ∀ p ∈ ([] : List (Addr × Obj)), P p := fun _ h => nomatch h
theorem all_nw {news : List (Addr × Obj)} : ∀ p ∈ news, p ∈ news := fun _ h => h
theorem f50 (a : Int) : a.fdiv 50 = a / 50 := Int.fdiv_eq_ediv_of_nonneg a (by decide)
theorem f50_lo {a : Int} (h : 0 ≤ a) : 0 ≤ a.fdiv 50 := by rw [f50]; omega
theorem f50_hi {a : Int} (h : a < 10 ^ 10) (h0 : 0 ≤ a) : a.fdiv 50 < 10 ^ 10 := by rw [f50]; omega
local macro_rules | `(tactic| walk_at "call ref") => `(tactic| (k_here; (with_reducible show wpAny _ _ (call (Value.ref 89) _) _ _ _); k_dflt (refine' room_spec ?k1 ?k2 ?k3 ?k4 ?k5 ?k6 ?k7 ?k8 ?kr ?ku ?kn ?_ ?_; walk_at "m:c"; (case k7 => first | omega | exact f50_lo (by omega)); (case k8 => first | omega | exact f50_hi (by omega) (by omega)); (case kn => exact no_nw); walk_at "m:x")))
local macro_rules | `(tactic| walk_at "eval Call") => `(tactic| (k_here; (with_reducible show wpAny _ _ (eval (Expr.Call (Expr.Name _ _) _ [] _) _) _ _ _); k_dflt (refine Call_ ?_)))
section
variable {w : World} {loose : List Str} {mean : ExcName → Option Value} {mg mb : Str → Option Value} {dp un : Nat} {gd : Option (List Code)} {cn : Str} {cs : Scope} {a : Addr} {ccd : Value} {outer : List Env} {A₀ : Around} {base h₀ : Heap} {L : Addr} {m : Str → Option Value} {news : List (Addr × Obj)} {s : Shared} {Q E : Value → Shared → Prop}
theorem grown_spec {total : Int} {tk tk2 : Tok} {x : Str}
    (B : Below A₀ base outer h₀) (F : Fr h₀ L s.heap m) (X : (K w.params).In h₀) (N : News h₀ L s.heap news) (T : Top q loose mean mg mb h₀) (hk : cs.kind = .function) (h0 : 0 ≤ total) (hn : total < 10 ^ 9) (hx : x.length ≤ 1000000) (hd : dp + 6 < recursionLimit) (hu : un + 40 < cLine)
    (hret : (total + x.length).fdiv 50 ≤ 1000000 → ∀ t h' tk', Fr h₀ L h' m → News h₀ L h' news → Q (.int (total + x.length) t) { s with heap := h', toks := tk' })
    (hraise : 1000000 < (total + x.length).fdiv 50 → ∀ g, Fr h₀ L g m → GotRefusal base (envOf cn cs L a ccd :: outer) g ((total + x.length).fdiv 50) E s) :
    wpAny (model PySem.Challenge.rw_pq1413_01.row.prog w) (ktrTop dp un gd cn cs L a ccd [] outer) (call (.ref 124) [.int total tk, .str x tk2]) Q E s := by
  revert X
  k_fill
  intro X
  refine wpAny_call ?_
  k_dflt cell_enter
  k_steps
  all_goals first
    | exact hret (by assumption) _ _ _ (by assumption) (by assumption)
    | exact hraise (by assumption) _ (by assumption) _ _ _ _ _ _ _ (by assumption) (by assumption)
    | (exfalso; omega)
end

section
variable {prog : Program} {w : World} {A : Around} {E : Value → Shared → Prop} {s : Shared} {h₀ : Heap} {L : Addr} {m : Str → Option Value} {news : List (Addr × Obj)}
theorem max_first {a b : Int} {t u : Tok} {Q : Value → Shared → Prop} (hh : A.handled = none) (F : Fr h₀ L s.heap m) (N : News h₀ L s.heap news) (hab : b ≤ a)
    (h : ∀ h' tk, Fr h₀ L h' m → News h₀ L h' news → Q (.int a t) { s with heap := h', toks := tk }) : wpAny (model prog w) A (call (.builtin "max") [.int a t, .int b u]) Q E s :=
  max_two_N hh F N fun h' tk F' N' => by
    have c : ¬ b > a := by omega
    rw [if_neg c, if_neg c]
    exact h h' tk F' N'
theorem max_second {a b : Int} {t u : Tok} {Q : Value → Shared → Prop} (hh : A.handled = none) (F : Fr h₀ L s.heap m) (N : News h₀ L s.heap news) (hab : a < b)
    (h : ∀ h' tk, Fr h₀ L h' m → News h₀ L h' news → Q (.int b u) { s with heap := h', toks := tk }) : wpAny (model prog w) A (call (.builtin "max") [.int a t, .int b u]) Q E s :=
  max_two_N hh F N fun h' tk F' N' => by
    have c : b > a := hab
    rw [if_pos c, if_pos c]
    exact h h' tk F' N'
end
theorem join1 (sep x : Str) : Txt.join sep [x] = x := by rfl
theorem join2 (sep x y : Str) : Txt.join sep [x, y] = x ++ sep ++ y := by rfl
local macro_rules | `(tactic| walk_at "call builtin:max") => `(tactic| (k_here; (with_reducible show wpAny _ _ (call (Value.builtin "max") [Value.int _ _, Value.int _ _]) _ _ _); k_dflt (first
  | (refine' max_first ?k1 ?k2 ?k3 ?k4 ?_; (case k1 => first | rfl | assumption); (case k2 => k_asm); (case k3 => k_asm); (case k4 => first | decide | omega); k_whole; intro h' tk' F' N')
  | (refine' max_second ?k1 ?k2 ?k3 ?k4 ?_; (case k1 => first | rfl | assumption); (case k2 => k_asm); (case k3 => k_asm); (case k4 => first | decide | omega); k_whole; intro h' tk' F' N'))))
local macro_rules | `(tactic| walk_at "call builtin:str.join") => `(tactic| (k_here; (with_reducible show wpAny _ _ (call (Value.builtin "str.join") [Value.str _ _, Value.ref _]) _ _ _); k_dflt (refine' join_list ?k1 ?k2 ?k3 ?_; (case k1 => is_list); (case k2 => repeat constructor); (case k3 => (simp only [List.map_cons, List.map_nil, List.sum_cons, List.sum_nil, List.length_cons, List.length_nil]; omega)); k_whole; intro t' k')))
section
variable {w : World} {loose : List Str} {mean : ExcName → Option Value} {mg mb : Str → Option Value} {dp un : Nat} {gd : Option (List Code)} {cn : Str} {cs : Scope} {a : Addr} {ccd : Value} {outer : List Env} {A₀ : Around} {base h₀ : Heap} {L : Addr} {m : Str → Option Value} {news : List (Addr × Obj)} {s : Shared} {Q E : Value → Shared → Prop}
theorem joined2_spec {pl : Addr} {c : Nat} {x y sep : Str} {tx ty ts : Tok}
    (B : Below A₀ base outer h₀) (F : Fr h₀ L s.heap m) (X : (K w.params).In h₀) (N : News h₀ L s.heap ((pl, W.listOf #[.str x tx, .str y ty] c) :: news)) (T : Top q loose mean mg mb h₀) (hk : cs.kind = .function)
    (hx : x.length ≤ 1000000) (hy : y.length ≤ 1000000) (hs : sep.length ≤ 1000000) (hd : dp + 6 < recursionLimit) (hu : un + 40 < cLine)
    (hret : x.length + sep.length + y.length ≤ 1000000 → ∀ t h' tk', Fr h₀ L h' m → News h₀ L h' ((pl, W.listOf #[.str x tx, .str y ty] c) :: news) → Q (.str (x ++ sep ++ y) t) { s with heap := h', toks := tk' })
    (hraise : ∀ n : Int, n = x.length + sep.length + y.length → 1000000 < n → ∀ g, Fr h₀ L g m → GotRefusal base (envOf cn cs L a ccd :: outer) g n E s) :
    wpAny (model PySem.Challenge.rw_pq1413_01.row.prog w) (ktrTop dp un gd cn cs L a ccd [] outer) (call (.ref 131) [.ref pl, .str sep ts]) Q E s := by
  revert X
  k_fill
  intro X
  refine wpAny_call ?_
  k_dflt cell_enter
  k_steps
  all_goals first
    | exact hret (by omega) _ _ _ (by assumption) (by assumption)
    | (refine hraise _ ?_ ?_ _ (by assumption) _ _ _ _ _ _ _ (by assumption) (by assumption) <;> omega)
    | (exfalso; omega)
theorem joined1_spec {pl : Addr} {c : Nat} {x sep : Str} {tx ts : Tok}
    (B : Below A₀ base outer h₀) (F : Fr h₀ L s.heap m) (X : (K w.params).In h₀) (N : News h₀ L s.heap ((pl, W.listOf #[.str x tx] c) :: news)) (T : Top q loose mean mg mb h₀) (hk : cs.kind = .function)
    (hx : x.length ≤ 1000000) (hs : sep.length ≤ 1000000) (hd : dp + 6 < recursionLimit) (hu : un + 40 < cLine)
    (hret : ∀ t h' tk', Fr h₀ L h' m → News h₀ L h' ((pl, W.listOf #[.str x tx] c) :: news) → Q (.str (x) t) { s with heap := h', toks := tk' })
     :
    wpAny (model PySem.Challenge.rw_pq1413_01.row.prog w) (ktrTop dp un gd cn cs L a ccd [] outer) (call (.ref 131) [.ref pl, .str sep ts]) Q E s := by
  revert X
  k_fill
  intro X
  refine wpAny_call ?_
  k_dflt cell_enter
  k_steps
  all_goals first
    | exact hret _ _ _ (by assumption) (by assumption)
    | (exfalso; omega)
end

theorem join4 (x y z : Str) : Txt.join (Str.ofString "") [Str.ofString "", x, y, z] = x ++ y ++ z := by
  have e : Str.ofString "" = ⟨#[]⟩ := by decide +kernel
  rw [e]
  rcases x with ⟨x⟩
  rcases y with ⟨y⟩
  rcases z with ⟨z⟩
  show (⟨#[] ++ #[] ++ x ++ #[] ++ y ++ #[] ++ z⟩ : Str) = ⟨x ++ y ++ z⟩
  simp
theorem len0 : (Str.ofString "").length = 0 := by decide +kernel
local macro_rules | `(tactic| walk_at "call builtin:str.join") => `(tactic| (k_here; (with_reducible show wpAny _ _ (call (Value.builtin "str.join") [Value.str _ _, Value.ref _]) _ _ _); k_dflt (refine' join_list ?k1 ?k2 ?k3 ?_; (case k1 => exact News.isList (by k_asm) (by k_mem)); (case k2 => repeat constructor); (case k3 => (simp only [List.map_cons, List.map_nil, List.sum_cons, List.sum_nil, List.length_cons, List.length_nil, len0]; omega)); k_whole; intro t' k'; (try rw [join4]))))

section
variable {w : World} {loose : List Str} {mean : ExcName → Option Value} {mg mb : Str → Option Value} {dp un : Nat} {gd : Option (List Code)} {cn : Str} {cs : Scope} {a : Addr} {ccd : Value} {outer : List Env} {A₀ : Around} {base h₀ : Heap} {L : Addr} {m : Str → Option Value} {news : List (Addr × Obj)} {s : Shared} {Q E : Value → Shared → Prop}
theorem joined4_spec {pl : Addr} {c : Nat} {x y g : Str} {tx ty tg te ts : Tok}
    (B : Below A₀ base outer h₀) (F : Fr h₀ L s.heap m) (X : (K w.params).In h₀) (N : News h₀ L s.heap ((pl, W.listOf #[.str (Str.ofString "") te, .str x tx, .str g tg, .str y ty] c) :: news)) (T : Top q loose mean mg mb h₀) (hk : cs.kind = .function) (hd : dp + 6 < recursionLimit) (hu : un + 40 < cLine) (hx : x.length ≤ 1000000) (hy : y.length ≤ 1000000) (hg : g.length ≤ 1000)
    (hret : (x.length : Int) + g.length + y.length ≤ 1000000 → ∀ t h' tk', Fr h₀ L h' m → News h₀ L h' ((pl, W.listOf #[.str (Str.ofString "") te, .str x tx, .str g tg, .str y ty] c) :: news) → Q (.str (x ++ g ++ y) t) { s with heap := h', toks := tk' })
    (hraise : ∀ n : Int, n = (x.length : Int) + g.length + y.length → 1000000 < n → ∀ g, Fr h₀ L g m → GotRefusal base (envOf cn cs L a ccd :: outer) g n E s) :
    wpAny (model PySem.Challenge.rw_pq1413_01.row.prog w) (ktrTop dp un gd cn cs L a ccd [] outer) (call (.ref 131) [.ref pl, .str (Str.ofString "") ts]) Q E s := by
  revert X
  k_fill
  intro X
  refine wpAny_call ?_
  k_dflt cell_enter
  k_steps
  all_goals first
    | exact hret (by omega) _ _ _ (by assumption) (by assumption)
    | (refine hraise _ ?_ ?_ _ (by assumption) _ _ _ _ _ _ _ (by assumption) (by assumption) <;> omega)
    | (exfalso; omega)
end

def menu : List Int := [0, 1, 3, 250000, 333333, 499998, 499999, 500000, 999999, 1000000]
noncomputable def lsz (ns : List Int) (i : Int) : Int := if i < (ns.length : Int) then menu.getD (Int.fmod (ns.getD i.toNat 0) 10).toNat 0 else 0
noncomputable def lsm (ns : List Int) (i k : Int) : Int := if i < (ns.length : Int) then Int.fmod (ns.getD i.toNat 0) k else 0
theorem lsm_lo (ns : List Int) (i k : Int) (hk : 0 < k) : 0 ≤ lsm ns i k := by
  unfold lsm; split
  · rw [Int.fmod_eq_emod_of_nonneg _ (by omega)]; exact Int.emod_nonneg _ (by omega)
  · omega
theorem lsm_hi (ns : List Int) (i k : Int) (hk : 0 < k) : lsm ns i k < k := by
  unfold lsm; split
  · rw [Int.fmod_eq_emod_of_nonneg _ (by omega)]; exact Int.emod_lt_of_pos _ hk
  · omega
theorem menu_ok : ∀ k : Nat, 0 ≤ menu.getD k 0 ∧ menu.getD k 0 ≤ 1000000 := by
  intro k
  match k with
  | 0 | 1 | 2 | 3 | 4 | 5 | 6 | 7 | 8 | 9 => decide
  | k + 10 => simp [menu]
theorem lsz_ok (ns : List Int) (i : Int) : 0 ≤ lsz ns i ∧ lsz ns i ≤ 1000000 := by
  unfold lsz; split
  · exact menu_ok _
  · omega
section
variable {w : World} {loose : List Str} {mean : ExcName → Option Value} {mg mb : Str → Option Value} {dp un : Nat} {gd : Option (List Code)} {cn : Str} {cs : Scope} {a : Addr} {ccd : Value} {outer : List Env} {A₀ : Around} {base h₀ : Heap} {L : Addr} {m : Str → Option Value} {news : List (Addr × Obj)} {s : Shared} {Q E : Value → Shared → Prop} {l : Addr} {vs : List Value} {ns : List Int} {i : Int} {tk : Tok}
theorem law_size
    (B : Below A₀ base outer h₀) (F : Fr h₀ L s.heap m) (X : (K w.params).In h₀) (N : News h₀ L s.heap news) (T : Top q loose mean mg mb h₀) (hk : cs.kind = .function) (hl : base.IsList l vs.toArray) (hi : IntsAre vs ns) (hlen : ns.length < 2 ^ 62) (h0 : 0 ≤ i) (hd : dp + 1 < recursionLimit) (hu : un + 8 < cLine)
    (hret : ∀ t h' tk', Fr h₀ L h' m → News h₀ L h' news → Q (.int (lsz ns i) t) { s with heap := h', toks := tk' }) :
    wpAny (model PySem.Challenge.rw_pq1413_01.row.prog w) (ktrTop dp un gd cn cs L a ccd [] outer) (call (.ref 672) [.ref l, .int i tk]) Q E s := by
  revert X
  k_fill
  intro X
  refine wpAny_call ?_
  k_dflt cell_enter
  k_steps
  · have e : lsz ns i = [0, 1, 3, 250000, 333333, 499998, 499999, 500000, 999999, 1000000].getD ((ns.getD i.toNat 0).fmod 10).toNat 0 := by
      unfold lsz; rw [if_pos (by assumption)]; rfl
    rw [← e]
    exact hret _ _ _ (by assumption) (News.tail' (by assumption))
  · have e : lsz ns i = 0 := by
      unfold lsz; rw [if_neg (by assumption)]
    have H := fun t h' tk' => hret t h' tk'
    rw [e] at H
    exact H _ _ _ (by assumption) (News.tail' (by assumption))
theorem law_small {k : Int} {tk2 : Tok}
    (B : Below A₀ base outer h₀) (F : Fr h₀ L s.heap m) (X : (K w.params).In h₀) (N : News h₀ L s.heap news) (T : Top q loose mean mg mb h₀) (hk : cs.kind = .function) (hl : base.IsList l vs.toArray) (hi : IntsAre vs ns) (hlen : ns.length < 2 ^ 62) (h0 : 0 ≤ i) (hk0 : 0 < k) (hd : dp + 1 < recursionLimit) (hu : un + 8 < cLine)
    (hret : ∀ t h' tk', Fr h₀ L h' m → News h₀ L h' news → Q (.int (lsm ns i k) t) { s with heap := h', toks := tk' }) :
    wpAny (model PySem.Challenge.rw_pq1413_01.row.prog w) (ktrTop dp un gd cn cs L a ccd [] outer) (call (.ref 679) [.ref l, .int i tk, .int k tk2]) Q E s := by
  revert X
  k_fill
  intro X
  refine wpAny_call ?_
  k_dflt cell_enter
  k_steps
  · have e : lsm ns i k = (ns.getD i.toNat 0).fmod k := by
      unfold lsm; rw [if_pos (by assumption)]
    rw [← e]
    exact hret _ _ _ (by assumption) (by assumption)
  · have e : lsm ns i k = 0 := by
      unfold lsm; rw [if_neg (by assumption)]
    have H := fun t h' tk' => hret t h' tk'
    rw [e] at H
    exact H _ _ _ (by assumption) (by assumption)
end

theorem item_first {prog : Program} {w : World} {A : Around} {E : Value → Shared → Prop} {s : Shared} {value slice : Expr} {l : Addr} {v : Value} {rest : List Value} {k : Int} {u : Tok} {Q : Value → Shared → Prop} (hl : s.heap.IsList l (v :: rest).toArray)
    (hk : k = 0) (h : Q v s)
    (hs : subscripted slice false (.ref l) (.int k u) = operate [.ref l, .int k u] (getItem (.ref l) (.int k u))) (hg : ∀ r, letTemporaryGo value (.ref l) r = pure ()) : wpAny (model prog w) A (subscriptTail value slice (.ref l) (.int k u)) Q E s := by
  subst hk
  exact item_list hl (by decide) (by decide) (by rfl) h hs hg
local macro_rules | `(tactic| walk_at "subscriptTail") => `(tactic| (k_here; (with_reducible show wpAny _ _ (subscriptTail _ _ (Value.ref _) (Value.int _ _)) _ _ _); k_dflt (refine' item_first ?hl ?h0 ?_ ?hs ?hg; (case hl => exact News.isList (by k_asm) (by k_mem)); (case h0 => decide); (case hs => with_unfolding_all rfl); (case hg => (intro _; with_unfolding_all rfl)); k_whole)))
theorem item_second {prog : Program} {w : World} {A : Around} {E : Value → Shared → Prop} {s : Shared} {value slice : Expr} {l : Addr} {v0 v : Value} {rest : List Value} {k : Int} {u : Tok} {Q : Value → Shared → Prop} (hl : s.heap.IsList l (v0 :: v :: rest).toArray)
    (hk : k = 1) (h : Q v s)
    (hs : subscripted slice false (.ref l) (.int k u) = operate [.ref l, .int k u] (getItem (.ref l) (.int k u))) (hg : ∀ r, letTemporaryGo value (.ref l) r = pure ()) : wpAny (model prog w) A (subscriptTail value slice (.ref l) (.int k u)) Q E s := by
  subst hk
  exact item_list hl (by decide) (by decide) (by rfl) h hs hg
local macro_rules | `(tactic| walk_at "subscriptTail") => `(tactic| (k_here; (with_reducible show wpAny _ _ (subscriptTail _ _ (Value.ref _) (Value.int _ _)) _ _ _); k_dflt (refine' item_second ?hl ?h0 ?_ ?hs ?hg; (case hl => exact News.isList (by k_asm) (by k_mem)); (case h0 => decide); (case hs => with_unfolding_all rfl); (case hg => (intro _; with_unfolding_all rfl)); k_whole)))
theorem unr_tail {h₀ : Heap} {L I : Addr} {it : Obj} {rest : (Str → Option Value) → List (Addr × Obj) → Prop} {s₁ : Shared} {h' : Heap} {tk : Nat} {m' : Str → Option Value} {news' : List (Addr × Obj)} (hc0 : it.cls = .type "list_iterator") (F : Fr h₀ L h' m') (N : News h₀ L h' ((I, it) :: news'))
    (off : OffI I it news') (r : rest m' news') : UnrEnd h₀ L s₁ I it rest { s₁ with heap := h', toks := tk } := UnrEnd.intro F N news' (fun _ hp => hp) (fun p hp e => by
    rcases off.at p hp with h | h
    · exact h e
    · have h1 := (N p (.tail _ hp)).1
      have h2 := (N _ (.head _)).1
      rw [e] at h1
      exact h (congrArg Obj.cls (Option.some.inj (h1.symm.trans h2)))) r
local macro_rules | `(tactic| walk_at "UnrEnd") => `(tactic| (k_here; (refine unr_tail (by with_reducible assumption) (by assumption) (by assumption) (by k_offL) ⟨by k_mem, ?_⟩)))
local macro_rules | `(tactic| walk_at "exec For Name Name cons nil") => `(tactic| (k_here; (rename Fr _ _ _ _ => lF'); (with_unfolding_all refine' For_invVF lF' ?k1 ?k2 ?_; (case k1 => exact rfl); (case k2 => exact rfl); k_whole)))
section
variable {w : World} {loose : List Str} {mean : ExcName → Option Value} {mg mb : Str → Option Value} {dp un : Nat} {gd : Option (List Code)} {cn : Str} {cs : Scope} {a : Addr} {ccd : Value} {outer : List Env} {A₀ : Around} {base h₀ : Heap} {L : Addr} {m : Str → Option Value} {news : List (Addr × Obj)} {s : Shared} {Q E : Value → Shared → Prop}
theorem grown_ok {total : Int} {tk tk2 : Tok} {x : Str}
    (B : Below A₀ base outer h₀) (F : Fr h₀ L s.heap m) (X : (K w.params).In h₀) (N : News h₀ L s.heap news) (T : Top q loose mean mg mb h₀) (hk : cs.kind = .function) (h0 : 0 ≤ total) (hn : total ≤ 2000000) (hx : x.length ≤ 1000000) (hd : dp + 6 < recursionLimit) (hu : un + 40 < cLine)
    (hret : ∀ t h' tk', Fr h₀ L h' m → News h₀ L h' news → Q (.int (total + x.length) t) { s with heap := h', toks := tk' }) :
    wpAny (model PySem.Challenge.rw_pq1413_01.row.prog w) (ktrTop dp un gd cn cs L a ccd [] outer) (call (.ref 124) [.int total tk, .str x tk2]) Q E s :=
  grown_spec B F X N T hk h0 (by omega) hx hd hu (fun _ => hret) (fun h => absurd h (by rw [f50]; omega))
end
local macro_rules | `(tactic| walk_at "call ref") => `(tactic| (k_here; (with_reducible show wpAny _ _ (call (Value.ref 131) _) _ _ _); k_dflt (refine' joined2_spec ?k1 ?k2 ?k3 ?k4 ?k5 ?k6 ?k7 ?k8 ?k9 ?kr ?ku ?_ ?_; walk_at "m:c"; (case k7 => first | assumption | (simp only [PySem.Str.length_append]; omega) | decide); (case k8 => first | assumption | (simp only [PySem.Str.length_append]; omega) | decide); (case k9 => first | omega | decide); walk_at "m:x")))
local macro_rules | `(tactic| walk_at "call ref") => `(tactic| (k_here; (with_reducible show wpAny _ _ (call (Value.ref 131) _) _ _ _); k_dflt (refine' joined1_spec ?k1 ?k2 ?k3 ?k4 ?k5 ?k6 ?k7 ?k9 ?kr ?ku ?_; walk_at "m:c"; (case k7 => first | assumption | (simp only [PySem.Str.length_append]; omega) | decide); (case k9 => first | omega | decide); intros)))
local macro_rules | `(tactic| walk_at "call ref") => `(tactic| (k_here; (with_reducible show wpAny _ _ (call (Value.ref 124) _) _ _ _); k_dflt (refine' grown_ok ?k1 ?k2 ?k3 ?k4 ?k5 ?k6 ?k7 ?k8 ?k9 ?kr ?ku ?_; walk_at "m:c"; (case k7 => first | omega | decide); (case k8 => first | omega | decide); (case k9 => first | assumption | (simp only [PySem.Str.length_append]; omega)); intros)))

section
variable {w : World} {loose : List Str} {mean : ExcName → Option Value} {mg mb : Str → Option Value} {dp un : Nat} {gd : Option (List Code)} {cn : Str} {cs : Scope} {a : Addr} {ccd : Value} {outer : List Env} {A₀ : Around} {base h₀ : Heap} {L : Addr} {m : Str → Option Value} {s : Shared} {Q E : Value → Shared → Prop}
theorem paste11_spec {pl r1 r2 : Addr} {c c1 c2 : Nat} {x y sep : Str} {tx ty ts : Tok}
    (B : Below A₀ base outer h₀) (F : Fr h₀ L s.heap m) (X : (K w.params).In h₀) (N : News h₀ L s.heap [(pl, W.listOf #[.ref r1, .ref r2] c), (r2, W.listOf #[.str y ty] c2), (r1, W.listOf #[.str x tx] c1)]) (T : Top q loose mean mg mb h₀) (hk : cs.kind = .function)
    (hx : x.length ≤ 1000000) (hy : y.length ≤ 1000000) (hs : sep.length ≤ 1000) (hd : dp + 9 < recursionLimit) (hu : un + 80 < cLine)
    (hret : x.length + sep.length + y.length ≤ 1000000 → ∀ r c t h' tk', Fr h₀ L h' m → News h₀ L h' [(r, W.listOf #[.str (x ++ sep ++ y) t] c)] → Q (.ref r) { s with heap := h', toks := tk' })
    (hraise : ∀ n : Int, n = x.length + sep.length + y.length → 1000000 < n → ∀ g, Fr h₀ L g m → GotRefusal base (envOf cn cs L a ccd :: outer) g n E s) :
    wpAny (model PySem.Challenge.rw_pq1413_01.row.prog w) (ktrTop dp un gd cn cs L a ccd [] outer) (call (.ref 138) [.ref pl, .str sep ts]) Q E s := by
  revert X
  k_fill
  intro X
  refine wpAny_call ?_
  k_dflt cell_enter
  k_steps
  all_goals first
    | exact hret (by omega) _ _ _ _ _ (by assumption) (News.perm (by assumption) (fun p hp => by cases hp with | head => k_mem | tail _ h => cases h))
    | (refine hraise _ ?_ ?_ _ (by assumption) _ _ _ _ _ _ _ (by assumption) (by assumption) <;> omega)
    | (exfalso; omega)
theorem paste12_spec {pl r1 : Addr} {c c1 : Nat} {x y : Str} {tx ty ts : Tok}
    (B : Below A₀ base outer h₀) (F : Fr h₀ L s.heap m) (X : (K w.params).In h₀) (N : News h₀ L s.heap [(pl, W.listOf #[.ref r1] c), (r1, W.listOf #[.str x tx, .str y ty] c1)]) (T : Top q loose mean mg mb h₀) (hk : cs.kind = .function)
    (hx : x.length ≤ 1000000) (hy : y.length ≤ 1000000) (hd : dp + 9 < recursionLimit) (hu : un + 80 < cLine)
    (hret : ∀ r c t t2 h' tk', Fr h₀ L h' m → News h₀ L h' [(r, W.listOf #[.str x t, .str y t2] c)] → Q (.ref r) { s with heap := h', toks := tk' }) :
    wpAny (model PySem.Challenge.rw_pq1413_01.row.prog w) (ktrTop dp un gd cn cs L a ccd [] outer) (call (.ref 138) [.ref pl, .str (Str.ofString "") ts]) Q E s := by
  revert X
  k_fill
  intro X
  refine wpAny_call ?_
  k_dflt cell_enter
  k_steps
  all_goals first
    | exact hret _ _ _ _ _ _ (by assumption) (News.perm (by assumption) (fun p hp => by cases hp with | head => k_mem | tail _ h => cases h))
    | (exfalso; omega)
end

local macro_rules | `(tactic| walk_at "call ref") => `(tactic| (k_here; (with_reducible show wpAny _ _ (call (Value.ref 138) _) _ _ _); k_dflt (refine' paste11_spec ?k1 ?k2 ?k3 ?k4 ?k5 ?k6 ?k7 ?k8 ?k9 ?kr ?ku ?_ ?_; walk_at "m:c"; (case k7 => assumption); (case k8 => assumption); (case k9 => assumption); walk_at "m:x")))
local macro_rules | `(tactic| walk_at "call ref") => `(tactic| (k_here; (with_reducible show wpAny _ _ (call (Value.ref 138) _) _ _ _); k_dflt (refine' paste12_spec ?k1 ?k2 ?k3 ?k4 ?k5 ?k6 ?k7 ?k8 ?kr ?ku ?_; walk_at "m:c"; (case k7 => assumption); (case k8 => assumption); intros)))
section
variable {w : World} {loose : List Str} {mean : ExcName → Option Value} {mg mb : Str → Option Value} {dp un : Nat} {gd : Option (List Code)} {cn : Str} {cs : Scope} {a : Addr} {ccd : Value} {outer : List Env} {A₀ : Around} {base h₀ : Heap} {L : Addr} {m : Str → Option Value} {s : Shared} {Q E : Value → Shared → Prop}
theorem vec11_spec {pl r1 r2 : Addr} {c c1 c2 : Nat} {x y sep : Str} {tx ty ts : Tok}
    (B : Below A₀ base outer h₀) (F : Fr h₀ L s.heap m) (X : (K w.params).In h₀) (N : News h₀ L s.heap [(pl, W.listOf #[.ref r1, .ref r2] c), (r2, W.listOf #[.str y ty] c2), (r1, W.listOf #[.str x tx] c1)]) (T : Top q loose mean mg mb h₀) (hk : cs.kind = .function)
    (hx : x.length ≤ 1000000) (hy : y.length ≤ 1000000) (hs : sep.length ≤ 1000) (hd : dp + 12 < recursionLimit) (hu : un + 120 < cLine)
    (hret : x.length + sep.length + y.length ≤ 1000000 → ∀ r c t h' tk', Fr h₀ L h' m → News h₀ L h' [(r, W.listOf #[.str (x ++ sep ++ y) t] c)] → Q (.ref r) { s with heap := h', toks := tk' })
    (hraise : ∀ n : Int, n = x.length + sep.length + y.length → 1000000 < n → ∀ g, Fr h₀ L g m → GotRefusal base (envOf cn cs L a ccd :: outer) g n E s) :
    wpAny (model PySem.Challenge.rw_pq1413_01.row.prog w) (ktrTop dp un gd cn cs L a ccd [] outer) (call (.ref 145) [.ref pl, .str sep ts, .none]) Q E s := by
  revert X
  k_fill
  intro X
  refine wpAny_call ?_
  k_dflt cell_enter
  k_steps
  all_goals first
    | exact hret (by omega) _ _ _ _ _ (by assumption) (News.perm (by assumption) (fun p hp => by cases hp with | head => k_mem | tail _ h => cases h))
    | (refine hraise _ ?_ ?_ _ (by assumption) _ _ _ _ _ _ _ (by assumption) (by assumption) <;> omega)
    | (exfalso; omega)
theorem vec12_spec {pl r1 : Addr} {c c1 : Nat} {x y sep : Str} {tx ty ts t0 : Tok}
    (B : Below A₀ base outer h₀) (F : Fr h₀ L s.heap m) (X : (K w.params).In h₀) (N : News h₀ L s.heap [(pl, W.listOf #[.ref r1] c), (r1, W.listOf #[.str x tx, .str y ty] c1)]) (T : Top q loose mean mg mb h₀) (hk : cs.kind = .function)
    (hx : x.length ≤ 1000000) (hy : y.length ≤ 1000000) (hs : sep.length ≤ 1000) (hd : dp + 12 < recursionLimit) (hu : un + 120 < cLine)
    (hret : x.length + sep.length + y.length ≤ 1000000 → ∀ r c t h' tk', Fr h₀ L h' m → News h₀ L h' [(r, W.listOf #[.str (x ++ sep ++ y) t] c)] → Q (.ref r) { s with heap := h', toks := tk' })
    (hraise : ∀ n : Int, n = x.length + sep.length + y.length → 1000000 < n → ∀ g, Fr h₀ L g m → GotRefusal base (envOf cn cs L a ccd :: outer) g n E s) :
    wpAny (model PySem.Challenge.rw_pq1413_01.row.prog w) (ktrTop dp un gd cn cs L a ccd [] outer) (call (.ref 145) [.ref pl, .str (Str.ofString "") t0, .str sep ts]) Q E s := by
  revert X
  k_fill
  intro X
  refine wpAny_call ?_
  k_dflt cell_enter
  k_steps
  all_goals first
    | exact hret (by omega) _ _ _ _ _ (by assumption) (News.perm (by assumption) (fun p hp => by cases hp with | head => k_mem | tail _ h => cases h))
    | (refine hraise _ ?_ ?_ _ (by assumption) _ _ _ _ _ _ _ (by assumption) (by assumption) <;> omega)
    | (exfalso; omega)
end

local macro_rules | `(tactic| walk_at "setAttr ref") => `(tactic| (k_here; k_dflt (refine' set_dict ?k1 ?k2 ?k3 ?k4 ?k5 ?k6 ?k7 ?k8 ?k9 ?k10 ?k11 ?k12 ?k13 ?_; (case k1 => k_asm); (case k2 => k_asm); (case k3 => k_asm); (case k4 => k_inst); (case k5 => exact rfl); (case k6 => k_is); (case k7 => k_is); (case k8 => k_is); (case k9 => k_is); (case k10 => k_get); (case k11 => k_put); (case k12 => k_upd); (case k13 => exact Nat.le_of_ble_eq_true rfl); k_whole; intro h' F' N'; (try dsimp only at N' F'); (try k_sweep))))

section
variable {w : World} {loose : List Str} {mean : ExcName → Option Value} {mg mb : Str → Option Value} {dp un : Nat} {gd : Option (List Code)} {cn : Str} {cs : Scope} {a : Addr} {ccd : Value} {outer : List Env} {A₀ : Around} {base h₀ : Heap} {L : Addr} {m : Str → Option Value} {news : List (Addr × Obj)} {s : Shared} {Q E : Value → Shared → Prop}
theorem spec_new 
    (B : Below A₀ base outer h₀) (F : Fr h₀ L s.heap m) (X : (K w.params).In h₀) (N : News h₀ L s.heap news) (T : Top q loose mean mg mb h₀) (hk : cs.kind = .function) (hd : dp + 5 < recursionLimit) (hu : un + 50 < cLine) 
    (hret : ∀ x d ua ub uc ud ue uf ug uh h' tk', Fr h₀ L h' m → News h₀ L h' ((x, instObj 506 d) :: (d, dictOf [⟨PyData.keyHash w.params (Str.ofString "flags"), .str (Str.ofString "flags") ua, .str (Str.ofString "") ue⟩, ⟨PyData.keyHash w.params (Str.ofString "width"), .str (Str.ofString "width") ub, .int 0 uf⟩, ⟨PyData.keyHash w.params (Str.ofString "precision"), .str (Str.ofString "precision") uc, .none⟩, ⟨PyData.keyHash w.params (Str.ofString "letter"), .str (Str.ofString "letter") ud, .str (Str.ofString "") ug⟩, ⟨PyData.keyHash w.params (Str.ofString "which"), .str (Str.ofString "which") uh, .none⟩] 5) :: news) → (∀ p ∈ news, p.1 < d) → d < x → Q (.ref x) { s with heap := h', toks := tk' }) :
    wpAny (model PySem.Challenge.rw_pq1413_01.row.prog w) (ktrTop dp un gd cn cs L a ccd [] outer) (call (.ref 506) []) Q E s := by
  revert X
  k_fill
  intro X
  (k_dflt (refine' call_cls ?k1 ?k2 ?k3 ?k4 ?k5 ?k6 ?_; (case k1 => k_asm); (case k2 => k_asm); (case k3 => k_asm); (case k4 => k_is); (case k5 => k_is); (case k6 => k_is); k_whole; intro x' d' h' F' N' l1 l2; (try k_lt l1); (try k_lt2 l2); (try k_sweep)))
  k_dflt (refine' code_def ?k1 ?k2 ?k3 ?k4 ?k5 ?kA ?kF ?kK ?k6 ?k7 ?k8 ?k9 ?kB ?_ ?c2 ?c3 ?c4 ?c5)
  case kA => exact rfl
  case kF => exact rfl
  case kK => exact hk
  case k1 => k_asm
  case k2 => k_asm
  case k3 => k_asm
  case k4 => k_asm
  case k5 => k_asm
  case k6 => k_dflt k_is
  case k7 => k_dflt k_is
  case k8 => k_room
  case k9 => k_dflt (first | exact BindsTo.of_eq rfl | exact binds_K (by k_in) rfl (by k_is) rfl rfl rfl | fail "k_enter: no rule for these arguments")
  case c5 => decide
  case kB => exact locs rfl
  case c2 => exact rfl
  case c3 => exact rfl
  case c4 => exact rfl
  k_whole; intro g' L' h' FG' F' N' B' X' T'; (try dsimp only); (try k_lift B'); (try k_fold)
  k_steps
  all_goals first
    | exact hret _ _ _ _ _ _ _ _ _ _ _ _ (by assumption) (by assumption) (by assumption) (by assumption)
theorem vec_new {kd : Str} {tc : Tok} {l : Addr}
    (B : Below A₀ base outer h₀) (F : Fr h₀ L s.heap m) (X : (K w.params).In h₀) (N : News h₀ L s.heap news) (T : Top q loose mean mg mb h₀) (hk : cs.kind = .function) (hd : dp + 5 < recursionLimit) (hu : un + 50 < cLine) 
    (hret : ∀ x d ua ub uc ud ue h' tk', Fr h₀ L h' m → News h₀ L h' ((x, instObj 78 d) :: (d, dictOf [⟨PyData.keyHash w.params (Str.ofString "kind"), .str (Str.ofString "kind") ua, .str kd tc⟩, ⟨PyData.keyHash w.params (Str.ofString "items"), .str (Str.ofString "items") ub, .ref l⟩, ⟨PyData.keyHash w.params (Str.ofString "attrs"), .str (Str.ofString "attrs") uc, .none⟩, ⟨PyData.keyHash w.params (Str.ofString "shared"), .str (Str.ofString "shared") ud, .bool false⟩, ⟨PyData.keyHash w.params (Str.ofString "loose"), .str (Str.ofString "loose") ue, .bool false⟩] 5) :: news) → (∀ p ∈ news, p.1 < d) → d < x → Q (.ref x) { s with heap := h', toks := tk' }) :
    wpAny (model PySem.Challenge.rw_pq1413_01.row.prog w) (ktrTop dp un gd cn cs L a ccd [] outer) (call (.ref 78) [.str kd tc, .ref l]) Q E s := by
  revert X
  k_fill
  intro X
  (k_dflt (refine' call_cls ?k1 ?k2 ?k3 ?k4 ?k5 ?k6 ?_; (case k1 => k_asm); (case k2 => k_asm); (case k3 => k_asm); (case k4 => k_is); (case k5 => k_is); (case k6 => k_is); k_whole; intro x' d' h' F' N' l1 l2; (try k_lt l1); (try k_lt2 l2); (try k_sweep)))
  k_dflt (refine' code_def ?k1 ?k2 ?k3 ?k4 ?k5 ?kA ?kF ?kK ?k6 ?k7 ?k8 ?k9 ?kB ?_ ?c2 ?c3 ?c4 ?c5)
  case kA => exact rfl
  case kF => exact rfl
  case kK => exact hk
  case k1 => k_asm
  case k2 => k_asm
  case k3 => k_asm
  case k4 => k_asm
  case k5 => k_asm
  case k6 => k_dflt k_is
  case k7 => k_dflt k_is
  case k8 => k_room
  case k9 => k_dflt (first | exact BindsTo.of_eq rfl | exact binds_K (by k_in) rfl (by k_is) rfl rfl rfl | fail "k_enter: no rule for these arguments")
  case c5 => decide
  case kB => exact locs rfl
  case c2 => exact rfl
  case c3 => exact rfl
  case c4 => exact rfl
  k_whole; intro g' L' h' FG' F' N' B' X' T'; (try dsimp only); (try k_lift B'); (try k_fold)
  k_steps
  all_goals first
    | exact hret _ _ _ _ _ _ _ _ _ (by assumption) (by assumption) (by assumption) (by assumption)
theorem src_new {tn : Int} {tc : Tok} {l : Addr}
    (B : Below A₀ base outer h₀) (F : Fr h₀ L s.heap m) (X : (K w.params).In h₀) (N : News h₀ L s.heap news) (T : Top q loose mean mg mb h₀) (hk : cs.kind = .function) (hd : dp + 5 < recursionLimit) (hu : un + 50 < cLine) 
    (hret : ∀ x d ua ub uc ud h' tk', Fr h₀ L h' m → News h₀ L h' ((x, instObj 562 d) :: (d, dictOf [⟨PyData.keyHash w.params (Str.ofString "vs"), .str (Str.ofString "vs") ua, .ref l⟩, ⟨PyData.keyHash w.params (Str.ofString "turn"), .str (Str.ofString "turn") ub, .int tn tc⟩, ⟨PyData.keyHash w.params (Str.ofString "taken"), .str (Str.ofString "taken") uc, .int 0 ud⟩] 3) :: news) → (∀ p ∈ news, p.1 < d) → d < x → Q (.ref x) { s with heap := h', toks := tk' }) :
    wpAny (model PySem.Challenge.rw_pq1413_01.row.prog w) (ktrTop dp un gd cn cs L a ccd [] outer) (call (.ref 562) [.ref l, .int tn tc]) Q E s := by
  revert X
  k_fill
  intro X
  (k_dflt (refine' call_cls ?k1 ?k2 ?k3 ?k4 ?k5 ?k6 ?_; (case k1 => k_asm); (case k2 => k_asm); (case k3 => k_asm); (case k4 => k_is); (case k5 => k_is); (case k6 => k_is); k_whole; intro x' d' h' F' N' l1 l2; (try k_lt l1); (try k_lt2 l2); (try k_sweep)))
  k_dflt (refine' code_def ?k1 ?k2 ?k3 ?k4 ?k5 ?kA ?kF ?kK ?k6 ?k7 ?k8 ?k9 ?kB ?_ ?c2 ?c3 ?c4 ?c5)
  case kA => exact rfl
  case kF => exact rfl
  case kK => exact hk
  case k1 => k_asm
  case k2 => k_asm
  case k3 => k_asm
  case k4 => k_asm
  case k5 => k_asm
  case k6 => k_dflt k_is
  case k7 => k_dflt k_is
  case k8 => k_room
  case k9 => k_dflt (first | exact BindsTo.of_eq rfl | exact binds_K (by k_in) rfl (by k_is) rfl rfl rfl | fail "k_enter: no rule for these arguments")
  case c5 => decide
  case kB => exact locs rfl
  case c2 => exact rfl
  case c3 => exact rfl
  case c4 => exact rfl
  k_whole; intro g' L' h' FG' F' N' B' X' T'; (try dsimp only); (try k_lift B'); (try k_fold)
  k_steps
  all_goals first
    | exact hret _ _ _ _ _ _ _ _ (by assumption) (by assumption) (by assumption) (by assumption)
end

theorem four (k : Int) (h0 : 0 ≤ k) (h4 : k < 4) (P : Int → Prop) (a : P 0) (b : P 1) (c : P 2) (d : P 3) : P k := by
  have h : k = 0 ∨ k = 1 ∨ k = 2 ∨ k = 3 := by omega
  rcases h with rfl | rfl | rfl | rfl <;> assumption
theorem fmt_facts (k : Int) (h0 : 0 ≤ k) (h4 : k < 4) : (fun k => (((Txt.mul (Str.ofString "-") k).length : Int) = k ∧ ((Str.ofString "%s" ++ Txt.mul (Str.ofString "-") k ++ Str.ofString "%s").length : Int) = k + 4)
    ∧ Txt.find3 (Str.ofString "%s" ++ Txt.mul (Str.ofString "-") k ++ Str.ofString "%s") (Str.ofString "%") 0 = 0
    ∧ Txt.slice (Str.ofString "%s" ++ Txt.mul (Str.ofString "-") k ++ Str.ofString "%s") (some 0) (some 0) = Str.ofString ""
    ∧ Txt.slice (Str.ofString "%s" ++ Txt.mul (Str.ofString "-") k ++ Str.ofString "%s") (some (0 + 1)) (some (0 + 1 + 1)) = Str.ofString "s"
    ∧ Txt.item (Str.ofString "%s" ++ Txt.mul (Str.ofString "-") k ++ Str.ofString "%s") (0 + 1) = Str.ofString "s"
    ∧ Txt.find3 (Str.ofString "%s" ++ Txt.mul (Str.ofString "-") k ++ Str.ofString "%s") (Str.ofString "%") (0 + 1 + 1) = 2 + k
    ∧ Txt.slice (Str.ofString "%s" ++ Txt.mul (Str.ofString "-") k ++ Str.ofString "%s") (some (0 + 1 + 1)) (some (2 + k)) = Txt.mul (Str.ofString "-") k
    ∧ Txt.slice (Str.ofString "%s" ++ Txt.mul (Str.ofString "-") k ++ Str.ofString "%s") (some (2 + k + 1)) (some (2 + k + 1 + 1)) = Str.ofString "s"
    ∧ Txt.item (Str.ofString "%s" ++ Txt.mul (Str.ofString "-") k ++ Str.ofString "%s") (2 + k + 1) = Str.ofString "s") k := by
  apply four k h0 h4 <;> decide +kernel

local macro_rules | `(tactic| walk_at "call ref") => `(tactic| (k_here; (with_reducible show wpAny _ _ (call (Value.ref 506) _) _ _ _); k_dflt (refine' spec_new ?k1 ?k2 ?k3 ?k4 ?k5 ?k6 ?kr ?ku ?_; walk_at "m:c"; intro x' d' ua' ub' uc' ud' ue' uf' ug' uh' h' tk' F' N' l1 l2; (try k_lt l1); (try k_lt2 l2))))
local macro_rules | `(tactic| walk_at "call ref") => `(tactic| (k_here; (with_reducible show wpAny _ _ (call (Value.ref 78) _) _ _ _); k_dflt (refine' vec_new ?k1 ?k2 ?k3 ?k4 ?k5 ?k6 ?kr ?ku ?_; walk_at "m:c"; intro x' d' ua' ub' uc' ud' ue' h' tk' F' N' l1 l2; (try k_lt l1); (try k_lt2 l2))))
local macro_rules | `(tactic| walk_at "call ref") => `(tactic| (k_here; (with_reducible show wpAny _ _ (call (Value.ref 562) _) _ _ _); k_dflt (refine' src_new ?k1 ?k2 ?k3 ?k4 ?k5 ?k6 ?kr ?ku ?_; walk_at "m:c"; intro x' d' ua' ub' uc' ud' h' tk' F' N' l1 l2; (try k_lt l1); (try k_lt2 l2))))
section
variable {prog : Program} {w : World} {A : Around} {E : Value → Shared → Prop} {s : Shared} {value slice : PySem.Expr} {x y : Str} {t u : Tok} {i j r : Int} {h₀ : Heap} {L : Addr} {m : Str → Option Value} {news : List (Addr × Obj)} {Q : Value → Shared → Prop}
theorem slice_known {ui uj : Tok} (hF : Fr h₀ L s.heap m) (hN : News h₀ L s.heap news) (hy : Txt.slice x (some i) (some j) = y) (h : ∀ h' t' k, Fr h₀ L h' m → News h₀ L h' news → Q (.str y t') { s with heap := h', toks := k })
    (hs : subscripted slice false (.str x t) (.ref s.heap.objs.size) = operate [.ref s.heap.objs.size, .str x t] (getItem (.str x t) (.ref s.heap.objs.size)))
    (ht : ∀ r, letTemporaryGo value (.str x t) r = pure ()) (hsz : x.length ≤ 100) :
    wpAny (model prog w) A (subscriptTail value slice (.str x t) (.ref s.heap.objs.size)) Q E { s with heap := s.heap.push { cls := .type "slice", data := .fields #[.int i ui, .int j uj, .none] } } :=
  slice_strN_ss hF hN (fun h' t' k a b => by rw [hy]; exact h h' t' k a b) hs ht (by simp only [sizeLine_eq]; omega)
theorem item_known (hy : Txt.item x i = y) (h0 : 0 ≤ i) (h1 : i < x.length) (hsz : x.length ≤ 100) (h : ∀ t' k, Q (.str y t') { s with toks := k })
    (hs : subscripted slice false (.str x t) (.int i u) = operate [.str x t, .int i u] (getItem (.str x t) (.int i u)))
    (ht : ∀ r, letTemporaryGo value (.str x t) r = pure ()) :
    wpAny (model prog w) A (subscriptTail value slice (.str x t) (.int i u)) Q E s :=
  KXi.item (n := x.length) rfl (by omega) h1 (by omega) (fun _ => by rw [hy]; exact h _ _) hs ht
theorem find_known {v : Tok} (hy : Txt.find3 x y i = r) (h : ∀ t' k, Q (.int r t') { s with toks := k }) : wpAny (model prog w) A (call (.builtin "str.find") [.str x t, .str y u, .int i v]) Q E s :=
  SC.find3 (by rw [hy]; exact h _ _)
end
local macro_rules | `(tactic| walk_at "subscriptTail Name Slice str ref") => `(tactic| (k_here; (with_reducible show wpAny _ _ (subscriptTail _ (Expr.Slice (some _) (some _) none _) (Value.str _ _) (Value.ref _)) _ _ _); (with_reducible rename Fr _ _ _ _ => F'); (with_reducible rename News _ _ _ _ => N'); k_dflt (refine' slice_known (s := ⟨_, _, _, _, _⟩) F' N' ?k3 ?_ ?k4 ?k5 ?k6; (case k3 => with_reducible assumption); (case k4 => with_unfolding_all rfl); (case k5 => (intro _; with_unfolding_all rfl)); (case k6 => omega); intro _ _ _ _ _)))
local macro_rules | `(tactic| walk_at "subscriptTail Name Name str int") => `(tactic| (k_here; (with_reducible show wpAny _ _ (subscriptTail _ _ (Value.str _ _) (Value.int _ _)) _ _ _); k_dflt (refine' item_known ?k1 ?k2 ?k3 ?k4 ?_ ?k5 ?k6; (case k1 => with_reducible assumption); (case k2 => omega); (case k3 => omega); (case k4 => omega); (case k5 => with_unfolding_all rfl); (case k6 => (intro _; with_unfolding_all rfl)); intro _ _)))
local macro_rules | `(tactic| walk_at "call builtin:str.find") => `(tactic| (k_here; (with_reducible show wpAny _ _ (call (Value.builtin "str.find") [Value.str _ _, Value.str _ _, Value.int _ _]) _ _ _); k_dflt (refine' find_known ?k1 ?_; (case k1 => with_reducible assumption); intro _ _)))
local macro_rules | `(tactic| walk_at "exec While") => `(tactic| (k_here; k_dflt (refine whl_start 100 ?_)))
local macro_rules | `(tactic| walk_at "exec While Compare") => `(tactic| (k_here; k_dflt (refine whl_start 100 ?_)))
local macro_rules | `(tactic| walk_at "exec While BoolOp") => `(tactic| (k_here; k_dflt (refine whl_start 100 ?_)))
local macro_rules | `(tactic| walk_at "exec While Call") => `(tactic| (k_here; k_dflt (refine whl_start 100 ?_)))
theorem ite_yes {c P Q : Prop} [Decidable c] (hc : c) (h : P) : if c then P else Q := by rw [if_pos hc]; exact h
theorem ite_no {c P Q : Prop} [Decidable c] (hc : ¬ c) (h : Q) : if c then P else Q := by rw [if_neg hc]; exact h
local macro_rules | `(tactic| walk_at "ite") => `(tactic| (k_here; first | (with_reducible refine ite_yes (by decide +kernel) ?_) | (with_reducible refine ite_no (by decide +kernel) ?_)))

section
variable {w : World} {loose : List Str} {mean : ExcName → Option Value} {mg mb : Str → Option Value} {dp un : Nat} {gd : Option (List Code)} {cn : Str} {cs : Scope} {a : Addr} {ccd : Value} {outer : List Env} {A₀ : Around} {base h₀ : Heap} {L : Addr} {m : Str → Option Value} {news : List (Addr × Obj)} {s : Shared} {Q E : Value → Shared → Prop}
theorem digits_spec {t t2 : Tok} {fmt : Str} {i : Int}
    (B : Below A₀ base outer h₀) (F : Fr h₀ L s.heap m) (X : (K w.params).In h₀) (N : News h₀ L s.heap news) (T : Top q loose mean mg mb h₀) (hk : cs.kind = .function) (hd : dp + 10 < recursionLimit) (hu : un + 100 < cLine) (h0 : 0 ≤ i) (h1 : i < fmt.length) (h2 : fmt.length ≤ 100) (hsl : Txt.slice fmt (some i) (some (i + 1)) = Str.ofString "s")
    (hret : ∀ d h' tk', Fr h₀ L h' m → News h₀ L h' ((d, { cls := Value.type "tuple", data := Data.seq #[.none, .int i t2] 0 }) :: news) → (∀ p ∈ news, p.1 < d) → Q (.ref d) { s with heap := h', toks := tk' }) :
    wpAny (model PySem.Challenge.rw_pq1413_01.row.prog w) (ktrTop dp un gd cn cs L a ccd [] outer) (call (.ref 524) [.str fmt t, .int i t2]) Q E s := by
  revert X
  k_fill
  intro X
  refine wpAny_call ?_
  k_dflt cell_enter
  k_steps
  all_goals first
    | exact hret _ _ _ (by assumption) (by assumption) (by assumption)
    | (exfalso; omega)
end

local macro_rules | `(tactic| walk_at "call ref") => `(tactic| (k_here; (with_reducible show wpAny _ _ (call (Value.ref 524) _) _ _ _); k_dflt (refine' digits_spec ?k1 ?k2 ?k3 ?k4 ?k5 ?k6 ?kr ?ku ?k9 ?ka ?kb ?kc ?_; walk_at "m:c"; (case k9 => omega); (case ka => omega); (case kb => omega); (case kc => with_reducible assumption); intro d' h' tk' F' N' l1; (try k_lt l1))))

section
variable {w : World} {loose : List Str} {mean : ExcName → Option Value} {mg mb : Str → Option Value} {dp un : Nat} {gd : Option (List Code)} {cn : Str} {cs : Scope} {a : Addr} {ccd : Value} {outer : List Env} {A₀ : Around} {base h₀ : Heap} {L : Addr} {m : Str → Option Value} {news : List (Addr × Obj)} {s : Shared} {Q E : Value → Shared → Prop}
theorem read_spec {t t2 : Tok} {so : Addr} {fmt : Str} {i : Int}
    (B : Below A₀ base outer h₀) (F : Fr h₀ L s.heap m) (X : (K w.params).In h₀) (N : News h₀ L s.heap news) (T : Top q loose mean mg mb h₀) (hk : cs.kind = .function) (hd : dp + 16 < recursionLimit) (hu : un + 160 < cLine) (h0 : 0 ≤ i) (h1 : i < fmt.length) (h2 : fmt.length ≤ 100) (hsl : Txt.slice fmt (some i) (some (i + 1)) = Str.ofString "s") (hit : Txt.item fmt i = Str.ofString "s")
    (hret : ∀ r x d ua ub uc ud ue uf ug uh t' h' tk', Fr h₀ L h' m → News h₀ L h' ((r, { cls := Value.type "tuple", data := Data.seq #[.ref x, .int (i + 1) t'] 0 }) :: (x, instObj 506 d) :: (d, dictOf [⟨PyData.keyHash w.params (Str.ofString "flags"), .str (Str.ofString "flags") ua, .str (Str.ofString "") ue⟩, ⟨PyData.keyHash w.params (Str.ofString "width"), .str (Str.ofString "width") ub, .int 0 uf⟩, ⟨PyData.keyHash w.params (Str.ofString "precision"), .str (Str.ofString "precision") uc, .none⟩, ⟨PyData.keyHash w.params (Str.ofString "letter"), .str (Str.ofString "letter") ud, .str (Str.ofString "s") ug⟩, ⟨PyData.keyHash w.params (Str.ofString "which"), .str (Str.ofString "which") uh, .none⟩] 5) :: news) → (∀ p ∈ news, p.1 < d) → d < x → x < r → Q (.ref r) { s with heap := h', toks := tk' }) :
    wpAny (model PySem.Challenge.rw_pq1413_01.row.prog w) (ktrTop dp un gd cn cs L a ccd [] outer) (call (.ref 573) [.str fmt t, .int i t2, .ref so]) Q E s := by
  revert X
  k_fill
  intro X
  refine wpAny_call ?_
  k_dflt cell_enter
  k_steps
  all_goals first
    | (refine hret _ _ _ _ _ _ _ _ _ _ _ _ _ _ (by assumption) (News.perm (by assumption) (fun p hp => by
        rcases List.mem_cons.mp hp with rfl | hp
        · k_mem
        rcases List.mem_cons.mp hp with rfl | hp
        · k_mem
        rcases List.mem_cons.mp hp with rfl | hp
        · k_mem
        exact .tail _ (.tail _ (.tail _ (.tail _ (.tail _ hp)))))) ?_ ?_ ?_ <;> first | assumption | (have l1' := ‹_ ∧ _ ∧ _ ∧ _›; exact l1'.2.2.1) | omega)
    | (exfalso; omega)
end


section
variable {w : World} {loose : List Str} {mean : ExcName → Option Value} {mg mb : Str → Option Value} {dp un : Nat} {gd : Option (List Code)} {cn : Str} {cs : Scope} {a : Addr} {ccd : Value} {outer : List Env} {A₀ : Around} {base h₀ : Heap} {L : Addr} {m : Str → Option Value} {news : List (Addr × Obj)} {s : Shared} {Q E : Value → Shared → Prop}
theorem text_form {tk tx va vb vc vd ve vf vg vh : Tok} {x : Str} {sp sd : Addr}
    (B : Below A₀ base outer h₀) (F : Fr h₀ L s.heap m) (X : (K w.params).In h₀) (N : News h₀ L s.heap ((sp, instObj 506 sd) :: (sd, dictOf [⟨PyData.keyHash w.params (Str.ofString "flags"), .str (Str.ofString "flags") va, .str (Str.ofString "") ve⟩, ⟨PyData.keyHash w.params (Str.ofString "width"), .str (Str.ofString "width") vb, .int 0 vf⟩, ⟨PyData.keyHash w.params (Str.ofString "precision"), .str (Str.ofString "precision") vc, .none⟩, ⟨PyData.keyHash w.params (Str.ofString "letter"), .str (Str.ofString "letter") vd, .str (Str.ofString "s") vg⟩, ⟨PyData.keyHash w.params (Str.ofString "which"), .str (Str.ofString "which") vh, .none⟩] 5) :: news)) (T : Top q loose mean mg mb h₀) (hk : cs.kind = .function) (hd : dp + 16 < recursionLimit) (hu : un + 160 < cLine) (hx : x.length ≤ 1000000)
    (hret : ∀ t h' tk', Fr h₀ L h' m → News h₀ L h' ((sp, instObj 506 sd) :: (sd, dictOf [⟨PyData.keyHash w.params (Str.ofString "flags"), .str (Str.ofString "flags") va, .str (Str.ofString "") ve⟩, ⟨PyData.keyHash w.params (Str.ofString "width"), .str (Str.ofString "width") vb, .int 0 vf⟩, ⟨PyData.keyHash w.params (Str.ofString "precision"), .str (Str.ofString "precision") vc, .none⟩, ⟨PyData.keyHash w.params (Str.ofString "letter"), .str (Str.ofString "letter") vd, .str (Str.ofString "s") vg⟩, ⟨PyData.keyHash w.params (Str.ofString "which"), .str (Str.ofString "which") vh, .none⟩] 5) :: news) → Q (.str x t) { s with heap := h', toks := tk' }) :
    wpAny (model PySem.Challenge.rw_pq1413_01.row.prog w) (ktrTop dp un gd cn cs L a ccd [] outer) (call (.ref 644) [.str (Str.ofString "character") tk, .str x tx, .ref sp]) Q E s := by
  revert X
  k_fill
  intro X
  refine wpAny_call ?_
  k_dflt cell_enter
  k_steps
  all_goals first
    | exact hret _ _ _ (by assumption) (News.perm (by assumption) (fun p hp => by
        rcases List.mem_cons.mp hp with rfl | hp
        · k_mem
        rcases List.mem_cons.mp hp with rfl | hp
        · k_mem
        repeat (first | exact hp | refine .tail _ ?_)))
    | (exfalso; omega)
end

local macro_rules | `(tactic| walk_at "call ref") => `(tactic| (k_here; (with_reducible show wpAny _ _ (call (Value.ref 644) _) _ _ _); k_dflt (refine' text_form (x := _) ?k1 ?k2 ?k3 ?k4 ?k5 ?k6 ?k7 ?k8 ?k9 ?_; (case k1 => k_asm); (case k2 => k_asm); (case k3 => k_in); (case k4 => exact News.perm (by k_asm) (List.forall_mem_cons.mpr ⟨by k_mem, List.forall_mem_cons.mpr ⟨by k_mem, fun _ h => h⟩⟩)); (case k5 => k_asm); (case k6 => first | exact rfl | assumption); (case k7 => ktr_room); (case k8 => ktr_units); (case k9 => assumption); intro t' h' tk' F' N'; (replace N' := News.tail' (News.tail' N')))))

section
variable {w : World} {loose : List Str} {mean : ExcName → Option Value} {mg mb : Str → Option Value} {dp un : Nat} {gd : Option (List Code)} {cn : Str} {cs : Scope} {a : Addr} {ccd : Value} {outer : List Env} {A₀ : Around} {base h₀ : Heap} {L : Addr} {m : Str → Option Value} {news : List (Addr × Obj)} {s : Shared} {Q E : Value → Shared → Prop}
theorem one_form0 {va vb vc vd ve vf vg vh wa wb wc wd wt tx tc1 ua1 ub1 uc1 ud1 ue1 : Tok} {x : Str} {sp sd so od vs v0 v1 v2 d0 d1 d2 l0 l1 l2 r pa rg fl ta tb : Addr} {cv c1 : Nat} {ro pao rgo flo tao tbo : Obj} {ovs ov2 oD2 ol2 ov1 oD1 ol1 ov0 oD0 ol0 : Obj} {vx : Value}
    (B : Below A₀ base outer h₀) (F : Fr h₀ L s.heap m) (X : (K w.params).In h₀) (N : News h₀ L s.heap ([(r, ro), (sp, instObj 506 sd), (sd, dictOf [⟨PyData.keyHash w.params (Str.ofString "flags"), .str (Str.ofString "flags") va, .str (Str.ofString "") ve⟩, ⟨PyData.keyHash w.params (Str.ofString "width"), .str (Str.ofString "width") vb, .int 0 vf⟩, ⟨PyData.keyHash w.params (Str.ofString "precision"), .str (Str.ofString "precision") vc, .none⟩, ⟨PyData.keyHash w.params (Str.ofString "letter"), .str (Str.ofString "letter") vd, .str (Str.ofString "s") vg⟩, ⟨PyData.keyHash w.params (Str.ofString "which"), .str (Str.ofString "which") vh, .none⟩] 5), (pa, pao), (so, instObj 562 od), (od, dictOf [⟨PyData.keyHash w.params (Str.ofString "vs"), .str (Str.ofString "vs") wa, .ref vs⟩, ⟨PyData.keyHash w.params (Str.ofString "turn"), .str (Str.ofString "turn") wb, .int 0 wt⟩, ⟨PyData.keyHash w.params (Str.ofString "taken"), .str (Str.ofString "taken") wc, .int 0 wd⟩] 3), (rg, rgo), (fl, flo), (ta, tao), (tb, tbo), (vs, ovs), (v2, ov2), (d2, oD2), (l2, ol2), (v1, ov1), (d1, oD1), (l1, ol1), (v0, ov0), (d0, oD0), (l0, ol0)])) (T : Top q loose mean mg mb h₀) (hk : cs.kind = .function) (hd : dp + 24 < recursionLimit) (hu : un + 240 < cLine) (q1 : @LT.lt Nat _ rg od ∧ @LT.lt Nat _ fl od ∧ @LT.lt Nat _ ta od ∧ @LT.lt Nat _ tb od ∧ @LT.lt Nat _ vs od ∧ @LT.lt Nat _ v2 od ∧ @LT.lt Nat _ d2 od ∧ @LT.lt Nat _ l2 od ∧ @LT.lt Nat _ v1 od ∧ @LT.lt Nat _ d1 od ∧ @LT.lt Nat _ l1 od ∧ @LT.lt Nat _ v0 od ∧ @LT.lt Nat _ d0 od ∧ @LT.lt Nat _ l0 od) (q2 : @LT.lt Nat _ od so ∧ @LT.lt Nat _ so pa ∧ @LT.lt Nat _ pa sd ∧ @LT.lt Nat _ sd sp ∧ @LT.lt Nat _ sp r) (hx : x.length ≤ 1000000) (hvs : ovs = W.listOf #[.ref v1, vx] cv) (hv1 : ov1 = instObj 78 d1) (hD1 : oD1 = dictOf [⟨PyData.keyHash w.params (Str.ofString "kind"), .str (Str.ofString "kind") ua1, .str (Str.ofString "character") tc1⟩, ⟨PyData.keyHash w.params (Str.ofString "items"), .str (Str.ofString "items") ub1, .ref l1⟩, ⟨PyData.keyHash w.params (Str.ofString "attrs"), .str (Str.ofString "attrs") uc1, .none⟩, ⟨PyData.keyHash w.params (Str.ofString "shared"), .str (Str.ofString "shared") ud1, .bool false⟩, ⟨PyData.keyHash w.params (Str.ofString "loose"), .str (Str.ofString "loose") ue1, .bool false⟩] 5) (hl1 : ol1 = W.listOf #[.str x tx] c1)
    (hret : ∀ t t' h' tk', Fr h₀ L h' m → News h₀ L h' ([(pa, pao), (so, instObj 562 od), (od, dictOf [⟨PyData.keyHash w.params (Str.ofString "vs"), .str (Str.ofString "vs") wa, .ref vs⟩, ⟨PyData.keyHash w.params (Str.ofString "turn"), .str (Str.ofString "turn") wb, .int 0 wt⟩, ⟨PyData.keyHash w.params (Str.ofString "taken"), .str (Str.ofString "taken") wc, .int 1 t'⟩] 3), (rg, rgo), (fl, flo), (ta, tao), (tb, tbo), (vs, ovs), (v2, ov2), (d2, oD2), (l2, ol2), (v1, ov1), (d1, oD1), (l1, ol1), (v0, ov0), (d0, oD0), (l0, ol0)]) → Q (.str x t) { s with heap := h', toks := tk' }) :
    wpAny (model PySem.Challenge.rw_pq1413_01.row.prog w) (ktrTop dp un gd cn cs L a ccd [] outer) (call (.ref 651) [.ref sp, .ref so]) Q E s := by
  subst hvs hv1 hD1 hl1
  revert X
  k_fill
  intro X
  refine wpAny_call ?_
  k_dflt cell_enter
  k_steps
  all_goals first
    | exact hret _ _ _ _ (by assumption) (News.perm (by assumption) (fun p hp => by
        repeat (first | (cases hp; done) | (rcases List.mem_cons.mp hp with rfl | hp; · k_mem))))
    | (exfalso; omega)
theorem one_form1 {va vb vc vd ve vf vg vh wa wb wc wd wt tx tc2 ua2 ub2 uc2 ud2 ue2 : Tok} {x : Str} {sp sd so od vs v0 v1 v2 d0 d1 d2 l0 l1 l2 r pa rg fl ta tb : Addr} {cv c2 : Nat} {ro pao rgo flo tao tbo : Obj} {ovs ov2 oD2 ol2 ov1 oD1 ol1 ov0 oD0 ol0 : Obj} {vx : Value}
    (B : Below A₀ base outer h₀) (F : Fr h₀ L s.heap m) (X : (K w.params).In h₀) (N : News h₀ L s.heap ([(r, ro), (sp, instObj 506 sd), (sd, dictOf [⟨PyData.keyHash w.params (Str.ofString "flags"), .str (Str.ofString "flags") va, .str (Str.ofString "") ve⟩, ⟨PyData.keyHash w.params (Str.ofString "width"), .str (Str.ofString "width") vb, .int 0 vf⟩, ⟨PyData.keyHash w.params (Str.ofString "precision"), .str (Str.ofString "precision") vc, .none⟩, ⟨PyData.keyHash w.params (Str.ofString "letter"), .str (Str.ofString "letter") vd, .str (Str.ofString "s") vg⟩, ⟨PyData.keyHash w.params (Str.ofString "which"), .str (Str.ofString "which") vh, .none⟩] 5), (pa, pao), (so, instObj 562 od), (od, dictOf [⟨PyData.keyHash w.params (Str.ofString "vs"), .str (Str.ofString "vs") wa, .ref vs⟩, ⟨PyData.keyHash w.params (Str.ofString "turn"), .str (Str.ofString "turn") wb, .int 0 wt⟩, ⟨PyData.keyHash w.params (Str.ofString "taken"), .str (Str.ofString "taken") wc, .int 1 wd⟩] 3), (rg, rgo), (fl, flo), (ta, tao), (tb, tbo), (vs, ovs), (v2, ov2), (d2, oD2), (l2, ol2), (v1, ov1), (d1, oD1), (l1, ol1), (v0, ov0), (d0, oD0), (l0, ol0)])) (T : Top q loose mean mg mb h₀) (hk : cs.kind = .function) (hd : dp + 24 < recursionLimit) (hu : un + 240 < cLine) (q1 : @LT.lt Nat _ rg od ∧ @LT.lt Nat _ fl od ∧ @LT.lt Nat _ ta od ∧ @LT.lt Nat _ tb od ∧ @LT.lt Nat _ vs od ∧ @LT.lt Nat _ v2 od ∧ @LT.lt Nat _ d2 od ∧ @LT.lt Nat _ l2 od ∧ @LT.lt Nat _ v1 od ∧ @LT.lt Nat _ d1 od ∧ @LT.lt Nat _ l1 od ∧ @LT.lt Nat _ v0 od ∧ @LT.lt Nat _ d0 od ∧ @LT.lt Nat _ l0 od) (q2 : @LT.lt Nat _ od so ∧ @LT.lt Nat _ so pa ∧ @LT.lt Nat _ pa sd ∧ @LT.lt Nat _ sd sp ∧ @LT.lt Nat _ sp r) (hx : x.length ≤ 1000000) (hvs : ovs = W.listOf #[vx, .ref v2] cv) (hv2 : ov2 = instObj 78 d2) (hD2 : oD2 = dictOf [⟨PyData.keyHash w.params (Str.ofString "kind"), .str (Str.ofString "kind") ua2, .str (Str.ofString "character") tc2⟩, ⟨PyData.keyHash w.params (Str.ofString "items"), .str (Str.ofString "items") ub2, .ref l2⟩, ⟨PyData.keyHash w.params (Str.ofString "attrs"), .str (Str.ofString "attrs") uc2, .none⟩, ⟨PyData.keyHash w.params (Str.ofString "shared"), .str (Str.ofString "shared") ud2, .bool false⟩, ⟨PyData.keyHash w.params (Str.ofString "loose"), .str (Str.ofString "loose") ue2, .bool false⟩] 5) (hl2 : ol2 = W.listOf #[.str x tx] c2)
    (hret : ∀ t t' h' tk', Fr h₀ L h' m → News h₀ L h' ([(pa, pao), (so, instObj 562 od), (od, dictOf [⟨PyData.keyHash w.params (Str.ofString "vs"), .str (Str.ofString "vs") wa, .ref vs⟩, ⟨PyData.keyHash w.params (Str.ofString "turn"), .str (Str.ofString "turn") wb, .int 0 wt⟩, ⟨PyData.keyHash w.params (Str.ofString "taken"), .str (Str.ofString "taken") wc, .int 2 t'⟩] 3), (rg, rgo), (fl, flo), (ta, tao), (tb, tbo), (vs, ovs), (v2, ov2), (d2, oD2), (l2, ol2), (v1, ov1), (d1, oD1), (l1, ol1), (v0, ov0), (d0, oD0), (l0, ol0)]) → Q (.str x t) { s with heap := h', toks := tk' }) :
    wpAny (model PySem.Challenge.rw_pq1413_01.row.prog w) (ktrTop dp un gd cn cs L a ccd [] outer) (call (.ref 651) [.ref sp, .ref so]) Q E s := by
  subst hvs hv2 hD2 hl2
  revert X
  k_fill
  intro X
  refine wpAny_call ?_
  k_dflt cell_enter
  k_steps
  all_goals first
    | exact hret _ _ _ _ (by assumption) (News.perm (by assumption) (fun p hp => by
        repeat (first | (cases hp; done) | (rcases List.mem_cons.mp hp with rfl | hp; · k_mem))))
    | (exfalso; omega)
end

local macro_rules | `(tactic| walk_at "call ref") => `(tactic| (k_here; (with_reducible show wpAny _ _ (call (Value.ref 651) _) _ _ _); k_dflt (refine' one_form0 ?k1 ?k2 ?k3 ?k4 ?k5 ?k6 ?kr ?ku ?k9 ?ka ?kb ?kc ?kd ?ke ?kf ?_; walk_at "m:c"; (case k9 => (refine ⟨?_, ?_, ?_, ?_, ?_, ?_, ?_, ?_, ?_, ?_, ?_, ?_, ?_, ?_⟩ <;> omega)); (case ka => (refine ⟨?_, ?_, ?_, ?_, ?_⟩ <;> omega)); (case kc => with_reducible assumption); (case kd => with_reducible assumption); (case ke => with_reducible assumption); (case kf => with_reducible assumption); (case kb => assumption); intros)))
local macro_rules | `(tactic| walk_at "call ref") => `(tactic| (k_here; (with_reducible show wpAny _ _ (call (Value.ref 651) _) _ _ _); k_dflt (refine' one_form1 ?k1 ?k2 ?k3 ?k4 ?k5 ?k6 ?kr ?ku ?k9 ?ka ?kb ?kc ?kd ?ke ?kf ?_; walk_at "m:c"; (case k9 => (refine ⟨?_, ?_, ?_, ?_, ?_, ?_, ?_, ?_, ?_, ?_, ?_, ?_, ?_, ?_⟩ <;> omega)); (case ka => (refine ⟨?_, ?_, ?_, ?_, ?_⟩ <;> omega)); (case kc => with_reducible assumption); (case kd => with_reducible assumption); (case ke => with_reducible assumption); (case kf => with_reducible assumption); (case kb => assumption); intros)))
local macro_rules | `(tactic| walk_at "call ref") => `(tactic| (k_here; (with_reducible show wpAny _ _ (call (Value.ref 573) _) _ _ _); k_dflt (refine' read_spec ?k1 ?k2 ?k3 ?k4 ?k5 ?k6 ?kr ?ku ?k9 ?ka ?kb ?kc ?kd ?_; walk_at "m:c"; (case k9 => omega); (case ka => omega); (case kb => omega); (case kc => with_reducible assumption); (case kd => with_reducible assumption); intro r' x' d' ua' ub' uc' ud' ue' uf' ug' uh' t' h' tk' F' N' l1 l2 l3; (try k_lt l1); (try k_lt2 l2); (try k_lt2 l3))))
local macro_rules | `(tactic| walk_at "WhlIf") => `(tactic| (k_here; first | (refine WhlIf.yes (decide_eq_true (by omega)) ?_) | (refine WhlIf.no (decide_eq_false (by omega)) ?_)))
local macro_rules | `(tactic| walk_at "call ref") => `(tactic| (k_here; (with_reducible show wpAny _ _ (call (Value.ref 131) _) _ _ _); k_dflt (refine' joined4_spec ?k1 ?k2 ?k3 ?k4 ?k5 ?k6 ?kr ?ku ?k7 ?k8 ?k9 ?_ ?_; walk_at "m:c"; (case k7 => first | assumption | omega); (case k8 => first | assumption | omega); (case k9 => first | assumption | omega); walk_at "m:x")))
local macro_rules | `(tactic| walk_at "execs cons") => `(tactic| (k_here; with_reducible refine wpAny_execs_cons ?_))

section
variable {w : World} {loose : List Str} {mean : ExcName → Option Value} {mg mb : Str → Option Value} {dp un : Nat} {gd : Option (List Code)} {cn : Str} {cs : Scope} {a : Addr} {ccd : Value} {outer : List Env} {A₀ : Around} {base h₀ : Heap} {L : Addr} {m : Str → Option Value} {news : List (Addr × Obj)} {s : Shared} {Q E : Value → Shared → Prop}
theorem spr_one {tx ty tf tt tc1 ua1 ub1 uc1 ud1 ue1 tc2 ua2 ub2 uc2 ud2 ue2 : Tok} {x y gap fmt : Str} {vs v0 v1 v2 d0 d1 d2 l0 l1 l2 rg fl ta tb : Addr} {cv c1 c2 : Nat} {rgo flo tao tbo : Obj} {ovs ov2 oD2 ol2 ov1 oD1 ol1 ov0 oD0 ol0 : Obj} {g e1 e2 : Int}
    (B : Below A₀ base outer h₀) (F : Fr h₀ L s.heap m) (X : (K w.params).In h₀) (N : News h₀ L s.heap [(rg, rgo), (fl, flo), (ta, tao), (tb, tbo), (vs, ovs), (v2, ov2), (d2, oD2), (l2, ol2), (v1, ov1), (d1, oD1), (l1, ol1), (v0, ov0), (d0, oD0), (l0, ol0)]) (T : Top q loose mean mg mb h₀) (hk : cs.kind = .function) (hd : dp + 30 < recursionLimit) (hu : un + 320 < cLine) (hx : x.length ≤ 1000000) (hy : y.length ≤ 1000000) (hg : (gap.length : Int) = g) (hg3 : g ≤ 3) (hf : (fmt.length : Int) = g + 4) (he1 : e1 = 0) (he2 : e2 = 2 + g) (F1 : Txt.find3 fmt (Str.ofString "%") 0 = e1) (S1 : Txt.slice fmt (some 0) (some e1) = Str.ofString "") (A1 : Txt.slice fmt (some (e1 + 1)) (some (e1 + 1 + 1)) = Str.ofString "s") (I1 : Txt.item fmt (e1 + 1) = Str.ofString "s") (F2 : Txt.find3 fmt (Str.ofString "%") (e1 + 1 + 1) = e2) (S2 : Txt.slice fmt (some (e1 + 1 + 1)) (some e2) = gap) (A2 : Txt.slice fmt (some (e2 + 1)) (some (e2 + 1 + 1)) = Str.ofString "s") (I2 : Txt.item fmt (e2 + 1) = Str.ofString "s") (hvs : ovs = W.listOf #[.ref v1, .ref v2] cv) (hv1 : ov1 = instObj 78 d1) (hD1 : oD1 = dictOf [⟨PyData.keyHash w.params (Str.ofString "kind"), .str (Str.ofString "kind") ua1, .str (Str.ofString "character") tc1⟩, ⟨PyData.keyHash w.params (Str.ofString "items"), .str (Str.ofString "items") ub1, .ref l1⟩, ⟨PyData.keyHash w.params (Str.ofString "attrs"), .str (Str.ofString "attrs") uc1, .none⟩, ⟨PyData.keyHash w.params (Str.ofString "shared"), .str (Str.ofString "shared") ud1, .bool false⟩, ⟨PyData.keyHash w.params (Str.ofString "loose"), .str (Str.ofString "loose") ue1, .bool false⟩] 5) (hl1 : ol1 = W.listOf #[.str x tx] c1) (hv2 : ov2 = instObj 78 d2) (hD2 : oD2 = dictOf [⟨PyData.keyHash w.params (Str.ofString "kind"), .str (Str.ofString "kind") ua2, .str (Str.ofString "character") tc2⟩, ⟨PyData.keyHash w.params (Str.ofString "items"), .str (Str.ofString "items") ub2, .ref l2⟩, ⟨PyData.keyHash w.params (Str.ofString "attrs"), .str (Str.ofString "attrs") uc2, .none⟩, ⟨PyData.keyHash w.params (Str.ofString "shared"), .str (Str.ofString "shared") ud2, .bool false⟩, ⟨PyData.keyHash w.params (Str.ofString "loose"), .str (Str.ofString "loose") ue2, .bool false⟩] 5) (hl2 : ol2 = W.listOf #[.str y ty] c2)
    (hret : (x.length : Int) + gap.length + y.length ≤ 1000000 → ∀ t h' tk', Fr h₀ L h' m → News h₀ L h' [(rg, rgo), (fl, flo), (ta, tao), (tb, tbo), (vs, ovs), (v2, ov2), (d2, oD2), (l2, ol2), (v1, ov1), (d1, oD1), (l1, ol1), (v0, ov0), (d0, oD0), (l0, ol0)] → Q (.str (x ++ gap ++ y) t) { s with heap := h', toks := tk' })
    (hraise : ∀ n : Int, 1000000 < (x.length : Int) + gap.length + y.length → ∀ g, Fr h₀ L g m → GotRefusal base (envOf cn cs L a ccd :: outer) g n E s) :
    wpAny (model PySem.Challenge.rw_pq1413_01.row.prog w) (ktrTop dp un gd cn cs L a ccd [] outer) (call (.ref 658) [.str fmt tf, .ref vs, .int 0 tt]) Q E s := by
  revert X
  k_fill
  intro X
  refine wpAny_call ?_
  k_dflt cell_enter
  k_steps
  all_goals first
    | exact hret (by omega) _ _ _ (by assumption) (News.perm (by assumption) (fun p hp => by
        repeat (first | (cases hp; done) | (rcases List.mem_cons.mp hp with rfl | hp; · k_mem))))
    | (refine hraise _ ?_ _ (by assumption) _ _ _ _ _ _ _ (by assumption) (by assumption) <;> omega)
    | (exfalso; omega)
end

local macro_rules | `(tactic| walk_at "call ref") => `(tactic| (k_here; (with_reducible show wpAny _ _ (call (Value.ref 658) _) _ _ _); k_dflt (refine' spr_one ?k1 ?k2 ?k3 ?k4 ?k5 ?k6 ?kr ?ku ?m1 ?m2 ?m3 ?m4 ?m5 ?m6 ?m7 ?f1 ?f2 ?f3 ?f4 ?f5 ?f6 ?f7 ?f8 ?g1 ?g2 ?g3 ?g4 ?g5 ?g6 ?g7 ?_ ?_; walk_at "m:c"; (case g1 => exact rfl); (case g2 => exact rfl); (case g3 => exact rfl); (case g4 => exact rfl); (case g5 => exact rfl); (case g6 => exact rfl); (case g7 => exact rfl); (case f1 => with_reducible assumption); (case f2 => with_reducible assumption); (case f3 => with_reducible assumption); (case f4 => with_reducible assumption); (case f5 => with_reducible assumption); (case f6 => with_reducible assumption); (case f7 => with_reducible assumption); (case f8 => with_reducible assumption); (case m1 => assumption); (case m2 => assumption); (case m3 => assumption); (case m4 => assumption); (case m5 => assumption); (case m6 => assumption); (case m7 => assumption); walk_at "m:x")))

section
variable {w : World} {loose : List Str} {mean : ExcName → Option Value} {mg mb : Str → Option Value} {dp un : Nat} {gd : Option (List Code)} {cn : Str} {cs : Scope} {a : Addr} {ccd : Value} {outer : List Env} {A₀ : Around} {base h₀ : Heap} {L : Addr} {m : Str → Option Value} {news : List (Addr × Obj)} {s : Shared} {Q E : Value → Shared → Prop}
theorem spr_spec {tx ty tf tc0 ua0 ub0 uc0 ud0 ue0 tc1 ua1 ub1 uc1 ud1 ue1 tc2 ua2 ub2 uc2 ud2 ue2 : Tok} {x y gap fmt : Str} {vs v0 v1 v2 d0 d1 d2 l0 l1 l2 : Addr} {cv c0 c1 c2 : Nat} {g e1 e2 : Int}
    (B : Below A₀ base outer h₀) (F : Fr h₀ L s.heap m) (X : (K w.params).In h₀) (N : News h₀ L s.heap [(vs, W.listOf #[.ref v1, .ref v2] cv), (v2, instObj 78 d2), (d2, dictOf [⟨PyData.keyHash w.params (Str.ofString "kind"), .str (Str.ofString "kind") ua2, .str (Str.ofString "character") tc2⟩, ⟨PyData.keyHash w.params (Str.ofString "items"), .str (Str.ofString "items") ub2, .ref l2⟩, ⟨PyData.keyHash w.params (Str.ofString "attrs"), .str (Str.ofString "attrs") uc2, .none⟩, ⟨PyData.keyHash w.params (Str.ofString "shared"), .str (Str.ofString "shared") ud2, .bool false⟩, ⟨PyData.keyHash w.params (Str.ofString "loose"), .str (Str.ofString "loose") ue2, .bool false⟩] 5), (l2, W.listOf #[.str y ty] c2), (v1, instObj 78 d1), (d1, dictOf [⟨PyData.keyHash w.params (Str.ofString "kind"), .str (Str.ofString "kind") ua1, .str (Str.ofString "character") tc1⟩, ⟨PyData.keyHash w.params (Str.ofString "items"), .str (Str.ofString "items") ub1, .ref l1⟩, ⟨PyData.keyHash w.params (Str.ofString "attrs"), .str (Str.ofString "attrs") uc1, .none⟩, ⟨PyData.keyHash w.params (Str.ofString "shared"), .str (Str.ofString "shared") ud1, .bool false⟩, ⟨PyData.keyHash w.params (Str.ofString "loose"), .str (Str.ofString "loose") ue1, .bool false⟩] 5), (l1, W.listOf #[.str x tx] c1), (v0, instObj 78 d0), (d0, dictOf [⟨PyData.keyHash w.params (Str.ofString "kind"), .str (Str.ofString "kind") ua0, .str (Str.ofString "character") tc0⟩, ⟨PyData.keyHash w.params (Str.ofString "items"), .str (Str.ofString "items") ub0, .ref l0⟩, ⟨PyData.keyHash w.params (Str.ofString "attrs"), .str (Str.ofString "attrs") uc0, .none⟩, ⟨PyData.keyHash w.params (Str.ofString "shared"), .str (Str.ofString "shared") ud0, .bool false⟩, ⟨PyData.keyHash w.params (Str.ofString "loose"), .str (Str.ofString "loose") ue0, .bool false⟩] 5), (l0, W.listOf #[.str fmt tf] c0)]) (T : Top q loose mean mg mb h₀) (hk : cs.kind = .function) (hd : dp + 36 < recursionLimit) (hu : un + 400 < cLine) (hx : x.length ≤ 1000000) (hy : y.length ≤ 1000000) (hg : (gap.length : Int) = g) (hg3 : g ≤ 3) (hf : (fmt.length : Int) = g + 4) (he1 : e1 = 0) (he2 : e2 = 2 + g) (F1 : Txt.find3 fmt (Str.ofString "%") 0 = e1) (S1 : Txt.slice fmt (some 0) (some e1) = Str.ofString "") (A1 : Txt.slice fmt (some (e1 + 1)) (some (e1 + 1 + 1)) = Str.ofString "s") (I1 : Txt.item fmt (e1 + 1) = Str.ofString "s") (F2 : Txt.find3 fmt (Str.ofString "%") (e1 + 1 + 1) = e2) (S2 : Txt.slice fmt (some (e1 + 1 + 1)) (some e2) = gap) (A2 : Txt.slice fmt (some (e2 + 1)) (some (e2 + 1 + 1)) = Str.ofString "s") (I2 : Txt.item fmt (e2 + 1) = Str.ofString "s")
    (hret : x.length + gap.length + y.length ≤ 1000000 → ∀ r c t h' tk', Fr h₀ L h' m → News h₀ L h' [(r, W.listOf #[.str (x ++ gap ++ y) t] c)] → Q (.ref r) { s with heap := h', toks := tk' })
    (hraise : ∀ n : Int, (1000000 : Int) < x.length + gap.length + y.length → ∀ g, Fr h₀ L g m → GotRefusal base (envOf cn cs L a ccd :: outer) g n E s) :
    wpAny (model PySem.Challenge.rw_pq1413_01.row.prog w) (ktrTop dp un gd cn cs L a ccd [] outer) (call (.ref 665) [.ref v0, .ref vs]) Q E s := by
  revert X
  k_fill
  intro X
  refine wpAny_call ?_
  k_dflt cell_enter
  k_steps
  all_goals first
    | exact hret (by omega) _ _ _ _ _ (by assumption) (News.perm (by assumption) (fun p hp => by cases hp with | head => k_mem | tail _ h => cases h))
    | (refine hraise _ ?_ _ (by assumption) _ _ _ _ _ _ _ (by assumption) (by assumption) <;> omega)
    | (exfalso; omega)
end

def Alt (k c p : Int) : Prop := k ≤ c → (c ≤ k ∧ p = -1) ∨ (k < c ∧ p = 2 * k)
theorem whl_alt {k c p : Int} {T F : Prop} (a : Alt k c p) (kc : k ≤ c) (t : k < c → p = 2 * k → T) (f : c ≤ k → p = -1 → F) (hk : 0 ≤ k := by decide) : WhlIf (decide (p ≥ 0)) T F := by
  rcases a kc with ⟨a, b⟩ | ⟨a, b⟩
  · exact WhlIf.no (decide_eq_false (by omega)) (f a b)
  · exact WhlIf.yes (decide_eq_true (by omega)) (t a b)
local macro_rules | `(tactic| walk_at "call ref") => `(tactic| (k_here; (with_reducible show wpAny _ _ (call (Value.ref 89) _) _ _ _); k_dflt (refine' room_spec ?k1 ?k2 ?k3 ?k4 ?k5 ?k6 ?k7 ?k8 ?kr ?ku ?kn ?_ ?_; walk_at "m:c"; (case k7 => first | omega | exact f50_lo (by omega)); (case k8 => first | omega | exact f50_hi (by omega) (by omega)); (case kn => exact all_nw); walk_at "m:x")))
local macro_rules | `(tactic| walk_at "WhlIf") => `(tactic| (k_here; first | (refine WhlIf.yes (decide_eq_true (by omega)) ?_) | (refine WhlIf.no (decide_eq_false (by omega)) ?_) | (refine whl_alt (by assumption) (by omega) (fun hb hc => ?_) (fun hb hc => ?_))))
section
variable {prog : Program} {w : World} {A : Around} {E : Value → Shared → Prop} {s : Shared} {value slice : PySem.Expr} {x y : Str} {t u : Tok} {i r : Int} {h₀ : Heap} {L : Addr} {m : Str → Option Value} {news : List (Addr × Obj)} {Q : Value → Shared → Prop}
theorem slice_tail {ui : Tok} (hF : Fr h₀ L s.heap m) (hN : News h₀ L s.heap news) (hy : Txt.slice x (some i) none = y) (h : ∀ h' t' k, Fr h₀ L h' m → News h₀ L h' news → Q (.str y t') { s with heap := h', toks := k })
    (hs : subscripted slice false (.str x t) (.ref s.heap.objs.size) = operate [.ref s.heap.objs.size, .str x t] (getItem (.str x t) (.ref s.heap.objs.size)))
    (ht : ∀ r, letTemporaryGo value (.str x t) r = pure ()) (hsz : x.length ≤ 100) :
    wpAny (model prog w) A (subscriptTail value slice (.str x t) (.ref s.heap.objs.size)) Q E { s with heap := s.heap.push { cls := .type "slice", data := .fields #[.int i ui, .none, .none] } } :=
  slice_strN_sn hF hN (fun h' t' k a b => by rw [hy]; exact h h' t' k a b) hs ht (by simp only [sizeLine_eq]; omega)
theorem find2_known (hy : Txt.find x y = r) (h : ∀ t' k, Q (.int r t') { s with toks := k }) : wpAny (model prog w) A (call (.builtin "str.find") [.str x t, .str y u]) Q E s :=
  SC.find (by rw [hy]; exact h _ _)
theorem count_known (hy : (Txt.count x y : Int) = r) (h : ∀ t' k, Q (.int r t') { s with toks := k }) : wpAny (model prog w) A (call (.builtin "str.count") [.str x t, .str y u]) Q E s :=
  SC.count (by rw [hy]; exact h _ _)
end
theorem len0m : (Str.ofString "").length = 0 := by decide +kernel
local macro_rules | `(tactic| walk_at "subscriptTail Name Slice str ref") => `(tactic| (k_here; (with_reducible show wpAny _ _ (subscriptTail _ (Expr.Slice (some _) none none _) (Value.str _ _) (Value.ref _)) _ _ _); (with_reducible rename Fr _ _ _ _ => F'); (with_reducible rename News _ _ _ _ => N'); k_dflt (refine' slice_tail (s := ⟨_, _, _, _, _⟩) F' N' ?k3 ?_ ?k4 ?k5 ?k6; (case k3 => with_reducible assumption); (case k4 => with_unfolding_all rfl); (case k5 => (intro _; with_unfolding_all rfl)); (case k6 => omega); intro _ _ _ _ _)))
local macro_rules | `(tactic| walk_at "call builtin:str.find") => `(tactic| (k_here; (with_reducible show wpAny _ _ (call (Value.builtin "str.find") [Value.str _ _, Value.str _ _]) _ _ _); k_dflt (refine' find2_known ?k1 ?_; (case k1 => with_reducible assumption); intro _ _)))
local macro_rules | `(tactic| walk_at "call builtin:str.count") => `(tactic| (k_here; (with_reducible show wpAny _ _ (call (Value.builtin "str.count") [Value.str _ _, Value.str _ _]) _ _ _); k_dflt (refine' count_known ?k1 ?_; (case k1 => with_reducible assumption); intro _ _)))
local macro_rules | `(tactic| walk_at "call builtin:str.join") => `(tactic| (k_here; (with_reducible show wpAny _ _ (call (Value.builtin "str.join") [Value.str _ _, Value.ref _]) _ _ _); k_dflt (refine' join_list ?k1 ?k2 ?k3 ?_; (case k1 => exact News.isList (by k_asm) (by k_mem)); (case k2 => repeat constructor); (case k3 => (simp only [List.map_cons, List.map_nil, List.sum_cons, List.sum_nil, List.length_cons, List.length_nil, len0m]; omega)); k_whole; intro t' k')))

section
variable {w : World} {loose : List Str} {mean : ExcName → Option Value} {mg mb : Str → Option Value} {dp un : Nat} {gd : Option (List Code)} {cn : Str} {cs : Scope} {a : Addr} {ccd : Value} {outer : List Env} {A₀ : Around} {base h₀ : Heap} {L : Addr} {m : Str → Option Value} {news : List (Addr × Obj)} {s : Shared} {Q E : Value → Shared → Prop}
theorem sub_T {ta tn tt : Tok} {new x y0 y1 y2 y3 y4 r1 r2 r3 r4 r5 : Str} {c p0 p1 p2 p3 p4 p5 : Int}
    (B : Below A₀ base outer h₀) (F : Fr h₀ L s.heap m) (X : (K w.params).In h₀) (N : News h₀ L s.heap news) (T : Top q loose mean mg mb h₀) (hk : cs.kind = .function) (hd : dp + 12 < recursionLimit) (hu : un + 120 < cLine) (hn : new.length ≤ 1000000) (hx : x.length ≤ 100) (hc0 : 0 < c) (hc5 : c ≤ 5) (W0 : p0 = 2 * 0) (hxl : 2 * c ≤ (x.length : Int)) (M1 : 0 ≤ (x.length : Int) + c * ((new.length : Int) - ((2 : Nat) : Int))) (M2 : c * ((new.length : Int) - ((2 : Nat) : Int)) ≤ 5000000) (P0 : Txt.find x (Str.ofString "ab") = p0) (P1 : Txt.find3 x (Str.ofString "ab") (p0 + ((2 : Nat) : Int)) = p1) (P2 : Txt.find3 x (Str.ofString "ab") (p1 + ((2 : Nat) : Int)) = p2) (P3 : Txt.find3 x (Str.ofString "ab") (p2 + ((2 : Nat) : Int)) = p3) (P4 : Txt.find3 x (Str.ofString "ab") (p3 + ((2 : Nat) : Int)) = p4) (P5 : Txt.find3 x (Str.ofString "ab") (p4 + ((2 : Nat) : Int)) = p5) (C : (Txt.count x (Str.ofString "ab") : Int) = c) (V1 : Alt 1 c p1) (V2 : Alt 2 c p2) (V3 : Alt 3 c p3) (V4 : Alt 4 c p4) (V5 : c = 5 → p5 = -1) (S0 : Txt.slice x (some 0) (some p0) = y0) (SL0 : y0.length ≤ 100) (S1 : Txt.slice x (some (p0 + ((2 : Nat) : Int))) (some p1) = y1) (SL1 : y1.length ≤ 100) (S2 : Txt.slice x (some (p1 + ((2 : Nat) : Int))) (some p2) = y2) (SL2 : y2.length ≤ 100) (S3 : Txt.slice x (some (p2 + ((2 : Nat) : Int))) (some p3) = y3) (SL3 : y3.length ≤ 100) (S4 : Txt.slice x (some (p3 + ((2 : Nat) : Int))) (some p4) = y4) (SL4 : y4.length ≤ 100) (Z1 : Txt.slice x (some (p0 + ((2 : Nat) : Int))) none = r1) (ZL1 : r1.length ≤ 100) (Z2 : Txt.slice x (some (p1 + ((2 : Nat) : Int))) none = r2) (ZL2 : r2.length ≤ 100) (Z3 : Txt.slice x (some (p2 + ((2 : Nat) : Int))) none = r3) (ZL3 : r3.length ≤ 100) (Z4 : Txt.slice x (some (p3 + ((2 : Nat) : Int))) none = r4) (ZL4 : r4.length ≤ 100) (Z5 : Txt.slice x (some (p4 + ((2 : Nat) : Int))) none = r5) (ZL5 : r5.length ≤ 100) 
    (hret1 : c = 1 → (x.length : Int) + c * ((new.length : Int) - ((2 : Nat) : Int)) ≤ 1000000 → ∀ t h' tk', Fr h₀ L h' m → News h₀ L h' news → Q (.str (Txt.join (Str.ofString "") [y0, new, r1]) t) { s with heap := h', toks := tk' })
    (hret2 : c = 2 → (x.length : Int) + c * ((new.length : Int) - ((2 : Nat) : Int)) ≤ 1000000 → ∀ t h' tk', Fr h₀ L h' m → News h₀ L h' news → Q (.str (Txt.join (Str.ofString "") [y0, new, y1, new, r2]) t) { s with heap := h', toks := tk' })
    (hret3 : c = 3 → (x.length : Int) + c * ((new.length : Int) - ((2 : Nat) : Int)) ≤ 1000000 → ∀ t h' tk', Fr h₀ L h' m → News h₀ L h' news → Q (.str (Txt.join (Str.ofString "") [y0, new, y1, new, y2, new, r3]) t) { s with heap := h', toks := tk' })
    (hret4 : c = 4 → (x.length : Int) + c * ((new.length : Int) - ((2 : Nat) : Int)) ≤ 1000000 → ∀ t h' tk', Fr h₀ L h' m → News h₀ L h' news → Q (.str (Txt.join (Str.ofString "") [y0, new, y1, new, y2, new, y3, new, r4]) t) { s with heap := h', toks := tk' })
    (hret5 : c = 5 → (x.length : Int) + c * ((new.length : Int) - ((2 : Nat) : Int)) ≤ 1000000 → ∀ t h' tk', Fr h₀ L h' m → News h₀ L h' news → Q (.str (Txt.join (Str.ofString "") [y0, new, y1, new, y2, new, y3, new, y4, new, r5]) t) { s with heap := h', toks := tk' })
    (hraise : ∀ n : Int, n = (x.length : Int) + c * ((new.length : Int) - ((2 : Nat) : Int)) → 1000000 < n → ∀ g, Fr h₀ L g m → GotRefusalN news base (envOf cn cs L a ccd :: outer) g n E s) :
    wpAny (model PySem.Challenge.rw_pq1413_01.row.prog w) (ktrTop dp un gd cn cs L a ccd [] outer) (call (.ref 152) [.str (Str.ofString "ab") ta, .str new tn, .str x tt, .bool true]) Q E s := by
  revert X
  k_fill
  intro X
  refine wpAny_call ?_
  k_dflt cell_enter
  k_steps
  all_goals first
    | exact hret1 (by omega) (by omega) _ _ _ (by assumption) (News.tail' (by assumption))
    | exact hret2 (by omega) (by omega) _ _ _ (by assumption) (News.tail' (by assumption))
    | exact hret3 (by omega) (by omega) _ _ _ (by assumption) (News.tail' (by assumption))
    | exact hret4 (by omega) (by omega) _ _ _ (by assumption) (News.tail' (by assumption))
    | exact hret5 (by omega) (by omega) _ _ _ (by assumption) (News.tail' (by assumption))
    | (refine hraise _ ?_ ?_ _ (by assumption) _ _ _ _ _ _ _ (by assumption) (by assumption) <;> omega)
    | (exfalso; omega)
theorem sub_0_t {ta tn tt : Tok} {new x rest : Str} {p0 : Int}
    (B : Below A₀ base outer h₀) (F : Fr h₀ L s.heap m) (X : (K w.params).In h₀) (N : News h₀ L s.heap news) (T : Top q loose mean mg mb h₀) (hk : cs.kind = .function) (hd : dp + 12 < recursionLimit) (hu : un + 120 < cLine) (hn : new.length ≤ 1000000) (hx : x.length ≤ 100) (hx0 : 0 ≤ (x.length : Int)) (hr : rest.length ≤ 100) (P0 : Txt.find x (Str.ofString "ab") = p0) (V0 : p0 = -1) (Z : Txt.slice x (some 0) none = rest) 
    (hret : ∀ t h' tk', Fr h₀ L h' m → News h₀ L h' news → Q (.str (Txt.join (Str.ofString "") [rest]) t) { s with heap := h', toks := tk' })
     :
    wpAny (model PySem.Challenge.rw_pq1413_01.row.prog w) (ktrTop dp un gd cn cs L a ccd [] outer) (call (.ref 152) [.str (Str.ofString "ab") ta, .str new tn, .str x tt, .bool true]) Q E s := by
  revert X
  k_fill
  intro X
  refine wpAny_call ?_
  k_dflt cell_enter
  k_steps
  all_goals first
    | exact hret  _ _ _ (by assumption) (News.tail' (by assumption))
    | (exfalso; omega)
theorem sub_0_f {ta tn tt : Tok} {new x rest : Str} {p0 : Int}
    (B : Below A₀ base outer h₀) (F : Fr h₀ L s.heap m) (X : (K w.params).In h₀) (N : News h₀ L s.heap news) (T : Top q loose mean mg mb h₀) (hk : cs.kind = .function) (hd : dp + 12 < recursionLimit) (hu : un + 120 < cLine) (hn : new.length ≤ 1000000) (hx : x.length ≤ 100) (hx0 : 0 ≤ (x.length : Int)) (hr : rest.length ≤ 100) (P0 : Txt.find x (Str.ofString "ab") = p0) (V0 : p0 = -1) (Z : Txt.slice x (some 0) none = rest) 
    (hret : ∀ t h' tk', Fr h₀ L h' m → News h₀ L h' news → Q (.str (Txt.join (Str.ofString "") [rest]) t) { s with heap := h', toks := tk' })
     :
    wpAny (model PySem.Challenge.rw_pq1413_01.row.prog w) (ktrTop dp un gd cn cs L a ccd [] outer) (call (.ref 152) [.str (Str.ofString "ab") ta, .str new tn, .str x tt, .bool false]) Q E s := by
  revert X
  k_fill
  intro X
  refine wpAny_call ?_
  k_dflt cell_enter
  k_steps
  all_goals first
    | exact hret  _ _ _ (by assumption) (News.tail' (by assumption))
    | (exfalso; omega)
theorem sub_1_f {ta tn tt : Tok} {new x rest : Str} {p0 : Int}
    (B : Below A₀ base outer h₀) (F : Fr h₀ L s.heap m) (X : (K w.params).In h₀) (N : News h₀ L s.heap news) (T : Top q loose mean mg mb h₀) (hk : cs.kind = .function) (hd : dp + 12 < recursionLimit) (hu : un + 120 < cLine) (hn : new.length ≤ 1000000) (hx : x.length ≤ 100) (hx0 : 2 ≤ (x.length : Int)) (hr : rest.length ≤ 100) (P0 : Txt.find x (Str.ofString "ab") = p0) (V0 : p0 = 2 * 0) (S0 : Txt.slice x (some 0) (some p0) = Str.ofString "") (Z : Txt.slice x (some (p0 + ((2 : Nat) : Int))) none = rest) 
    (hret : (x.length : Int) + 1 * (new.length - 2) ≤ 1000000 → ∀ t h' tk', Fr h₀ L h' m → News h₀ L h' news → Q (.str (Txt.join (Str.ofString "") [Str.ofString "", new, rest]) t) { s with heap := h', toks := tk' })
    (hraise : ∀ n : Int, n = (x.length : Int) + 1 * (new.length - 2) → 1000000 < n → ∀ g, Fr h₀ L g m → GotRefusalN news base (envOf cn cs L a ccd :: outer) g n E s) :
    wpAny (model PySem.Challenge.rw_pq1413_01.row.prog w) (ktrTop dp un gd cn cs L a ccd [] outer) (call (.ref 152) [.str (Str.ofString "ab") ta, .str new tn, .str x tt, .bool false]) Q E s := by
  revert X
  k_fill
  intro X
  refine wpAny_call ?_
  k_dflt cell_enter
  k_steps
  all_goals first
    | exact hret (by omega) _ _ _ (by assumption) (News.tail' (by assumption))
    | (refine hraise _ ?_ ?_ _ (by assumption) _ _ _ _ _ _ _ (by assumption) (by assumption) <;> omega)
    | (exfalso; omega)
end

theorem mul_fold (x : Str) (n : Nat) : Txt.mul x (n : Int) = ⟨(List.replicate n x.cps).foldl (· ++ ·) #[]⟩ := by
  have z : ∀ (k : Nat) (acc : Array Nat), (List.replicate k (#[] : Array Nat)).foldl (· ++ ·) acc = acc := by
    intro k
    induction k with
    | zero => intro acc; rfl
    | succ k ih => intro acc; rw [List.replicate_succ, List.foldl_cons, ih]; simp
  unfold Txt.mul
  split
  · have e : n = 0 := by omega
    subst e; rfl
  · split
    · rename_i h
      rcases x with ⟨x⟩
      simp only [Bool.or_eq_true, beq_iff_eq] at h
      rcases h with h | h
      · have e : n = 1 := by omega
        subst e
        show (⟨x⟩ : Str) = ⟨#[] ++ x⟩
        simp
      · have e : x = #[] := Array.eq_empty_of_size_eq_zero h
        subst e
        rw [z]
    · rfl
theorem jn0 (new rest : Str) : Txt.join (Str.ofString "") [rest] = Txt.mul new 0 ++ Txt.mul (Str.ofString "ab") 0 ++ rest := by
  have e : Str.ofString "" = ⟨#[]⟩ := by decide +kernel
  rw [e, show (0 : Int) = ((0 : Nat) : Int) from rfl, mul_fold, mul_fold]
  rcases new with ⟨x⟩
  rcases rest with ⟨r⟩
  show (⟨r⟩ : Str) = ⟨((#[]) ++ #[]) ++ r⟩
  simp
theorem jn1 (new rest : Str) : Txt.join (Str.ofString "") [Str.ofString "", new, rest] = Txt.mul new 1 ++ Txt.mul (Str.ofString "ab") 0 ++ rest := by
  have e : Str.ofString "" = ⟨#[]⟩ := by decide +kernel
  rw [e, show (1 : Int) = ((1 : Nat) : Int) from rfl, show (0 : Int) = ((0 : Nat) : Int) from rfl, mul_fold, mul_fold]
  rcases new with ⟨x⟩
  rcases rest with ⟨r⟩
  show (⟨#[] ++ #[] ++ x ++ #[] ++ r⟩ : Str) = ⟨((#[] ++ x) ++ #[]) ++ r⟩
  simp
theorem jn2 (new rest : Str) : Txt.join (Str.ofString "") [Str.ofString "", new, Str.ofString "", new, rest] = Txt.mul new 2 ++ Txt.mul (Str.ofString "ab") 0 ++ rest := by
  have e : Str.ofString "" = ⟨#[]⟩ := by decide +kernel
  rw [e, show (2 : Int) = ((2 : Nat) : Int) from rfl, show (0 : Int) = ((0 : Nat) : Int) from rfl, mul_fold, mul_fold]
  rcases new with ⟨x⟩
  rcases rest with ⟨r⟩
  show (⟨#[] ++ #[] ++ x ++ #[] ++ #[] ++ #[] ++ x ++ #[] ++ r⟩ : Str) = ⟨((#[] ++ x ++ x) ++ #[]) ++ r⟩
  simp
theorem jn3 (new rest : Str) : Txt.join (Str.ofString "") [Str.ofString "", new, Str.ofString "", new, Str.ofString "", new, rest] = Txt.mul new 3 ++ Txt.mul (Str.ofString "ab") 0 ++ rest := by
  have e : Str.ofString "" = ⟨#[]⟩ := by decide +kernel
  rw [e, show (3 : Int) = ((3 : Nat) : Int) from rfl, show (0 : Int) = ((0 : Nat) : Int) from rfl, mul_fold, mul_fold]
  rcases new with ⟨x⟩
  rcases rest with ⟨r⟩
  show (⟨#[] ++ #[] ++ x ++ #[] ++ #[] ++ #[] ++ x ++ #[] ++ #[] ++ #[] ++ x ++ #[] ++ r⟩ : Str) = ⟨((#[] ++ x ++ x ++ x) ++ #[]) ++ r⟩
  simp
theorem jn4 (new rest : Str) : Txt.join (Str.ofString "") [Str.ofString "", new, Str.ofString "", new, Str.ofString "", new, Str.ofString "", new, rest] = Txt.mul new 4 ++ Txt.mul (Str.ofString "ab") 0 ++ rest := by
  have e : Str.ofString "" = ⟨#[]⟩ := by decide +kernel
  rw [e, show (4 : Int) = ((4 : Nat) : Int) from rfl, show (0 : Int) = ((0 : Nat) : Int) from rfl, mul_fold, mul_fold]
  rcases new with ⟨x⟩
  rcases rest with ⟨r⟩
  show (⟨#[] ++ #[] ++ x ++ #[] ++ #[] ++ #[] ++ x ++ #[] ++ #[] ++ #[] ++ x ++ #[] ++ #[] ++ #[] ++ x ++ #[] ++ r⟩ : Str) = ⟨((#[] ++ x ++ x ++ x ++ x) ++ #[]) ++ r⟩
  simp
theorem jn5 (new rest : Str) : Txt.join (Str.ofString "") [Str.ofString "", new, Str.ofString "", new, Str.ofString "", new, Str.ofString "", new, Str.ofString "", new, rest] = Txt.mul new 5 ++ Txt.mul (Str.ofString "ab") 0 ++ rest := by
  have e : Str.ofString "" = ⟨#[]⟩ := by decide +kernel
  rw [e, show (5 : Int) = ((5 : Nat) : Int) from rfl, show (0 : Int) = ((0 : Nat) : Int) from rfl, mul_fold, mul_fold]
  rcases new with ⟨x⟩
  rcases rest with ⟨r⟩
  show (⟨#[] ++ #[] ++ x ++ #[] ++ #[] ++ #[] ++ x ++ #[] ++ #[] ++ #[] ++ x ++ #[] ++ #[] ++ #[] ++ x ++ #[] ++ #[] ++ #[] ++ x ++ #[] ++ r⟩ : Str) = ⟨((#[] ++ x ++ x ++ x ++ x ++ x) ++ #[]) ++ r⟩
  simp
theorem jf (new a rest : Str) : Txt.join (Str.ofString "") [Str.ofString "", new, a ++ rest] = Txt.mul new 1 ++ a ++ rest := by
  have e : Str.ofString "" = ⟨#[]⟩ := by decide +kernel
  rw [e, show (1 : Int) = ((1 : Nat) : Int) from rfl, mul_fold]
  rcases new with ⟨x⟩
  rcases a with ⟨a⟩
  rcases rest with ⟨r⟩
  show (⟨#[] ++ #[] ++ x ++ #[] ++ (a ++ r)⟩ : Str) = ⟨((#[] ++ x) ++ a) ++ r⟩
  simp
def abx (c r : Int) : Str := Txt.mul (Str.ofString "ab") c ++ Txt.mul (Str.ofString "c") r
theorem ln : ∀ c : Fin 6, ∀ r : Fin 9, ((abx c.val r.val).length : Int) = 2 * c.val + r.val ∧ ((Txt.mul (Str.ofString "c") r.val).length : Int) = r.val ∧ (Txt.count (abx c.val r.val) (Str.ofString "ab") : Int) = c.val := by decide +kernel
theorem find_0 : ∀ r : Fin 9, Txt.find (abx 0 r.val) (Str.ofString "ab") = -1 := by decide +kernel
theorem find_p : ∀ c : Fin 5, ∀ r : Fin 9, Txt.find (abx (c.val + 1) r.val) (Str.ofString "ab") = 0 := by decide +kernel
theorem fac0 : ∀ r : Fin 9, Txt.slice (abx 0 r.val) (some 0) none = Txt.mul (Str.ofString "c") r.val := by decide +kernel
theorem fac1 : ∀ r : Fin 9, Txt.find3 (abx 1 r.val) (Str.ofString "ab") (2 * 0 + ((2 : Nat) : Int)) = -1 ∧ Txt.slice (abx 1 r.val) (some 0) (some (2 * 0)) = Str.ofString "" ∧ Txt.slice (abx 1 r.val) (some (2 * 0 + ((2 : Nat) : Int))) none = Txt.mul (Str.ofString "c") r.val ∧ Txt.slice (abx 1 r.val) (some (2 * 0 + ((2 : Nat) : Int))) none = Txt.mul (Str.ofString "ab") (1 - 1) ++ Txt.mul (Str.ofString "c") r.val := by decide +kernel
theorem fac2 : ∀ r : Fin 9, Txt.find3 (abx 2 r.val) (Str.ofString "ab") (2 * 0 + ((2 : Nat) : Int)) = 2 * 1 ∧ Txt.find3 (abx 2 r.val) (Str.ofString "ab") (2 * 1 + ((2 : Nat) : Int)) = -1 ∧ Txt.slice (abx 2 r.val) (some 0) (some (2 * 0)) = Str.ofString "" ∧ Txt.slice (abx 2 r.val) (some (2 * 0 + ((2 : Nat) : Int))) (some (2 * 1)) = Str.ofString "" ∧ Txt.slice (abx 2 r.val) (some (2 * 1 + ((2 : Nat) : Int))) none = Txt.mul (Str.ofString "c") r.val ∧ Txt.slice (abx 2 r.val) (some (2 * 0 + ((2 : Nat) : Int))) none = Txt.mul (Str.ofString "ab") (2 - 1) ++ Txt.mul (Str.ofString "c") r.val := by decide +kernel
theorem fac3 : ∀ r : Fin 9, Txt.find3 (abx 3 r.val) (Str.ofString "ab") (2 * 0 + ((2 : Nat) : Int)) = 2 * 1 ∧ Txt.find3 (abx 3 r.val) (Str.ofString "ab") (2 * 1 + ((2 : Nat) : Int)) = 2 * 2 ∧ Txt.find3 (abx 3 r.val) (Str.ofString "ab") (2 * 2 + ((2 : Nat) : Int)) = -1 ∧ Txt.slice (abx 3 r.val) (some 0) (some (2 * 0)) = Str.ofString "" ∧ Txt.slice (abx 3 r.val) (some (2 * 0 + ((2 : Nat) : Int))) (some (2 * 1)) = Str.ofString "" ∧ Txt.slice (abx 3 r.val) (some (2 * 1 + ((2 : Nat) : Int))) (some (2 * 2)) = Str.ofString "" ∧ Txt.slice (abx 3 r.val) (some (2 * 2 + ((2 : Nat) : Int))) none = Txt.mul (Str.ofString "c") r.val ∧ Txt.slice (abx 3 r.val) (some (2 * 0 + ((2 : Nat) : Int))) none = Txt.mul (Str.ofString "ab") (3 - 1) ++ Txt.mul (Str.ofString "c") r.val := by decide +kernel
theorem fac4 : ∀ r : Fin 9, Txt.find3 (abx 4 r.val) (Str.ofString "ab") (2 * 0 + ((2 : Nat) : Int)) = 2 * 1 ∧ Txt.find3 (abx 4 r.val) (Str.ofString "ab") (2 * 1 + ((2 : Nat) : Int)) = 2 * 2 ∧ Txt.find3 (abx 4 r.val) (Str.ofString "ab") (2 * 2 + ((2 : Nat) : Int)) = 2 * 3 ∧ Txt.find3 (abx 4 r.val) (Str.ofString "ab") (2 * 3 + ((2 : Nat) : Int)) = -1 ∧ Txt.slice (abx 4 r.val) (some 0) (some (2 * 0)) = Str.ofString "" ∧ Txt.slice (abx 4 r.val) (some (2 * 0 + ((2 : Nat) : Int))) (some (2 * 1)) = Str.ofString "" ∧ Txt.slice (abx 4 r.val) (some (2 * 1 + ((2 : Nat) : Int))) (some (2 * 2)) = Str.ofString "" ∧ Txt.slice (abx 4 r.val) (some (2 * 2 + ((2 : Nat) : Int))) (some (2 * 3)) = Str.ofString "" ∧ Txt.slice (abx 4 r.val) (some (2 * 3 + ((2 : Nat) : Int))) none = Txt.mul (Str.ofString "c") r.val ∧ Txt.slice (abx 4 r.val) (some (2 * 0 + ((2 : Nat) : Int))) none = Txt.mul (Str.ofString "ab") (4 - 1) ++ Txt.mul (Str.ofString "c") r.val := by decide +kernel
theorem fac5 : ∀ r : Fin 9, Txt.find3 (abx 5 r.val) (Str.ofString "ab") (2 * 0 + ((2 : Nat) : Int)) = 2 * 1 ∧ Txt.find3 (abx 5 r.val) (Str.ofString "ab") (2 * 1 + ((2 : Nat) : Int)) = 2 * 2 ∧ Txt.find3 (abx 5 r.val) (Str.ofString "ab") (2 * 2 + ((2 : Nat) : Int)) = 2 * 3 ∧ Txt.find3 (abx 5 r.val) (Str.ofString "ab") (2 * 3 + ((2 : Nat) : Int)) = 2 * 4 ∧ Txt.find3 (abx 5 r.val) (Str.ofString "ab") (2 * 4 + ((2 : Nat) : Int)) = -1 ∧ Txt.slice (abx 5 r.val) (some 0) (some (2 * 0)) = Str.ofString "" ∧ Txt.slice (abx 5 r.val) (some (2 * 0 + ((2 : Nat) : Int))) (some (2 * 1)) = Str.ofString "" ∧ Txt.slice (abx 5 r.val) (some (2 * 1 + ((2 : Nat) : Int))) (some (2 * 2)) = Str.ofString "" ∧ Txt.slice (abx 5 r.val) (some (2 * 2 + ((2 : Nat) : Int))) (some (2 * 3)) = Str.ofString "" ∧ Txt.slice (abx 5 r.val) (some (2 * 3 + ((2 : Nat) : Int))) (some (2 * 4)) = Str.ofString "" ∧ Txt.slice (abx 5 r.val) (some (2 * 4 + ((2 : Nat) : Int))) none = Txt.mul (Str.ofString "c") r.val ∧ Txt.slice (abx 5 r.val) (some (2 * 0 + ((2 : Nat) : Int))) none = Txt.mul (Str.ofString "ab") (5 - 1) ++ Txt.mul (Str.ofString "c") r.val := by decide +kernel
theorem six_or {c : Int} (h0 : 0 ≤ c) (h6 : c < 6) : c = 0 ∨ c = 1 ∨ c = 2 ∨ c = 3 ∨ c = 4 ∨ c = 5 := by omega
theorem abl : ∀ c : Fin 5, ((Txt.mul (Str.ofString "ab") (c.val : Int)).length : Int) = 2 * c.val := by decide +kernel
theorem fat1 : ∀ r : Fin 9, Txt.find3 (abx 1 r.val) (Str.ofString "ab") ((2 * 0) + ((2 : Nat) : Int)) = (-1) ∧ Txt.find3 (abx 1 r.val) (Str.ofString "ab") ((-1) + ((2 : Nat) : Int)) = (-1) ∧ Txt.find3 (abx 1 r.val) (Str.ofString "ab") ((-1) + ((2 : Nat) : Int)) = (-1) ∧ Txt.find3 (abx 1 r.val) (Str.ofString "ab") ((-1) + ((2 : Nat) : Int)) = (-1) ∧ Txt.find3 (abx 1 r.val) (Str.ofString "ab") ((-1) + ((2 : Nat) : Int)) = (-1) ∧ Txt.slice (abx 1 r.val) (some 0) (some (2 * 0)) = Str.ofString "" ∧ (Txt.slice (abx 1 r.val) (some ((2 * 0) + ((2 : Nat) : Int))) (some (-1))).length ≤ 100 ∧ (Txt.slice (abx 1 r.val) (some ((-1) + ((2 : Nat) : Int))) (some (-1))).length ≤ 100 ∧ (Txt.slice (abx 1 r.val) (some ((-1) + ((2 : Nat) : Int))) (some (-1))).length ≤ 100 ∧ (Txt.slice (abx 1 r.val) (some ((-1) + ((2 : Nat) : Int))) (some (-1))).length ≤ 100 ∧ Txt.slice (abx 1 r.val) (some ((2 * 0) + ((2 : Nat) : Int))) none = Txt.mul (Str.ofString "c") r.val ∧ (Txt.slice (abx 1 r.val) (some ((-1) + ((2 : Nat) : Int))) none).length ≤ 100 ∧ (Txt.slice (abx 1 r.val) (some ((-1) + ((2 : Nat) : Int))) none).length ≤ 100 ∧ (Txt.slice (abx 1 r.val) (some ((-1) + ((2 : Nat) : Int))) none).length ≤ 100 ∧ (Txt.slice (abx 1 r.val) (some ((-1) + ((2 : Nat) : Int))) none).length ≤ 100 := by decide +kernel
theorem fat2 : ∀ r : Fin 9, Txt.find3 (abx 2 r.val) (Str.ofString "ab") ((2 * 0) + ((2 : Nat) : Int)) = (2 * 1) ∧ Txt.find3 (abx 2 r.val) (Str.ofString "ab") ((2 * 1) + ((2 : Nat) : Int)) = (-1) ∧ Txt.find3 (abx 2 r.val) (Str.ofString "ab") ((-1) + ((2 : Nat) : Int)) = (2) ∧ Txt.find3 (abx 2 r.val) (Str.ofString "ab") ((2) + ((2 : Nat) : Int)) = (-1) ∧ Txt.find3 (abx 2 r.val) (Str.ofString "ab") ((-1) + ((2 : Nat) : Int)) = (2) ∧ Txt.slice (abx 2 r.val) (some 0) (some (2 * 0)) = Str.ofString "" ∧ Txt.slice (abx 2 r.val) (some ((2 * 0) + ((2 : Nat) : Int))) (some (2 * 1)) = Str.ofString "" ∧ (Txt.slice (abx 2 r.val) (some ((2 * 1) + ((2 : Nat) : Int))) (some (-1))).length ≤ 100 ∧ (Txt.slice (abx 2 r.val) (some ((-1) + ((2 : Nat) : Int))) (some (2))).length ≤ 100 ∧ (Txt.slice (abx 2 r.val) (some ((2) + ((2 : Nat) : Int))) (some (-1))).length ≤ 100 ∧ (Txt.slice (abx 2 r.val) (some ((2 * 0) + ((2 : Nat) : Int))) none).length ≤ 100 ∧ Txt.slice (abx 2 r.val) (some ((2 * 1) + ((2 : Nat) : Int))) none = Txt.mul (Str.ofString "c") r.val ∧ (Txt.slice (abx 2 r.val) (some ((-1) + ((2 : Nat) : Int))) none).length ≤ 100 ∧ (Txt.slice (abx 2 r.val) (some ((2) + ((2 : Nat) : Int))) none).length ≤ 100 ∧ (Txt.slice (abx 2 r.val) (some ((-1) + ((2 : Nat) : Int))) none).length ≤ 100 := by decide +kernel
theorem fat3 : ∀ r : Fin 9, Txt.find3 (abx 3 r.val) (Str.ofString "ab") ((2 * 0) + ((2 : Nat) : Int)) = (2 * 1) ∧ Txt.find3 (abx 3 r.val) (Str.ofString "ab") ((2 * 1) + ((2 : Nat) : Int)) = (2 * 2) ∧ Txt.find3 (abx 3 r.val) (Str.ofString "ab") ((2 * 2) + ((2 : Nat) : Int)) = (-1) ∧ Txt.find3 (abx 3 r.val) (Str.ofString "ab") ((-1) + ((2 : Nat) : Int)) = (2) ∧ Txt.find3 (abx 3 r.val) (Str.ofString "ab") ((2) + ((2 : Nat) : Int)) = (4) ∧ Txt.slice (abx 3 r.val) (some 0) (some (2 * 0)) = Str.ofString "" ∧ Txt.slice (abx 3 r.val) (some ((2 * 0) + ((2 : Nat) : Int))) (some (2 * 1)) = Str.ofString "" ∧ Txt.slice (abx 3 r.val) (some ((2 * 1) + ((2 : Nat) : Int))) (some (2 * 2)) = Str.ofString "" ∧ (Txt.slice (abx 3 r.val) (some ((2 * 2) + ((2 : Nat) : Int))) (some (-1))).length ≤ 100 ∧ (Txt.slice (abx 3 r.val) (some ((-1) + ((2 : Nat) : Int))) (some (2))).length ≤ 100 ∧ (Txt.slice (abx 3 r.val) (some ((2 * 0) + ((2 : Nat) : Int))) none).length ≤ 100 ∧ (Txt.slice (abx 3 r.val) (some ((2 * 1) + ((2 : Nat) : Int))) none).length ≤ 100 ∧ Txt.slice (abx 3 r.val) (some ((2 * 2) + ((2 : Nat) : Int))) none = Txt.mul (Str.ofString "c") r.val ∧ (Txt.slice (abx 3 r.val) (some ((-1) + ((2 : Nat) : Int))) none).length ≤ 100 ∧ (Txt.slice (abx 3 r.val) (some ((2) + ((2 : Nat) : Int))) none).length ≤ 100 := by decide +kernel
theorem fat4 : ∀ r : Fin 9, Txt.find3 (abx 4 r.val) (Str.ofString "ab") ((2 * 0) + ((2 : Nat) : Int)) = (2 * 1) ∧ Txt.find3 (abx 4 r.val) (Str.ofString "ab") ((2 * 1) + ((2 : Nat) : Int)) = (2 * 2) ∧ Txt.find3 (abx 4 r.val) (Str.ofString "ab") ((2 * 2) + ((2 : Nat) : Int)) = (2 * 3) ∧ Txt.find3 (abx 4 r.val) (Str.ofString "ab") ((2 * 3) + ((2 : Nat) : Int)) = (-1) ∧ Txt.find3 (abx 4 r.val) (Str.ofString "ab") ((-1) + ((2 : Nat) : Int)) = (2) ∧ Txt.slice (abx 4 r.val) (some 0) (some (2 * 0)) = Str.ofString "" ∧ Txt.slice (abx 4 r.val) (some ((2 * 0) + ((2 : Nat) : Int))) (some (2 * 1)) = Str.ofString "" ∧ Txt.slice (abx 4 r.val) (some ((2 * 1) + ((2 : Nat) : Int))) (some (2 * 2)) = Str.ofString "" ∧ Txt.slice (abx 4 r.val) (some ((2 * 2) + ((2 : Nat) : Int))) (some (2 * 3)) = Str.ofString "" ∧ (Txt.slice (abx 4 r.val) (some ((2 * 3) + ((2 : Nat) : Int))) (some (-1))).length ≤ 100 ∧ (Txt.slice (abx 4 r.val) (some ((2 * 0) + ((2 : Nat) : Int))) none).length ≤ 100 ∧ (Txt.slice (abx 4 r.val) (some ((2 * 1) + ((2 : Nat) : Int))) none).length ≤ 100 ∧ (Txt.slice (abx 4 r.val) (some ((2 * 2) + ((2 : Nat) : Int))) none).length ≤ 100 ∧ Txt.slice (abx 4 r.val) (some ((2 * 3) + ((2 : Nat) : Int))) none = Txt.mul (Str.ofString "c") r.val ∧ (Txt.slice (abx 4 r.val) (some ((-1) + ((2 : Nat) : Int))) none).length ≤ 100 := by decide +kernel
theorem fat5 : ∀ r : Fin 9, Txt.find3 (abx 5 r.val) (Str.ofString "ab") ((2 * 0) + ((2 : Nat) : Int)) = (2 * 1) ∧ Txt.find3 (abx 5 r.val) (Str.ofString "ab") ((2 * 1) + ((2 : Nat) : Int)) = (2 * 2) ∧ Txt.find3 (abx 5 r.val) (Str.ofString "ab") ((2 * 2) + ((2 : Nat) : Int)) = (2 * 3) ∧ Txt.find3 (abx 5 r.val) (Str.ofString "ab") ((2 * 3) + ((2 : Nat) : Int)) = (2 * 4) ∧ Txt.find3 (abx 5 r.val) (Str.ofString "ab") ((2 * 4) + ((2 : Nat) : Int)) = (-1) ∧ Txt.slice (abx 5 r.val) (some 0) (some (2 * 0)) = Str.ofString "" ∧ Txt.slice (abx 5 r.val) (some ((2 * 0) + ((2 : Nat) : Int))) (some (2 * 1)) = Str.ofString "" ∧ Txt.slice (abx 5 r.val) (some ((2 * 1) + ((2 : Nat) : Int))) (some (2 * 2)) = Str.ofString "" ∧ Txt.slice (abx 5 r.val) (some ((2 * 2) + ((2 : Nat) : Int))) (some (2 * 3)) = Str.ofString "" ∧ Txt.slice (abx 5 r.val) (some ((2 * 3) + ((2 : Nat) : Int))) (some (2 * 4)) = Str.ofString "" ∧ (Txt.slice (abx 5 r.val) (some ((2 * 0) + ((2 : Nat) : Int))) none).length ≤ 100 ∧ (Txt.slice (abx 5 r.val) (some ((2 * 1) + ((2 : Nat) : Int))) none).length ≤ 100 ∧ (Txt.slice (abx 5 r.val) (some ((2 * 2) + ((2 : Nat) : Int))) none).length ≤ 100 ∧ (Txt.slice (abx 5 r.val) (some ((2 * 3) + ((2 : Nat) : Int))) none).length ≤ 100 ∧ Txt.slice (abx 5 r.val) (some ((2 * 4) + ((2 : Nat) : Int))) none = Txt.mul (Str.ofString "c") r.val := by decide +kernel
theorem e100 : (Str.ofString "").length ≤ 100 := by decide +kernel

section
variable {w : World} {loose : List Str} {mean : ExcName → Option Value} {mg mb : Str → Option Value} {dp un : Nat} {gd : Option (List Code)} {cn : Str} {cs : Scope} {a : Addr} {ccd : Value} {outer : List Env} {A₀ : Around} {base h₀ : Heap} {L : Addr} {m : Str → Option Value} {news : List (Addr × Obj)} {s : Shared} {Q E : Value → Shared → Prop}
theorem sub_t {ta tn tt : Tok} {new ab rest : Str} {c r : Int}
    (B : Below A₀ base outer h₀) (F : Fr h₀ L s.heap m) (X : (K w.params).In h₀) (N : News h₀ L s.heap news) (T : Top q loose mean mg mb h₀) (hk : cs.kind = .function) (hd : dp + 12 < recursionLimit) (hu : un + 120 < cLine) (hn : new.length ≤ 1000000) (hab : ab = Txt.mul (Str.ofString "ab") c) (hre : rest = Txt.mul (Str.ofString "c") r) (hc0 : 0 ≤ c) (hc6 : c < 6) (hr0 : 0 ≤ r) (hr9 : r < 9) 
    (hret : c * (new.length : Int) + 2 * (c - c) + rest.length ≤ 1000000 → ∀ R t h' tk', R = Txt.mul new c ++ Txt.mul (Str.ofString "ab") (c - c) ++ rest → Fr h₀ L h' m → News h₀ L h' news → Q (.str R t) { s with heap := h', toks := tk' })
    (hraise : ∀ N : Int, N = c * (new.length : Int) + 2 * (c - c) + rest.length → 1000000 < N → ∀ g, Fr h₀ L g m → GotRefusalN news base (envOf cn cs L a ccd :: outer) g N E s) :
    wpAny (model PySem.Challenge.rw_pq1413_01.row.prog w) (ktrTop dp un gd cn cs L a ccd [] outer) (call (.ref 152) [.str (Str.ofString "ab") ta, .str new tn, .str (ab ++ rest) tt, .bool true]) Q E s := by
  subst hab hre
  obtain ⟨k, rfl⟩ : ∃ k : Fin 9, r = k.val := ⟨⟨r.toNat, by omega⟩, by simp; omega⟩
  have hc := six_or hc0 hc6
  rcases hc with rfl | rfl | rfl | rfl | rfl | rfl
  · have l : ((abx 0 (k.val : Int)).length : Int) = 2 * 0 + (k.val : Int) ∧ ((Txt.mul (Str.ofString "c") (k.val : Int)).length : Int) = (k.val : Int) ∧ (Txt.count (abx 0 (k.val : Int)) (Str.ofString "ab") : Int) = 0 := ln ⟨0, by decide⟩ k
    obtain ⟨l1, l2, l3⟩ := l
    have b := k.isLt
    obtain q0 := fac0 k
    have hx : (abx 0 k.val).length ≤ 100 := by omega
    have hx0 : (0 : Int) ≤ ((abx 0 k.val).length : Int) := by omega
    have hr : (Txt.mul (Str.ofString "c") (k.val : Int)).length ≤ 100 := by omega
    have fp : Txt.find (abx 0 (k.val : Int)) (Str.ofString "ab") = -1 := find_0 k
    exact sub_0_t (x := abx 0 (k.val : Int)) (p0 := (-1)) B F X N T hk hd hu hn hx hx0 hr fp rfl q0 (fun t h' tk' F' N' => hret (by omega) _ t h' tk' (jn0 _ _) F' N')
  · have l : ((abx 1 (k.val : Int)).length : Int) = 2 * 1 + (k.val : Int) ∧ ((Txt.mul (Str.ofString "c") (k.val : Int)).length : Int) = (k.val : Int) ∧ (Txt.count (abx 1 (k.val : Int)) (Str.ofString "ab") : Int) = 1 := ln ⟨1, by decide⟩ k
    obtain ⟨l1, l2, l3⟩ := l
    have b := k.isLt
    have hx : (abx 1 k.val).length ≤ 100 := by omega
    have hr : (Txt.mul (Str.ofString "c") (k.val : Int)).length ≤ 100 := by omega
    have fp : Txt.find (abx 1 (k.val : Int)) (Str.ofString "ab") = 2 * 0 := find_p ⟨0, by decide⟩ k
    obtain ⟨P1, P2, P3, P4, P5, S0, SL1, SL2, SL3, SL4, Z1, ZL2, ZL3, ZL4, ZL5⟩ := fat1 k
    exact sub_T (x := abx 1 (k.val : Int)) (c := 1) (p0 := 2 * 0) (p1 := -1) (p2 := -1) (p3 := -1) (p4 := -1) (p5 := -1) B F X N T hk hd hu hn hx (by decide) (by decide) rfl (by omega) (by omega) (by omega) fp P1 P2 P3 P4 P5 l3 (fun _ => by decide) (fun h => absurd h (by decide)) (fun h => absurd h (by decide)) (fun h => absurd h (by decide)) (fun h => absurd h (by decide)) S0 e100 rfl SL1 rfl SL2 rfl SL3 rfl SL4 Z1 hr rfl ZL2 rfl ZL3 rfl ZL4 rfl ZL5 (fun hc hle t h' tk' F' N' => hret (by omega) _ t h' tk' (jn1 _ _) F' N') (fun hc => absurd hc (by decide)) (fun hc => absurd hc (by decide)) (fun hc => absurd hc (by decide)) (fun hc => absurd hc (by decide)) (fun n' hn' hgt => hraise n' (by omega) hgt)
  · have l : ((abx 2 (k.val : Int)).length : Int) = 2 * 2 + (k.val : Int) ∧ ((Txt.mul (Str.ofString "c") (k.val : Int)).length : Int) = (k.val : Int) ∧ (Txt.count (abx 2 (k.val : Int)) (Str.ofString "ab") : Int) = 2 := ln ⟨2, by decide⟩ k
    obtain ⟨l1, l2, l3⟩ := l
    have b := k.isLt
    have hx : (abx 2 k.val).length ≤ 100 := by omega
    have hr : (Txt.mul (Str.ofString "c") (k.val : Int)).length ≤ 100 := by omega
    have fp : Txt.find (abx 2 (k.val : Int)) (Str.ofString "ab") = 2 * 0 := find_p ⟨1, by decide⟩ k
    obtain ⟨P1, P2, P3, P4, P5, S0, S1, SL2, SL3, SL4, ZL1, Z2, ZL3, ZL4, ZL5⟩ := fat2 k
    exact sub_T (x := abx 2 (k.val : Int)) (c := 2) (p0 := 2 * 0) (p1 := 2 * 1) (p2 := -1) (p3 := 2) (p4 := -1) (p5 := 2) B F X N T hk hd hu hn hx (by decide) (by decide) rfl (by omega) (by omega) (by omega) fp P1 P2 P3 P4 P5 l3 (fun _ => by decide) (fun _ => by decide) (fun h => absurd h (by decide)) (fun h => absurd h (by decide)) (fun h => absurd h (by decide)) S0 e100 S1 e100 rfl SL2 rfl SL3 rfl SL4 rfl ZL1 Z2 hr rfl ZL3 rfl ZL4 rfl ZL5 (fun hc => absurd hc (by decide)) (fun hc hle t h' tk' F' N' => hret (by omega) _ t h' tk' (jn2 _ _) F' N') (fun hc => absurd hc (by decide)) (fun hc => absurd hc (by decide)) (fun hc => absurd hc (by decide)) (fun n' hn' hgt => hraise n' (by omega) hgt)
  · have l : ((abx 3 (k.val : Int)).length : Int) = 2 * 3 + (k.val : Int) ∧ ((Txt.mul (Str.ofString "c") (k.val : Int)).length : Int) = (k.val : Int) ∧ (Txt.count (abx 3 (k.val : Int)) (Str.ofString "ab") : Int) = 3 := ln ⟨3, by decide⟩ k
    obtain ⟨l1, l2, l3⟩ := l
    have b := k.isLt
    have hx : (abx 3 k.val).length ≤ 100 := by omega
    have hr : (Txt.mul (Str.ofString "c") (k.val : Int)).length ≤ 100 := by omega
    have fp : Txt.find (abx 3 (k.val : Int)) (Str.ofString "ab") = 2 * 0 := find_p ⟨2, by decide⟩ k
    obtain ⟨P1, P2, P3, P4, P5, S0, S1, S2, SL3, SL4, ZL1, ZL2, Z3, ZL4, ZL5⟩ := fat3 k
    exact sub_T (x := abx 3 (k.val : Int)) (c := 3) (p0 := 2 * 0) (p1 := 2 * 1) (p2 := 2 * 2) (p3 := -1) (p4 := 2) (p5 := 4) B F X N T hk hd hu hn hx (by decide) (by decide) rfl (by omega) (by omega) (by omega) fp P1 P2 P3 P4 P5 l3 (fun _ => by decide) (fun _ => by decide) (fun _ => by decide) (fun h => absurd h (by decide)) (fun h => absurd h (by decide)) S0 e100 S1 e100 S2 e100 rfl SL3 rfl SL4 rfl ZL1 rfl ZL2 Z3 hr rfl ZL4 rfl ZL5 (fun hc => absurd hc (by decide)) (fun hc => absurd hc (by decide)) (fun hc hle t h' tk' F' N' => hret (by omega) _ t h' tk' (jn3 _ _) F' N') (fun hc => absurd hc (by decide)) (fun hc => absurd hc (by decide)) (fun n' hn' hgt => hraise n' (by omega) hgt)
  · have l : ((abx 4 (k.val : Int)).length : Int) = 2 * 4 + (k.val : Int) ∧ ((Txt.mul (Str.ofString "c") (k.val : Int)).length : Int) = (k.val : Int) ∧ (Txt.count (abx 4 (k.val : Int)) (Str.ofString "ab") : Int) = 4 := ln ⟨4, by decide⟩ k
    obtain ⟨l1, l2, l3⟩ := l
    have b := k.isLt
    have hx : (abx 4 k.val).length ≤ 100 := by omega
    have hr : (Txt.mul (Str.ofString "c") (k.val : Int)).length ≤ 100 := by omega
    have fp : Txt.find (abx 4 (k.val : Int)) (Str.ofString "ab") = 2 * 0 := find_p ⟨3, by decide⟩ k
    obtain ⟨P1, P2, P3, P4, P5, S0, S1, S2, S3, SL4, ZL1, ZL2, ZL3, Z4, ZL5⟩ := fat4 k
    exact sub_T (x := abx 4 (k.val : Int)) (c := 4) (p0 := 2 * 0) (p1 := 2 * 1) (p2 := 2 * 2) (p3 := 2 * 3) (p4 := -1) (p5 := 2) B F X N T hk hd hu hn hx (by decide) (by decide) rfl (by omega) (by omega) (by omega) fp P1 P2 P3 P4 P5 l3 (fun _ => by decide) (fun _ => by decide) (fun _ => by decide) (fun _ => by decide) (fun h => absurd h (by decide)) S0 e100 S1 e100 S2 e100 S3 e100 rfl SL4 rfl ZL1 rfl ZL2 rfl ZL3 Z4 hr rfl ZL5 (fun hc => absurd hc (by decide)) (fun hc => absurd hc (by decide)) (fun hc => absurd hc (by decide)) (fun hc hle t h' tk' F' N' => hret (by omega) _ t h' tk' (jn4 _ _) F' N') (fun hc => absurd hc (by decide)) (fun n' hn' hgt => hraise n' (by omega) hgt)
  · have l : ((abx 5 (k.val : Int)).length : Int) = 2 * 5 + (k.val : Int) ∧ ((Txt.mul (Str.ofString "c") (k.val : Int)).length : Int) = (k.val : Int) ∧ (Txt.count (abx 5 (k.val : Int)) (Str.ofString "ab") : Int) = 5 := ln ⟨5, by decide⟩ k
    obtain ⟨l1, l2, l3⟩ := l
    have b := k.isLt
    have hx : (abx 5 k.val).length ≤ 100 := by omega
    have hr : (Txt.mul (Str.ofString "c") (k.val : Int)).length ≤ 100 := by omega
    have fp : Txt.find (abx 5 (k.val : Int)) (Str.ofString "ab") = 2 * 0 := find_p ⟨4, by decide⟩ k
    obtain ⟨P1, P2, P3, P4, P5, S0, S1, S2, S3, S4, ZL1, ZL2, ZL3, ZL4, Z5⟩ := fat5 k
    exact sub_T (x := abx 5 (k.val : Int)) (c := 5) (p0 := 2 * 0) (p1 := 2 * 1) (p2 := 2 * 2) (p3 := 2 * 3) (p4 := 2 * 4) (p5 := -1) B F X N T hk hd hu hn hx (by decide) (by decide) rfl (by omega) (by omega) (by omega) fp P1 P2 P3 P4 P5 l3 (fun _ => by decide) (fun _ => by decide) (fun _ => by decide) (fun _ => by decide) (fun _ => rfl) S0 e100 S1 e100 S2 e100 S3 e100 S4 e100 rfl ZL1 rfl ZL2 rfl ZL3 rfl ZL4 Z5 hr (fun hc => absurd hc (by decide)) (fun hc => absurd hc (by decide)) (fun hc => absurd hc (by decide)) (fun hc => absurd hc (by decide)) (fun hc hle t h' tk' F' N' => hret (by omega) _ t h' tk' (jn5 _ _) F' N') (fun n' hn' hgt => hraise n' (by omega) hgt)
theorem sub_f {ta tn tt : Tok} {new ab rest : Str} {c r n : Int}
    (B : Below A₀ base outer h₀) (F : Fr h₀ L s.heap m) (X : (K w.params).In h₀) (N : News h₀ L s.heap news) (T : Top q loose mean mg mb h₀) (hk : cs.kind = .function) (hd : dp + 12 < recursionLimit) (hu : un + 120 < cLine) (hn : new.length ≤ 1000000) (hab : ab = Txt.mul (Str.ofString "ab") c) (hre : rest = Txt.mul (Str.ofString "c") r) (hc0 : 0 ≤ c) (hc6 : c < 6) (hr0 : 0 ≤ r) (hr9 : r < 9) (h1 : n ≤ c) (h2 : n ≤ 1) (h3 : n = c ∨ n = 1)
    (hret : n * (new.length : Int) + 2 * (c - n) + rest.length ≤ 1000000 → ∀ R t h' tk', R = Txt.mul new n ++ Txt.mul (Str.ofString "ab") (c - n) ++ rest → Fr h₀ L h' m → News h₀ L h' news → Q (.str R t) { s with heap := h', toks := tk' })
    (hraise : ∀ N : Int, N = n * (new.length : Int) + 2 * (c - n) + rest.length → 1000000 < N → ∀ g, Fr h₀ L g m → GotRefusalN news base (envOf cn cs L a ccd :: outer) g N E s) :
    wpAny (model PySem.Challenge.rw_pq1413_01.row.prog w) (ktrTop dp un gd cn cs L a ccd [] outer) (call (.ref 152) [.str (Str.ofString "ab") ta, .str new tn, .str (ab ++ rest) tt, .bool false]) Q E s := by
  subst hab hre
  obtain ⟨k, rfl⟩ : ∃ k : Fin 9, r = k.val := ⟨⟨r.toNat, by omega⟩, by simp; omega⟩
  have hc := six_or hc0 hc6
  rcases hc with rfl | rfl | rfl | rfl | rfl | rfl
  · obtain rfl : n = 0 := by omega
    have l : ((abx 0 (k.val : Int)).length : Int) = 2 * 0 + (k.val : Int) ∧ ((Txt.mul (Str.ofString "c") (k.val : Int)).length : Int) = (k.val : Int) ∧ (Txt.count (abx 0 (k.val : Int)) (Str.ofString "ab") : Int) = 0 := ln ⟨0, by decide⟩ k
    obtain ⟨l1, l2, l3⟩ := l
    have b := k.isLt
    obtain q0 := fac0 k
    have hx : (abx 0 k.val).length ≤ 100 := by omega
    have hx0 : (0 : Int) ≤ ((abx 0 k.val).length : Int) := by omega
    have hr : (Txt.mul (Str.ofString "c") (k.val : Int)).length ≤ 100 := by omega
    have fp : Txt.find (abx 0 (k.val : Int)) (Str.ofString "ab") = -1 := find_0 k
    exact sub_0_f (x := abx 0 (k.val : Int)) (p0 := (-1)) B F X N T hk hd hu hn hx hx0 hr fp rfl q0 (fun t h' tk' F' N' => hret (by omega) _ t h' tk' (jn0 _ _) F' N')
  · obtain rfl : n = 1 := by omega
    have l : ((abx 1 (k.val : Int)).length : Int) = 2 * 1 + (k.val : Int) ∧ ((Txt.mul (Str.ofString "c") (k.val : Int)).length : Int) = (k.val : Int) ∧ (Txt.count (abx 1 (k.val : Int)) (Str.ofString "ab") : Int) = 1 := ln ⟨1, by decide⟩ k
    obtain ⟨l1, l2, l3⟩ := l
    have b := k.isLt
    obtain ⟨q0, q1, q2, q3⟩ := fac1 k
    have hx : (abx 1 k.val).length ≤ 100 := by omega
    have hx0 : (2 : Int) ≤ ((abx 1 k.val).length : Int) := by omega
    have hr : (Txt.mul (Str.ofString "ab") (1 - 1) ++ Txt.mul (Str.ofString "c") (k.val : Int)).length ≤ 100 := by have : ((Txt.mul (Str.ofString "ab") (1 - 1)).length : Int) = 2 * 0 := abl ⟨0, by decide⟩; rw [PySem.Str.length_append]; omega
    have fp : Txt.find (abx 1 (k.val : Int)) (Str.ofString "ab") = 2 * 0 := find_p ⟨0, by decide⟩ k
    exact sub_1_f (x := abx 1 (k.val : Int)) (p0 := (2 * 0)) B F X N T hk hd hu hn hx hx0 hr fp rfl q1 q3 (fun hle t h' tk' F' N' => hret (by omega) _ t h' tk' (jf _ _ _) F' N') (fun n' hn' hgt => hraise n' (by omega) hgt)
  · obtain rfl : n = 1 := by omega
    have l : ((abx 2 (k.val : Int)).length : Int) = 2 * 2 + (k.val : Int) ∧ ((Txt.mul (Str.ofString "c") (k.val : Int)).length : Int) = (k.val : Int) ∧ (Txt.count (abx 2 (k.val : Int)) (Str.ofString "ab") : Int) = 2 := ln ⟨2, by decide⟩ k
    obtain ⟨l1, l2, l3⟩ := l
    have b := k.isLt
    obtain ⟨q0, q1, q2, q3, q4, q5⟩ := fac2 k
    have hx : (abx 2 k.val).length ≤ 100 := by omega
    have hx0 : (2 : Int) ≤ ((abx 2 k.val).length : Int) := by omega
    have hr : (Txt.mul (Str.ofString "ab") (2 - 1) ++ Txt.mul (Str.ofString "c") (k.val : Int)).length ≤ 100 := by have : ((Txt.mul (Str.ofString "ab") (2 - 1)).length : Int) = 2 * 1 := abl ⟨1, by decide⟩; rw [PySem.Str.length_append]; omega
    have fp : Txt.find (abx 2 (k.val : Int)) (Str.ofString "ab") = 2 * 0 := find_p ⟨1, by decide⟩ k
    exact sub_1_f (x := abx 2 (k.val : Int)) (p0 := (2 * 0)) B F X N T hk hd hu hn hx hx0 hr fp rfl q2 q5 (fun hle t h' tk' F' N' => hret (by omega) _ t h' tk' (jf _ _ _) F' N') (fun n' hn' hgt => hraise n' (by omega) hgt)
  · obtain rfl : n = 1 := by omega
    have l : ((abx 3 (k.val : Int)).length : Int) = 2 * 3 + (k.val : Int) ∧ ((Txt.mul (Str.ofString "c") (k.val : Int)).length : Int) = (k.val : Int) ∧ (Txt.count (abx 3 (k.val : Int)) (Str.ofString "ab") : Int) = 3 := ln ⟨3, by decide⟩ k
    obtain ⟨l1, l2, l3⟩ := l
    have b := k.isLt
    obtain ⟨q0, q1, q2, q3, q4, q5, q6, q7⟩ := fac3 k
    have hx : (abx 3 k.val).length ≤ 100 := by omega
    have hx0 : (2 : Int) ≤ ((abx 3 k.val).length : Int) := by omega
    have hr : (Txt.mul (Str.ofString "ab") (3 - 1) ++ Txt.mul (Str.ofString "c") (k.val : Int)).length ≤ 100 := by have : ((Txt.mul (Str.ofString "ab") (3 - 1)).length : Int) = 2 * 2 := abl ⟨2, by decide⟩; rw [PySem.Str.length_append]; omega
    have fp : Txt.find (abx 3 (k.val : Int)) (Str.ofString "ab") = 2 * 0 := find_p ⟨2, by decide⟩ k
    exact sub_1_f (x := abx 3 (k.val : Int)) (p0 := (2 * 0)) B F X N T hk hd hu hn hx hx0 hr fp rfl q3 q7 (fun hle t h' tk' F' N' => hret (by omega) _ t h' tk' (jf _ _ _) F' N') (fun n' hn' hgt => hraise n' (by omega) hgt)
  · obtain rfl : n = 1 := by omega
    have l : ((abx 4 (k.val : Int)).length : Int) = 2 * 4 + (k.val : Int) ∧ ((Txt.mul (Str.ofString "c") (k.val : Int)).length : Int) = (k.val : Int) ∧ (Txt.count (abx 4 (k.val : Int)) (Str.ofString "ab") : Int) = 4 := ln ⟨4, by decide⟩ k
    obtain ⟨l1, l2, l3⟩ := l
    have b := k.isLt
    obtain ⟨q0, q1, q2, q3, q4, q5, q6, q7, q8, q9⟩ := fac4 k
    have hx : (abx 4 k.val).length ≤ 100 := by omega
    have hx0 : (2 : Int) ≤ ((abx 4 k.val).length : Int) := by omega
    have hr : (Txt.mul (Str.ofString "ab") (4 - 1) ++ Txt.mul (Str.ofString "c") (k.val : Int)).length ≤ 100 := by have : ((Txt.mul (Str.ofString "ab") (4 - 1)).length : Int) = 2 * 3 := abl ⟨3, by decide⟩; rw [PySem.Str.length_append]; omega
    have fp : Txt.find (abx 4 (k.val : Int)) (Str.ofString "ab") = 2 * 0 := find_p ⟨3, by decide⟩ k
    exact sub_1_f (x := abx 4 (k.val : Int)) (p0 := (2 * 0)) B F X N T hk hd hu hn hx hx0 hr fp rfl q4 q9 (fun hle t h' tk' F' N' => hret (by omega) _ t h' tk' (jf _ _ _) F' N') (fun n' hn' hgt => hraise n' (by omega) hgt)
  · obtain rfl : n = 1 := by omega
    have l : ((abx 5 (k.val : Int)).length : Int) = 2 * 5 + (k.val : Int) ∧ ((Txt.mul (Str.ofString "c") (k.val : Int)).length : Int) = (k.val : Int) ∧ (Txt.count (abx 5 (k.val : Int)) (Str.ofString "ab") : Int) = 5 := ln ⟨5, by decide⟩ k
    obtain ⟨l1, l2, l3⟩ := l
    have b := k.isLt
    obtain ⟨q0, q1, q2, q3, q4, q5, q6, q7, q8, q9, q10, q11⟩ := fac5 k
    have hx : (abx 5 k.val).length ≤ 100 := by omega
    have hx0 : (2 : Int) ≤ ((abx 5 k.val).length : Int) := by omega
    have hr : (Txt.mul (Str.ofString "ab") (5 - 1) ++ Txt.mul (Str.ofString "c") (k.val : Int)).length ≤ 100 := by have : ((Txt.mul (Str.ofString "ab") (5 - 1)).length : Int) = 2 * 4 := abl ⟨4, by decide⟩; rw [PySem.Str.length_append]; omega
    have fp : Txt.find (abx 5 (k.val : Int)) (Str.ofString "ab") = 2 * 0 := find_p ⟨4, by decide⟩ k
    exact sub_1_f (x := abx 5 (k.val : Int)) (p0 := (2 * 0)) B F X N T hk hd hu hn hx hx0 hr fp rfl q5 q11 (fun hle t h' tk' F' N' => hret (by omega) _ t h' tk' (jf _ _ _) F' N') (fun n' hn' hgt => hraise n' (by omega) hgt)
end

theorem x_one : (Str.ofString "x").length = 1 := by decide +kernel
theorem y_one : (Str.ofString "y").length = 1 := by decide +kernel
theorem g_one : (Str.ofString "-").length = 1 := by decide +kernel
theorem z_one : (Str.ofString "z").length = 1 := by decide +kernel
theorem c_one : (Str.ofString "c").length = 1 := by decide +kernel
theorem ok_fold : ∀ (k : Nat) (a acc : Array Nat), a.all (· < 0x110000) = true → acc.all (· < 0x110000) = true → ((List.replicate k a).foldl (· ++ ·) acc).all (· < 0x110000) = true
  | 0, _, _, _, h => h
  | k + 1, a, acc, ha, h => by
    rw [List.replicate_succ, List.foldl_cons]
    exact ok_fold k a _ ha (by rw [Array.all_append, h, ha]; rfl)
theorem ok_mul {x : Str} (n : Int) (h : PyData.strOk x = true) : PyData.strOk (Txt.mul x n) = true := by
  unfold Txt.mul
  split
  · simp [PyData.strOk, Str.empty]
  · split
    · exact h
    · exact ok_fold _ _ _ h (by simp)
theorem ok_app {x y : Str} (hx : PyData.strOk x = true) (hy : PyData.strOk y = true) : PyData.strOk (x ++ y) = true := by
  show ((x.cps ++ y.cps).all _) = true
  rw [Array.all_append]
  exact Bool.and_eq_true_iff.mpr ⟨hx, hy⟩
theorem shaped1 {x : Str} (h : PyData.strOk x = true) : SeqAt.shaped (.list [.str x]) = true := by simp [SeqAt.shaped, PyData.canLay0, PyData.canLayAll0, PyData.depth, PyData.depthAll, h]
theorem ne_one {prog : Program} {w : World} {A : Around} {E : Value → Shared → Prop} {s : Shared} {h₀ : Heap} {L a b : Addr} {news : List (Addr × Obj)} {x : Str} {t1 t2 : Tok} {c1 c2 : Nat} {Q : Value → Shared → Prop}
    (N : News h₀ L s.heap ((b, listOf #[.str x t2] c2) :: (a, listOf #[.str x t1] c1) :: news)) (ok : PyData.strOk x = true) (hu : A.units + 64 < cLine) (h : Q (.bool false) s) : wpAny (model prog w) A (compareOp .NotEq (.ref a) (.ref b)) Q E s :=
  ne_dataH (reads_list_at (News.get N (.tail _ (.head _))) rfl rfl (.cons (.str _ _) .nil)) (reads_list_at (News.get N (.head _)) rfl rfl (.cons (.str _ _) .nil)) (shaped1 ok) (shaped1 ok) hu (by
    have e : PyData.eqv (.list [.str x]) (.list [.str x]) = true := by simp [PyData.eqv, PyData.eqvAll]
    rw [e]; exact h)
theorem mul_lit {prog : Program} {w : World} {A : Around} {E : Value → Shared → Prop} {s : Shared} {x : Str} {n : Int} {t u : Tok} {Q : Value → Shared → Prop} (h1 : x.length = 1) (h0 : 0 ≤ n) (hn : n ≤ 1000000)
    (ho : PyData.strOk x = true) (h : ∀ y t' k, y = Txt.mul x n → (y.length : Int) = n → PyData.strOk y = true → Q (.str y t') { s with toks := k }) : wpAny (model prog w) A (binaryOp .Mult (.str x t) (.int n u)) Q E s :=
  SB.mul (mulOk_of 16 1048576 (by omega) (by omega) (by omega) (by decide) (by decide)) fun t' k => h _ t' k rfl (by rw [len_mul, h1, if_neg (by simp; omega)]; omega) (ok_mul n ho)
section
variable {w : World} {loose : List Str} {mean : ExcName → Option Value} {mg mb : Str → Option Value} {dp un : Nat} {gd : Option (List Code)} {cn : Str} {cs : Scope} {a : Addr} {ccd : Value} {outer : List Env} {A₀ : Around} {base h₀ : Heap} {L : Addr} {m : Str → Option Value} {news : List (Addr × Obj)} {s : Shared} {Q E : Value → Shared → Prop} {l : Addr} {vs : List Value} {ns : List Int} {i : Int} {tk : Tok}
theorem law_size'
    (B : Below A₀ base outer h₀) (F : Fr h₀ L s.heap m) (X : (K w.params).In h₀) (N : News h₀ L s.heap news) (T : Top q loose mean mg mb h₀) (hk : cs.kind = .function) (hl : base.IsList l vs.toArray) (hi : IntsAre vs ns) (hlen : ns.length < 2 ^ 62) (h0 : 0 ≤ i) (hd : dp + 1 < recursionLimit) (hu : un + 8 < cLine)
    (hret : ∀ n t h' tk', 0 ≤ n → n ≤ 1000000 → Fr h₀ L h' m → News h₀ L h' news → Q (.int n t) { s with heap := h', toks := tk' }) :
    wpAny (model PySem.Challenge.rw_pq1413_01.row.prog w) (ktrTop dp un gd cn cs L a ccd [] outer) (call (.ref 672) [.ref l, .int i tk]) Q E s :=
  law_size B F X N T hk hl hi hlen h0 hd hu fun t h' tk' F N => hret _ t h' tk' (lsz_ok _ _).1 (lsz_ok _ _).2 F N
theorem law_small' {k : Int} {tk2 : Tok}
    (B : Below A₀ base outer h₀) (F : Fr h₀ L s.heap m) (X : (K w.params).In h₀) (N : News h₀ L s.heap news) (T : Top q loose mean mg mb h₀) (hk : cs.kind = .function) (hl : base.IsList l vs.toArray) (hi : IntsAre vs ns) (hlen : ns.length < 2 ^ 62) (h0 : 0 ≤ i) (hk0 : 0 < k) (hd : dp + 1 < recursionLimit) (hu : un + 8 < cLine)
    (hret : ∀ n t h' tk', 0 ≤ n → n < k → Fr h₀ L h' m → News h₀ L h' news → Q (.int n t) { s with heap := h', toks := tk' }) :
    wpAny (model PySem.Challenge.rw_pq1413_01.row.prog w) (ktrTop dp un gd cn cs L a ccd [] outer) (call (.ref 679) [.ref l, .int i tk, .int k tk2]) Q E s :=
  law_small B F X N T hk hl hi hlen h0 hk0 hd hu fun t h' tk' F N => hret _ t h' tk' (lsm_lo _ _ _ hk0) (lsm_hi _ _ _ hk0) F N
end
theorem words_eq {n e : Int} (h : n = e) : words n = Str.ofString "cannot allocate vector of length " ++ Str.ofString (toString e) := by subst h; rfl
theorem ab_two : (Str.ofString "ab").length = 2 := by decide +kernel
section
variable {prog : Program} {w : World} {A : Around} {E : Value → Shared → Prop} {s : Shared} {h₀ : Heap} {L : Addr} {m : Str → Option Value} {news : List (Addr × Obj)} {Q : Value → Shared → Prop}
theorem ne_same {x y : Str} {t u : Tok} (e : x = y) (h : Q (.bool false) s) : wpAny (model prog w) A (compareOp .NotEq (.str x t) (.str y u)) Q E s := PyProof.Rows.ne_str (by subst e; rw [bne_self_eq_false]; exact h)
theorem min_k {a b : Int} {t u : Tok} (hh : A.handled = none) (F : Fr h₀ L s.heap m) (N : News h₀ L s.heap news)
    (h : ∀ n t h' tk, n ≤ a → n ≤ b → (n = a ∨ n = b) → Fr h₀ L h' m → News h₀ L h' news → Q (.int n t) { s with heap := h', toks := tk }) : wpAny (model prog w) A (call (.builtin "min") [.int a t, .int b u]) Q E s :=
  min_two_N hh F N fun h' tk F' N' => h _ _ h' tk (by split <;> omega) (by split <;> omega) (by split <;> simp) F' N'
theorem mul_bd {a b : Int} {t u : Tok} (ha0 : 0 ≤ a) (ha : a ≤ 5) (hb0 : 0 ≤ b) (hb : b ≤ 1000000) (h : ∀ t' k, 0 ≤ a * b → a * b ≤ 5000000 → Q (.int (a * b) t') { s with toks := k }) : wpAny (model prog w) A (binaryOp .Mult (.int a t) (.int b u)) Q E s := by
  refine mul_int (h _ _ (Int.mul_nonneg ha0 hb0) ?_)
  have : a * b ≤ 5 * 1000000 := Int.mul_le_mul ha hb hb0 (by decide)
  omega
theorem mul_ab {x : Str} {n : Int} {t u : Tok} (h1 : x.length = 2) (h0 : 0 ≤ n) (hn : n ≤ 5)
    (h : ∀ y t' k, y = Txt.mul x n → (y.length : Int) = 2 * n → Q (.str y t') { s with toks := k }) : wpAny (model prog w) A (binaryOp .Mult (.str x t) (.int n u)) Q E s :=
  SB.mul (mulOk_of 16 1048576 (by omega) (by omega) (by omega) (by decide) (by decide)) fun t' k => h _ t' k rfl (by rw [len_mul, h1, if_neg (by simp; omega)]; rfl)
theorem mul_new {x : Str} {n : Int} {t u : Tok} (h1 : x.length ≤ 1000000) (h0 : 0 ≤ n) (hn : n ≤ 5)
    (h : ∀ y t' k, y = Txt.mul x n → y.length ≤ 5000000 → Q (.str y t') { s with toks := k }) : wpAny (model prog w) A (binaryOp .Mult (.str x t) (.int n u)) Q E s :=
  SB.mul (mulOk_of 1000000 5 (by omega) (by omega) (by omega) (by decide) (by decide)) fun t' k => h _ t' k rfl (by
    have e := len_mul x n
    rw [if_neg (by simp; omega)] at e
    have : (x.length : Int) * n ≤ 1000000 * 5 := Int.mul_le_mul (by omega) hn h0 (by decide)
    omega)
end
def MapIs (m0 m : Str → Option Value) : Prop := ∀ y, m0 y = m y
def MapOut (m0 m : Str → Option Value) : Prop := ∀ y, y ≠ Str.ofString "told" → y ≠ Str.ofString "refusal" → m0 y = m y
theorem in_fact {m0 m : Str → Option Value} {n : Str} {v : Value} (h : MapIs m0 m) (e : m n = some v) : m0 n = some v := (h n).trans e
theorem in_fact2 {m0 m : Str → Option Value} {n : Str} {v : Value} (h : MapOut m0 m) (h1 : n ≠ Str.ofString "told") (h2 : n ≠ Str.ofString "refusal") (e : m n = some v) : m0 n = some v := (h n h1 h2).trans e
def TryBack (h₀ : Heap) (L : Addr) (m : Str → Option Value) (news : List (Addr × Obj)) (s : Shared) (Q : Flow → Shared → Prop) : Prop := ∀ m' h' tk', Fr h₀ L h' m' → News h₀ L h' news → MapOut m' m → Q .next { s with heap := h', toks := tk' }
def ErrBack (E E' : Value → Shared → Prop) : Prop := ∀ e s, E e s → E' e s
theorem ErrBack.go {E E' : Value → Shared → Prop} {e : Value} {s : Shared} (b : ErrBack E E') (h : E e s) : E' e s := b e s h
def FlowBack (Q Q' : Flow → Shared → Prop) : Prop := ∀ f s, Q f s → Q' f s
theorem FlowBack.go {Q Q' : Flow → Shared → Prop} {f : Flow} {s : Shared} (b : FlowBack Q Q') (h : Q f s) : Q' f s := b f s h
theorem abs_both {M : Model} {A : Around} {t : Sem Flow} {E : Value → Shared → Prop} {Q : Flow → Shared → Prop} {s : Shared} (h : ∀ Q' E', FlowBack Q Q' → wpAny M A t Q' E' s) : wpAny M A t Q E s := h Q E fun _ _ x => x
theorem abs_flow {M : Model} {A : Around} {t : Sem Flow} {E : Value → Shared → Prop} {Q : Flow → Shared → Prop} {s : Shared} (h : ∀ Q', FlowBack Q Q' → wpAny M A t Q' E s) : wpAny M A t Q E s := h Q fun _ _ x => x
theorem abs_err {M : Model} {A : Around} {α : Type} {t : Sem α} {E : Value → Shared → Prop} {Q : α → Shared → Prop} {s : Shared} (h : ∀ E', ErrBack E E' → wpAny M A t Q E' s) : wpAny M A t Q E s := h E fun _ _ x => x
section
variable {M : Model} {A : Around} {E : Value → Shared → Prop} {s : Shared} {h₀ : Heap} {L : Addr} {m : Str → Option Value} {news : List (Addr × Obj)}
theorem try_cut {t : Sem Flow} {Q : Flow → Shared → Prop} (F : Fr h₀ L s.heap m) (N : News h₀ L s.heap news)
    (h : ∀ (Q' : Flow → Shared → Prop) (s0 : Shared) (m0 : Str → Option Value), Fr h₀ L s0.heap m0 → News h₀ L s0.heap news → MapIs m0 m → TryBack h₀ L m0 news s0 Q' → wpAny M A t Q' E s0)
    (k : ∀ m' h' tk', Fr h₀ L h' m' → News h₀ L h' news → MapOut m' m → Q .next { s with heap := h', toks := tk' }) : wpAny M A t Q E s :=
  h Q s m F N (fun _ => rfl) k
theorem TryBack.go {s S : Shared} {Q : Flow → Shared → Prop} {m' : Str → Option Value} {h' : Heap} {tk' : Nat} (b : TryBack h₀ L m news s Q) (F : Fr h₀ L h' m') (N : News h₀ L h' news) (hm : MapOut m' m) (e : S = { s with heap := h', toks := tk' }) : Q .next S := by rw [e]; exact b m' h' tk' F N hm
def DueIs (new rest D : Str) (n c : Int) : Prop := n * new.length < 1500000 → D = Txt.mul new n ++ Txt.mul (Str.ofString "ab") (c - n) ++ rest
def DueBack (h₀ : Heap) (L : Addr) (m : Str → Option Value) (news : List (Addr × Obj)) (s : Shared) (new rest : Str) (n c : Int) (Q : Value → Shared → Prop) : Prop := ∀ D t h' tk', DueIs new rest D n c → Fr h₀ L h' m → News h₀ L h' news → Q (.str D t) { s with heap := h', toks := tk' }
theorem due_cut {t : Sem Value} {Q : Value → Shared → Prop} {new rest : Str} {n c : Int} {t1 t2 t3 t4 : Tok} (F : Fr h₀ L s.heap m) (N : News h₀ L s.heap news) (e1 : m (Str.ofString "new") = some (.str new t1)) (e2 : m (Str.ofString "turns") = some (.int n t2)) (e3 : m (Str.ofString "count") = some (.int c t3)) (e4 : m (Str.ofString "rest") = some (.str rest t4))
    (h : ∀ (Q' : Value → Shared → Prop) (s0 : Shared) (m0 : Str → Option Value), Fr h₀ L s0.heap m0 → News h₀ L s0.heap news → MapIs m0 m → DueBack h₀ L m0 news s0 new rest n c Q' → wpAny M A t Q' E s0)
    (k : ∀ D t h' tk', DueIs new rest D n c → Fr h₀ L h' m → News h₀ L h' news → Q (.str D t) { s with heap := h', toks := tk' }) : wpAny M A t Q E s :=
  h Q s m F N (fun _ => rfl) k
theorem DueBack.go {s S : Shared} {Q : Value → Shared → Prop} {new rest D : Str} {n c : Int} {t : Tok} {h' : Heap} {tk' : Nat} (b : DueBack h₀ L m news s new rest n c Q) (F : Fr h₀ L h' m) (N : News h₀ L h' news) (d : DueIs new rest D n c) (e : S = { s with heap := h', toks := tk' }) : Q (.str D t) S := by rw [e]; exact b D t h' tk' d F N
end
theorem due_yes {new rest y1 y2 : Str} {n c : Int} (h1 : y1 = Txt.mul new n) (h2 : y2 = Txt.mul (Str.ofString "ab") (c - n)) : DueIs new rest (y1 ++ y2 ++ rest) n c := fun _ => by rw [h1, h2]
theorem due_no {new rest D : Str} {n c : Int} (h : ¬ n * new.length < 1500000) : DueIs new rest D n c := fun x => absurd x h
theorem due_cmp {new rest R D : Str} {n c : Int} (h : R = Txt.mul new n ++ Txt.mul (Str.ofString "ab") (c - n) ++ rest) (d : DueIs new rest D n c) (hp : n * new.length < 1500000) : R = D := h.trans (d hp).symm
local macro_rules | `(tactic| walk_at "m:look") => `(tactic| first | with_reducible assumption | exact rfl | ((repeat (refine (if_neg (by decide)).trans ?_)); first | with_reducible assumption | exact (if_pos rfl)))
local macro_rules | `(tactic| walk_at "m:in") => `(tactic| ((try have em' := in_fact (n := Str.ofString "one") (by assumption) (by walk_at "m:look")); (try have em' := in_fact (n := Str.ofString "two") (by assumption) (by walk_at "m:look")); (try have em' := in_fact (n := Str.ofString "gap") (by assumption) (by walk_at "m:look")); (try have em' := in_fact (n := Str.ofString "size") (by assumption) (by walk_at "m:look")); (try have em' := in_fact (n := Str.ofString "new") (by assumption) (by walk_at "m:look")); (try have em' := in_fact (n := Str.ofString "count") (by assumption) (by walk_at "m:look")); (try have em' := in_fact (n := Str.ofString "rest") (by assumption) (by walk_at "m:look")); (try have em' := in_fact (n := Str.ofString "every") (by assumption) (by walk_at "m:look")); (try have em' := in_fact (n := Str.ofString "due") (by assumption) (by walk_at "m:look")); (try have em' := in_fact (n := Str.ofString "turns") (by assumption) (by walk_at "m:look")); (try have em' := in_fact (n := Str.ofString "pattern_here") (by assumption) (by walk_at "m:look"))))
local macro_rules | `(tactic| walk_at "m:out") => `(tactic| ((try have em' := in_fact2 (n := Str.ofString "script") (by assumption) (by decide) (by decide) (by walk_at "m:look")); (try have em' := in_fact2 (n := Str.ofString "one") (by assumption) (by decide) (by decide) (by walk_at "m:look")); (try have em' := in_fact2 (n := Str.ofString "two") (by assumption) (by decide) (by decide) (by walk_at "m:look")); (try have em' := in_fact2 (n := Str.ofString "gap") (by assumption) (by decide) (by decide) (by walk_at "m:look")); (try have em' := in_fact2 (n := Str.ofString "size") (by assumption) (by decide) (by decide) (by walk_at "m:look")); (try have em' := in_fact2 (n := Str.ofString "count") (by assumption) (by decide) (by decide) (by walk_at "m:look")); (try have em' := in_fact2 (n := Str.ofString "new") (by assumption) (by decide) (by decide) (by walk_at "m:look")); (try have em' := in_fact2 (n := Str.ofString "rest") (by assumption) (by decide) (by decide) (by walk_at "m:look")); (try have em' := in_fact2 (n := Str.ofString "pattern_here") (by assumption) (by decide) (by decide) (by walk_at "m:look"))))
local macro_rules | `(tactic| walk_at "eval Name") => `(tactic| (k_here; k_dflt (refine' nameX_L ?F ?v ?_ ?a ?b; (case F => k_asm); (case a => rfl); (case b => rfl); (case v => walk_at "m:look"); k_whole)))

local macro_rules | `(tactic| walk_at "compareOp NotEq str str") => `(tactic| (k_here; (with_reducible show wpAny _ _ (compareOp CmpOp.NotEq (Value.str _ _) (Value.str _ _)) _ _ _); k_dflt (refine' ne_same ?k1 ?_; (case k1 => first | exact words_eq (by omega) | exact due_cmp (by assumption) (by assumption) (by omega)))))
local macro_rules | `(tactic| walk_at "binaryOp Mult int int") => `(tactic| (k_here; (with_reducible show wpAny _ _ (binaryOp _ (Value.int _ _) (Value.int _ _)) _ _ _); k_dflt (refine' mul_bd ?k1 ?k2 ?k3 ?k4 ?_; (case k1 => omega); (case k2 => omega); (case k3 => omega); (case k4 => omega); intro t' k' hm' hm2')))
local macro_rules | `(tactic| walk_at "call builtin:min") => `(tactic| (k_here; (with_reducible show wpAny _ _ (call (Value.builtin "min") [Value.int _ _, Value.int _ _]) _ _ _); k_dflt (refine' min_k ?k1 ?k2 ?k3 ?_; (case k1 => first | rfl | assumption); (case k2 => k_asm); (case k3 => k_asm); intro n' t' h' tk' h1' h2' h3' F' N')))
local macro_rules | `(tactic| walk_at "binaryOp Mult str int") => `(tactic| (k_here; (with_reducible show wpAny _ _ (binaryOp _ (Value.str _ _) (Value.int _ _)) _ _ _); k_dflt (refine' mul_ab ?k1 ?k2 ?k3 ?_; (case k1 => exact ab_two); (case k2 => omega); (case k3 => omega); intro y' t' k' hy' hl')))
local macro_rules | `(tactic| walk_at "binaryOp Mult str int") => `(tactic| (k_here; (with_reducible show wpAny _ _ (binaryOp _ (Value.str _ _) (Value.int _ _)) _ _ _); k_dflt (refine' mul_new ?k1 ?k2 ?k3 ?_; (case k1 => omega); (case k2 => omega); (case k3 => omega); intro y' t' k' hy' hl')))
local macro_rules | `(tactic| walk_at "binaryOp Mult str int") => `(tactic| (k_here; (with_reducible show wpAny _ _ (binaryOp _ (Value.str _ _) (Value.int _ _)) _ _ _); k_dflt (refine' mul_lit ?k1 ?k2 ?k3 ?k4 ?_; (case k4 => decide +kernel); (case k1 => first | exact x_one | exact y_one | exact g_one | exact z_one | exact c_one); (case k2 => omega); (case k3 => omega); intro y' t' k' hy' hl' ho')))
local macro_rules | `(tactic| walk_at "call ref") => `(tactic| (k_here; (with_reducible show wpAny _ _ (call (Value.ref 672) _) _ _ _); k_dflt (refine' law_size' ?k1 ?k2 ?k3 ?k4 ?k5 ?k6 ?k7 ?k8 ?k9 ?ka ?kr ?ku ?_; walk_at "m:c"; (case k7 => assumption); (case k8 => assumption); (case k9 => omega); (case ka => decide); intros)))
local macro_rules | `(tactic| walk_at "call ref") => `(tactic| (k_here; (with_reducible show wpAny _ _ (call (Value.ref 679) _) _ _ _); k_dflt (refine' law_small' ?k1 ?k2 ?k3 ?k4 ?k5 ?k6 ?k7 ?k8 ?k9 ?ka ?kd ?kr ?ku ?_; walk_at "m:c"; (case k7 => assumption); (case k8 => assumption); (case k9 => omega); (case ka => decide); (case kd => decide); intros)))
local macro_rules | `(tactic| walk_at "exec Try") => `(tactic| (k_here; (with_reducible show wpAny _ _ (exec (Stmt.Try _ (_ :: _) _ [] _) (envOf _ _ _ _ _)) _ _ _); (with_reducible rename Fr _ _ _ _ => F'); (with_reducible rename News _ _ _ _ => N'); k_dflt (refine' try_cut F' N' ?_ ?_; (intro Q' s0' m0' F1' N1' hm' hb'; walk_at "m:in"; clear hm'; refine wpAny_Try_except ?_; refine abs_err ?_; intro E' hE'; rotate_left); (intro m' h' tk' F1' N1' hm'; walk_at "m:out"; clear hm'); rotate_right)))
local macro_rules | `(tactic| walk_at "eval IfExp") => `(tactic| (k_here; (with_reducible show wpAny _ _ (eval (Expr.IfExp (Expr.Compare (Expr.BinOp _ _ _ _) _ _ _) _ _ _) (envOf _ _ _ _ _)) _ _ _); (with_reducible rename Fr _ _ _ _ => F'); (with_reducible rename News _ _ _ _ => N'); k_dflt (refine' due_cut F' N' ?e1 ?e2 ?e3 ?e4 ?_ ?_; (case e1 => walk_at "m:look"); (case e2 => walk_at "m:look"); (case e3 => walk_at "m:look"); (case e4 => walk_at "m:look"); (intro Q' s0' m0' F1' N1' hm' hb'; walk_at "m:in"; clear hm'; (first | refine wpAny_IfExp ?_ | skip); rotate_left); (intro D' t' h' tk' hd' F1' N1'); rotate_right)))
local macro_rules | `(tactic| walk_at "call ref") => `(tactic| (k_here; (with_reducible show wpAny _ _ (call (Value.ref 145) [_, _, Value.none]) _ _ _); k_dflt (refine' vec11_spec ?k1 ?k2 ?k3 ?k4 ?k5 ?k6 ?k7 ?k8 ?k9 ?kr ?ku ?_ ?_; walk_at "m:c"; (case k7 => omega); (case k8 => omega); (case k9 => omega); walk_at "m:x")))
theorem inst_R {h₀ h : Heap} {L x d : Addr} {news : List (Addr × Obj)} {oe od : Obj} (N : News h₀ L h news) (h1 : (x, oe) ∈ news) (h2 : (d, od) ∈ news) (hc : oe.cls = .ref 51) (hd : oe.dict = some d) (hn : notCls oe = true) : InstAt h x oe 51 (some od) := ⟨(N _ h1).1, hc, hn, by rw [hd]; exact (N _ h2).1⟩
theorem msg_R {prog : Program} {w : World} {A : Around} {E : Value → Shared → Prop} {s : Shared} {h₀ : Heap} {L x d : Addr} {news : List (Addr × Obj)} {oe : Obj} {hs : Int} {t1 t2 : Tok} {y : Str} {expr : Bool} {Q : Value → Shared → Prop} {P : Params} (N : News h₀ L s.heap ((x, oe) :: (d, dictOf [⟨hs, .str "message" t1, .str y t2⟩] 1) :: news)) (X : (K P).In s.heap) (hc : oe.cls = .ref 51) (hd : oe.dict = some d) (hn : notCls oe = true)
    (h : Q (.str y t2) { s with toks := s.toks + 1 }) : wpAny (model prog w) A (getAttr (.ref x) "message" expr) Q E s :=
  msg_get X (inst_R N (.head _) (.tail _ (.head _)) hc hd hn) find_own h
local macro_rules | `(tactic| walk_at "getAttr ref") => `(tactic| (k_here; (with_reducible show wpAny _ _ (getAttr (Value.ref _) (PySem.Str.ofString "message") _) _ _ _); k_dflt (refine' msg_R ?k1 ?k2 ?k3 ?k4 ?k5 ?_; (case k1 => k_asm); (case k2 => k_in); (case k3 => assumption); (case k4 => assumption); (case k5 => assumption))))
local macro_rules | `(tactic| walk_at "noteFrame ref") => `(tactic| (k_here; (with_reducible show wpAny _ _ (noteFrame _ _) (fun _ s₂ => wpAny _ _ (setFlight _ none) (fun _ s₃ => wpAny _ _ (handleBy _ _ (ExceptHandler.ExceptHandler (some (Expr.Name _ _)) (some _) _ _ :: _)) _ _ s₃) _ s₂) _ _); k_dflt (refine' caught_as (x := Str.ofString "Refusal") ?k1 ?k2 ?k3 ?k4 ?k5 ?k6 (ns_R _) (mro_ok _) ?_; (case k3 => assumption); (case k4 => assumption); (case k1 => assumption); (case k2 => assumption); (case k5 => k_asm); (case k6 => k_asm); intro h' oe' tk' F' N' hc' hd' hn'; refine abs_both ?_; intro Q2' E2' hq2')))
local macro_rules | `(tactic| walk_at "noteFrame ref") => `(tactic| (k_here; (with_reducible show wpAny _ _ (noteFrame _ _) (fun _ s₂ => wpAny _ _ (setFlight _ none) (fun _ s₃ => wpAny _ _ (handleBy _ _ (ExceptHandler.ExceptHandler (some (Expr.Name _ _)) none _ _ :: _)) _ _ s₃) _ s₂) _ _); k_dflt (refine' caught_no (x := Str.ofString "Refusal") ?k1 ?k2 ?k3 ?k4 ?k5 ?k6 (ns_R _) (mro_ok _) ?_; (case k3 => assumption); (case k4 => assumption); (case k1 => assumption); (case k2 => assumption); (case k5 => k_asm); (case k6 => k_asm); intro h' F' N')))
local macro_rules | `(tactic| walk_at "compareOp NotEq ref ref") => `(tactic| (k_here; (with_reducible show wpAny _ _ (compareOp CmpOp.NotEq (Value.ref _) (Value.ref _)) _ _ _); k_dflt (refine' ne_one ?k1 ?k2 ?k3 ?_; (case k1 => k_asm); (case k2 => first | assumption | exact ok_app (ok_app (by assumption) (by assumption)) (by assumption)); (case k3 => units_room))))
local macro_rules | `(tactic| walk_at "exec Try") => `(tactic| (k_here; (with_reducible show wpAny _ _ (exec (Stmt.Try (Stmt.Return _ _ :: _) (_ :: _) _ [] _) (envOf _ _ _ _ _)) _ _ _); refine wpAny_Try_except ?_))
local macro_rules | `(tactic| walk_at "call ref") => `(tactic| (k_here; (with_reducible show wpAny _ _ (call (Value.ref 145) [_, _, Value.str _ _]) _ _ _); k_dflt (refine' vec12_spec ?k1 ?k2 ?k3 ?k4 ?k5 ?k6 ?k7 ?k8 ?k9 ?kr ?ku ?_ ?_; walk_at "m:c"; (case k7 => omega); (case k8 => omega); (case k9 => omega); walk_at "m:x")))
section
variable {w : World} {loose : List Str} {mean : ExcName → Option Value} {mg mb : Str → Option Value} {dp un : Nat} {gd : Option (List Code)} {cn : Str} {cs : Scope} {a : Addr} {ccd : Value} {outer : List Env} {A₀ : Around} {base h₀ : Heap} {L : Addr} {m : Str → Option Value} {news : List (Addr × Obj)} {s : Shared} {Q E : Value → Shared → Prop}
theorem spr_gap {tx ty tf tc0 ua0 ub0 uc0 ud0 ue0 tc1 ua1 ub1 uc1 ud1 ue1 tc2 ua2 ub2 uc2 ud2 ue2 : Tok} {x y gap : Str} {vs v0 v1 v2 d0 d1 d2 l0 l1 l2 : Addr} {cv c0 c1 c2 : Nat} {k : Int}
    (B : Below A₀ base outer h₀) (F : Fr h₀ L s.heap m) (X : (K w.params).In h₀) (N : News h₀ L s.heap [(vs, W.listOf #[.ref v1, .ref v2] cv), (v2, instObj 78 d2), (d2, dictOf [⟨PyData.keyHash w.params (Str.ofString "kind"), .str (Str.ofString "kind") ua2, .str (Str.ofString "character") tc2⟩, ⟨PyData.keyHash w.params (Str.ofString "items"), .str (Str.ofString "items") ub2, .ref l2⟩, ⟨PyData.keyHash w.params (Str.ofString "attrs"), .str (Str.ofString "attrs") uc2, .none⟩, ⟨PyData.keyHash w.params (Str.ofString "shared"), .str (Str.ofString "shared") ud2, .bool false⟩, ⟨PyData.keyHash w.params (Str.ofString "loose"), .str (Str.ofString "loose") ue2, .bool false⟩] 5), (l2, W.listOf #[.str y ty] c2), (v1, instObj 78 d1), (d1, dictOf [⟨PyData.keyHash w.params (Str.ofString "kind"), .str (Str.ofString "kind") ua1, .str (Str.ofString "character") tc1⟩, ⟨PyData.keyHash w.params (Str.ofString "items"), .str (Str.ofString "items") ub1, .ref l1⟩, ⟨PyData.keyHash w.params (Str.ofString "attrs"), .str (Str.ofString "attrs") uc1, .none⟩, ⟨PyData.keyHash w.params (Str.ofString "shared"), .str (Str.ofString "shared") ud1, .bool false⟩, ⟨PyData.keyHash w.params (Str.ofString "loose"), .str (Str.ofString "loose") ue1, .bool false⟩] 5), (l1, W.listOf #[.str x tx] c1), (v0, instObj 78 d0), (d0, dictOf [⟨PyData.keyHash w.params (Str.ofString "kind"), .str (Str.ofString "kind") ua0, .str (Str.ofString "character") tc0⟩, ⟨PyData.keyHash w.params (Str.ofString "items"), .str (Str.ofString "items") ub0, .ref l0⟩, ⟨PyData.keyHash w.params (Str.ofString "attrs"), .str (Str.ofString "attrs") uc0, .none⟩, ⟨PyData.keyHash w.params (Str.ofString "shared"), .str (Str.ofString "shared") ud0, .bool false⟩, ⟨PyData.keyHash w.params (Str.ofString "loose"), .str (Str.ofString "loose") ue0, .bool false⟩] 5), (l0, W.listOf #[.str (Str.ofString "%s" ++ gap ++ Str.ofString "%s") tf] c0)]) (T : Top q loose mean mg mb h₀) (hk : cs.kind = .function) (hd : dp + 36 < recursionLimit) (hu : un + 400 < cLine)  (hx : x.length ≤ 1000000) (hy : y.length ≤ 1000000) (hk0 : 0 ≤ k) (hk4 : k < 4) (hgap : gap = Txt.mul (Str.ofString "-") k)
    (hret : x.length + gap.length + y.length ≤ 1000000 → ∀ r c t h' tk', Fr h₀ L h' m → News h₀ L h' [(r, W.listOf #[.str (x ++ gap ++ y) t] c)] → Q (.ref r) { s with heap := h', toks := tk' })
    (hraise : ∀ n : Int, (1000000 : Int) < x.length + gap.length + y.length → ∀ g, Fr h₀ L g m → GotRefusal base (envOf cn cs L a ccd :: outer) g n E s) :
    wpAny (model PySem.Challenge.rw_pq1413_01.row.prog w) (ktrTop dp un gd cn cs L a ccd [] outer) (call (.ref 665) [.ref v0, .ref vs]) Q E s := by
  subst hgap
  obtain ⟨⟨f1, f2⟩, f3, f4, f5, f6, f7, f8, f9, f10⟩ := fmt_facts k hk0 hk4
  exact spr_spec B F X N T hk hd hu hx hy f1 (by omega) f2 rfl rfl f3 f4 f5 f6 f7 f8 f9 f10 hret hraise
end
local macro_rules | `(tactic| walk_at "call ref") => `(tactic| (k_here; (with_reducible show wpAny _ _ (call (Value.ref 152) _) _ _ _); k_dflt (refine' sub_t ?k1 ?k2 ?k3 ?k4 ?k5 ?k6 ?kr ?ku ?k9 ?ka ?kb ?kc ?kd ?ke ?kf ?_ ?_; walk_at "m:c"; (case k9 => omega); (case ka => assumption); (case kb => assumption); (case kc => omega); (case kd => omega); (case ke => omega); (case kf => omega); walk_at "m:x"; (try (exfalso; omega)))))
local macro_rules | `(tactic| walk_at "call ref") => `(tactic| (k_here; (with_reducible show wpAny _ _ (call (Value.ref 152) _) _ _ _); k_dflt (refine' sub_f ?k1 ?k2 ?k3 ?k4 ?k5 ?k6 ?kr ?ku ?k9 ?ka ?kb ?kc ?kd ?ke ?kf ?kg ?kh ?ki ?_ ?_; walk_at "m:c"; (case k9 => omega); (case ka => assumption); (case kb => assumption); (case kc => omega); (case kd => omega); (case ke => omega); (case kf => omega); (case kg => assumption); (case kh => assumption); (case ki => assumption); walk_at "m:x"; (try (exfalso; omega)))))
local macro_rules | `(tactic| walk_at "call ref") => `(tactic| (k_here; (with_reducible show wpAny _ _ (call (Value.ref 665) _) _ _ _); k_dflt (refine' spr_gap ?k1 ?k2 ?k3 ?k4 ?k5 ?k6 ?k7 ?k8 ?k9 ?ka ?kb ?kc ?kd ?_ ?_; (case k1 => k_asm); (case k2 => k_asm); (case k3 => k_in); (case k4 => (refine News.perm (by k_asm) ?_; (repeat (refine List.forall_mem_cons.mpr ⟨by k_mem, ?_⟩)); exact List.forall_mem_nil _)); (case k5 => k_asm); (case k6 => first | exact rfl | assumption); (case k7 => ktr_room); (case k8 => ktr_units); (case k9 => omega); (case ka => omega); (case kd => assumption); (case kb => assumption); (case kc => assumption); walk_at "m:x")))
local macro_rules | `(tactic| walk_at "call ref") => `(tactic| (k_here; (with_reducible show wpAny _ _ (call (Value.ref 124) _) _ _ _); k_dflt (refine' grown_spec ?k1 ?k2 ?k3 ?k4 ?k5 ?k6 ?k7 ?k8 ?k9 ?kr ?ku ?_ ?_; walk_at "m:c"; (case k7 => omega); (case k8 => omega); (case k9 => omega); walk_at "m:x")))
local macro_rules | `(tactic| k_qdec) => `(tactic| decide +kernel)
theorem lawT : PySem.Challenge.rw_pq1413_01.Holds := by
  refine Mine.hd rfl rfl rfl ?_
  k_go0
  (all_goals try k_fold)
  refine abs_flow ?_
  intro Q0 hQ0
  k_steps
  all_goals try (refine ErrBack.go ‹ErrBack _ _› ?_)
  k_steps
  all_goals try (refine FlowBack.go ‹FlowBack _ _› ?_)
  k_steps
  all_goals first
    | (refine' DueBack.go ‹DueBack _ _ _ _ _ _ _ _ _ _› ?zF ?zN ?zd ?ze; (case ze => exact rfl); (case zF => assumption); (case zN => assumption); (case zd => first | exact due_yes (by assumption) (by assumption) | exact due_no (by assumption)))
    | (refine' TryBack.go ‹TryBack _ _ _ _ _ _› ?zF ?zN ?zm ?ze; (case ze => exact rfl); (case zF => assumption); (case zN => first | assumption | exact News.nil | exact News.tail' (News.tail' (by assumption))); (case zm => (intro y h1 h2; first | exact rfl | exact if_neg h1 | exact (if_neg h2).trans (if_neg h2))))
end Mine
theorem PySem.Challenge.cw_pq1413_01_holds : PySem.Challenge.rw_pq1413_01.Holds := by
  exact Mine.lawT

