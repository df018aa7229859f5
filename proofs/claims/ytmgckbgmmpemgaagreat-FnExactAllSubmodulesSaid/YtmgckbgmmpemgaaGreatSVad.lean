/- x -/
import Derived.Test.YtmgckbgmmpemgaaGreatSWT
open Go.Proofs.Tryz renaming prog→J0
open Option renaming some→VU,none→VV
open Bool renaming true→VW,false→VX
namespace Go.Wk
open Go Go.Proofs Go.Ab
set_option maxRecDepth 100000
set_option maxHeartbeats 4000000
section
attribute [local irreducible] RW CW DK OkL Ok yM yJ wN vO XS.post rng yQ vN ixO yG xC wV yW zI GTo zN FnC FnK vT uL Kp Lk BsL BuL RpL Bk Lc
instance(b:List Int):LH (R:=Int) (zKE b) [0] [] (fun a=>[(3,I a.1),(4,I a.2)]) (.xe 0 [0] fun c=>[(3,I c)]):=⟨⟩
instance t_at:FI J0 92 (∀(a:List Int),FnK J0 92 [T.ro (lV a)] (fun r=>[I r]) (fun _=>[]) (zRV a)):=⟨Tryz.call92,fun a=>iM Tryz.func92⟩
instance t_ag:FI J0 64 (∀(a b c:Int),FnK J0 64 [I a,I b,I c] (fun r=>[B r]) (fun _=>[]) (zHq a b c)):=⟨Tryz.call64,fun a b c=>iM Tryz.func64⟩
instance t_S:FI J0 105 (∀(a:List Int),FnK J0 105 [T.ro (lV a)] (fun r=>[lV r]) (fun _=>[]) (f_S a)):=⟨Tryz.call105,fun a=>iM Tryz.func105⟩
instance:HS Tryz.f138.8 [(2,3,0,.tr 8 15)]:=⟨⟩
instance(g_c:SPr→Int→(List Int)→(List Int)→Option (List Int))(c:SPr)(d:Int)(e:List Int)(f:(List Int)×Int):LH (R:=(List Int)) (zQb g_c c d e f) [1,2,3,7,9] [] (fun b=>[(8,L 1 I b.1),(10,I b.2)]) (.xe 2 [] fun a=>[(8,L 1 I a)]):=⟨⟩
instance(g_c:SPr→Int→(List Int)→(List Int)→Option (List Int))(c:SPr)(d:Int)(e:List Int):LH (R:=(List Int)) (zQc g_c c d e) [1,2,3,7] [] (fun b=>[(8,L 1 I b.1),(9,I b.2)]) (.xe 0 [1,2,3,7] fun a=>[(8,L 1 I a)]):=⟨⟩
theorem zXj{g_c:SPr→Int→(List Int)→(List Int)→Option (List Int)}[FI J0 139 (∀(x0:SPr)(x1:Int)(x2:List Int)(x3:List Int),FnK J0 139 [qPr x0,I x1,T.ro (lV x2),T.ro (lV x3)] (fun r:(List Int)=>[lV r]) (fun _=>[]) (g_c x0 x1 x2 x3))]:∀(x0:SPr)(x1:Int)(x2:List Int),FnK J0 138 [qPr x0,I x1,T.ro (lV x2)] (fun r:(List Int)=>[lV r]) (fun _=>[]) (b_g g_c x0 x1 x2):=fun x0 x1 x2=>iM Tryz.func138
theorem zXk{g_c:SPr→Int→(List Int)→(List Int)→Option (List Int)}(H_c:∀(x0:SPr)(x1:Int)(x2:List Int)(x3:List Int) r,g_c x0 x1 x2 x3=VU r→FnC J0 139 [qPr x0,I x1,T.ro (lV x2),T.ro (lV x3)] [lV r] [])(x0:SPr)(x1:Int)(x2:List Int)(r:(List Int))(h:b_g g_c x0 x1 x2=VU r):FnC J0 138 [qPr x0,I x1,T.ro (lV x2)] [lV r] []:=by have:FI J0 139 (∀(x0:SPr)(x1:Int)(x2:List Int)(x3:List Int),FnK J0 139 [qPr x0,I x1,T.ro (lV x2),T.ro (lV x3)] (fun r:(List Int)=>[lV r]) (fun _=>[]) (g_c x0 x1 x2 x3)):=⟨Tryz.call139,fun x0 x1 x2 x3=>FnK.mk (H_c x0 x1 x2 x3)⟩;exact(zXj x0 x1 x2).go h
instance(a b:List Int):LH (R:=Bool) (zRY a b) [0,1] [] (fun c=>[(5,I c)]) (.xs (.xe 0 [0,1] fun _=>[]) .xr):=⟨⟩
instance t_K:FI J0 97 (∀(a b:List Int),FnK J0 97 [T.ro (lV a),T.ro (lV b)] (fun r=>[B r]) (fun _=>[]) (f_K a b)):=⟨Tryz.call97,fun a b=>iM Tryz.func97⟩
instance:HS Tryz.f140.8 [(2,2,0,.tr 5 7)]:=⟨⟩
instance t_bw:FI J0 140 (∀(a b:Int),FnK J0 140 [I a,I b] (fun r=>[lV r]) (fun _=>[]) (zUL a b)):=⟨Tryz.call140,fun a b=>iM Tryz.func140⟩
instance:HS Tryz.f66.8 [(2,2,0,.tr 3 6),(2,6,0,.tr 5 13),(0,19,0,.tr 18 5),(0,20,0,.tr 17 3),(2,4,0,.tr 3 20)]:=⟨⟩
instance(b:Int):LH (R:=(List (List Int))) (zKG b) [0] [] (fun a=>[(3,L 1 lV a.1),(4,I a.2)]) (.xe 0 [0] fun c=>[(3,L 1 lV c)]):=⟨⟩
instance t_ah:FI J0 66 (∀(a:Int),FnK J0 66 [I a] (fun r:(List (List Int))=>[lM r]) (fun _=>[]) (zQj a)):=⟨Tryz.call66,fun a=>iM Tryz.func66⟩
instance:HS Tryz.f96.8 [(2,2,0,.tr 9 13)]:=⟨⟩
instance(c:Int)(d:List Int)(e:List (List Int))(f:(List Int)×Int):LH (R:=(List Int)) (zQk c d e f) [0,1,2,10] [] (fun b=>[(9,L 1 I b.1),(11,I b.2)]) (.xe 2 [] fun a=>[(9,L 1 I a)]):=⟨⟩
instance(c:Int)(d:List Int)(e:List (List Int)):LH (R:=(List Int)) (zQl c d e) [0,1,2] [] (fun b=>[(9,L 1 I b.1),(10,I b.2)]) (.xe 0 [0,1,2] fun a=>[(9,L 1 I a)]):=⟨⟩
instance t_L:FI J0 96 (∀(a:Int)(b:List Int)(c:List (List Int))(d:Int),FnK J0 96 [I a,T.ro (lV b),T.ro (lM c),I d] (fun r=>[lV r]) (fun _=>[]) (f_L a b c d)):=⟨Tryz.call96,fun a b c d=>iM Tryz.func96⟩
instance(a:List Int):LH (R:=Int) (zHr a) [0] [] (fun b=>[(3,I b)]) (.xs (.xe 0 [] fun _=>[]) .xr):=⟨⟩
instance t_v:FI J0 101 (∀(a:List Int),FnK J0 101 [T.ro (lV a)] (fun r=>[I r]) (fun _=>[]) (f_v a)):=⟨Tryz.call101,fun a=>iM Tryz.func101⟩
instance t_bm:FI J0 124 (∀(a b:Int),FnK J0 124 [I a,I b] (fun r=>[I r]) (fun _=>[]) (zQS a b)):=⟨Tryz.call124,fun a b=>iM Tryz.func124⟩
instance t_bs:FI J0 121 (∀(a:Int),FnK J0 121 [I a] (fun r=>[B r]) (fun _=>[]) (zSu a)):=⟨Tryz.call121,fun a=>iM Tryz.func121⟩
end
end Go.Wk
