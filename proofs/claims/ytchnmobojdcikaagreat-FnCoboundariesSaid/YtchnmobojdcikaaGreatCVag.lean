/- x -/
import Derived.Test.YtchnmobojdcikaaGreatCVab
import Derived.Test.YtchnmobojdcikaaGreatCWT
open Go.Proofs.Tryz renaming prog→J0
open Option renaming some→iz,none→iA
open Bool renaming true→iB,false→iC
namespace Go.Wk
open Go Go.Proofs Go.Ab
set_option maxRecDepth 100000
set_option maxHeartbeats 4000000
section
attribute [local irreducible] RW CW DK OkL Ok zV yA yW xK XS.post rng xN yP ixO zO yG yO yB zG GTo zP FnC FnK xQ wB Kp Lk BsL BuL RpL Bk Lc JQ AK
instance t_af:FI J0 203 (∀(a:zF)(b:List Int),FnK J0 203 [T.ptr (vU a),T.ro (lV b)] (fun r=>[I r.1]) (fun r=>[(0,(Pt (fun x=>T.agg [(Ro (L 1 (IK .u8))) x.code,I x.at_,I x.seed])) r.2)]) (zFy a b)):=⟨Tryz.call203,fun a b=>iM Tryz.func203⟩
instance:HS Tryz.f244.8 [(2,2,0,.tr 9 11),(0,28,0,.tr 18 9),(2,4,0,.tr 9 28)]:=⟨⟩
instance(b:Int)(c:List (List Int))(d:List (List Int))(e:Int):LH (R:=(List (List Int))) (zNU b c d e) [0,1,2,3] [] (fun a=>[(9,L 1 lV a.1),(10,I a.2)]) (.xe 0 [0,1,2,3] fun f=>[(9,L 1 lV f)]):=⟨⟩
instance t_N:FI J0 244 (∀(a:Int)(b:List (List Int))(c:List (List Int))(d:Int),FnK J0 244 [I a,T.ro (lM b),T.ro (lM c),I d] (fun r:(List (List Int))=>[lM r]) (fun _=>[]) (f_N a b c d)):=⟨Tryz.call244,fun a b c d=>iM Tryz.func244⟩
instance t_bE:FI J0 343 (∀(a:Int),FnK J0 343 [I a] (fun r=>[Str r]) (fun _=>[]) (zRe a)):=⟨Tryz.call343,fun a=>iM Tryz.func343⟩
instance:HS Tryz.f129.8 [(2,2,0,.tr 5 7),(0,20,0,.tr 14 5),(2,4,0,.tr 5 20),(0,26,0,.tr 24 5),(2,8,0,.tr 5 26)]:=⟨⟩
instance(c:zC):LH (R:=(List Int)×zF) (zUZ c) [3] [] (fun a=>[(0,T.ptr (T.agg [T.ro ((L 1 (IK .u8)) a.1),I a.2.1,I a.2.2.1])),(5,L 1 I a.2.2.2.1),(6,I a.2.2.2.2)]) (.xe 0 [3] fun b=>[(0,T.ptr (T.agg [T.ro ((L 1 (IK .u8)) b.1),I b.2.1,I b.2.2.1])),(5,L 1 I b.2.2.2)]):=⟨⟩
instance t_bo:FI J0 129 (∀(a:zF)(b:zC),FnK J0 129 [T.ptr (vU a),vC b] (fun r:(List Int)×zF=>[lV r.1]) (fun r=>[(0,(Pt (fun x=>T.agg [(Ro (L 1 (IK .u8))) x.code,I x.at_,I x.seed])) r.2)]) (zXu a b)):=⟨Tryz.call129,fun a b=>iM Tryz.func129⟩
instance:HS Tryz.f334.8 [(2,2,0,.tr 7 9),(0,36,0,.tr 18 7)]:=⟨⟩
instance(b:zC)(c:List Int)(d:Int):LH (R:=(List Int)) (zJF b c d) [1,2,3] [] (fun a=>[(7,L 1 I a.1),(8,I a.2)]) (.xe 0 [1,2,3] fun e=>[(7,L 1 I e)]):=⟨⟩
instance t_aI:FI J0 334 (∀(a:zC)(b:List Int)(c:Int),FnK J0 334 [vC a,T.ro (lV b),I c] (fun r=>[lV r]) (fun _=>[]) (zW5 a b c)):=⟨Tryz.call334,fun a b c=>iM Tryz.func334⟩
instance(a b:Int):LH (R:=Int) (zMz a b) [0,1] [] (fun c=>[(5,I c)]) (.xs (.xe 0 [0,1] fun _=>[]) .xr):=⟨⟩
instance t_aQ:FI J0 252 (∀(a b:Int),FnK J0 252 [I a,I b] (fun r=>[I r]) (fun _=>[]) (zWz a b)):=⟨Tryz.call252,fun a b=>iM Tryz.func252⟩
end
end Go.Wk
