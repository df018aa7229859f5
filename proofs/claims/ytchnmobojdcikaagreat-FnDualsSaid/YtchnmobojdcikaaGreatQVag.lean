/- x -/
import Derived.Test.YtchnmobojdcikaaGreatQVab
import Derived.Test.YtchnmobojdcikaaGreatQWT
open Go.Proofs.Tryz renaming prog→J0
open Option renaming some→dq,none→dt
open Bool renaming true→du,false→dv
namespace Go.Wk
open Go Go.Proofs Go.Ab
set_option maxRecDepth 100000
set_option maxHeartbeats 4000000
section
attribute [local irreducible] RW CW DK OkL Ok zS zV yQ xI XS.post rng xL yO ixO zP zU yT zZ zG GTo zM FnC FnK xK xN Kp Lk BsL BuL RpL Bk Lc JQ AK
instance t_al:FI J0 203 (∀(a:zE)(b:List Int),FnK J0 203 [T.ptr (vB a),T.ro (lV b)] (fun r=>[I r.1]) (fun r=>[(0,(Pt (fun x=>T.agg [(Ro (L 1 (IK .u8))) x.code,I x.at_,I x.seed])) r.2)]) (zEl a b)):=⟨Tryz.call203,fun a b=>iM Tryz.func203⟩
instance:HS Tryz.f244.8 [(2,2,0,.tr 9 11),(0,28,0,.tr 18 9),(2,4,0,.tr 9 28)]:=⟨⟩
instance(b:Int)(c:List (List Int))(d:List (List Int))(e:Int):LH (R:=(List (List Int))) (zHq b c d e) [0,1,2,3] [] (fun a=>[(9,L 1 lV a.1),(10,I a.2)]) (.xe 0 [0,1,2,3] fun f=>[(9,L 1 lV f)]):=⟨⟩
instance t_E:FI J0 244 (∀(a:Int)(b:List (List Int))(c:List (List Int))(d:Int),FnK J0 244 [I a,T.ro (lM b),T.ro (lM c),I d] (fun r:(List (List Int))=>[lM r]) (fun _=>[]) (f_E a b c d)):=⟨Tryz.call244,fun a b c d=>iM Tryz.func244⟩
instance t_bw:FI J0 343 (∀(a:Int),FnK J0 343 [I a] (fun r=>[Str r]) (fun _=>[]) (zPf a)):=⟨Tryz.call343,fun a=>iM Tryz.func343⟩
instance:HS Tryz.f129.8 [(2,2,0,.tr 5 7),(0,20,0,.tr 14 5),(2,4,0,.tr 5 20),(0,26,0,.tr 24 5),(2,8,0,.tr 5 26)]:=⟨⟩
instance(c:zC):LH (R:=(List Int)×zE) (zSx c) [3] [] (fun a=>[(0,T.ptr (T.agg [T.ro ((L 1 (IK .u8)) a.1),I a.2.1,I a.2.2.1])),(5,L 1 I a.2.2.2.1),(6,I a.2.2.2.2)]) (.xe 0 [3] fun b=>[(0,T.ptr (T.agg [T.ro ((L 1 (IK .u8)) b.1),I b.2.1,I b.2.2.1])),(5,L 1 I b.2.2.2)]):=⟨⟩
instance t_bk:FI J0 129 (∀(a:zE)(b:zC),FnK J0 129 [T.ptr (vB a),xQ b] (fun r:(List Int)×zE=>[lV r.1]) (fun r=>[(0,(Pt (fun x=>T.agg [(Ro (L 1 (IK .u8))) x.code,I x.at_,I x.seed])) r.2)]) (zUO a b)):=⟨Tryz.call129,fun a b=>iM Tryz.func129⟩
instance(a b:Int):LH (R:=Int) (zLd a b) [0,1] [] (fun c=>[(5,I c)]) (.xs (.xe 0 [0,1] fun _=>[]) .xr):=⟨⟩
instance t_aP:FI J0 252 (∀(a b:Int),FnK J0 252 [I a,I b] (fun r=>[I r]) (fun _=>[]) (zUd a b)):=⟨Tryz.call252,fun a b=>iM Tryz.func252⟩
end
end Go.Wk
