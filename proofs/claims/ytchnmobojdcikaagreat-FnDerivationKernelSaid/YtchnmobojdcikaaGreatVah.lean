/- x -/
import Derived.Test.YtchnmobojdcikaaGreatVad
import Derived.Test.YtchnmobojdcikaaGreatVae
import Derived.Test.YtchnmobojdcikaaGreatVaf
import Derived.Test.YtchnmobojdcikaaGreatWT
open Go.Proofs.Tryz renaming prog→J0,f239→Jaw
open Option renaming some→dS,none→dT
open Bool renaming true→dU,false→dV
namespace Go.Wk
open Go Go.Proofs Go.Ab
set_option maxRecDepth 100000
set_option maxHeartbeats 4000000
section
attribute [local irreducible] RW CW DK OkL Ok zU zY yO yZ XS.post rng xC yL ixO zL zX yM zV zE GTo zK FnC FnK xJ xQ Kp Lk BsL BuL RpL Bk Lc JQ AK
instance(a:SPr):LH (R:=yU) (zM0 a) [1,2] [] (fun b=>[(3,I b)]) (.xs (.xe 0 [1] fun _=>[]) .xr):=⟨⟩
instance t_bz:FI J0 291 (∀(a:SPr),FnK J0 291 [qPr a] (fun r=>[zGU r]) (fun _=>[]) (zZ6 a)):=⟨Tryz.call291,fun a=>iM Tryz.func291⟩
instance t_cN:FI J0 229 (∀(a:SPr),FnK J0 229 [qPr a] (fun r=>[B r]) (fun _=>[]) (zZ7 a)):=⟨Tryz.call229,fun a=>iM Tryz.func229⟩
instance t_bN:FI J0 117 (∀(a:SPr),FnK J0 117 [qPr a] (fun r=>[B r]) (fun _=>[]) (zM1 a)):=⟨Tryz.call117,fun a=>iM Tryz.func117⟩
instance t_cP:FI J0 232 (∀(a:SPr)(b:Int),FnK J0 232 [qPr a,I b] (fun r=>[I r]) (fun _=>[]) (zZT a b)):=⟨Tryz.call232,fun a b=>iM Tryz.func232⟩
instance:HS Tryz.f120.8 [(0,45,0,.trq 35 7 [1,0]),(2,12,0,.tr 9 47),(0,69,0,.tr 56 9),(2,14,0,.tr 9 69),(0,73,0,.tr 72 9),(0,74,0,.trq 71 7 [2,0]),(1,4,0,.trf 76 0 7 [0,0]),(1,4,1,.trf 76 1 7 [1,0]),(1,4,2,.trf 76 2 7 [2,0])]:=⟨⟩
instance(c:SPr)(d:Int)(e:(List (List Int))×(List (List (List Int)))×Int):LH (R:=SPr×Int) (zUP c d e) [1,2,4,7,8] [] (fun b=>[(9,L 1 lV b.1),(10,I b.2)]) (.xe 2 [] fun a=>[(9,L 1 lV a)]):=⟨⟩
instance(a:SPr)(b:Int):LN (zPW a b) 7:=⟨⟩
instance(c:SPr)(d:Int)(A0 A1 A2:T):LHk (R:=SPr×Int) (zPW c d) (T.ptr (T.agg [A0,A1,A2])) [1,2,4] [] (fun b=>[(7,T.ptr (T.agg [A0,L 1 lV b.1,L 1 lM b.2.1])),(8,I b.2.2)]) (.xe 0 [1,2] fun a=>[(7,T.ptr (T.agg [A0,L 1 lV a.1,L 1 lM a.2]))]):=⟨⟩
instance t_aK:FI J0 120 (∀(a:SPr)(b:Int),FnK J0 120 [qPr a,I b] (fun r=>[xR r.1,I r.2]) (fun _=>[]) (zWW a b)):=⟨Tryz.call120,fun a b=>iM Tryz.func120⟩
instance:JNs Jaw.results:=⟨⟩
instance:HS Jaw.8 [(1,13,0,.trf 110 0 109 [0,0]),(1,13,1,.trf 110 1 109 [1,0]),(1,13,2,.trf 110 2 109 [2,0]),(2,22,0,.tr 17 125),(0,148,0,.tr 132 17),(2,24,0,.tr 17 148),(0,152,0,.tr 151 17),(0,153,0,.trq 150 15 [2,0]),(1,4,0,.trf 155 0 13 [0,0]),(1,4,1,.trf 155 1 13 [1,0]),(1,4,2,.trf 155 2 13 [2,0]),(1,5,0,.trf 156 2 15 [2,0])]:=⟨⟩
instance(b:SPr)(a:(List Int)×Int×Int×Int):JN (zWX b a) 1004 3 1:=⟨⟩
instance(b:SPr)(a:(List Int)×Int×Int×Int):LH (R:=SPr×zB×Bool×zD) (zWX b a) [0,3,4,5,7,8] [] (fun _=>[]) (.xe 1004 [] fun d=>[(28,B d)]):=⟨⟩
instance(b:SPr)(c:Int)(a:Bool×Int):JN (zWY b c a) 1005 10 1:=⟨⟩
instance(b:SPr)(c:Int)(a:Bool×Int):LH (R:=SPr×zB×Bool×zD) (zWY b c a) [0,3,4,5,7,8,9,10,11] [] (fun _=>[]) (.xe 1005 [10] fun e=>[(10,B e)]):=⟨⟩
instance(c:SPr)(b:Bool×Int):LH (R:=SPr×zB×Bool×zD) (zZU c b) [0,3,4,5,7,8,9,11] [] (fun a=>[(10,B a.1),(12,I a.2)]) (.xe 4 [] fun d=>[(10,B d)]):=⟨⟩
instance(b:SPr)(c:Int):LH (R:=SPr×zB×Bool×zD) (zWZ b c) [0,3,4,5,7,8,9] [] (fun a=>[(10,B a.1),(11,I a.2)]) (.xe 2 [] fun d=>[(10,B d)]):=⟨⟩
instance(b:SPr)(a:(List Int)×Int×Int×Int)(c:Bool):JN (zXa b a c) 1006 15 1:=⟨⟩
instance(c:SPr)(b:(List Int)×Int×Int×Int)(d:Bool):LH (R:=SPr×zB×Bool×zD) (zXa c b d) [0,3,4,5,7,8,9,10] [] (fun _=>[]) (.xe 1006 [0,10] fun a=>[(0,T.ptr (T.agg [T.ro ((L 1 (IK .u8)) a.1),I a.2.1,I a.2.2.1])),(105,B a.2.2.2)]):=⟨⟩
instance(d:SPr)(e:Int)(b:(List (List (List Int)))×Int):LH (R:=SPr×zB×Bool×zD) (zZV d e b) [0,3,4,5,7,9,13,15,16] [] (fun a=>[(17,L 1 lV a.1),(18,I a.2)]) (.xe 8 [] fun c=>[(17,L 1 lV c)]):=⟨⟩
instance(a:SPr)(b:Int):LN (zUQ a b) 15:=⟨⟩
instance(c:SPr)(d:Int)(A0 A1 A2:T):LHk (R:=SPr×zB×Bool×zD) (zUQ c d) (T.ptr (T.agg [A0,A1,A2])) [0,3,4,5,7,9,13] [] (fun a=>[(15,T.ptr (T.agg [A0,A1,L 1 lM a.1])),(16,I a.2)]) (.xe 6 [3,7,9] fun b=>[(15,T.ptr (T.agg [A0,A1,L 1 lM b]))]):=⟨⟩
instance(c:SPr):LH (R:=SPr×zB×Bool×zD) (zZW c) [3,4,5,7] [] (fun a=>[(0,T.ptr (T.agg [T.ro ((L 1 (IK .u8)) a.1),I a.2.1,I a.2.2.1])),(8,I a.2.2.2)]) (.xs (.xe 0 [7] fun b=>[(0,T.ptr (T.agg [T.ro ((L 1 (IK .u8)) b.1),I b.2.1,I b.2.2]))]) .xr):=⟨⟩
instance t_h:FI J0 239 (∀(a:zD)(b:SPr),FnK J0 239 [T.ptr (wO a),qPr b] (fun r:SPr×zB×Bool×zD=>[(fun x=>T.agg [(Ro lV) x.zA,(Ro lM) x.zN,(Ro lC) x.zC]) r.1,yX r.2.1,B r.2.2.1]) (fun r=>[(0,(Pt (fun x=>T.agg [(Ro (L 1 (IK .u8))) x.code,I x.at_,I x.seed])) r.2.2.2)]) (f_h a b)):=⟨Tryz.call239,fun a b=>iM Tryz.func239⟩
end
end Go.Wk
