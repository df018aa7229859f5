/- x -/
import Derived.Test.YtchnmobojdcikaaGreatCVaa
import Derived.Test.YtchnmobojdcikaaGreatCVab
import Derived.Test.YtchnmobojdcikaaGreatCVag
import Derived.Test.YtchnmobojdcikaaGreatCVah
import Derived.Test.YtchnmobojdcikaaGreatCVai
import Derived.Test.YtchnmobojdcikaaGreatCWT
open Go.Proofs.Tryz renaming prog→J0
open Option renaming some→iz,none→iA
open Bool renaming true→iB,false→iC
namespace Go.Wk
open Go Go.Proofs Go.Ab
set_option maxRecDepth 100000
set_option maxHeartbeats 4000000
section
attribute [local irreducible] RW CW DK OkL Ok zV yA yW xK XS.post rng xN yP ixO zO yG yO yB zG GTo zP FnC FnK xQ wB Kp Lk BsL BuL RpL Bk Lc JQ AK
instance:HS Tryz.f313.8 [(2,4,0,.trq 4 14 [0]),(1,2,0,.trf 42 0 6 [0,0]),(1,2,1,.trf 42 1 6 [1,0]),(1,2,2,.trf 42 2 6 [2,0])]:=⟨⟩
instance(a:(List Int)×Bool):LN (zPK a) 6:=⟨⟩
instance(b:(List Int)×Bool)(A0 A1 A2:T):LHk (R:=SPr×Int) (zPK b) (T.ptr (T.agg [A0,A1,A2])) [2,4] [] (fun a=>[(6,T.ptr (T.agg [A0,L 1 lV a.1,A2])),(7,I a.2)]) (.xe 0 [4] fun c=>[(6,T.ptr (T.agg [A0,L 1 lV c,A2]))]):=⟨⟩
instance t_a8:FI J0 313 (∀(a:Int),FnK J0 313 [I a] (fun r=>[vE r.1,I r.2]) (fun _=>[]) (zWM a)):=⟨Tryz.call313,fun a=>iM Tryz.func313⟩
instance:HS Tryz.f315.8 [(1,4,0,.trf 34 0 5 [0,0]),(1,4,1,.trf 34 1 5 [1,0]),(1,4,2,.trf 34 2 5 [2,0])]:=⟨⟩
instance t_b2:FI J0 315 (∀(a:zF)(b:Int),FnK J0 315 [T.ptr (vU a),I b] (fun r=>[vE r.1]) (fun r=>[(0,(Pt (fun x=>T.agg [(Ro (L 1 (IK .u8))) x.code,I x.at_,I x.seed])) r.2)]) (zWO a b)):=⟨Tryz.call315,fun a b=>iM Tryz.func315⟩
instance:HS Tryz.f316.8 [(2,2,0,.trq 7 21 [0]),(2,3,0,.tr 9 25),(0,35,0,.tr 32 9),(2,5,0,.tr 9 35),(0,14,0,.fz 56),(0,14,1,.fz 100),(1,6,0,.trf 101 0 11 [0,0]),(1,6,1,.trf 101 1 11 [1,0]),(1,6,2,.trf 101 2 11 [2,0])]:=⟨⟩
instance(b:Int)(c:List (List Int)):LH (R:=SPr) (yAc b c) [0,1,6,7] [] (fun a=>[(9,L 1 I a.1),(10,I a.2)]) (.xe 0 [] fun d=>[(9,L 1 I d)]):=⟨⟩
instance(a:(List Int)×Bool)(b:(List Int)):LN (zWP a b) 11:=⟨⟩
instance(c:(List Int)×Bool)(d:(List Int))(A0 A1 A2:T):LHk (R:=SPr) (zWP c d) (T.ptr (T.agg [A0,A1,A2])) [0,1,6,7,9,12] [] (fun b=>[(11,T.ptr (T.agg [A0,L 1 lV b.1,A2])),(13,I b.2)]) (.xe 2 [9] fun a=>[(11,T.ptr (T.agg [A0,L 1 lV a,A2]))]):=⟨⟩
instance(b:List (List Int))(c:(List Int)×Bool)(a:(List (List (List Int)))×(List (List Int))×Int):LN (zWQ b c a) 11:=⟨⟩
instance(d:List (List Int))(e:(List Int)×Bool)(b:(List (List (List Int)))×(List (List Int))×Int)(A0 A1 A2:T):LHk (R:=SPr) (zWQ d e b) (T.ptr (T.agg [A0,A1,A2])) [0,1,6,7,12,14,15] [] (fun a=>[(11,T.ptr (T.agg [A0,A1,L 1 lM a.1])),(16,I a.2)]) (.xe 6 [] fun c=>[(11,T.ptr (T.agg [A0,A1,L 1 lM c]))]):=⟨⟩
instance(d:Int)(e:List (List Int))(f:(List Int)×Bool)(b:(List (List (List Int)))×(List (List Int))×Int):LH (R:=SPr) (zWR d e f b) [0,1,6,7,11,12,15,17] [] (fun a=>[(14,T.ro (lM a.1)),(18,I a.2)]) (.xe 8 [17] fun c=>[(14,T.ro (lM c))]):=⟨⟩
instance(a:Int)(b:List (List Int))(c:(List Int)×Bool):LN (zUG a b c) 11:=⟨⟩
instance(c:Int)(d:List (List Int))(e:(List Int)×Bool)(A0 A1 A2:T):LHk (R:=SPr) (zUG c d e) (T.ptr (T.agg [A0,A1,A2])) [0,1,6,7,12] [] (fun a=>[(11,T.ptr (T.agg [A0,A1,L 1 lM a.1])),(14,T.ro (lM a.2.1)),(15,I a.2.2)]) (.xe 4 [0,1,7,12] fun b=>[(11,T.ptr (T.agg [A0,A1,L 1 lM b]))]):=⟨⟩
instance t_s:FI J0 316 (∀(a:Int)(b:List (List Int))(c:Int),FnK J0 316 [I a,T.ro (lM b),I c] (fun r=>[vE r]) (fun _=>[]) (f_s a b c)):=⟨Tryz.call316,fun a b c=>iM Tryz.func316⟩
end
end Go.Wk
