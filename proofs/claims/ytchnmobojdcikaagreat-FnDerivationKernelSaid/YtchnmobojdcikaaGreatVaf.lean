/- x -/
import Derived.Test.YtchnmobojdcikaaGreatVaa
import Derived.Test.YtchnmobojdcikaaGreatVab
import Derived.Test.YtchnmobojdcikaaGreatVac
import Derived.Test.YtchnmobojdcikaaGreatWT
open Go.Proofs.Tryz renaming prog→J0
open Option renaming some→dS,none→dT
open Bool renaming true→dU,false→dV
namespace Go.Wk
open Go Go.Proofs Go.Ab
set_option maxRecDepth 100000
set_option maxHeartbeats 4000000
section
attribute [local irreducible] RW CW DK OkL Ok zU zY yO yZ XS.post rng xC yL ixO zL zX yM zV zE GTo zK FnC FnK xJ xQ Kp Lk BsL BuL RpL Bk Lc JQ AK
instance:HS Tryz.f315.8 [(1,4,0,.trf 34 0 5 [0,0]),(1,4,1,.trf 34 1 5 [1,0]),(1,4,2,.trf 34 2 5 [2,0])]:=⟨⟩
instance t_cF:FI J0 315 (∀(a:zD)(b:Int),FnK J0 315 [T.ptr (wO a),I b] (fun r=>[xR r.1]) (fun r=>[(0,(Pt (fun x=>T.agg [(Ro (L 1 (IK .u8))) x.code,I x.at_,I x.seed])) r.2)]) (zWD a b)):=⟨Tryz.call315,fun a b=>iM Tryz.func315⟩
instance:HS Tryz.f316.8 [(2,2,0,.trq 7 21 [0]),(2,3,0,.tr 9 25),(0,35,0,.tr 32 9),(2,5,0,.tr 9 35),(0,14,0,.fz 56),(0,14,1,.fz 100),(1,6,0,.trf 101 0 11 [0,0]),(1,6,1,.trf 101 1 11 [1,0]),(1,6,2,.trf 101 2 11 [2,0])]:=⟨⟩
instance(b:Int)(c:List (List Int)):LH (R:=SPr) (zZS b c) [0,1,6,7] [] (fun a=>[(9,L 1 I a.1),(10,I a.2)]) (.xe 0 [] fun d=>[(9,L 1 I d)]):=⟨⟩
instance(a:(List Int)×Bool)(b:(List Int)):LN (zWE a b) 11:=⟨⟩
instance(c:(List Int)×Bool)(d:(List Int))(A0 A1 A2:T):LHk (R:=SPr) (zWE c d) (T.ptr (T.agg [A0,A1,A2])) [0,1,6,7,9,12] [] (fun b=>[(11,T.ptr (T.agg [A0,L 1 lV b.1,A2])),(13,I b.2)]) (.xe 2 [9] fun a=>[(11,T.ptr (T.agg [A0,L 1 lV a,A2]))]):=⟨⟩
instance(b:List (List Int))(c:(List Int)×Bool)(a:(List (List (List Int)))×(List (List Int))×Int):LN (zWF b c a) 11:=⟨⟩
instance(d:List (List Int))(e:(List Int)×Bool)(b:(List (List (List Int)))×(List (List Int))×Int)(A0 A1 A2:T):LHk (R:=SPr) (zWF d e b) (T.ptr (T.agg [A0,A1,A2])) [0,1,6,7,12,14,15] [] (fun a=>[(11,T.ptr (T.agg [A0,A1,L 1 lM a.1])),(16,I a.2)]) (.xe 6 [] fun c=>[(11,T.ptr (T.agg [A0,A1,L 1 lM c]))]):=⟨⟩
instance(d:Int)(e:List (List Int))(f:(List Int)×Bool)(b:(List (List (List Int)))×(List (List Int))×Int):LH (R:=SPr) (zWG d e f b) [0,1,6,7,11,12,15,17] [] (fun a=>[(14,T.ro (lM a.1)),(18,I a.2)]) (.xe 8 [17] fun c=>[(14,T.ro (lM c))]):=⟨⟩
instance(a:Int)(b:List (List Int))(c:(List Int)×Bool):LN (zU9 a b c) 11:=⟨⟩
instance(c:Int)(d:List (List Int))(e:(List Int)×Bool)(A0 A1 A2:T):LHk (R:=SPr) (zU9 c d e) (T.ptr (T.agg [A0,A1,A2])) [0,1,6,7,12] [] (fun a=>[(11,T.ptr (T.agg [A0,A1,L 1 lM a.1])),(14,T.ro (lM a.2.1)),(15,I a.2.2)]) (.xe 4 [0,1,7,12] fun b=>[(11,T.ptr (T.agg [A0,A1,L 1 lM b]))]):=⟨⟩
instance t_o:FI J0 316 (∀(a:Int)(b:List (List Int))(c:Int),FnK J0 316 [I a,T.ro (lM b),I c] (fun r=>[xR r]) (fun _=>[]) (f_o a b c)):=⟨Tryz.call316,fun a b c=>iM Tryz.func316⟩
instance(c:SPr):LH (R:=ByteArray) (zWM c) [1,3] [] (fun b=>[(4,Str b.1),(5,I b.2)]) (.xe 0 [] fun a=>[(4,Str a)]):=⟨⟩
instance(c:SPr):LH (R:=ByteArray) (zWN c) [1,3] [] (fun b=>[(4,Str b.1),(6,I b.2)]) (.xe 2 [] fun a=>[(4,Str a)]):=⟨⟩
instance(c:SPr)(d:ByteArray×Int):LH (R:=ByteArray) (zWO c d) [1,3,7] [] (fun a=>[(4,Str a.1),(8,I a.2)]) (.xe 6 [] fun b=>[(4,Str b)]):=⟨⟩
instance(c:SPr):LH (R:=ByteArray) (zWP c) [1,3] [] (fun b=>[(4,Str b.1),(7,I b.2)]) (.xe 4 [1,3] fun a=>[(4,Str a)]):=⟨⟩
instance t_C:FI J0 338 (∀(a:SPr),FnK J0 338 [qPr a] (fun r=>[Str r]) (fun _=>[]) (f_C a)):=⟨Tryz.call338,fun a=>iM Tryz.func338⟩
instance:HS Tryz.f319.8 [(2,7,0,.tr 8 49),(2,17,0,.tr 13 113),(2,26,0,.tr 16 155),(2,28,0,.tr 17 16),(2,28,1,.fz 17),(2,28,2,.res 16 17 []),(2,29,0,.tr 17 169),(2,31,0,.tr 17 16),(2,31,1,.fz 17),(2,31,2,.res 16 17 [])]:=⟨⟩
instance(a:SPr)(b:Int):LH (R:=yU) (zTt a b) [1,2,4,5,6] [] (fun c=>[(7,I c)]) (.xs (.xe 0 [] fun _=>[]) .xr):=⟨⟩
instance(a:SPr)(b c:Int):LH (R:=yU) (zTu a b c) [1,2,4,5,6,9] [] (fun d=>[(10,I d)]) (.xs (.xe 4 [] fun _=>[]) .xr):=⟨⟩
instance(a:SPr)(b:Int):LH (R:=yU) (zTv a b) [1,2,4,5,6] [] (fun c=>[(9,I c)]) (.xs (.xe 2 [] fun _=>[]) .xr):=⟨⟩
instance(c:SPr)(d:Int):LH (R:=yU) (zTw c d) [1,2,4,5,6,14,15,16] [16] (fun a=>[(17,T.ro (lV a.1)),(18,I a.2)]) (.xe 8 [] fun b=>[(17,T.ro (lV b))]):=⟨⟩
instance(c:SPr)(d:Int)(a:List Int):LH (R:=yU) (zTx c d a) [1,2,4,5,6,14] [] (fun b=>[(15,I b)]) (.xs (.xe 6 [1,2,5,6,14] fun _=>[]) .xr):=⟨⟩
instance t_n:FI J0 319 (∀(a:SPr)(b:Int),FnK J0 319 [qPr a,I b] (fun r=>[zGU r]) (fun _=>[]) (f_n a b)):=⟨Tryz.call319,fun a b=>iM Tryz.func319⟩
end
end Go.Wk
