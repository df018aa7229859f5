/- x -/
import Derived.Test.YtchnmobojdcikaaGreatKVaa
import Derived.Test.YtchnmobojdcikaaGreatKVab
import Derived.Test.YtchnmobojdcikaaGreatKVac
import Derived.Test.YtchnmobojdcikaaGreatKVad
import Derived.Test.YtchnmobojdcikaaGreatKWT
open Go.Proofs.Tryz renaming prog→J0
open Option renaming some→dJ,none→dK
open Bool renaming true→dL,false→dM
namespace Go.Wk
open Go Go.Proofs Go.Ab
set_option maxRecDepth 100000
set_option maxHeartbeats 4000000
section
attribute [local irreducible] RW CW DK OkL Ok yO yY wQ wK XS.post rng wS xR ixO zQ zZ wP yG zH GTo zX FnC FnK vM uH Kp Lk BsL BuL RpL Bk Lc JQ AK
instance:HS Tryz.f289.8 [(0,23,0,.trq 19 4 [1,0]),(2,8,0,.tr 6 25),(0,38,0,.tr 33 6),(2,10,0,.tr 6 38),(0,42,0,.tr 41 6),(0,43,0,.trq 40 4 [2,0]),(1,2,0,.trf 45 0 4 [0,0]),(1,2,1,.trf 45 1 4 [1,0]),(1,2,2,.trf 45 2 4 [2,0])]:=⟨⟩
instance(b:List Int):LH (R:=SPr) (zRD b) [2,3,4,5] [] (fun a=>[(6,L 1 lV a.1),(7,I a.2)]) (.xe 2 [] fun c=>[(6,L 1 lV c)]):=⟨⟩
instance(a:List Int):LN (zLm a) 4:=⟨⟩
instance(c:List Int)(A0 A1 A2:T):LHk (R:=SPr) (zLm c) (T.ptr (T.agg [A0,A1,A2])) [2,3] [] (fun b=>[(4,T.ptr (T.agg [A0,L 1 lV b.1,L 1 lM b.2.1])),(5,I b.2.2)]) (.xe 0 [3] fun a=>[(4,T.ptr (T.agg [A0,L 1 lV a.1,L 1 lM a.2]))]):=⟨⟩
instance t_z:FI J0 289 (∀(a:List Int),FnK J0 289 [T.ro (lV a)] (fun r=>[wH r]) (fun _=>[]) (f_z a)):=⟨Tryz.call289,fun a=>iM Tryz.func289⟩
instance:HS Tryz.f313.8 [(2,4,0,.trq 4 14 [0]),(1,2,0,.trf 42 0 6 [0,0]),(1,2,1,.trf 42 1 6 [1,0]),(1,2,2,.trf 42 2 6 [2,0])]:=⟨⟩
instance(a:(List Int)×Bool):LN (zQs a) 6:=⟨⟩
instance(b:(List Int)×Bool)(A0 A1 A2:T):LHk (R:=SPr×Int) (zQs b) (T.ptr (T.agg [A0,A1,A2])) [2,4] [] (fun a=>[(6,T.ptr (T.agg [A0,L 1 lV a.1,A2])),(7,I a.2)]) (.xe 0 [4] fun c=>[(6,T.ptr (T.agg [A0,L 1 lV c,A2]))]):=⟨⟩
instance t_a8:FI J0 313 (∀(a:Int),FnK J0 313 [I a] (fun r=>[wH r.1,I r.2]) (fun _=>[]) (zX7 a)):=⟨Tryz.call313,fun a=>iM Tryz.func313⟩
instance:HS Tryz.f314.8 [(2,2,0,.trq 9 22 [0]),(2,3,0,.trq 11 27 [0]),(2,4,0,.tr 13 33),(1,8,0,.trf 105 0 14 [0,0]),(1,8,1,.trf 105 1 14 [1,0]),(1,8,2,.trf 105 2 14 [2,0])]:=⟨⟩
instance(a:(List Int)×Bool)(b:List Int):LN (zX8 a b) 14:=⟨⟩
instance(c:(List Int)×Bool)(d:List Int)(A0 A1 A2:T):LHk (R:=SPr) (zX8 c d) (T.ptr (T.agg [A0,A1,A2])) [1,2,3,8,9,13,15] [] (fun b=>[(14,T.ptr (T.agg [A0,L 1 lV b.1,A2])),(16,I b.2)]) (.xe 0 [] fun a=>[(14,T.ptr (T.agg [A0,L 1 lV a,A2]))]):=⟨⟩
instance(a:List Int)(b:(List (List (List Int)))×Int×Int):LN (zVy a b) 14:=⟨⟩
instance(c:List Int)(d:(List (List (List Int)))×Int×Int)(A0 A1 A2:T):LHk (R:=SPr) (zVy c d) (T.ptr (T.agg [A0,A1,A2])) [1,8,9,13,15,17,18] [] (fun b=>[(14,T.ptr (T.agg [A0,A1,L 1 lM b.1])),(19,I b.2)]) (.xe 4 [] fun a=>[(14,T.ptr (T.agg [A0,A1,L 1 lM a]))]):=⟨⟩
instance(a:Int)(b:(List Int)×Bool)(c:List Int):LN (zVz a b c) 14:=⟨⟩
instance(c:Int)(d:(List Int)×Bool)(e:List Int)(A0 A1 A2:T):LHk (R:=SPr) (zVz c d e) (T.ptr (T.agg [A0,A1,A2])) [1,8,9,13,15] [] (fun a=>[(14,T.ptr (T.agg [A0,A1,L 1 lM a.1])),(17,I a.2.1),(18,I a.2.2)]) (.xe 2 [1,9,13,15] fun b=>[(14,T.ptr (T.agg [A0,A1,L 1 lM b]))]):=⟨⟩
instance(b:List Int)(a:(List (List (List Int)))×Int×Int):LN (zV0 b a) 14:=⟨⟩
instance(d:List Int)(b:(List (List (List Int)))×Int×Int)(A0 A1 A2:T):LHk (R:=SPr) (zV0 d b) (T.ptr (T.agg [A0,A1,A2])) [1,8,9,13,15,17,18] [] (fun a=>[(14,T.ptr (T.agg [A0,A1,L 1 lM a.1])),(19,I a.2)]) (.xe 4 [] fun c=>[(14,T.ptr (T.agg [A0,A1,L 1 lM c]))]):=⟨⟩
instance(a:Int)(b:(List Int)×Bool)(c:List Int):LN (zV1 a b c) 14:=⟨⟩
instance(c:Int)(d:(List Int)×Bool)(e:List Int)(A0 A1 A2:T):LHk (R:=SPr) (zV1 c d e) (T.ptr (T.agg [A0,A1,A2])) [1,8,9,13,15] [] (fun a=>[(14,T.ptr (T.agg [A0,A1,L 1 lM a.1])),(17,I a.2.1),(18,I a.2.2)]) (.xe 2 [1,9,13,15] fun b=>[(14,T.ptr (T.agg [A0,A1,L 1 lM b]))]):=⟨⟩
instance t_n:FI J0 314 (∀(a b:Int)(c d:Int),FnK J0 314 [I a,I b,I c,I d] (fun r=>[wH r]) (fun _=>[]) (f_n a b c d)):=⟨Tryz.call314,fun a b c d=>iM Tryz.func314⟩
instance:HS Tryz.f315.8 [(1,4,0,.trf 34 0 5 [0,0]),(1,4,1,.trf 34 1 5 [1,0]),(1,4,2,.trf 34 2 5 [2,0])]:=⟨⟩
instance t_b0:FI J0 315 (∀(a:zE)(b:Int),FnK J0 315 [T.ptr (wO a),I b] (fun r=>[wH r.1]) (fun r=>[(0,(Pt (fun x=>T.agg [(Ro (L 1 (IK .u8))) x.code,I x.at_,I x.seed])) r.2)]) (zX9 a b)):=⟨Tryz.call315,fun a b=>iM Tryz.func315⟩
instance:HS Tryz.f316.8 [(2,2,0,.trq 7 21 [0]),(2,3,0,.tr 9 25),(0,35,0,.tr 32 9),(2,5,0,.tr 9 35),(0,14,0,.fz 56),(0,14,1,.fz 100),(1,6,0,.trf 101 0 11 [0,0]),(1,6,1,.trf 101 1 11 [1,0]),(1,6,2,.trf 101 2 11 [2,0])]:=⟨⟩
instance(b:Int)(c:List (List Int)):LH (R:=SPr) (yAV b c) [0,1,6,7] [] (fun a=>[(9,L 1 I a.1),(10,I a.2)]) (.xe 0 [] fun d=>[(9,L 1 I d)]):=⟨⟩
instance(a:(List Int)×Bool)(b:(List Int)):LN (zXA a b) 11:=⟨⟩
instance(c:(List Int)×Bool)(d:(List Int))(A0 A1 A2:T):LHk (R:=SPr) (zXA c d) (T.ptr (T.agg [A0,A1,A2])) [0,1,6,7,9,12] [] (fun b=>[(11,T.ptr (T.agg [A0,L 1 lV b.1,A2])),(13,I b.2)]) (.xe 2 [9] fun a=>[(11,T.ptr (T.agg [A0,L 1 lV a,A2]))]):=⟨⟩
instance(b:List (List Int))(c:(List Int)×Bool)(a:(List (List (List Int)))×(List (List Int))×Int):LN (zXB b c a) 11:=⟨⟩
instance(d:List (List Int))(e:(List Int)×Bool)(b:(List (List (List Int)))×(List (List Int))×Int)(A0 A1 A2:T):LHk (R:=SPr) (zXB d e b) (T.ptr (T.agg [A0,A1,A2])) [0,1,6,7,12,14,15] [] (fun a=>[(11,T.ptr (T.agg [A0,A1,L 1 lM a.1])),(16,I a.2)]) (.xe 6 [] fun c=>[(11,T.ptr (T.agg [A0,A1,L 1 lM c]))]):=⟨⟩
instance(d:Int)(e:List (List Int))(f:(List Int)×Bool)(b:(List (List (List Int)))×(List (List Int))×Int):LH (R:=SPr) (zXC d e f b) [0,1,6,7,11,12,15,17] [] (fun a=>[(14,T.ro (lM a.1)),(18,I a.2)]) (.xe 8 [17] fun c=>[(14,T.ro (lM c))]):=⟨⟩
instance(a:Int)(b:List (List Int))(c:(List Int)×Bool):LN (zV2 a b c) 11:=⟨⟩
instance(c:Int)(d:List (List Int))(e:(List Int)×Bool)(A0 A1 A2:T):LHk (R:=SPr) (zV2 c d e) (T.ptr (T.agg [A0,A1,A2])) [0,1,6,7,12] [] (fun a=>[(11,T.ptr (T.agg [A0,A1,L 1 lM a.1])),(14,T.ro (lM a.2.1)),(15,I a.2.2)]) (.xe 4 [0,1,7,12] fun b=>[(11,T.ptr (T.agg [A0,A1,L 1 lM b]))]):=⟨⟩
instance t_y:FI J0 316 (∀(a:Int)(b:List (List Int))(c:Int),FnK J0 316 [I a,T.ro (lM b),I c] (fun r=>[wH r]) (fun _=>[]) (f_y a b c)):=⟨Tryz.call316,fun a b c=>iM Tryz.func316⟩
end
end Go.Wk
