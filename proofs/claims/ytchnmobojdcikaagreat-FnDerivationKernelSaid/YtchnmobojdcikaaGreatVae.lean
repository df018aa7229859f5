/- x -/
import Derived.Test.YtchnmobojdcikaaGreatVaa
import Derived.Test.YtchnmobojdcikaaGreatVab
import Derived.Test.YtchnmobojdcikaaGreatVac
import Derived.Test.YtchnmobojdcikaaGreatWT
open Go.Proofs.Tryz renaming prog→J0
open Option renaming some→dS,none→dT
open Bool renaming true→dU,false→dV
namespace Go.Wk
open Go Go.Proofs Go.Ab
set_option maxRecDepth 100000
set_option maxHeartbeats 4000000
section
attribute [local irreducible] RW CW DK OkL Ok zU zY yO yZ XS.post rng xC yL ixO zL zX yM zV zE GTo zK FnC FnK xJ xQ Kp Lk BsL BuL RpL Bk Lc JQ AK
instance:HS Tryz.f314.8 [(2,2,0,.trq 9 22 [0]),(2,3,0,.trq 11 27 [0]),(2,4,0,.tr 13 33),(1,8,0,.trf 105 0 14 [0,0]),(1,8,1,.trf 105 1 14 [1,0]),(1,8,2,.trf 105 2 14 [2,0])]:=⟨⟩
instance(a:(List Int)×Bool)(b:List Int):LN (zWC a b) 14:=⟨⟩
instance(c:(List Int)×Bool)(d:List Int)(A0 A1 A2:T):LHk (R:=SPr) (zWC c d) (T.ptr (T.agg [A0,A1,A2])) [1,2,3,8,9,13,15] [] (fun b=>[(14,T.ptr (T.agg [A0,L 1 lV b.1,A2])),(16,I b.2)]) (.xe 0 [] fun a=>[(14,T.ptr (T.agg [A0,L 1 lV a,A2]))]):=⟨⟩
instance(a:List Int)(b:(List (List (List Int)))×Int×Int):LN (zU5 a b) 14:=⟨⟩
instance(c:List Int)(d:(List (List (List Int)))×Int×Int)(A0 A1 A2:T):LHk (R:=SPr) (zU5 c d) (T.ptr (T.agg [A0,A1,A2])) [1,8,9,13,15,17,18] [] (fun b=>[(14,T.ptr (T.agg [A0,A1,L 1 lM b.1])),(19,I b.2)]) (.xe 4 [] fun a=>[(14,T.ptr (T.agg [A0,A1,L 1 lM a]))]):=⟨⟩
instance(a:Int)(b:(List Int)×Bool)(c:List Int):LN (zU6 a b c) 14:=⟨⟩
instance(c:Int)(d:(List Int)×Bool)(e:List Int)(A0 A1 A2:T):LHk (R:=SPr) (zU6 c d e) (T.ptr (T.agg [A0,A1,A2])) [1,8,9,13,15] [] (fun a=>[(14,T.ptr (T.agg [A0,A1,L 1 lM a.1])),(17,I a.2.1),(18,I a.2.2)]) (.xe 2 [1,9,13,15] fun b=>[(14,T.ptr (T.agg [A0,A1,L 1 lM b]))]):=⟨⟩
instance(b:List Int)(a:(List (List (List Int)))×Int×Int):LN (zU7 b a) 14:=⟨⟩
instance(d:List Int)(b:(List (List (List Int)))×Int×Int)(A0 A1 A2:T):LHk (R:=SPr) (zU7 d b) (T.ptr (T.agg [A0,A1,A2])) [1,8,9,13,15,17,18] [] (fun a=>[(14,T.ptr (T.agg [A0,A1,L 1 lM a.1])),(19,I a.2)]) (.xe 4 [] fun c=>[(14,T.ptr (T.agg [A0,A1,L 1 lM c]))]):=⟨⟩
instance(a:Int)(b:(List Int)×Bool)(c:List Int):LN (zU8 a b c) 14:=⟨⟩
instance(c:Int)(d:(List Int)×Bool)(e:List Int)(A0 A1 A2:T):LHk (R:=SPr) (zU8 c d e) (T.ptr (T.agg [A0,A1,A2])) [1,8,9,13,15] [] (fun a=>[(14,T.ptr (T.agg [A0,A1,L 1 lM a.1])),(17,I a.2.1),(18,I a.2.2)]) (.xe 2 [1,9,13,15] fun b=>[(14,T.ptr (T.agg [A0,A1,L 1 lM b]))]):=⟨⟩
instance t_j:FI J0 314 (∀(a b:Int)(c d:Int),FnK J0 314 [I a,I b,I c,I d] (fun r=>[xR r]) (fun _=>[]) (f_j a b c d)):=⟨Tryz.call314,fun a b c d=>iM Tryz.func314⟩
instance:HS Tryz.f288.8 [(1,4,0,.trf 115 0 7 [0,0]),(1,4,1,.trf 115 1 7 [1,0]),(1,4,2,.trf 115 2 7 [2,0])]:=⟨⟩
instance(a b:SPr)(c:(List (List Int))×(List (List (List Int)))×Int):LN (zWS a b c) 7:=⟨⟩
instance(c d:SPr)(e:(List (List Int))×(List (List (List Int)))×Int)(A0 A1 A2:T):LHk (R:=SPr) (zWS c d e) (T.ptr (T.agg [A0,A1,A2])) [2,3,4,5,6,8] [] (fun b=>[(7,T.ptr (T.agg [A0,A1,L 1 lM b.1])),(9,I b.2)]) (.xe 2 [] fun a=>[(7,T.ptr (T.agg [A0,A1,L 1 lM a]))]):=⟨⟩
instance(a b:SPr):LN (zWT a b) 7:=⟨⟩
instance(c d:SPr)(A0 A1 A2:T):LHk (R:=SPr) (zWT c d) (T.ptr (T.agg [A0,A1,A2])) [2,3,4,5,6] [] (fun b=>[(7,T.ptr (T.agg [A0,L 1 lV b.1,L 1 lM b.2.1])),(8,I b.2.2)]) (.xe 0 [2] fun a=>[(7,T.ptr (T.agg [A0,L 1 lV a.1,L 1 lM a.2]))]):=⟨⟩
instance(b c:SPr)(a:(List (List Int))×(List (List (List Int)))×Int):LN (zWU b c a) 7:=⟨⟩
instance(d e:SPr)(b:(List (List Int))×(List (List (List Int)))×Int)(A0 A1 A2:T):LHk (R:=SPr) (zWU d e b) (T.ptr (T.agg [A0,A1,A2])) [3,4,5,6,10] [] (fun a=>[(7,T.ptr (T.agg [A0,A1,L 1 lM a.1])),(11,I a.2)]) (.xe 6 [] fun c=>[(7,T.ptr (T.agg [A0,A1,L 1 lM c]))]):=⟨⟩
instance(a b:SPr):LN (zWV a b) 7:=⟨⟩
instance(c d:SPr)(A0 A1 A2:T):LHk (R:=SPr) (zWV c d) (T.ptr (T.agg [A0,A1,A2])) [3,4,5,6] [] (fun a=>[(7,T.ptr (T.agg [A0,L 1 lV a.1,L 1 lM a.2.1])),(10,I a.2.2)]) (.xe 4 [3,5,6] fun b=>[(7,T.ptr (T.agg [A0,L 1 lV b.1,L 1 lM b.2]))]):=⟨⟩
instance t_D:FI J0 288 (∀(a b:SPr),FnK J0 288 [qPr a,qPr b] (fun r=>[xR r]) (fun _=>[]) (f_D a b)):=⟨Tryz.call288,fun a b=>iM Tryz.func288⟩
instance:HS Tryz.f243.8 [(2,13,0,.tr 8 56),(2,23,0,.tr 11 108),(2,24,0,.tr 12 131)]:=⟨⟩
instance(a:SPr)(b:zB):LH (R:=Bool) (zT1 a b) [2,3,5] [] (fun c=>[(6,I c)]) (.xs (.xe 0 [] fun _=>[]) .xr):=⟨⟩
instance(d:SPr)(e:zB)(b:Int):LH (R:=Bool) (zT2 d e b) [2,3,5,7] [] (fun a=>[(8,L 1 lV a.1),(9,I a.2)]) (.xe 4 [] fun c=>[(8,L 1 lV c)]):=⟨⟩
instance(c:SPr)(d:zB)(a:Int):LH (R:=Bool) (zT3 c d a) [2,3,5,7] [] (fun b=>[(10,I b)]) (.xs (.xe 6 [] fun _=>[]) .xr):=⟨⟩
instance(b:SPr)(c:zB):LH (R:=Bool) (zT4 b c) [2,3,5] [] (fun a=>[(7,I a)]) (.xs (.xe 2 [2,3,5] fun _=>[]) .xr):=⟨⟩
instance t_s:FI J0 243 (∀(a:SPr)(b:zB),FnK J0 243 [qPr a,xD b] (fun r=>[B r]) (fun _=>[]) (f_s a b)):=⟨Tryz.call243,fun a b=>iM Tryz.func243⟩
end
end Go.Wk
