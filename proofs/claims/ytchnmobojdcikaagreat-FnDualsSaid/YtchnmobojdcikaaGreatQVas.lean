/- x -/
import Derived.Test.YtchnmobojdcikaaGreatQVaa
import Derived.Test.YtchnmobojdcikaaGreatQVab
import Derived.Test.YtchnmobojdcikaaGreatQVac
import Derived.Test.YtchnmobojdcikaaGreatQVai
import Derived.Test.YtchnmobojdcikaaGreatQVan
import Derived.Test.YtchnmobojdcikaaGreatQWT
open Go.Proofs.Tryz renaming prog→J0
open Option renaming some→dq,none→dt
open Bool renaming true→du,false→dv
namespace Go.Wk
open Go Go.Proofs Go.Ab
set_option maxRecDepth 100000
set_option maxHeartbeats 4000000
section
attribute [local irreducible] RW CW DK OkL Ok zS zV yQ xI XS.post rng xL yO ixO zP zU yT zZ zG GTo zM FnC FnK xK xN Kp Lk BsL BuL RpL Bk Lc JQ AK
instance:HS Tryz.f315.8 [(1,4,0,.trf 34 0 5 [0,0]),(1,4,1,.trf 34 1 5 [1,0]),(1,4,2,.trf 34 2 5 [2,0])]:=⟨⟩
instance t_bU:FI J0 315 (∀(a:zE)(b:Int),FnK J0 315 [T.ptr (vB a),I b] (fun r=>[vW r.1]) (fun r=>[(0,(Pt (fun x=>T.agg [(Ro (L 1 (IK .u8))) x.code,I x.at_,I x.seed])) r.2)]) (zUt a b)):=⟨Tryz.call315,fun a b=>iM Tryz.func315⟩
instance:HS Tryz.f288.8 [(1,4,0,.trf 115 0 7 [0,0]),(1,4,1,.trf 115 1 7 [1,0]),(1,4,2,.trf 115 2 7 [2,0])]:=⟨⟩
instance(a b:SPr)(c:(List (List Int))×(List (List (List Int)))×Int):LN (zU8 a b c) 7:=⟨⟩
instance(c d:SPr)(e:(List (List Int))×(List (List (List Int)))×Int)(A0 A1 A2:T):LHk (R:=SPr) (zU8 c d e) (T.ptr (T.agg [A0,A1,A2])) [2,3,4,5,6,8] [] (fun b=>[(7,T.ptr (T.agg [A0,A1,L 1 lM b.1])),(9,I b.2)]) (.xe 2 [] fun a=>[(7,T.ptr (T.agg [A0,A1,L 1 lM a]))]):=⟨⟩
instance(a b:SPr):LN (zU9 a b) 7:=⟨⟩
instance(c d:SPr)(A0 A1 A2:T):LHk (R:=SPr) (zU9 c d) (T.ptr (T.agg [A0,A1,A2])) [2,3,4,5,6] [] (fun b=>[(7,T.ptr (T.agg [A0,L 1 lV b.1,L 1 lM b.2.1])),(8,I b.2.2)]) (.xe 0 [2] fun a=>[(7,T.ptr (T.agg [A0,L 1 lV a.1,L 1 lM a.2]))]):=⟨⟩
instance(b c:SPr)(a:(List (List Int))×(List (List (List Int)))×Int):LN (zUA b c a) 7:=⟨⟩
instance(d e:SPr)(b:(List (List Int))×(List (List (List Int)))×Int)(A0 A1 A2:T):LHk (R:=SPr) (zUA d e b) (T.ptr (T.agg [A0,A1,A2])) [3,4,5,6,10] [] (fun a=>[(7,T.ptr (T.agg [A0,A1,L 1 lM a.1])),(11,I a.2)]) (.xe 6 [] fun c=>[(7,T.ptr (T.agg [A0,A1,L 1 lM c]))]):=⟨⟩
instance(a b:SPr):LN (zUB a b) 7:=⟨⟩
instance(c d:SPr)(A0 A1 A2:T):LHk (R:=SPr) (zUB c d) (T.ptr (T.agg [A0,A1,A2])) [3,4,5,6] [] (fun a=>[(7,T.ptr (T.agg [A0,L 1 lV a.1,L 1 lM a.2.1])),(10,I a.2.2)]) (.xe 4 [3,5,6] fun b=>[(7,T.ptr (T.agg [A0,L 1 lV b.1,L 1 lM b.2]))]):=⟨⟩
instance t_G:FI J0 288 (∀(a b:SPr),FnK J0 288 [qPr a,qPr b] (fun r=>[vW r]) (fun _=>[]) (f_G a b)):=⟨Tryz.call288,fun a b=>iM Tryz.func288⟩
instance:HS Tryz.f304.8 [(2,2,0,.tr 7 10)]:=⟨⟩
instance(b:SPr)(c:List Int)(d:Int):LH (R:=(List Int)) (zKN b c d) [0,1,11] [] (fun a=>[(7,L 1 I a.1),(12,I a.2)]) (.xe 0 [0,1,11] fun e=>[(7,L 1 I e)]):=⟨⟩
instance t_aM:FI J0 304 (∀(a:SPr)(b:List Int)(c:Int),FnK J0 304 [T.ro ((Pt vW) a),T.ro (lV b),I c] (fun r=>[lV r]) (fun _=>[]) (zTU a b c)):=⟨Tryz.call304,fun a b c=>iM Tryz.func304⟩
end
end Go.Wk
