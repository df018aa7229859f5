/- x -/
import Derived.Test.YtchnmobojdcikaaGreatKVae
import Derived.Test.YtchnmobojdcikaaGreatKVaf
import Derived.Test.YtchnmobojdcikaaGreatKVag
import Derived.Test.YtchnmobojdcikaaGreatKVah
import Derived.Test.YtchnmobojdcikaaGreatKWT
open Go.Proofs.Tryz renaming prog→J0
open Option renaming some→dJ,none→dK
open Bool renaming true→dL,false→dM
namespace Go.Wk
open Go Go.Proofs Go.Ab
set_option maxRecDepth 100000
set_option maxHeartbeats 4000000
section
attribute [local irreducible] RW CW DK OkL Ok yO yY wQ wK XS.post rng wS xR ixO zQ zZ wP yG zH GTo zX FnC FnK vM uH Kp Lk BsL BuL RpL Bk Lc JQ AK
instance:HS Tryz.f288.8 [(1,4,0,.trf 115 0 7 [0,0]),(1,4,1,.trf 115 1 7 [1,0]),(1,4,2,.trf 115 2 7 [2,0])]:=⟨⟩
instance(a b:SPr)(c:(List (List Int))×(List (List (List Int)))×Int):LN (zXO a b c) 7:=⟨⟩
instance(c d:SPr)(e:(List (List Int))×(List (List (List Int)))×Int)(A0 A1 A2:T):LHk (R:=SPr) (zXO c d e) (T.ptr (T.agg [A0,A1,A2])) [2,3,4,5,6,8] [] (fun b=>[(7,T.ptr (T.agg [A0,A1,L 1 lM b.1])),(9,I b.2)]) (.xe 2 [] fun a=>[(7,T.ptr (T.agg [A0,A1,L 1 lM a]))]):=⟨⟩
instance(a b:SPr):LN (zXP a b) 7:=⟨⟩
instance(c d:SPr)(A0 A1 A2:T):LHk (R:=SPr) (zXP c d) (T.ptr (T.agg [A0,A1,A2])) [2,3,4,5,6] [] (fun b=>[(7,T.ptr (T.agg [A0,L 1 lV b.1,L 1 lM b.2.1])),(8,I b.2.2)]) (.xe 0 [2] fun a=>[(7,T.ptr (T.agg [A0,L 1 lV a.1,L 1 lM a.2]))]):=⟨⟩
instance(b c:SPr)(a:(List (List Int))×(List (List (List Int)))×Int):LN (zXQ b c a) 7:=⟨⟩
instance(d e:SPr)(b:(List (List Int))×(List (List (List Int)))×Int)(A0 A1 A2:T):LHk (R:=SPr) (zXQ d e b) (T.ptr (T.agg [A0,A1,A2])) [3,4,5,6,10] [] (fun a=>[(7,T.ptr (T.agg [A0,A1,L 1 lM a.1])),(11,I a.2)]) (.xe 6 [] fun c=>[(7,T.ptr (T.agg [A0,A1,L 1 lM c]))]):=⟨⟩
instance(a b:SPr):LN (zXR a b) 7:=⟨⟩
instance(c d:SPr)(A0 A1 A2:T):LHk (R:=SPr) (zXR c d) (T.ptr (T.agg [A0,A1,A2])) [3,4,5,6] [] (fun a=>[(7,T.ptr (T.agg [A0,L 1 lV a.1,L 1 lM a.2.1])),(10,I a.2.2)]) (.xe 4 [3,5,6] fun b=>[(7,T.ptr (T.agg [A0,L 1 lV b.1,L 1 lM b.2]))]):=⟨⟩
instance t_J:FI J0 288 (∀(a b:SPr),FnK J0 288 [qPr a,qPr b] (fun r=>[wH r]) (fun _=>[]) (f_J a b)):=⟨Tryz.call288,fun a b=>iM Tryz.func288⟩
instance:HS Tryz.f222.8 [(0,22,0,.trq 20 5 [0,0]),(1,4,0,.trf 91 0 5 [0,0]),(1,4,1,.trf 91 1 5 [1,0]),(1,4,2,.trf 91 2 5 [2,0]),(0,34,0,.fz 33)]:=⟨⟩
instance t_b1:FI J0 222 (∀(a:zE)(b:SPr),FnK J0 222 [T.ptr (wO a),qPr b] (fun r=>[wH r.1]) (fun r=>[(0,(Pt (fun x=>T.agg [(Ro (L 1 (IK .u8))) x.code,I x.at_,I x.seed])) r.2)]) (zYd a b)):=⟨Tryz.call222,fun a b=>iM Tryz.func222⟩
end
end Go.Wk
