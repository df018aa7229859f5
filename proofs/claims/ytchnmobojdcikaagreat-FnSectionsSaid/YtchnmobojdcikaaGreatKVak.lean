/- x -/
import Derived.Test.YtchnmobojdcikaaGreatKVae
import Derived.Test.YtchnmobojdcikaaGreatKVaf
import Derived.Test.YtchnmobojdcikaaGreatKVag
import Derived.Test.YtchnmobojdcikaaGreatKVah
import Derived.Test.YtchnmobojdcikaaGreatKWT
open Go.Proofs.Tryz renaming prog→J0,f239→Jam
open Option renaming some→dJ,none→dK
open Bool renaming true→dL,false→dM
namespace Go.Wk
open Go Go.Proofs Go.Ab
set_option maxRecDepth 100000
set_option maxHeartbeats 4000000
section
attribute [local irreducible] RW CW DK OkL Ok yO yY wQ wK XS.post rng wS xR ixO zQ zZ wP yG zH GTo zX FnC FnK vM uH Kp Lk BsL BuL RpL Bk Lc JQ AK
instance(a:SPr):LH (R:=yX) (zMT a) [1,2] [] (fun b=>[(3,I b)]) (.xs (.xe 0 [1] fun _=>[]) .xr):=⟨⟩
instance t_a1:FI J0 291 (∀(a:SPr),FnK J0 291 [qPr a] (fun r=>[zHb r]) (fun _=>[]) (yAI a)):=⟨Tryz.call291,fun a=>iM Tryz.func291⟩
instance t_ca:FI J0 229 (∀(a:SPr),FnK J0 229 [qPr a] (fun r=>[B r]) (fun _=>[]) (yAJ a)):=⟨Tryz.call229,fun a=>iM Tryz.func229⟩
instance t_bJ:FI J0 117 (∀(a:SPr),FnK J0 117 [qPr a] (fun r=>[B r]) (fun _=>[]) (zUk a)):=⟨Tryz.call117,fun a=>iM Tryz.func117⟩
instance t_cb:FI J0 232 (∀(a:SPr)(b:Int),FnK J0 232 [qPr a,I b] (fun r=>[I r]) (fun _=>[]) (yAW a b)):=⟨Tryz.call232,fun a b=>iM Tryz.func232⟩
instance:HS Tryz.f120.8 [(0,45,0,.trq 35 7 [1,0]),(2,12,0,.tr 9 47),(0,69,0,.tr 56 9),(2,14,0,.tr 9 69),(0,73,0,.tr 72 9),(0,74,0,.trq 71 7 [2,0]),(1,4,0,.trf 76 0 7 [0,0]),(1,4,1,.trf 76 1 7 [1,0]),(1,4,2,.trf 76 2 7 [2,0])]:=⟨⟩
instance(c:SPr)(d:Int)(e:(List (List Int))×(List (List (List Int)))×Int):LH (R:=SPr×Int) (zVI c d e) [1,2,4,7,8] [] (fun b=>[(9,L 1 lV b.1),(10,I b.2)]) (.xe 2 [] fun a=>[(9,L 1 lV a)]):=⟨⟩
instance(a:SPr)(b:Int):LN (zQw a b) 7:=⟨⟩
instance(c:SPr)(d:Int)(A0 A1 A2:T):LHk (R:=SPr×Int) (zQw c d) (T.ptr (T.agg [A0,A1,A2])) [1,2,4] [] (fun b=>[(7,T.ptr (T.agg [A0,L 1 lV b.1,L 1 lM b.2.1])),(8,I b.2.2)]) (.xe 0 [1,2] fun a=>[(7,T.ptr (T.agg [A0,L 1 lV a.1,L 1 lM a.2]))]):=⟨⟩
instance t_ay:FI J0 120 (∀(a:SPr)(b:Int),FnK J0 120 [qPr a,I b] (fun r=>[wH r.1,I r.2]) (fun _=>[]) (zXS a b)):=⟨Tryz.call120,fun a b=>iM Tryz.func120⟩
instance:JNs Jam.results:=⟨⟩
instance:HS Jam.8 [(1,13,0,.trf 110 0 109 [0,0]),(1,13,1,.trf 110 1 109 [1,0]),(1,13,2,.trf 110 2 109 [2,0]),(2,22,0,.tr 17 125),(0,148,0,.tr 132 17),(2,24,0,.tr 17 148),(0,152,0,.tr 151 17),(0,153,0,.trq 150 15 [2,0]),(1,4,0,.trf 155 0 13 [0,0]),(1,4,1,.trf 155 1 13 [1,0]),(1,4,2,.trf 155 2 13 [2,0]),(1,5,0,.trf 156 2 15 [2,0])]:=⟨⟩
instance(b:SPr)(a:(List Int)×Int×Int×Int):JN (zXT b a) 1004 3 1:=⟨⟩
instance(b:SPr)(a:(List Int)×Int×Int×Int):LH (R:=SPr×zC×Bool×zE) (zXT b a) [0,3,4,5,7,8] [] (fun _=>[]) (.xe 1004 [] fun d=>[(28,B d)]):=⟨⟩
instance(b:SPr)(c:Int)(a:Bool×Int):JN (zXU b c a) 1005 10 1:=⟨⟩
instance(b:SPr)(c:Int)(a:Bool×Int):LH (R:=SPr×zC×Bool×zE) (zXU b c a) [0,3,4,5,7,8,9,10,11] [] (fun _=>[]) (.xe 1005 [10] fun e=>[(10,B e)]):=⟨⟩
instance(c:SPr)(b:Bool×Int):LH (R:=SPr×zC×Bool×zE) (yAX c b) [0,3,4,5,7,8,9,11] [] (fun a=>[(10,B a.1),(12,I a.2)]) (.xe 4 [] fun d=>[(10,B d)]):=⟨⟩
instance(b:SPr)(c:Int):LH (R:=SPr×zC×Bool×zE) (zXV b c) [0,3,4,5,7,8,9] [] (fun a=>[(10,B a.1),(11,I a.2)]) (.xe 2 [] fun d=>[(10,B d)]):=⟨⟩
instance(b:SPr)(a:(List Int)×Int×Int×Int)(c:Bool):JN (zXW b a c) 1006 15 1:=⟨⟩
instance(c:SPr)(b:(List Int)×Int×Int×Int)(d:Bool):LH (R:=SPr×zC×Bool×zE) (zXW c b d) [0,3,4,5,7,8,9,10] [] (fun _=>[]) (.xe 1006 [0,10] fun a=>[(0,T.ptr (T.agg [T.ro ((L 1 (IK .u8)) a.1),I a.2.1,I a.2.2.1])),(105,B a.2.2.2)]):=⟨⟩
instance(d:SPr)(e:Int)(b:(List (List (List Int)))×Int):LH (R:=SPr×zC×Bool×zE) (yAY d e b) [0,3,4,5,7,9,13,15,16] [] (fun a=>[(17,L 1 lV a.1),(18,I a.2)]) (.xe 8 [] fun c=>[(17,L 1 lV c)]):=⟨⟩
instance(a:SPr)(b:Int):LN (zVJ a b) 15:=⟨⟩
instance(c:SPr)(d:Int)(A0 A1 A2:T):LHk (R:=SPr×zC×Bool×zE) (zVJ c d) (T.ptr (T.agg [A0,A1,A2])) [0,3,4,5,7,9,13] [] (fun a=>[(15,T.ptr (T.agg [A0,A1,L 1 lM a.1])),(16,I a.2)]) (.xe 6 [3,7,9] fun b=>[(15,T.ptr (T.agg [A0,A1,L 1 lM b]))]):=⟨⟩
instance(c:SPr):LH (R:=SPr×zC×Bool×zE) (yAZ c) [3,4,5,7] [] (fun a=>[(0,T.ptr (T.agg [T.ro ((L 1 (IK .u8)) a.1),I a.2.1,I a.2.2.1])),(8,I a.2.2.2)]) (.xs (.xe 0 [7] fun b=>[(0,T.ptr (T.agg [T.ro ((L 1 (IK .u8)) b.1),I b.2.1,I b.2.2]))]) .xr):=⟨⟩
instance t_m:FI J0 239 (∀(a:zE)(b:SPr),FnK J0 239 [T.ptr (wO a),qPr b] (fun r:SPr×zC×Bool×zE=>[(fun x=>T.agg [(Ro lV) x.zA,(Ro lM) x.zJ,(Ro lC) x.zB]) r.1,wB r.2.1,B r.2.2.1]) (fun r=>[(0,(Pt (fun x=>T.agg [(Ro (L 1 (IK .u8))) x.code,I x.at_,I x.seed])) r.2.2.2)]) (f_m a b)):=⟨Tryz.call239,fun a b=>iM Tryz.func239⟩
end
end Go.Wk
