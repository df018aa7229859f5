/- x -/
import Derived.Test.YtchnmobojdcikaaGreatRVaa
import Derived.Test.YtchnmobojdcikaaGreatRVab
import Derived.Test.YtchnmobojdcikaaGreatRVaf
import Derived.Test.YtchnmobojdcikaaGreatRVbh
import Derived.Test.YtchnmobojdcikaaGreatRWT
open Go.Proofs.Tryz renaming prog->J0,f239->Jas
open Option renaming some->iW,none->iY
open Bool renaming true->iZ,false->ja
namespace Go.Wk
open Go Go.Proofs Go.Ab
set_option maxRecDepth 100000
set_option maxHeartbeats 4000000
section
attribute [local irreducible] RW CW DK OkL Ok yB yI xF xQ XS.post rng xV xC ixO zL yE yT yD zH GTo zR FnC FnK wA wN Kp Lk BsL BuL RpL Bk Lc JQ AK
instance:JNs Jas.results:=⟨⟩
instance:HS Jas.8 [(1,13,0,.trf 110 0 109 [0,0]),(1,13,1,.trf 110 1 109 [1,0]),(1,13,2,.trf 110 2 109 [2,0]),(2,22,0,.tr 17 125),(0,148,0,.tr 132 17),(2,24,0,.tr 17 148),(0,152,0,.tr 151 17),(0,153,0,.trq 150 15 [2,0]),(1,4,0,.trf 155 0 13 [0,0]),(1,4,1,.trf 155 1 13 [1,0]),(1,4,2,.trf 155 2 13 [2,0]),(1,5,0,.trf 156 2 15 [2,0])]:=⟨⟩
instance(b:SPr)(a:(List Int)×Int×Int×Int):JN (zZl b a) 1004 3 1:=⟨⟩
instance(b:SPr)(a:(List Int)×Int×Int×Int):LH (R:=SPr×zB×Bool×zE) (zZl b a) [0,3,4,5,7,8] [] (fun _=>[]) (.xe 1004 [] fun d=>[(28,B d)]):=⟨⟩
instance(b:SPr)(c:Int)(a:Bool×Int):JN (zZm b c a) 1005 10 1:=⟨⟩
instance(b:SPr)(c:Int)(a:Bool×Int):LH (R:=SPr×zB×Bool×zE) (zZm b c a) [0,3,4,5,7,8,9,10,11] [] (fun _=>[]) (.xe 1005 [10] fun e=>[(10,B e)]):=⟨⟩
instance(c:SPr)(b:Bool×Int):LH (R:=SPr×zB×Bool×zE) (yCu c b) [0,3,4,5,7,8,9,11] [] (fun a=>[(10,B a.1),(12,I a.2)]) (.xe 4 [] fun d=>[(10,B d)]):=⟨⟩
instance(b:SPr)(c:Int):LH (R:=SPr×zB×Bool×zE) (zZn b c) [0,3,4,5,7,8,9] [] (fun a=>[(10,B a.1),(11,I a.2)]) (.xe 2 [] fun d=>[(10,B d)]):=⟨⟩
instance(b:SPr)(a:(List Int)×Int×Int×Int)(c:Bool):JN (zZo b a c) 1006 15 1:=⟨⟩
instance(c:SPr)(b:(List Int)×Int×Int×Int)(d:Bool):LH (R:=SPr×zB×Bool×zE) (zZo c b d) [0,3,4,5,7,8,9,10] [] (fun _=>[]) (.xe 1006 [0,10] fun a=>[(0,T.ptr (T.agg [T.ro ((L 1 (IK .u8)) a.1),I a.2.1,I a.2.2.1])),(105,B a.2.2.2)]):=⟨⟩
instance(d:SPr)(e:Int)(b:(List (List (List Int)))×Int):LH (R:=SPr×zB×Bool×zE) (yCv d e b) [0,3,4,5,7,9,13,15,16] [] (fun a=>[(17,L 1 lV a.1),(18,I a.2)]) (.xe 8 [] fun c=>[(17,L 1 lV c)]):=⟨⟩
instance(a:SPr)(b:Int):LN (zXf a b) 15:=⟨⟩
instance(c:SPr)(d:Int)(A0 A1 A2:T):LHk (R:=SPr×zB×Bool×zE) (zXf c d) (T.ptr (T.agg [A0,A1,A2])) [0,3,4,5,7,9,13] [] (fun a=>[(15,T.ptr (T.agg [A0,A1,L 1 lM a.1])),(16,I a.2)]) (.xe 6 [3,7,9] fun b=>[(15,T.ptr (T.agg [A0,A1,L 1 lM b]))]):=⟨⟩
instance(c:SPr):LH (R:=SPr×zB×Bool×zE) (yCw c) [3,4,5,7] [] (fun a=>[(0,T.ptr (T.agg [T.ro ((L 1 (IK .u8)) a.1),I a.2.1,I a.2.2.1])),(8,I a.2.2.2)]) (.xs (.xe 0 [7] fun b=>[(0,T.ptr (T.agg [T.ro ((L 1 (IK .u8)) b.1),I b.2.1,I b.2.2]))]) .xr):=⟨⟩
instance t_l:FI J0 239 (∀(a:zE)(b:SPr),FnK J0 239 [T.ptr (wY a),qPr b] (fun r:SPr×zB×Bool×zE=>[(fun x=>T.agg [(Ro lV) x.zA,(Ro lM) x.zJ,(Ro lC) x.zC]) r.1,wC r.2.1,B r.2.2.1]) (fun r=>[(0,(Pt (fun x=>T.agg [(Ro (L 1 (IK .u8))) x.code,I x.at_,I x.seed])) r.2.2.2)]) (f_l a b)):=⟨Tryz.call239,fun a b=>iM Tryz.func239⟩
end
end Go.Wk
