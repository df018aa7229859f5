/- x -/
import Derived.Test.YtchnmobojdcikaaGreatRVab
import Derived.Test.YtchnmobojdcikaaGreatRVaf
import Derived.Test.YtchnmobojdcikaaGreatRVah
import Derived.Test.YtchnmobojdcikaaGreatRVai
import Derived.Test.YtchnmobojdcikaaGreatRVao
import Derived.Test.YtchnmobojdcikaaGreatRWT
open Go.Proofs.Tryz renaming prog->J0,f240->Jar
open Option renaming some->iW,none->iY
open Bool renaming true->iZ,false->ja
namespace Go.Wk
open Go Go.Proofs Go.Ab
set_option maxRecDepth 100000
set_option maxHeartbeats 4000000
section
attribute [local irreducible] RW CW DK OkL Ok yB yI xF xQ XS.post rng xV xC ixO zL yE yT yD zH GTo zR FnC FnK wA wN Kp Lk BsL BuL RpL Bk Lc JQ AK
instance:JNs Jar.results:=⟨⟩
instance:HS Jar.8 [(0,13,0,.fz 12),(1,4,0,.trf 46 2 6 [2,0]),(1,4,1,.trf 67 2 6 [2,0]),(1,4,2,.trf 114 2 6 [2,0]),(1,6,0,.trf 113 2 8 [2,0])]:=⟨⟩
instance(a:SPr)(b:Int×zE):JN (zZp a b) 1000 2 1:=⟨⟩
instance(b:SPr)(c:Int×zE):LH (R:=zB×zE) (zZp b c) [0,3,4,5] [] (fun _=>[]) (.xe 1000 [0] fun a=>[(0,T.ptr (T.agg [T.ro ((L 1 (IK .u8)) a.1),I a.2.1,I a.2.2.1])),(22,B a.2.2.2)]):=⟨⟩
instance(a:SPr)(b:Int×zE):JN (zZq a b) 1001 2 2:=⟨⟩
instance(b:SPr)(c:Int×zE):LH (R:=zB×zE) (zZq b c) [0,3,4,5] [] (fun _=>[]) (.xe 1001 [0,5] fun a=>[(0,T.ptr (T.agg [T.ro ((L 1 (IK .u8)) a.1),I a.2.1,I a.2.2.1])),(5,I a.2.2.2)]):=⟨⟩
instance(a:SPr)(b:Int×zE):JN (zZr a b) 1002 5 1:=⟨⟩
instance(b:SPr)(c:Int×zE):LH (R:=zB×zE) (zZr b c) [0,3,4,5,6] [] (fun _=>[]) (.xe 1002 [0] fun a=>[(0,T.ptr (T.agg [T.ro ((L 1 (IK .u8)) a.1),I a.2.1,I a.2.2.1])),(45,B a.2.2.2)]):=⟨⟩
instance(a:(List Int)×Int×Int×(List (List (List Int)))×Int)(b:Int×zE):JN (zZs a b) 1003 18 1:=⟨⟩
instance(b:(List Int)×Int×Int×(List (List (List Int)))×Int)(c:Int×zE):LH (R:=zB×zE) (zZs b c) [0,3,4,5,6,7,8,9,10] [] (fun _=>[]) (.xe 1003 [0] fun a=>[(0,T.ptr (T.agg [T.ro ((L 1 (IK .u8)) a.1),I a.2.1,I a.2.2.1])),(95,B a.2.2.2)]):=⟨⟩
instance(e:(List Int)×Int×Int×Int)(a:zB)(d:Int×zE):LH (R:=zB×zE) (zZt e a d) [3,4,5,6,7,9] [] (fun b=>[(0,T.ptr (T.agg [T.ro ((L 1 (IK .u8)) b.1),I b.2.1,I b.2.2.1])),(8,T.ptr (T.agg [I a.Prime,I a.Dim,L 1 lM b.2.2.2.1])),(10,I b.2.2.2.2)]) (.xe 2 [9] fun c=>[(0,T.ptr (T.agg [T.ro ((L 1 (IK .u8)) c.1),I c.2.1,I c.2.2.1])),(8,T.ptr (T.agg [I a.Prime,I a.Dim,L 1 lM c.2.2.2]))]):=⟨⟩
instance(c:SPr)(d:(List Int)×Int×Int×Int):LH (R:=zB×zE) (zZu c d) [3,4,5] [] (fun a=>[(0,T.ptr (T.agg [T.ro ((L 1 (IK .u8)) a.1),I a.2.1,I a.2.2.1])),(6,T.ptr (T.agg [I a.2.2.2.1,I a.2.2.2.2.1,L 1 lM a.2.2.2.2.2.1])),(7,I a.2.2.2.2.2.2)]) (.xs (.xe 0 [3,5] fun b=>[(0,T.ptr (T.agg [T.ro ((L 1 (IK .u8)) b.1),I b.2.1,I b.2.2.1])),(6,T.ptr (T.agg [I b.2.2.2.1,I b.2.2.2.2.1,L 1 lM b.2.2.2.2.2]))]) .xr):=⟨⟩
instance t_t:FI J0 240 (∀(a:zE)(b:SPr),FnK J0 240 [T.ptr (wY a),qPr b] (fun r=>[wC r.1]) (fun r=>[(0,(Pt (fun x=>T.agg [(Ro (L 1 (IK .u8))) x.code,I x.at_,I x.seed])) r.2)]) (f_t a b)):=⟨Tryz.call240,fun a b=>iM Tryz.func240⟩
end
end Go.Wk
