/- x -/
import Derived.Test.YtchnmobojdcikaaGreatKVai
import Derived.Test.YtchnmobojdcikaaGreatKVaj
import Derived.Test.YtchnmobojdcikaaGreatKVak
import Derived.Test.YtchnmobojdcikaaGreatKVal
import Derived.Test.YtchnmobojdcikaaGreatKWT
open Go.Proofs.Tryz renaming prog→J0
open Option renaming some→dJ,none→dK
open Bool renaming true→dL,false→dM
namespace Go.Wk
open Go Go.Proofs Go.Ab
set_option maxRecDepth 100000
set_option maxHeartbeats 4000000
section
attribute [local irreducible] RW CW DK OkL Ok yO yY wQ wK XS.post rng wS xR ixO zQ zZ wP yG zH GTo zX FnC FnK vM uH Kp Lk BsL BuL RpL Bk Lc JQ AK
instance:HS Tryz.f221.8 [(1,4,0,.trf 29 0 6 [0,0]),(1,4,1,.trf 29 1 6 [1,0]),(1,4,2,.trf 29 2 6 [2,0]),(1,4,3,.fz 31)]:=⟨⟩
instance(c:Int):LH (R:=SPr×zE) (zVD c) [1,4] [] (fun b=>[(0,T.ptr (T.agg [T.ro ((L 1 (IK .u8)) b.1),I b.2.1,I b.2.2.1])),(5,I b.2.2.2)]) (.xs (.xe 0 [1] fun a=>[(0,T.ptr (T.agg [T.ro ((L 1 (IK .u8)) a.1),I a.2.1,I a.2.2]))]) .xr):=⟨⟩
instance t_bd:FI J0 221 (∀(a:zE)(b:Int),FnK J0 221 [T.ptr (wO a),I b] (fun r=>[(fun x=>T.agg [(Ro lV) x.zA,(Ro lM) x.zJ,(Ro lC) x.zB]) r.1]) (fun r=>[(0,(Pt (fun x=>T.agg [(Ro (L 1 (IK .u8))) x.code,I x.at_,I x.seed])) r.2)]) (zVE a b)):=⟨Tryz.call221,fun a b=>iM Tryz.func221⟩
instance t_by:FI J0 111 (∀(a:zE)(b:Int),FnK J0 111 [T.ptr (wO a),I b] (fun r=>[(fun x=>T.agg [(Ro lV) x.zA,(Ro lM) x.zJ,(Ro lC) x.zB]) r.1]) (fun r=>[(0,(Pt (fun x=>T.agg [(Ro (L 1 (IK .u8))) x.code,I x.at_,I x.seed])) r.2)]) (zOA a b)):=⟨Tryz.call111,fun a b=>iM Tryz.func111⟩
instance:HS Tryz.f128.8 [(1,8,0,.trf 18 2 16 [2,1]),(2,18,0,.fi 9 8),(0,42,0,.fz 41),(0,52,0,.trq 47 8 [2,0])]:=⟨⟩
instance t_b2:FI J0 128 (∀(a:zE)(b:Int),FnK J0 128 [T.ptr (wO a),I b] (fun r:SPr×zC×zE=>[(fun x=>T.agg [(Ro lV) x.zA,(Ro lM) x.zJ,(Ro lC) x.zB]) r.1,(fun x=>T.agg [I x.Prime,I x.Dim,(Ro lC) x.zG]) r.2.1]) (fun r=>[(0,(Pt (fun x=>T.agg [(Ro (L 1 (IK .u8))) x.code,I x.at_,I x.seed])) r.2.2)]) (zYe a b)):=⟨Tryz.call128,fun a b=>iM Tryz.func128⟩
end
end Go.Wk
