/- x -/
import Derived.Test.YtchnmobojdcikaaGreatKVae
import Derived.Test.YtchnmobojdcikaaGreatKVaf
import Derived.Test.YtchnmobojdcikaaGreatKVag
import Derived.Test.YtchnmobojdcikaaGreatKVah
import Derived.Test.YtchnmobojdcikaaGreatKWT
open Go.Proofs.Tryz renaming prog→J0
open Option renaming some→dJ,none→dK
open Bool renaming true→dL,false→dM
namespace Go.Wk
open Go Go.Proofs Go.Ab
set_option maxRecDepth 100000
set_option maxHeartbeats 4000000
section
attribute [local irreducible] RW CW DK OkL Ok yO yY wQ wK XS.post rng wS xR ixO zQ zZ wP yG zH GTo zX FnC FnK vM uH Kp Lk BsL BuL RpL Bk Lc JQ AK
instance:HS Tryz.f331.8 [(2,2,0,.tr 4 10),(2,3,0,.trq 5 15 [0]),(0,7,0,.fz 22)]:=⟨⟩
instance(c:(List ByteArray)):LH (R:=SPr×Int) (zQv c) [0,2,4] [] (fun a=>[(7,T.ptr (T.agg [T.ro (lV a.1),T.ro (lM a.2.1),T.ro (lC a.2.2.1)])),(8,I a.2.2.2)]) (.xs (.xe 0 [4] fun b=>[(7,T.ptr (T.agg [T.ro (lV b.1),T.ro (lM b.2.1),T.ro (lC b.2.2)]))]) .xr):=⟨⟩
instance t_bb:FI J0 331 (∀(a:ByteArray),FnK J0 331 [Str a] (fun r=>[(fun x=>T.agg [(Ro lV) x.zA,(Ro lM) x.zJ,(Ro lC) x.zB]) r.1,I r.2]) (fun _=>[]) (zXM a)):=⟨Tryz.call331,fun a=>iM Tryz.func331⟩
instance:HS Tryz.f317.8 [(1,2,0,.trf 20 0 4 [0,0]),(1,2,1,.trf 20 1 4 [1,0]),(1,2,2,.trf 20 2 4 [2,0])]:=⟨⟩
instance t_bZ:FI J0 317 (∀(a:Int),FnK J0 317 [I a] (fun r=>[(fun x=>T.agg [(Ro lV) x.zA,(Ro lM) x.zJ,(Ro lC) x.zB]) r]) (fun _=>[]) (zXN a)):=⟨Tryz.call317,fun a=>iM Tryz.func317⟩
instance:HS Tryz.f287.8 [(2,4,0,.tr 3 13),(0,23,0,.fz 22),(0,25,0,.tr 20 3),(2,6,0,.tr 3 25),(0,33,0,.fz 32),(1,5,0,.trf 35 0 34 [0,0]),(1,5,1,.trf 35 1 34 [1,0]),(1,5,2,.trf 35 2 34 [2,0]),(1,2,0,.trf 37 0 5 [0,0]),(1,2,1,.trf 37 1 5 [1,0]),(1,2,2,.trf 37 2 5 [2,0]),(0,42,0,.fz 41),(0,51,0,.fz 50),(0,83,0,.fz 82)]:=⟨⟩
instance:LH (R:=SPr×zE) zVB [2] [] (fun a=>[(0,T.ptr (T.agg [T.ro ((L 1 (IK .u8)) a.1),I a.2.1,I a.2.2.1])),(3,L 1 I a.2.2.2.1),(4,I a.2.2.2.2)]) (.xe 1 [] fun b=>[(0,T.ptr (T.agg [T.ro ((L 1 (IK .u8)) b.1),I b.2.1,I b.2.2.1])),(3,L 1 I b.2.2.2)]):=⟨⟩
instance t_bc:FI J0 287 (∀(a:zE),FnK J0 287 [T.ptr (wO a)] (fun r=>[(fun x=>T.agg [(Ro lV) x.zA,(Ro lM) x.zJ,(Ro lC) x.zB]) r.1]) (fun r=>[(0,(Pt (fun x=>T.agg [(Ro (L 1 (IK .u8))) x.code,I x.at_,I x.seed])) r.2)]) (zVC a)):=⟨Tryz.call287,fun a=>iM Tryz.func287⟩
instance:HS Tryz.f223.8 [(1,4,0,.trf 30 0 5 [0,0]),(1,4,1,.trf 30 1 5 [1,0]),(1,4,2,.trf 30 2 5 [2,0]),(1,4,3,.trf 48 0 5 [0,0]),(1,4,4,.trf 48 1 5 [1,0]),(1,4,5,.trf 48 2 5 [2,0]),(1,4,6,.trf 78 0 5 [0,0]),(1,4,7,.trf 78 1 5 [1,0]),(1,4,8,.trf 78 2 5 [2,0])]:=⟨⟩
instance t_bQ:FI J0 223 (∀(a:zE)(b:SPr),FnK J0 223 [T.ptr (wO a),qPr b] (fun r=>[wH r.1]) (fun r=>[(0,(Pt (fun x=>T.agg [(Ro (L 1 (IK .u8))) x.code,I x.at_,I x.seed])) r.2)]) (zVK a b)):=⟨Tryz.call223,fun a b=>iM Tryz.func223⟩
end
end Go.Wk
