/- x -/
import Derived.Test.YtchnmobojdcikaaGreatRVaa
import Derived.Test.YtchnmobojdcikaaGreatRVab
import Derived.Test.YtchnmobojdcikaaGreatRVah
import Derived.Test.YtchnmobojdcikaaGreatRVaq
import Derived.Test.YtchnmobojdcikaaGreatRVbb
import Derived.Test.YtchnmobojdcikaaGreatRVbc
import Derived.Test.YtchnmobojdcikaaGreatRVbk
import Derived.Test.YtchnmobojdcikaaGreatRWT
import Derived.Test.YtchnmobojdcikaaGreatRVaf
import Derived.Test.YtchnmobojdcikaaGreatRVac
import Derived.Test.YtchnmobojdcikaaGreatRVae
import Derived.Test.YtchnmobojdcikaaGreatRVaz
import Derived.Test.YtchnmobojdcikaaGreatRVbg
import Derived.Test.YtchnmobojdcikaaGreatRVbo
open Go.Proofs.Tryz renaming prog->J0
open Option renaming some->iW,none->iY
open Bool renaming true->iZ,false->ja
namespace Go.Wk
open Go Go.Proofs Go.Ab
set_option maxRecDepth 100000
set_option maxHeartbeats 4000000
section
attribute [local irreducible] RW CW DK OkL Ok yB yI xF xQ XS.post rng xV xC ixO zL yE yT yD zH GTo zR FnC FnK wA wN Kp Lk BsL BuL RpL Bk Lc JQ AK
instance:HS Tryz.f128.8 [(1,8,0,.trf 18 2 16 [2,1]),(2,18,0,.fi 9 8),(0,42,0,.fz 41),(0,52,0,.trq 47 8 [2,0])]:=⟨⟩
instance t_cd:FI J0 128 (∀(a:zE)(b:Int),FnK J0 128 [T.ptr (wY a),I b] (fun r:SPr×zB×zE=>[(fun x=>T.agg [(Ro lV) x.zA,(Ro lM) x.zJ,(Ro lC) x.zC]) r.1,(fun x=>T.agg [I x.Prime,I x.Dim,(Ro lC) x.zF]) r.2.1]) (fun r=>[(0,(Pt (fun x=>T.agg [(Ro (L 1 (IK .u8))) x.code,I x.at_,I x.seed])) r.2.2)]) (zZw a b)):=⟨Tryz.call128,fun a b=>iM Tryz.func128⟩
instance:HS Tryz.f268.8 [(0,10,0,.fz 9),(1,3,0,.trf 33 2 5 [2,0])]:=⟨⟩
instance t_cf:FI J0 268 (∀(a:zE),FnK J0 268 [T.ptr (wY a)] (fun r:SPr×zB×zE=>[(fun x=>T.agg [(Ro lV) x.zA,(Ro lM) x.zJ,(Ro lC) x.zC]) r.1,(fun x=>T.agg [I x.Prime,I x.Dim,(Ro lC) x.zF]) r.2.1]) (fun r=>[(0,(Pt (fun x=>T.agg [(Ro (L 1 (IK .u8))) x.code,I x.at_,I x.seed])) r.2.2)]) (zZx a)):=⟨Tryz.call268,fun a=>iM Tryz.func268⟩
instance:HS Tryz.f195.8 [(2,4,0,.tr 7 27),(0,39,0,.tr 34 7),(2,6,0,.tr 7 39),(2,11,0,.tr 9 46),(2,15,0,.tr 11 56),(2,17,0,.tr 11 66),(0,69,0,.tr 68 11),(0,70,0,.tr 67 9),(2,13,0,.tr 9 70),(2,20,0,.tr 12 80),(0,89,0,.tr 84 12),(2,22,0,.tr 12 89)]:=⟨⟩
instance(c:SPr×zB×zE):LH (R:=SPr×zB×(List (List Int))×zE) (zRy c) [2,3,5,6] [] (fun a=>[(0,T.ptr (T.agg [T.ro ((L 1 (IK .u8)) a.1),I a.2.1,I a.2.2.1])),(7,L 1 lV a.2.2.2.1),(8,I a.2.2.2.2)]) (.xe 0 [] fun b=>[(0,T.ptr (T.agg [T.ro ((L 1 (IK .u8)) b.1),I b.2.1,I b.2.2.1])),(7,L 1 lV b.2.2.2)]):=⟨⟩
instance(c:SPr×zB×zE):LH (R:=SPr×zB×(List (List Int))×zE) (yAw c) [2,3,5,6] [] (fun b=>[(0,T.ptr (T.agg [T.ro ((L 1 (IK .u8)) b.1),I b.2.1,I b.2.2.1])),(7,L 1 lV b.2.2.2.1),(8,I b.2.2.2.2)]) (.xe 0 [] fun a=>[(0,T.ptr (T.agg [T.ro ((L 1 (IK .u8)) a.1),I a.2.1,I a.2.2.1])),(7,L 1 lV a.2.2.2)]):=⟨⟩
instance(c:SPr×zB×zE):LH (R:=SPr×zB×(List (List Int))×zE) (zXk c) [2,3,5,6] [] (fun b=>[(0,T.ptr (T.agg [T.ro ((L 1 (IK .u8)) b.1),I b.2.1,I b.2.2.1])),(9,L 1 lV b.2.2.2.1),(10,I b.2.2.2.2)]) (.xe 2 [] fun a=>[(0,T.ptr (T.agg [T.ro ((L 1 (IK .u8)) a.1),I a.2.1,I a.2.2.1])),(9,L 1 lV a.2.2.2)]):=⟨⟩
instance t_ak:FI J0 195 (∀(a:zE),FnK J0 195 [T.ptr (wY a)] (fun r:SPr×zB×(List (List Int))×zE=>[(fun x=>T.agg [(Ro lV) x.zA,(Ro lM) x.zJ,(Ro lC) x.zC]) r.1,(fun x=>T.agg [I x.Prime,I x.Dim,(Ro lC) x.zF]) r.2.1,lM r.2.2.1]) (fun r=>[(0,(Pt (fun x=>T.agg [(Ro (L 1 (IK .u8))) x.code,I x.at_,I x.seed])) r.2.2.2)]) (zZy a)):=⟨Tryz.call195,fun a=>iM Tryz.func195⟩
end
end Go.Wk
