/- x -/
import Derived.Test.YtchnmobojdcikaaGreatKVaq
import Derived.Test.YtchnmobojdcikaaGreatKVar
import Derived.Test.YtchnmobojdcikaaGreatKVas
import Derived.Test.YtchnmobojdcikaaGreatKVat
import Derived.Test.YtchnmobojdcikaaGreatKWT
open Go.Proofs.Tryz renaming prog→J0
open Option renaming some→dJ,none→dK
open Bool renaming true→dL,false→dM
namespace Go.Wk
open Go Go.Proofs Go.Ab
set_option maxRecDepth 100000
set_option maxHeartbeats 4000000
section
attribute [local irreducible] RW CW DK OkL Ok yO yY wQ wK XS.post rng wS xR ixO zQ zZ wP yG zH GTo zX FnC FnK vM uH Kp Lk BsL BuL RpL Bk Lc JQ AK
instance:HS Tryz.f216.8 [(2,2,0,.tr 7 15),(2,3,0,.tr 8 18)]:=⟨⟩
instance(c:zC)(d:(List (List Int))):LH (R:=(List (List Int))×zE) (zVM c d) [5,8] [] (fun a=>[(0,T.ptr (T.agg [T.ro ((L 1 (IK .u8)) a.1),I a.2.1,I a.2.2.1])),(7,L 1 I a.2.2.2.1),(9,I a.2.2.2.2)]) (.xe 0 [8] fun b=>[(0,T.ptr (T.agg [T.ro ((L 1 (IK .u8)) b.1),I b.2.1,I b.2.2.1])),(7,L 1 I b.2.2.2)]):=⟨⟩
instance t_bp:FI J0 216 (∀(a:zE)(b:SPr)(c:zC),FnK J0 216 [T.ptr (wO a),qPr b,wL c] (fun r:(List (List Int))×zE=>[lM r.1]) (fun r=>[(0,(Pt (fun x=>T.agg [(Ro (L 1 (IK .u8))) x.code,I x.at_,I x.seed])) r.2)]) (zYg a b c)):=⟨Tryz.call216,fun a b c=>iM Tryz.func216⟩
instance:HS Tryz.f195.8 [(2,4,0,.tr 7 27),(0,39,0,.tr 34 7),(2,6,0,.tr 7 39),(2,11,0,.tr 9 46),(2,15,0,.tr 11 56),(2,17,0,.tr 11 66),(0,69,0,.tr 68 11),(0,70,0,.tr 67 9),(2,13,0,.tr 9 70),(2,20,0,.tr 12 80),(0,89,0,.tr 84 12),(2,22,0,.tr 12 89)]:=⟨⟩
instance(c:SPr×zC×zE):LH (R:=SPr×zC×(List (List Int))×zE) (zQx c) [2,3,5,6] [] (fun a=>[(0,T.ptr (T.agg [T.ro ((L 1 (IK .u8)) a.1),I a.2.1,I a.2.2.1])),(7,L 1 lV a.2.2.2.1),(8,I a.2.2.2.2)]) (.xe 0 [] fun b=>[(0,T.ptr (T.agg [T.ro ((L 1 (IK .u8)) b.1),I b.2.1,I b.2.2.1])),(7,L 1 lV b.2.2.2)]):=⟨⟩
instance(c:SPr×zC×zE):LH (R:=SPr×zC×(List (List Int))×zE) (zZi c) [2,3,5,6] [] (fun b=>[(0,T.ptr (T.agg [T.ro ((L 1 (IK .u8)) b.1),I b.2.1,I b.2.2.1])),(7,L 1 lV b.2.2.2.1),(8,I b.2.2.2.2)]) (.xe 0 [] fun a=>[(0,T.ptr (T.agg [T.ro ((L 1 (IK .u8)) a.1),I a.2.1,I a.2.2.1])),(7,L 1 lV a.2.2.2)]):=⟨⟩
instance(c:SPr×zC×zE):LH (R:=SPr×zC×(List (List Int))×zE) (zVN c) [2,3,5,6] [] (fun b=>[(0,T.ptr (T.agg [T.ro ((L 1 (IK .u8)) b.1),I b.2.1,I b.2.2.1])),(9,L 1 lV b.2.2.2.1),(10,I b.2.2.2.2)]) (.xe 2 [] fun a=>[(0,T.ptr (T.agg [T.ro ((L 1 (IK .u8)) a.1),I a.2.1,I a.2.2.1])),(9,L 1 lV a.2.2.2)]):=⟨⟩
instance t_ag:FI J0 195 (∀(a:zE),FnK J0 195 [T.ptr (wO a)] (fun r:SPr×zC×(List (List Int))×zE=>[(fun x=>T.agg [(Ro lV) x.zA,(Ro lM) x.zJ,(Ro lC) x.zB]) r.1,(fun x=>T.agg [I x.Prime,I x.Dim,(Ro lC) x.zG]) r.2.1,lM r.2.2.1]) (fun r=>[(0,(Pt (fun x=>T.agg [(Ro (L 1 (IK .u8))) x.code,I x.at_,I x.seed])) r.2.2.2)]) (zVO a)):=⟨Tryz.call195,fun a=>iM Tryz.func195⟩
instance:HS Tryz.f79.8 [(2,2,0,.tr 5 11),(2,3,0,.trq 8 14 [2])]:=⟨⟩
instance t_cc:FI J0 79 (∀(a:List Int),FnK J0 79 [T.ro ((L 1 (IK .u8)) a)] (fun r:SPr×zC×(List (List Int))=>[(fun x=>T.agg [(Ro lV) x.zA,(Ro lM) x.zJ,(Ro lC) x.zB]) r.1,(fun x=>T.agg [I x.Prime,I x.Dim,(Ro lC) x.zG]) r.2.1,lM r.2.2]) (fun _=>[]) (yBa a)):=⟨Tryz.call79,fun a=>iM Tryz.func79⟩
instance t_cd:FI J0 85 (∀(a:List Int),FnK J0 85 [T.ro ((L 1 (IK .u8)) a)] (fun r:SPr×zC×(List (List Int))=>[(fun x=>T.agg [(Ro lV) x.zA,(Ro lM) x.zJ,(Ro lC) x.zB]) r.1,(fun x=>T.agg [I x.Prime,I x.Dim,(Ro lC) x.zG]) r.2.1,lM r.2.2]) (fun _=>[]) (yBb a)):=⟨Tryz.call85,fun a=>iM Tryz.func85⟩
end
end Go.Wk
