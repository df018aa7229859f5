/- x -/
import Derived.Test.YtchnmobojdcikaaGreatRVaa
import Derived.Test.YtchnmobojdcikaaGreatRVab
import Derived.Test.YtchnmobojdcikaaGreatRVae
import Derived.Test.YtchnmobojdcikaaGreatRVaf
import Derived.Test.YtchnmobojdcikaaGreatRVah
import Derived.Test.YtchnmobojdcikaaGreatRVaj
import Derived.Test.YtchnmobojdcikaaGreatRWT
import Derived.Test.YtchnmobojdcikaaGreatRVac
import Derived.Test.YtchnmobojdcikaaGreatRVad
import Derived.Test.YtchnmobojdcikaaGreatRVag
import Derived.Test.YtchnmobojdcikaaGreatRVat
import Derived.Test.YtchnmobojdcikaaGreatRVav
import Derived.Test.YtchnmobojdcikaaGreatRVaz
import Derived.Test.YtchnmobojdcikaaGreatRVbb
open Go.Proofs.Tryz renaming prog->J0
open Option renaming some->iW,none->iY
open Bool renaming true->iZ,false->ja
namespace Go.Wk
open Go Go.Proofs Go.Ab
set_option maxRecDepth 100000
set_option maxHeartbeats 4000000
section
attribute [local irreducible] RW CW DK OkL Ok yB yI xF xQ XS.post rng xV xC ixO zL yE yT yD zH GTo zR FnC FnK wA wN Kp Lk BsL BuL RpL Bk Lc JQ AK
instance:HS Tryz.f222.8 [(0,22,0,.trq 20 5 [0,0]),(1,4,0,.trf 91 0 5 [0,0]),(1,4,1,.trf 91 1 5 [1,0]),(1,4,2,.trf 91 2 5 [2,0]),(0,34,0,.fz 33)]:=⟨⟩
instance t_cc:FI J0 222 (∀(a:zE)(b:SPr),FnK J0 222 [T.ptr (wY a),qPr b] (fun r=>[vQ r.1]) (fun r=>[(0,(Pt (fun x=>T.agg [(Ro (L 1 (IK .u8))) x.code,I x.at_,I x.seed])) r.2)]) (zZv a b)):=⟨Tryz.call222,fun a b=>iM Tryz.func222⟩
instance t_bE:FI J0 111 (∀(a:zE)(b:Int),FnK J0 111 [T.ptr (wY a),I b] (fun r=>[(fun x=>T.agg [(Ro lV) x.zA,(Ro lM) x.zJ,(Ro lC) x.zC]) r.1]) (fun r=>[(0,(Pt (fun x=>T.agg [(Ro (L 1 (IK .u8))) x.code,I x.at_,I x.seed])) r.2)]) (zP8 a b)):=⟨Tryz.call111,fun a b=>iM Tryz.func111⟩
instance:HS Tryz.f163.8 [(2,2,0,.tr 7 12),(2,3,0,.tr 8 13),(0,36,0,.tr 27 8),(2,5,0,.tr 8 36)]:=⟨⟩
instance(c:Int)(d:(List (List Int))):LH (R:=(List (List Int))) (zK5 c d) [2,7] [] (fun b=>[(8,L 1 lV b.1),(9,I b.2)]) (.xe 0 [2,7] fun a=>[(8,L 1 lV a)]):=⟨⟩
instance t_ar:FI J0 163 (∀(a:Int)(b:List (List Int))(c:Int),FnK J0 163 [I a,T.ro (lM b),I c] (fun r:(List (List Int))=>[lM r]) (fun _=>[]) (zPt a b c)):=⟨Tryz.call163,fun a b c=>iM Tryz.func163⟩
instance:HS Tryz.f212.8 [(0,13,0,.fz 12),(2,6,0,.tr 10 22),(0,36,0,.tr 35 10),(0,37,0,.tr 34 7),(2,8,0,.tr 7 37)]:=⟨⟩
instance(b:zB)(c:List (List Int))(d:(List ((List Int)×(List Int)))):LH (R:=(List (List Int))) (zNU b c d) [1,2,12,13] [] (fun a=>[(7,L 1 lV a.1),(14,I a.2)]) (.xe 0 [1,2,12,13] fun e=>[(7,L 1 lV e)]):=⟨⟩
instance t_aT:FI J0 212 (∀(a:SPr)(b:zB)(c:List (List Int)),FnK J0 212 [T.ro ((Pt vQ) a),T.ro ((Pt wC) b),T.ro (lM c)] (fun r:(List (List Int))=>[lM r]) (fun _=>[]) (zY9 a b c)):=⟨Tryz.call212,fun a b c=>iM Tryz.func212⟩
instance t_b4:FI J0 267 (∀(a:zN),FnK J0 267 [jW a] (fun r=>[zCD r]) (fun _=>[]) (yCn a)):=⟨Tryz.call267,fun a=>iM Tryz.func267⟩
instance:HS Tryz.f183.8 [(2,2,0,.tr 5 9)]:=⟨⟩
instance(b:zN)(c:(List Int)):LH (R:=(List Int)) (zK8 b c) [2,12,13] [] (fun a=>[(5,L 1 I a.1),(14,I a.2)]) (.xe 0 [2,12,13] fun d=>[(5,L 1 I d)]):=⟨⟩
instance t_av:FI J0 183 (∀(a:zN)(b:List Int),FnK J0 183 [jW a,T.ro (lV b)] (fun r=>[lV r]) (fun _=>[]) (zWm a b)):=⟨Tryz.call183,fun a b=>iM Tryz.func183⟩
instance:HS Tryz.f285.8 [(2,3,0,.tr 6 15),(2,7,0,.tr 8 22),(0,36,0,.tr 26 6)]:=⟨⟩
instance(b:SPr)(c:zB)(d:Int):LH (R:=(List (List Int))) (zOa b c d) [2,3,5] [] (fun a=>[(6,L 1 lV a.1),(7,I a.2)]) (.xe 0 [2,3,5] fun e=>[(6,L 1 lV e)]):=⟨⟩
instance t_aY:FI J0 285 (∀(a:SPr)(b:zB),FnK J0 285 [qPr a,wS b] (fun r:(List (List Int))=>[lM r]) (fun _=>[]) (zYG a b)):=⟨Tryz.call285,fun a b=>iM Tryz.func285⟩
end
end Go.Wk
