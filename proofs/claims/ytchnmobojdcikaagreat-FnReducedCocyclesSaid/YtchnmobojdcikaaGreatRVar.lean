/- x -/
import Derived.Test.YtchnmobojdcikaaGreatRVaa
import Derived.Test.YtchnmobojdcikaaGreatRVab
import Derived.Test.YtchnmobojdcikaaGreatRVac
import Derived.Test.YtchnmobojdcikaaGreatRVaf
import Derived.Test.YtchnmobojdcikaaGreatRVag
import Derived.Test.YtchnmobojdcikaaGreatRVah
import Derived.Test.YtchnmobojdcikaaGreatRVan
import Derived.Test.YtchnmobojdcikaaGreatRWT
open Go.Proofs.Tryz renaming prog->J0
open Option renaming some->iW,none->iY
open Bool renaming true->iZ,false->ja
namespace Go.Wk
open Go Go.Proofs Go.Ab
set_option maxRecDepth 100000
set_option maxHeartbeats 4000000
section
attribute [local irreducible] RW CW DK OkL Ok yB yI xF xQ XS.post rng xV xC ixO zL yE yT yD zH GTo zR FnC FnK wA wN Kp Lk BsL BuL RpL Bk Lc JQ AK
instance:HS Tryz.f288.8 [(1,4,0,.trf 115 0 7 [0,0]),(1,4,1,.trf 115 1 7 [1,0]),(1,4,2,.trf 115 2 7 [2,0])]:=⟨⟩
instance(a b:SPr)(c:(List (List Int))×(List (List (List Int)))×Int):LN (zZg a b c) 7:=⟨⟩
instance(c d:SPr)(e:(List (List Int))×(List (List (List Int)))×Int)(A0 A1 A2:T):LHk (R:=SPr) (zZg c d e) (T.ptr (T.agg [A0,A1,A2])) [2,3,4,5,6,8] [] (fun b=>[(7,T.ptr (T.agg [A0,A1,L 1 lM b.1])),(9,I b.2)]) (.xe 2 [] fun a=>[(7,T.ptr (T.agg [A0,A1,L 1 lM a]))]):=⟨⟩
instance(a b:SPr):LN (zZh a b) 7:=⟨⟩
instance(c d:SPr)(A0 A1 A2:T):LHk (R:=SPr) (zZh c d) (T.ptr (T.agg [A0,A1,A2])) [2,3,4,5,6] [] (fun b=>[(7,T.ptr (T.agg [A0,L 1 lV b.1,L 1 lM b.2.1])),(8,I b.2.2)]) (.xe 0 [2] fun a=>[(7,T.ptr (T.agg [A0,L 1 lV a.1,L 1 lM a.2]))]):=⟨⟩
instance(b c:SPr)(a:(List (List Int))×(List (List (List Int)))×Int):LN (zZi b c a) 7:=⟨⟩
instance(d e:SPr)(b:(List (List Int))×(List (List (List Int)))×Int)(A0 A1 A2:T):LHk (R:=SPr) (zZi d e b) (T.ptr (T.agg [A0,A1,A2])) [3,4,5,6,10] [] (fun a=>[(7,T.ptr (T.agg [A0,A1,L 1 lM a.1])),(11,I a.2)]) (.xe 6 [] fun c=>[(7,T.ptr (T.agg [A0,A1,L 1 lM c]))]):=⟨⟩
instance(a b:SPr):LN (zZj a b) 7:=⟨⟩
instance(c d:SPr)(A0 A1 A2:T):LHk (R:=SPr) (zZj c d) (T.ptr (T.agg [A0,A1,A2])) [3,4,5,6] [] (fun a=>[(7,T.ptr (T.agg [A0,L 1 lV a.1,L 1 lM a.2.1])),(10,I a.2.2)]) (.xe 4 [3,5,6] fun b=>[(7,T.ptr (T.agg [A0,L 1 lV b.1,L 1 lM b.2]))]):=⟨⟩
instance t_J:FI J0 288 (∀(a b:SPr),FnK J0 288 [qPr a,qPr b] (fun r=>[vQ r]) (fun _=>[]) (f_J a b)):=⟨Tryz.call288,fun a b=>iM Tryz.func288⟩
instance:HS Tryz.f325.8 [(0,53,0,.trq 40 7 [0,0])]:=⟨⟩
instance(g_c:zO->Int->zI->zI->Option zI)(c:zO)(d:Int)(e:zI)(f:(List Int)×(List Int)×Int):LH (R:=zI) (zYA g_c c d e f) [1,3,5,6,8] [] (fun a=>[(7,T.ptr (T.agg [L 1 I a.1,L 1 I a.2.1])),(9,I a.2.2)]) (.xe 2 [] fun b=>[(7,T.ptr (T.agg [L 1 I b.1,L 1 I b.2]))]):=⟨⟩
instance(g_c:zO->Int->zI->zI->Option zI)(c:zO)(d:Int)(e:zI):LH (R:=zI) (zWj g_c c d e) [1,3,5,6] [] (fun b=>[(7,T.ptr (T.agg [L 1 I b.1,L 1 I b.2.1])),(8,I b.2.2)]) (.xe 0 [] fun a=>[(7,T.ptr (T.agg [L 1 I a.1,L 1 I a.2]))]):=⟨⟩
theorem yFC{g_c:zO->Int->zI->zI->Option zI}[FI J0 322 (∀(x0:zO)(x1:Int)(x2:zI)(x3:zI),FnK J0 322 [xM x0,I x1,xH x2,xH x3] (fun r:zI=>[wF r]) (fun _=>[]) (g_c x0 x1 x2 x3))]:∀(x0:zO)(x1:Int)(x2:zI),FnK J0 325 [xM x0,I x1,xH x2] (fun r:zI=>[wF r]) (fun _=>[]) (b_f g_c x0 x1 x2):=fun x0 x1 x2=>iM Tryz.func325
theorem yFD{g_c:zO->Int->zI->zI->Option zI}(H_c:∀(x0:zO)(x1:Int)(x2:zI)(x3:zI) r,g_c x0 x1 x2 x3=iW r->FnC J0 322 [xM x0,I x1,xH x2,xH x3] [wF r] [])(x0:zO)(x1:Int)(x2:zI)(r:zI)(h:b_f g_c x0 x1 x2=iW r):FnC J0 325 [xM x0,I x1,xH x2] [wF r] []:=by have:FI J0 322 (∀(x0:zO)(x1:Int)(x2:zI)(x3:zI),FnK J0 322 [xM x0,I x1,xH x2,xH x3] (fun r:zI=>[wF r]) (fun _=>[]) (g_c x0 x1 x2 x3)):=⟨Tryz.call322,fun x0 x1 x2 x3=>FnK.mk (H_c x0 x1 x2 x3)⟩;exact(yFC x0 x1 x2).go h
instance:HS Tryz.f144.8 [(2,2,0,.tr 7 9)]:=⟨⟩
instance t_bM:FI J0 144 (∀(a:SPr)(b c:List Int),FnK J0 144 [T.ro ((Pt vQ) a),T.ro (lV b),T.ro (lV c)] (fun r=>[lV r]) (fun _=>[]) (zVD a b c)):=⟨Tryz.call144,fun a b c=>iM Tryz.func144⟩
end
end Go.Wk
