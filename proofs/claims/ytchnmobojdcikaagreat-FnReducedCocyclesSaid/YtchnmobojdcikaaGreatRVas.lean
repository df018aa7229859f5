/- x -/
import Derived.Test.YtchnmobojdcikaaGreatRVaa
import Derived.Test.YtchnmobojdcikaaGreatRVac
import Derived.Test.YtchnmobojdcikaaGreatRVaf
import Derived.Test.YtchnmobojdcikaaGreatRVag
import Derived.Test.YtchnmobojdcikaaGreatRVah
import Derived.Test.YtchnmobojdcikaaGreatRVai
import Derived.Test.YtchnmobojdcikaaGreatRVak
import Derived.Test.YtchnmobojdcikaaGreatRVam
import Derived.Test.YtchnmobojdcikaaGreatRVan
import Derived.Test.YtchnmobojdcikaaGreatRWT
open Go.Proofs.Tryz renaming prog->J0
open Option renaming some->iW,none->iY
open Bool renaming true->iZ,false->ja
namespace Go.Wk
open Go Go.Proofs Go.Ab
set_option maxRecDepth 100000
set_option maxHeartbeats 4000000
section
attribute [local irreducible] RW CW DK OkL Ok yB yI xF xQ XS.post rng xV xC ixO zL yE yT yD zH GTo zR FnC FnK wA wN Kp Lk BsL BuL RpL Bk Lc JQ AK
instance:HS Tryz.f331.8 [(2,2,0,.tr 4 10),(2,3,0,.trq 5 15 [0]),(0,7,0,.fz 22)]:=⟨⟩
instance(c:(List ByteArray)):LH (R:=SPr×Int) (zRw c) [0,2,4] [] (fun a=>[(7,T.ptr (T.agg [T.ro (lV a.1),T.ro (lM a.2.1),T.ro (lC a.2.2.1)])),(8,I a.2.2.2)]) (.xs (.xe 0 [4] fun b=>[(7,T.ptr (T.agg [T.ro (lV b.1),T.ro (lM b.2.1),T.ro (lC b.2.2)]))]) .xr):=⟨⟩
instance t_bj:FI J0 331 (∀(a:ByteArray),FnK J0 331 [Str a] (fun r=>[(fun x=>T.agg [(Ro lV) x.zA,(Ro lM) x.zJ,(Ro lC) x.zC]) r.1,I r.2]) (fun _=>[]) (zZe a)):=⟨Tryz.call331,fun a=>iM Tryz.func331⟩
instance:HS Tryz.f322.8 [(2,7,0,.fi 1 9),(2,10,0,.fi 1 9),(2,16,0,.tr 14 111),(0,119,0,.tr 116 14),(0,119,1,.trq 118 12 [1,0])]:=⟨⟩
instance(g_f:zO->Int->zI->Option zI)(c:zO)(d:Int)(e:zI):LH (R:=zI) (zSx g_f c d e) [1,4,6,7,8,10] [] (fun b=>[(9,T.ptr (T.agg [T.ro (lV b.1),T.ro (lV b.2.1)])),(11,I b.2.2)]) (.xe 0 [] fun a=>[(9,T.ptr (T.agg [T.ro (lV a.1),T.ro (lV a.2)]))]):=⟨⟩
theorem yFE{g_f:zO->Int->zI->Option zI}[FI J0 325 (∀(x0:zO)(x1:Int)(x2:zI),FnK J0 325 [xM x0,I x1,xH x2] (fun r:zI=>[wF r]) (fun _=>[]) (g_f x0 x1 x2))]{g_c:zO->Int->zI->zI->Option zI}[FI J0 322 (∀(x0:zO)(x1:Int)(x2:zI)(x3:zI),FnK J0 322 [xM x0,I x1,xH x2,xH x3] (fun r:zI=>[wF r]) (fun _=>[]) (g_c x0 x1 x2 x3))]:∀(x0:zO)(x1:Int)(x2:zI)(x3:zI),FnK J0 322 [xM x0,I x1,xH x2,xH x3] (fun r:zI=>[wF r]) (fun _=>[]) (b_c g_f g_c x0 x1 x2 x3):=fun x0 x1 x2 x3=>iM Tryz.func322
theorem yFF{g_f:zO->Int->zI->Option zI}(H_f:∀(x0:zO)(x1:Int)(x2:zI) r,g_f x0 x1 x2=iW r->FnC J0 325 [xM x0,I x1,xH x2] [wF r] []){g_c:zO->Int->zI->zI->Option zI}(H_c:∀(x0:zO)(x1:Int)(x2:zI)(x3:zI) r,g_c x0 x1 x2 x3=iW r->FnC J0 322 [xM x0,I x1,xH x2,xH x3] [wF r] [])(x0:zO)(x1:Int)(x2:zI)(x3:zI)(r:zI)(h:b_c g_f g_c x0 x1 x2 x3=iW r):FnC J0 322 [xM x0,I x1,xH x2,xH x3] [wF r] []:=by have:FI J0 325 (∀(x0:zO)(x1:Int)(x2:zI),FnK J0 325 [xM x0,I x1,xH x2] (fun r:zI=>[wF r]) (fun _=>[]) (g_f x0 x1 x2)):=⟨Tryz.call325,fun x0 x1 x2=>FnK.mk (H_f x0 x1 x2)⟩;have:FI J0 322 (∀(x0:zO)(x1:Int)(x2:zI)(x3:zI),FnK J0 322 [xM x0,I x1,xH x2,xH x3] (fun r:zI=>[wF r]) (fun _=>[]) (g_c x0 x1 x2 x3)):=⟨Tryz.call322,fun x0 x1 x2 x3=>FnK.mk (H_c x0 x1 x2 x3)⟩;exact(yFE x0 x1 x2 x3).go h
instance:HS Tryz.f304.8 [(2,2,0,.tr 7 10)]:=⟨⟩
instance(b:SPr)(c:List Int)(d:Int):LH (R:=(List Int)) (zNB b c d) [0,1,11] [] (fun a=>[(7,L 1 I a.1),(12,I a.2)]) (.xe 0 [0,1,11] fun e=>[(7,L 1 I e)]):=⟨⟩
instance t_aQ:FI J0 304 (∀(a:SPr)(b:List Int)(c:Int),FnK J0 304 [T.ro ((Pt vQ) a),T.ro (lV b),I c] (fun r=>[lV r]) (fun _=>[]) (zY1 a b c)):=⟨Tryz.call304,fun a b c=>iM Tryz.func304⟩
instance:HS Tryz.f305.8 [(2,2,0,.tr 7 12)]:=⟨⟩
instance(b:SPr)(c:List Int)(d:Int):LH (R:=(List Int)) (zV9 b c d) [0,1,2,9,19,20,21,32] [] (fun a=>[(7,L 1 I a.1),(33,I a.2)]) (.xe 2 [9,32] fun e=>[(7,L 1 I e)]):=⟨⟩
instance(c:SPr)(d:Int)(e:List Int)(f:List (List Int)):LH (R:=(List Int)) (zVA c d e f) [0,1,2,19,20] [] (fun b=>[(7,L 1 I b.1),(21,I b.2)]) (.xe 0 [0,1,2,19,20] fun a=>[(7,L 1 I a)]):=⟨⟩
instance t_T:FI J0 305 (∀(a:SPr)(b:Int)(c:List Int),FnK J0 305 [T.ro ((Pt vQ) a),I b,T.ro (lV c)] (fun r=>[lV r]) (fun _=>[]) (f_T a b c)):=⟨Tryz.call305,fun a b c=>iM Tryz.func305⟩
instance:HS Tryz.f327.8 [(2,2,0,.tr 5 9),(2,3,0,.tr 6 12)]:=⟨⟩
instance(c:SPr)(d:(List Int)×(List Int)×Int):LH (R:=(List Int)) (zSs c d) [0,7,14,15] [] (fun a=>[(5,L 1 I a.1),(6,L 1 I a.2)]) (.xe 2 [7] fun b=>[(5,L 1 I b.1),(6,L 1 I b.2)]):=⟨⟩
instance(b:SPr)(c:(List Int)):LH (R:=(List Int)) (zVC b c) [0,14] [] (fun a=>[(5,L 1 I a.1),(6,L 1 I a.2.1),(15,I a.2.2)]) (.xe 0 [0,14] fun d=>[(6,L 1 I d)]):=⟨⟩
instance t_Z:FI J0 327 (∀(a:SPr)(b:List Int),FnK J0 327 [T.ro ((Pt vQ) a),T.ro (lV b)] (fun r=>[lV r]) (fun _=>[]) (f_Z a b)):=⟨Tryz.call327,fun a b=>iM Tryz.func327⟩
end
end Go.Wk
