/- x -/
import Derived.Test.YtchnmobojdcikaaGreatCVaa
import Derived.Test.YtchnmobojdcikaaGreatCVac
import Derived.Test.YtchnmobojdcikaaGreatCVad
import Derived.Test.YtchnmobojdcikaaGreatCVai
import Derived.Test.YtchnmobojdcikaaGreatCVaj
import Derived.Test.YtchnmobojdcikaaGreatCVak
import Derived.Test.YtchnmobojdcikaaGreatCVal
import Derived.Test.YtchnmobojdcikaaGreatCVam
import Derived.Test.YtchnmobojdcikaaGreatCVap
import Derived.Test.YtchnmobojdcikaaGreatCVaq
import Derived.Test.YtchnmobojdcikaaGreatCWT
open Go.Proofs.Tryz renaming prog→J0
open Option renaming some→iz,none→iA
open Bool renaming true→iB,false→iC
namespace Go.Wk
open Go Go.Proofs Go.Ab
set_option maxRecDepth 100000
set_option maxHeartbeats 4000000
section
attribute [local irreducible] RW CW DK OkL Ok zV yA yW xK XS.post rng xN yP ixO zO yG yO yB zG GTo zP FnC FnK xQ wB Kp Lk BsL BuL RpL Bk Lc JQ AK
instance:HS Tryz.f331.8 [(2,2,0,.tr 4 10),(2,3,0,.trq 5 15 [0]),(0,7,0,.fz 22)]:=⟨⟩
instance(c:(List ByteArray)):LH (R:=SPr×Int) (zPN c) [0,2,4] [] (fun a=>[(7,T.ptr (T.agg [T.ro (lV a.1),T.ro (lM a.2.1),T.ro (lC a.2.2.1)])),(8,I a.2.2.2)]) (.xs (.xe 0 [4] fun b=>[(7,T.ptr (T.agg [T.ro (lV b.1),T.ro (lM b.2.1),T.ro (lC b.2.2)]))]) .xr):=⟨⟩
instance t_bb:FI J0 331 (∀(a:ByteArray),FnK J0 331 [Str a] (fun r=>[(fun x=>T.agg [(Ro lV) x.zA,(Ro lM) x.zJ,(Ro lC) x.zB]) r.1,I r.2]) (fun _=>[]) (zXb a)):=⟨Tryz.call331,fun a=>iM Tryz.func331⟩
instance:HS Tryz.f322.8 [(2,7,0,.fi 1 9),(2,10,0,.fi 1 9),(2,16,0,.tr 14 111),(0,119,0,.tr 116 14),(0,119,1,.trq 118 12 [1,0])]:=⟨⟩
instance(g_f:zN→Int→zH→Option zH)(c:zN)(d:Int)(e:zH):LH (R:=zH) (zQP g_f c d e) [1,4,6,7,8,10] [] (fun b=>[(9,T.ptr (T.agg [T.ro (lV b.1),T.ro (lV b.2.1)])),(11,I b.2.2)]) (.xe 0 [] fun a=>[(9,T.ptr (T.agg [T.ro (lV a.1),T.ro (lV a.2)]))]):=⟨⟩
theorem yDf{g_f:zN→Int→zH→Option zH}[FI J0 325 (∀(x0:zN)(x1:Int)(x2:zH),FnK J0 325 [xG x0,I x1,xC x2] (fun r:zH=>[xX r]) (fun _=>[]) (g_f x0 x1 x2))]{g_c:zN→Int→zH→zH→Option zH}[FI J0 322 (∀(x0:zN)(x1:Int)(x2:zH)(x3:zH),FnK J0 322 [xG x0,I x1,xC x2,xC x3] (fun r:zH=>[xX r]) (fun _=>[]) (g_c x0 x1 x2 x3))]:∀(x0:zN)(x1:Int)(x2:zH)(x3:zH),FnK J0 322 [xG x0,I x1,xC x2,xC x3] (fun r:zH=>[xX r]) (fun _=>[]) (b_c g_f g_c x0 x1 x2 x3):=fun x0 x1 x2 x3=>iM Tryz.func322
theorem yDg{g_f:zN→Int→zH→Option zH}(H_f:∀(x0:zN)(x1:Int)(x2:zH) r,g_f x0 x1 x2=iz r→FnC J0 325 [xG x0,I x1,xC x2] [xX r] []){g_c:zN→Int→zH→zH→Option zH}(H_c:∀(x0:zN)(x1:Int)(x2:zH)(x3:zH) r,g_c x0 x1 x2 x3=iz r→FnC J0 322 [xG x0,I x1,xC x2,xC x3] [xX r] [])(x0:zN)(x1:Int)(x2:zH)(x3:zH)(r:zH)(h:b_c g_f g_c x0 x1 x2 x3=iz r):FnC J0 322 [xG x0,I x1,xC x2,xC x3] [xX r] []:=by have:FI J0 325 (∀(x0:zN)(x1:Int)(x2:zH),FnK J0 325 [xG x0,I x1,xC x2] (fun r:zH=>[xX r]) (fun _=>[]) (g_f x0 x1 x2)):=⟨Tryz.call325,fun x0 x1 x2=>FnK.mk (H_f x0 x1 x2)⟩;have:FI J0 322 (∀(x0:zN)(x1:Int)(x2:zH)(x3:zH),FnK J0 322 [xG x0,I x1,xC x2,xC x3] (fun r:zH=>[xX r]) (fun _=>[]) (g_c x0 x1 x2 x3)):=⟨Tryz.call322,fun x0 x1 x2 x3=>FnK.mk (H_c x0 x1 x2 x3)⟩;exact(yDf x0 x1 x2 x3).go h
instance:HS Tryz.f305.8 [(2,2,0,.tr 7 12)]:=⟨⟩
instance(b:SPr)(c:List Int)(d:Int):LH (R:=(List Int)) (zTI b c d) [0,1,2,9,19,20,21,32] [] (fun a=>[(7,L 1 I a.1),(33,I a.2)]) (.xe 2 [9,32] fun e=>[(7,L 1 I e)]):=⟨⟩
instance(c:SPr)(d:Int)(e:List Int)(f:List (List Int)):LH (R:=(List Int)) (zTJ c d e f) [0,1,2,19,20] [] (fun b=>[(7,L 1 I b.1),(21,I b.2)]) (.xe 0 [0,1,2,19,20] fun a=>[(7,L 1 I a)]):=⟨⟩
instance t_M:FI J0 305 (∀(a:SPr)(b:Int)(c:List Int),FnK J0 305 [T.ro ((Pt vE) a),I b,T.ro (lV c)] (fun r=>[lV r]) (fun _=>[]) (f_M a b c)):=⟨Tryz.call305,fun a b c=>iM Tryz.func305⟩
instance:HS Tryz.f327.8 [(2,2,0,.tr 5 9),(2,3,0,.tr 6 12)]:=⟨⟩
instance(c:SPr)(d:(List Int)×(List Int)×Int):LH (R:=(List Int)) (zQH c d) [0,7,14,15] [] (fun a=>[(5,L 1 I a.1),(6,L 1 I a.2)]) (.xe 2 [7] fun b=>[(5,L 1 I b.1),(6,L 1 I b.2)]):=⟨⟩
instance(b:SPr)(c:(List Int)):LH (R:=(List Int)) (zTL b c) [0,14] [] (fun a=>[(5,L 1 I a.1),(6,L 1 I a.2.1),(15,I a.2.2)]) (.xe 0 [0,14] fun d=>[(6,L 1 I d)]):=⟨⟩
instance t_R:FI J0 327 (∀(a:SPr)(b:List Int),FnK J0 327 [T.ro ((Pt vE) a),T.ro (lV b)] (fun r=>[lV r]) (fun _=>[]) (f_R a b)):=⟨Tryz.call327,fun a b=>iM Tryz.func327⟩
instance:HS Tryz.f144.8 [(2,2,0,.tr 7 9)]:=⟨⟩
instance t_bH:FI J0 144 (∀(a:SPr)(b c:List Int),FnK J0 144 [T.ro ((Pt vE) a),T.ro (lV b),T.ro (lV c)] (fun r=>[lV r]) (fun _=>[]) (zTM a b c)):=⟨Tryz.call144,fun a b c=>iM Tryz.func144⟩
instance t_bM:FI J0 125 (∀(a:SPr)(b:zC)(c:List (List Int)),FnK J0 125 [T.ro ((Pt vE) a),T.ro ((Pt xV) b),T.ro (lM c)] (fun r=>[B r]) (fun _=>[]) (zUu a b c)):=⟨Tryz.call125,fun a b c=>iM Tryz.func125⟩
end
end Go.Wk
