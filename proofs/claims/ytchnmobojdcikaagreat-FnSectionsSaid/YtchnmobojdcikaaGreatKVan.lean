/- x -/
import Derived.Test.YtchnmobojdcikaaGreatKVai
import Derived.Test.YtchnmobojdcikaaGreatKVaj
import Derived.Test.YtchnmobojdcikaaGreatKVak
import Derived.Test.YtchnmobojdcikaaGreatKVal
import Derived.Test.YtchnmobojdcikaaGreatKWT
open Go.Proofs.Tryz renaming prog→J0,call134→Jat
open Option renaming some→dJ,none→dK
open Bool renaming true→dL,false→dM
namespace Go.Wk
open Go Go.Proofs Go.Ab
set_option maxRecDepth 100000
set_option maxHeartbeats 4000000
section
attribute [local irreducible] RW CW DK OkL Ok yO yY wQ wK XS.post rng wS xR ixO zQ zZ wP yG zH GTo zX FnC FnK vM uH Kp Lk BsL BuL RpL Bk Lc JQ AK
instance t_bg:FI J0 136 (∀(a:SPr)(b:zC),FnK J0 136 [qPr a,wL b] (fun r=>[B r]) (fun _=>[]) (zMW a b)):=⟨Tryz.call136,fun a b=>iM Tryz.func136⟩
instance:HS Tryz.f322.8 [(2,7,0,.fi 1 9),(2,10,0,.fi 1 9),(2,16,0,.tr 14 111),(0,119,0,.tr 116 14),(0,119,1,.trq 118 12 [1,0])]:=⟨⟩
instance(g_f:zN→Int→zI→Option zI)(c:zN)(d:Int)(e:zI):LH (R:=zI) (zRz g_f c d e) [1,4,6,7,8,10] [] (fun b=>[(9,T.ptr (T.agg [T.ro (lV b.1),T.ro (lV b.2.1)])),(11,I b.2.2)]) (.xe 0 [] fun a=>[(9,T.ptr (T.agg [T.ro (lV a.1),T.ro (lV a.2)]))]):=⟨⟩
theorem yEx{g_f:zN→Int→zI→Option zI}[FI J0 325 (∀(x0:zN)(x1:Int)(x2:zI),FnK J0 325 [xG x0,I x1,xD x2] (fun r:zI=>[xS r]) (fun _=>[]) (g_f x0 x1 x2))]{g_c:zN→Int→zI→zI→Option zI}[FI J0 322 (∀(x0:zN)(x1:Int)(x2:zI)(x3:zI),FnK J0 322 [xG x0,I x1,xD x2,xD x3] (fun r:zI=>[xS r]) (fun _=>[]) (g_c x0 x1 x2 x3))]:∀(x0:zN)(x1:Int)(x2:zI)(x3:zI),FnK J0 322 [xG x0,I x1,xD x2,xD x3] (fun r:zI=>[xS r]) (fun _=>[]) (b_c g_f g_c x0 x1 x2 x3):=fun x0 x1 x2 x3=>iM Tryz.func322
theorem yEy{g_f:zN→Int→zI→Option zI}(H_f:∀(x0:zN)(x1:Int)(x2:zI) r,g_f x0 x1 x2=dJ r→FnC J0 325 [xG x0,I x1,xD x2] [xS r] []){g_c:zN→Int→zI→zI→Option zI}(H_c:∀(x0:zN)(x1:Int)(x2:zI)(x3:zI) r,g_c x0 x1 x2 x3=dJ r→FnC J0 322 [xG x0,I x1,xD x2,xD x3] [xS r] [])(x0:zN)(x1:Int)(x2:zI)(x3:zI)(r:zI)(h:b_c g_f g_c x0 x1 x2 x3=dJ r):FnC J0 322 [xG x0,I x1,xD x2,xD x3] [xS r] []:=by have:FI J0 325 (∀(x0:zN)(x1:Int)(x2:zI),FnK J0 325 [xG x0,I x1,xD x2] (fun r:zI=>[xS r]) (fun _=>[]) (g_f x0 x1 x2)):=⟨Tryz.call325,fun x0 x1 x2=>FnK.mk (H_f x0 x1 x2)⟩;have:FI J0 322 (∀(x0:zN)(x1:Int)(x2:zI)(x3:zI),FnK J0 322 [xG x0,I x1,xD x2,xD x3] (fun r:zI=>[xS r]) (fun _=>[]) (g_c x0 x1 x2 x3)):=⟨Tryz.call322,fun x0 x1 x2 x3=>FnK.mk (H_c x0 x1 x2 x3)⟩;exact(yEx x0 x1 x2 x3).go h
instance t_bA:FI J0 196 (∀(a:SPr)(b:zC)(c:List (List Int)),FnK J0 196 [qPr a,wL b,T.ro (lM c)] (fun r=>[B r]) (fun _=>[]) (zRy a b c)):=⟨Tryz.call196,fun a b c=>iM Tryz.func196⟩
instance t_bG:FI J0 273 (∀(a:SPr)(b:Int)(c:List Int),FnK J0 273 [T.ro ((Pt wH) a),I b,T.ro (lV c)] (fun r=>[B r]) (fun _=>[]) (zUr a b c)):=⟨Tryz.call273,fun a b c=>iM Tryz.func273⟩
instance(b:SPr):LH (R:=Bool) (zOv b) [1,3,30,31] [] (fun a=>[(4,I a.1),(32,I a.2)]) (.xs (.xe 0 [30,31] fun _=>[]) .xr):=⟨⟩
instance(b:SPr)(c:Int)(a:List (List Int)):LH (R:=Bool) (zUs b c a) [1,3,7,49,50,78,79] [] (fun d=>[(80,I d)]) (.xs (.xe 4 [7,78,79] fun _=>[]) .xr):=⟨⟩
instance(a:SPr):LH (R:=Bool) (zOw a) [1,3,49] [] (fun b=>[(50,I b)]) (.xs (.xe 2 [1,3,49] fun _=>[]) .xr):=⟨⟩
instance t_C:FI J0 201 (∀(a:SPr),FnK J0 201 [qPr a] (fun r=>[B r]) (fun _=>[]) (f_C a)):=⟨Tryz.call201,fun a=>iM Tryz.func201⟩
instance(a:zS):LH (R:=Bool) (zMZ a) [1,22,23] [] (fun b=>[(24,I b)]) (.xs (.xe 0 [1,22,23] fun _=>[]) .xr):=⟨⟩
instance t_aF:FI J0 147 (∀(a:zS),FnK J0 147 [zHc a] (fun r=>[B r]) (fun _=>[]) (zXn a)):=⟨Tryz.call147,fun a=>iM Tryz.func147⟩
instance:HS Tryz.f234.8 [(0,37,0,.tr 21 3),(0,77,0,.tr 66 3),(2,15,0,.tr 3 77)]:=⟨⟩
instance(b:SPr):LH (R:=(List ((List Int)×(List Int)))) (zUC b) [0,14,15] [] (fun a=>[(3,L 2 (A2 lV) a.1),(16,I a.2)]) (.xe 0 [14,15] fun c=>[(3,L 2 (A2 lV) c)]):=⟨⟩
instance(c:(List ((List Int)×(List Int)))×Int)(d:List (List Int)):LH (R:=(List ((List Int)×(List Int)))) (zUD c d) [0,6,43,44,53,54] [] (fun b=>[(3,L 2 (A2 lV) b.1),(55,I b.2)]) (.xe 4 [6,53,54] fun a=>[(3,L 2 (A2 lV) a)]):=⟨⟩
instance(c:SPr):LH (R:=(List ((List Int)×(List Int)))) (zUE c) [0,43] [] (fun b=>[(3,L 2 (A2 lV) b.1),(44,I b.2)]) (.xe 2 [0,43] fun a=>[(3,L 2 (A2 lV) a)]):=⟨⟩
instance t_M:FI J0 234 (∀(a:SPr),FnK J0 234 [T.ro ((Pt wH) a)] (fun r:(List ((List Int)×(List Int)))=>[(L 2 (A2 lV)) r]) (fun _=>[]) (f_M a)):=⟨Tryz.call234,fun a=>iM Tryz.func234⟩
instance:HS Tryz.f134.8 [(1,4,0,.trf 30 2 5 [2,0])]:=⟨⟩
instance(c:zC)(d:List Int):LH (R:=zS) (zNd c d) [0,4,17,18] [] (fun a=>[(5,T.ptr (T.agg [I a.1,I a.2.1,L 1 lV a.2.2.1])),(19,I a.2.2.2)]) (.xe 0 [0,17,18] fun b=>[(5,T.ptr (T.agg [I b.1,I b.2.1,L 1 lV b.2.2]))]):=⟨⟩
instance t_ab:FI J0 134 (∀(a:zC)(b:List Int),FnK J0 134 [T.ro ((Pt wB) a),T.ro (lV b)] (fun r=>[zF4 r]) (fun _=>[]) (zLh a b)):=⟨Jat,fun a b=>iM Tryz.func134⟩
instance t_bN:FI J0 125 (∀(a:SPr)(b:zC)(c:List (List Int)),FnK J0 125 [T.ro ((Pt wH) a),T.ro ((Pt wB) b),T.ro (lM c)] (fun r=>[B r]) (fun _=>[]) (zUW a b c)):=⟨Tryz.call125,fun a b c=>iM Tryz.func125⟩
end
end Go.Wk
