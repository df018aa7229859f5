/- x -/
import Derived.Test.YtmgckbgmmpemgaaGreatSVac
import Derived.Test.YtmgckbgmmpemgaaGreatSVad
import Derived.Test.YtmgckbgmmpemgaaGreatSVae
import Derived.Test.YtmgckbgmmpemgaaGreatSVag
import Derived.Test.YtmgckbgmmpemgaaGreatSVaj
import Derived.Test.YtmgckbgmmpemgaaGreatSWT
open Go.Proofs.Tryz renaming prog→J0,call49→Ja0
open Option renaming some→VU,none→VV
open Bool renaming true→VW,false→VX
namespace Go.Wk
open Go Go.Proofs Go.Ab
set_option maxRecDepth 100000
set_option maxHeartbeats 4000000
section
attribute [local irreducible] RW CW DK OkL Ok yM yJ wN vO XS.post rng yQ vN ixO yG xC wV yW zI GTo zN FnC FnK vT uL Kp Lk BsL BuL RpL Bk Lc
instance:HS Tryz.f123.8 [(2,7,0,.tr 8 49),(2,17,0,.tr 13 113),(2,26,0,.tr 16 155),(2,28,0,.tr 17 16),(2,28,1,.fz 17),(2,28,2,.res 16 17 []),(2,29,0,.tr 17 169),(2,31,0,.tr 17 16),(2,31,1,.fz 17),(2,31,2,.res 16 17 [])]:=⟨⟩
instance(a:SPr)(b:Int):LH (R:=xJ) (zQd a b) [1,2,4,5,6] [] (fun c=>[(7,I c)]) (.xs (.xe 0 [] fun _=>[]) .xr):=⟨⟩
instance(a:SPr)(b c:Int):LH (R:=xJ) (zQe a b c) [1,2,4,5,6,9] [] (fun d=>[(10,I d)]) (.xs (.xe 4 [] fun _=>[]) .xr):=⟨⟩
instance(a:SPr)(b:Int):LH (R:=xJ) (zQf a b) [1,2,4,5,6] [] (fun c=>[(9,I c)]) (.xs (.xe 2 [] fun _=>[]) .xr):=⟨⟩
instance(c:SPr)(d:Int):LH (R:=xJ) (zQg c d) [1,2,4,5,6,14,15,16] [16] (fun a=>[(17,T.ro (lV a.1)),(18,I a.2)]) (.xe 8 [] fun b=>[(17,T.ro (lV b))]):=⟨⟩
instance(c:SPr)(d:Int)(a:List Int):LH (R:=xJ) (zQh c d a) [1,2,4,5,6,14] [] (fun b=>[(15,I b)]) (.xs (.xe 6 [1,2,5,6,14] fun _=>[]) .xr):=⟨⟩
instance t_n:FI J0 123 (∀(a:SPr)(b:Int),FnK J0 123 [qPr a,I b] (fun r=>[zGg r]) (fun _=>[]) (f_n a b)):=⟨Tryz.call123,fun a b=>iM Tryz.func123⟩
instance:HS Tryz.f49.8 [(1,4,0,.trf 30 2 5 [2,0])]:=⟨⟩
instance(c:zS)(d:List Int):LH (R:=zD) (zQG c d) [0,4,17,18] [] (fun a=>[(5,T.ptr (T.agg [I a.1,I a.2.1,L 1 lV a.2.2.1])),(19,I a.2.2.2)]) (.xe 0 [0,17,18] fun b=>[(5,T.ptr (T.agg [I b.1,I b.2.1,L 1 lV b.2.2]))]):=⟨⟩
instance t_U:FI J0 49 (∀(a:zS)(b:List Int),FnK J0 49 [T.ro ((Pt wB) a),T.ro (lV b)] (fun r=>[zA r]) (fun _=>[]) (f_U a b)):=⟨Ja0,fun a b=>iM Tryz.func49⟩
end
end Go.Wk
