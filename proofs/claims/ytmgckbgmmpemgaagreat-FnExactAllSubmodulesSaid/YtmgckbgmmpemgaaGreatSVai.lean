/- x -/
import Derived.Test.YtmgckbgmmpemgaaGreatSVac
import Derived.Test.YtmgckbgmmpemgaaGreatSVad
import Derived.Test.YtmgckbgmmpemgaaGreatSVae
import Derived.Test.YtmgckbgmmpemgaaGreatSVaf
import Derived.Test.YtmgckbgmmpemgaaGreatSVah
import Derived.Test.YtmgckbgmmpemgaaGreatSWT
open Go.Proofs.Tryz renaming prog→J0
open Option renaming some→VU,none→VV
open Bool renaming true→VW,false→VX
namespace Go.Wk
open Go Go.Proofs Go.Ab
set_option maxRecDepth 100000
set_option maxHeartbeats 4000000
section
attribute [local irreducible] RW CW DK OkL Ok yM yJ wN vO XS.post rng yQ vN ixO yG xC wV yW zI GTo zN FnC FnK vT uL Kp Lk BsL BuL RpL Bk Lc
instance:HS Tryz.f38.8 [(2,13,0,.tr 8 56),(2,23,0,.tr 11 108),(2,24,0,.tr 12 131)]:=⟨⟩
instance(a:SPr)(b:zS):LH (R:=Bool) (zQp a b) [2,3,5] [] (fun c=>[(6,I c)]) (.xs (.xe 0 [] fun _=>[]) .xr):=⟨⟩
instance(d:SPr)(e:zS)(b:Int):LH (R:=Bool) (zQq d e b) [2,3,5,7] [] (fun a=>[(8,L 1 lV a.1),(9,I a.2)]) (.xe 4 [] fun c=>[(8,L 1 lV c)]):=⟨⟩
instance(c:SPr)(d:zS)(a:Int):LH (R:=Bool) (zQr c d a) [2,3,5,7] [] (fun b=>[(10,I b)]) (.xs (.xe 6 [] fun _=>[]) .xr):=⟨⟩
instance(b:SPr)(c:zS):LH (R:=Bool) (zQs b c) [2,3,5] [] (fun a=>[(7,I a)]) (.xs (.xe 2 [2,3,5] fun _=>[]) .xr):=⟨⟩
instance t_q:FI J0 38 (∀(a:SPr)(b:zS),FnK J0 38 [qPr a,vG b] (fun r=>[B r]) (fun _=>[]) (f_q a b)):=⟨Tryz.call38,fun a b=>iM Tryz.func38⟩
instance:HS Tryz.f73.8 [(2,2,0,.tr 5 12),(2,6,0,.tr 7 25),(0,7,0,.fz 40),(2,10,0,.tr 9 41),(0,62,0,.tr 59 9),(2,15,0,.tr 9 62),(0,80,0,.fz 79),(0,81,0,.tr 63 9),(0,87,0,.tr 84 9),(2,19,0,.tr 9 87),(2,4,0,.tr 5 9)]:=⟨⟩
instance(c:Int)(d:(List (List Int))×Int)(e:Int)(f:(List Int)):LH (R:=(List (List Int))) (zFS c d e f) [0,1,5,6,7,8] [] (fun b=>[(9,L 1 (Ro lV) b.1),(10,B b.2.1),(11,I b.2.2)]) (.xe 2 [5,8] fun a=>[(9,L 1 (Ro lV) a.1),(10,B a.2)]):=⟨⟩
instance(c:Int)(d:List (List Int)):LH (R:=(List (List Int))) (zKR c d) [0,1] [] (fun b=>[(5,L 1 (Ro lV) b.1),(6,I b.2)]) (.xe 0 [0,1] fun a=>[(5,L 1 (Ro lV) a)]):=⟨⟩
instance t_o:FI J0 73 (∀(a:Int)(b:List (List Int)),FnK J0 73 [I a,T.ro (lM b)] (fun r:(List (List Int))=>[(L 1 (Ro lV)) r]) (fun _=>[]) (f_o a b)):=⟨Tryz.call73,fun a b=>iM Tryz.func73⟩
end
end Go.Wk
