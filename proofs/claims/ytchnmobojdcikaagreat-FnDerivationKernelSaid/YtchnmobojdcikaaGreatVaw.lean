/- x -/
import Derived.Test.YtchnmobojdcikaaGreatVav
import Derived.Test.YtchnmobojdcikaaGreatWT
open Go.Proofs.Tryz renaming prog→J0
open Option renaming some→dS,none→dT
open Bool renaming true→dU,false→dV
namespace Go.Wk
open Go Go.Proofs Go.Ab
set_option maxRecDepth 100000
set_option maxHeartbeats 4000000
section
attribute [local irreducible] RW CW DK OkL Ok zU zY yO yZ XS.post rng xC yL ixO zL zX yM zV zE GTo zK FnC FnK xJ xQ Kp Lk BsL BuL RpL Bk Lc JQ AK
instance:HS Tryz.f268.8 [(0,10,0,.fz 9),(1,3,0,.trf 33 2 5 [2,0])]:=⟨⟩
instance:HS Tryz.f295.8 [(0,12,0,.fz 8),(0,12,1,.fz 11)]:=⟨⟩
instance:HS Tryz.f101.8 [(2,2,0,.tr 7 9)]:=⟨⟩
instance t_c0:FI J0 193 (∀(a:Int)(b:List (List Int)),FnK J0 193 [I a,T.ro (lM b)] (fun r=>[(fun x=>T.agg [I x.Prime,I x.xL,(Ro lM) x.Rows]) r]) (fun _=>[]) (zZP a b)):=⟨Tryz.call193,fun a b=>iM Tryz.func193⟩
instance t_cy:FI J0 266 (∀(a:Int),FnK J0 266 [I a] (fun r=>[B r]) (fun _=>[]) (zW2 a)):=⟨Tryz.call266,fun a=>iM Tryz.func266⟩
instance(a:List Int):LH (R:=Int) (zMZ a) [0,1,7] [] (fun b=>[(8,I b)]) (.xs (.xe 0 [0,1,7] fun _=>[]) .xr):=⟨⟩
instance t_ba:FJ J0 263 266 (∀(a:List Int),FnK J0 263 [T.ro (lV a),T.lit (.func (.func 266) #[] #[])] (fun r=>[I r]) (fun _=>[]) (zW3 a)):=⟨Tryz.call263,fun a=>iM Tryz.func263⟩
instance t_cz:FI J0 267 (∀(a:zJ),FnK J0 267 [uS a] (fun r=>[sB r]) (fun _=>[]) (zZQ a)):=⟨Tryz.call267,fun a=>iM Tryz.func267⟩
instance t_cZ:FI J0 169 (∀(a b:Int)(c:List (List Int)),FnK J0 169 [I a,I b,T.ro (lM c)] (fun r=>[sB r]) (fun _=>[]) (zZH a b c)):=⟨Tryz.call169,fun a b c=>iM Tryz.func169⟩
end
end Go.Wk
