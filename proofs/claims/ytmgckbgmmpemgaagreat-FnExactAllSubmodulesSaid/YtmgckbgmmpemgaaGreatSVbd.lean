/- x -/
import Derived.Test.YtmgckbgmmpemgaaGreatSVab
import Derived.Test.YtmgckbgmmpemgaaGreatSVar
import Derived.Test.YtmgckbgmmpemgaaGreatSVay
import Derived.Test.YtmgckbgmmpemgaaGreatSWT
open Go.Proofs.Tryz renaming prog→J0,call10→Ur
open Option renaming some→VU,none→VV
open Bool renaming true→VW,false→VX
namespace Go.Wk
open Go Go.Proofs Go.Ab
set_option maxRecDepth 100000
set_option maxHeartbeats 4000000
section
attribute [local irreducible] RW CW DK OkL Ok yM yJ wN vO XS.post rng yQ vN ixO yG xC wV yW zI GTo zN FnC FnK vT uL Kp Lk BsL BuL RpL Bk Lc
instance t_ba:FI J0 4 (∀(a:SPr)(b:Int),FnK J0 4 [qPr a,I b] (fun r=>[I r]) (fun _=>[]) (zRT a b)):=⟨Tryz.call4,fun a b=>iM Tryz.func4⟩
instance t_bb:FI J0 5 (∀(a:zS)(b:Int),FnK J0 5 [vG a,I b] (fun r=>[I r]) (fun _=>[]) (zRU a b)):=⟨Tryz.call5,fun a b=>iM Tryz.func5⟩
instance(a b:List zD):LH (R:=Bool) (zRh a b) [0,1] [] (fun c=>[(5,I c)]) (.xs (.xe 0 [0,1] fun _=>[]) .xr):=⟨⟩
instance t_P:FI J0 10 (∀(a b:List zD),FnK J0 10 [T.ro ((L 3 zA) a),T.ro ((L 3 zA) b)] (fun r=>[B r]) (fun _=>[]) (f_P a b)):=⟨Ur,fun a b=>iM Tryz.func10⟩
instance t_bd:FI J0 11 (∀(a b:SPr),FnK J0 11 [qPr a,qPr b] (fun r=>[B r]) (fun _=>[]) (zSo a b)):=⟨Tryz.call11,fun a b=>iM Tryz.func11⟩
instance t_bc:FI J0 12 (∀(a b:zS),FnK J0 12 [vG a,vG b] (fun r=>[B r]) (fun _=>[]) (zSn a b)):=⟨Tryz.call12,fun a b=>iM Tryz.func12⟩
instance:HS Tryz.f13.8 [(2,4,0,.trf 0 0 2 [0,0]),(2,4,1,.trf 0 1 2 [1,0]),(2,4,2,.trf 0 2 2 [2,0])]:=⟨⟩
instance t_bn:FI J0 13 (∀(a:SPr)(b:Int),FnK J0 13 [uT a,I b] (fun r=>[I r.1]) (fun r=>[(0,uT r.2)]) (zSp a b)):=⟨Tryz.call13,fun a b=>iM Tryz.func13⟩
instance:HS Tryz.f14.8 [(2,2,0,.trf 0 2 2 [2,0])]:=⟨⟩
instance t_be:FI J0 14 (∀(a:zS)(b:Int),FnK J0 14 [wB a,I b] (fun r=>[I r.1]) (fun r=>[(0,wB r.2)]) (zSq a b)):=⟨Tryz.call14,fun a b=>iM Tryz.func14⟩
end
end Go.Wk
