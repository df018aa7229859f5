/- x -/
import Derived.Test.YtmgckbgmmpemgaaGreatSVaa
import Derived.Test.YtmgckbgmmpemgaaGreatSWT
import Derived.Test.YtmgckbgmmpemgaaGreatSVao
open Go.Proofs.Tryz renaming prog→J0,call54→Jp
open Option renaming some→VU,none→VV
open Bool renaming true→VW,false→VX
namespace Go.Wk
open Go Go.Proofs Go.Ab
set_option maxRecDepth 100000
set_option maxHeartbeats 4000000
section
attribute [local irreducible] RW CW DK OkL Ok yM yJ wN vO XS.post rng yQ vN ixO yG xC wV yW zI GTo zN FnC FnK vT uL Kp Lk BsL BuL RpL Bk Lc
instance t_bC:FI J0 86 (∀(a b:Int),FnK J0 86 [I a,I b] (fun r=>[I r]) (fun _=>[]) (zWC a b)):=⟨Tryz.call86,fun a b=>iM Tryz.func86⟩
end
end Go.Wk

namespace Go.Wk
open Go Go.Proofs Go.Ab
set_option maxRecDepth 100000
set_option maxHeartbeats 4000000
section
attribute [local irreducible] RW CW DK OkL Ok yM yJ wN vO XS.post rng yQ vN ixO yG xC wV yW zI GTo zN FnC FnK vT uL Kp Lk BsL BuL RpL Bk Lc
instance(a b:List Int):LH (R:=Int) (zRe a b) [0,1,9,10] [] (fun c=>[(11,I c)]) (.xs (.xe 0 [9,10] fun _=>[]) .xr):=⟨⟩
instance t_aW:FI J0 55 (∀(a b:List Int),FnK J0 55 [T.ro (lV a),T.ro (lV b)] (fun r=>[I r]) (fun _=>[]) (zSB a b)):=⟨Tryz.call55,fun a b=>iM Tryz.func55⟩
end
end Go.Wk

namespace Go.Wk
open Go Go.Proofs Go.Ab
set_option maxRecDepth 100000
set_option maxHeartbeats 4000000
section
attribute [local irreducible] RW CW DK OkL Ok yM yJ wN vO XS.post rng yQ vN ixO yG xC wV yW zI GTo zN FnC FnK vT uL Kp Lk BsL BuL RpL Bk Lc
instance t_h:FI J0 54 (∀(a b:zD),FnK J0 54 [vZ a,vZ b] (fun r=>[I r]) (fun _=>[]) (f_h a b)):=⟨Jp,fun a b=>iM Tryz.func54⟩
end
end Go.Wk
