/- x -/
import Derived.Test.YtcjmcjcfehbboaaGreatRVaa
import Derived.Test.YtcjmcjcfehbboaaGreatRVak
import Derived.Test.YtcjmcjcfehbboaaGreatRWT
open Go.Proofs.Tryz renaming prog->J1
open Option renaming some->Wu,none->Wv
open Bool renaming true->Ww,false->Wx
namespace Go.Wk
open Go Go.Proofs Go.Ab
set_option maxRecDepth 100000
set_option maxHeartbeats 4000000
section
attribute [local irreducible] RW CW DK OkL Ok yX xC wK wY XS.post rng vP vL ixO zT yR wN yO zF GTo zI FnC FnK vB uC Kp Lk BsL BuL RpL Bk Lc
instance:HS Tryz.f148.8 [(0,54,0,.nil 38 8),(2,5,0,.tr 1 56),(0,92,0,.nil 76 8)]:=⟨⟩
instance(c:xU):LH (R:=(List Int)×xU) (zQo c) [0] [] (fun b=>[(1,T.ro (lV b.1)),(5,I b.2)]) (.xe 0 [] fun a=>[(1,T.ro (lV a))]):=⟨⟩
instance t_aM:FI J1 148 (∀(a:xU)(b:List Int),FnK J1 148 [T.ptr (T.agg [T.ro ((Pt yM) a.p),L 1 (Ro (Nz 1 I)) a.base]),T.ro (lV b)] (fun r:(List Int)×xU=>[T.ro (lV r.1)]) (fun r=>[(0,(Pt (fun x=>T.agg [(Ro (Pt yM)) x.p,(L 1 (Ro (Nz 1 I))) x.base])) r.2)]) (zXR a b)):=⟨Tryz.call148,fun a b=>iM Tryz.func148⟩
end
end Go.Wk
