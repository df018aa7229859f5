/- x -/
import Derived.Test.YtcjmcjcfehbboaaGreatRVab
import Derived.Test.YtcjmcjcfehbboaaGreatRVag
import Derived.Test.YtcjmcjcfehbboaaGreatRVam
import Derived.Test.YtcjmcjcfehbboaaGreatRVau
import Derived.Test.YtcjmcjcfehbboaaGreatRWT
open Go.Proofs.Tryz renaming prog->J1,call137->Hw
open Option renaming some->Wu,none->Wv
open Bool renaming true->Ww,false->Wx
namespace Go.Wk
open Go Go.Proofs Go.Ab
set_option maxRecDepth 100000
set_option maxHeartbeats 4000000
section
attribute [local irreducible] RW CW DK OkL Ok yX xC wK wY XS.post rng vP vL ixO zT yR wN yO zF GTo zI FnC FnK vB uC Kp Lk BsL BuL RpL Bk Lc
instance:HS Tryz.f137.8 [(2,3,0,.tr 10 25)]:=⟨⟩
instance(a:xJ)(d e:Int)(f:zM):LH (R:=(List Int)×xJ) (zV8 a d e f) [3,9,10,12,68,69] [] (fun c=>[(0,T.ptr (T.agg [T.ro ((Pt yM) a.p),T.ro ((Pt yE) a.m),L 3 zU c.1])),(70,I c.2)]) (.xe 0 [3,9,12,68,69] fun b=>[(0,T.ptr (T.agg [T.ro ((Pt yM) a.p),T.ro ((Pt yE) a.m),L 3 zU b]))]):=⟨⟩
instance(a:xJ)(e f:Int)(b:zM):LH (R:=(List Int)×xJ) (zV9 a e f b) [3,9,10,12,68,69] [] (fun d=>[(0,T.ptr (T.agg [T.ro ((Pt yM) a.p),T.ro ((Pt yE) a.m),L 3 zU d.1])),(70,I d.2)]) (.xe 0 [3,9,12,68,69] fun c=>[(0,T.ptr (T.agg [T.ro ((Pt yM) a.p),T.ro ((Pt yE) a.m),L 3 zU c]))]):=⟨⟩
instance(a:xJ)(e f:Int)(b:zM):LH (R:=(List Int)×xJ) (zVA a e f b) [3,9,10,12,68,69] [] (fun d=>[(0,T.ptr (T.agg [T.ro ((Pt yM) a.p),T.ro ((Pt yE) a.m),L 3 zU d.1])),(70,I d.2)]) (.xe 0 [3,9,12,68,69] fun c=>[(0,T.ptr (T.agg [T.ro ((Pt yM) a.p),T.ro ((Pt yE) a.m),L 3 zU c]))]):=⟨⟩
instance t_j:FI J1 137 (∀(a:xJ)(b:List Int)(c d:Int),FnK J1 137 [T.ptr (T.agg [T.ro ((Pt yM) a.p),T.ro ((Pt yE) a.m),L 3 zU a.sums]),T.ro (lV b),I c,I d] (fun r:(List Int)×xJ=>[lV r.1]) (fun r=>[(0,(Pt (fun x=>T.agg [(Ro (Pt yM)) x.p,(Ro (Pt yE)) x.m,(L 3 zU) x.sums])) r.2)]) (f_j a b c d)):=⟨Hw,fun a b c d=>iM Tryz.func137⟩
end
end Go.Wk
