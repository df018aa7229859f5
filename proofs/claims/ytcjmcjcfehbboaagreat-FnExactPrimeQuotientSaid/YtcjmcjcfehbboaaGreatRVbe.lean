/- x -/
import Derived.Test.YtcjmcjcfehbboaaGreatRVah
import Derived.Test.YtcjmcjcfehbboaaGreatRVax
import Derived.Test.YtcjmcjcfehbboaaGreatRWT
open Go.Proofs.Tryz renaming prog->J1,call136->Hx
open Option renaming some->Wu,none->Wv
open Bool renaming true->Ww,false->Wx
namespace Go.Wk
open Go Go.Proofs Go.Ab
set_option maxRecDepth 100000
set_option maxHeartbeats 4000000
section
attribute [local irreducible] RW CW DK OkL Ok yX xC wK wY XS.post rng vP vL ixO zT yR wN yO zF GTo zI FnC FnK vB uC Kp Lk BsL BuL RpL Bk Lc
instance:HS Tryz.f136.8 [(2,2,0,.tr 1 25)]:=⟨⟩
instance(c:Int):LH (R:=xJ) (zVB c) [2] [] (fun a=>[(0,T.ptr (T.agg [T.ro ((Pt yM) a.1),T.ro ((Pt yE) a.2.1),L 3 zU a.2.2.1])),(1,T.ro (lV a.2.2.2.1)),(6,I a.2.2.2.2)]) (.xe 0 [2] fun b=>[(0,T.ptr (T.agg [T.ro ((Pt yM) b.1),T.ro ((Pt yE) b.2.1),L 3 zU b.2.2]))]):=⟨⟩
instance t_t:FI J1 136 (∀(a:xJ)(b:List Int)(c:Int),FnK J1 136 [T.ptr (T.agg [T.ro ((Pt yM) a.p),T.ro ((Pt yE) a.m),L 3 zU a.sums]),T.ro (lV b),I c] (fun _:xJ=>[]) (fun r=>[(0,(Pt (fun x=>T.agg [(Ro (Pt yM)) x.p,(Ro (Pt yE)) x.m,(L 3 zU) x.sums])) r)]) (f_t a b c)):=⟨Hx,fun a b c=>iM Tryz.func136⟩
end
end Go.Wk
