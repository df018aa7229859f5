/- x -/
import Derived.Test.YtcjmcjcfehbboaaGreatQVad
import Derived.Test.YtcjmcjcfehbboaaGreatQVaf
import Derived.Test.YtcjmcjcfehbboaaGreatQVak
import Derived.Test.YtcjmcjcfehbboaaGreatQVas
import Derived.Test.YtcjmcjcfehbboaaGreatQWT
open Go.Proofs.Tryz renaming prog→J0,call137→Hm
open Option renaming some→jq,none→jr
open Bool renaming true→js,false→jt
namespace Go.Wk
open Go Go.Proofs Go.Ab
set_option maxRecDepth 100000
set_option maxHeartbeats 4000000
section
attribute [local irreducible] RW CW DK OkL Ok yL yM xQ wE XS.post rng wF xN ixO zQ yC xR yH zC GTo zE FnC FnK wJ wS Kp Lk BsL BuL RpL Bk Lc
instance:HS Tryz.f137.8 [(2,3,0,.tr 10 25)]:=⟨⟩
instance(a:xM)(d e:Int)(f:zN):LH (R:=(List Int)×xM) (yAM a d e f) [3,9,10,12,68,69] [] (fun c=>[(0,T.ptr (T.agg [T.ro ((Pt yI) a.p),T.ro ((Pt yF) a.m),L 3 zS c.1])),(70,I c.2)]) (.xe 0 [3,9,12,68,69] fun b=>[(0,T.ptr (T.agg [T.ro ((Pt yI) a.p),T.ro ((Pt yF) a.m),L 3 zS b]))]):=⟨⟩
instance(a:xM)(e f:Int)(b:zN):LH (R:=(List Int)×xM) (yAN a e f b) [3,9,10,12,68,69] [] (fun d=>[(0,T.ptr (T.agg [T.ro ((Pt yI) a.p),T.ro ((Pt yF) a.m),L 3 zS d.1])),(70,I d.2)]) (.xe 0 [3,9,12,68,69] fun c=>[(0,T.ptr (T.agg [T.ro ((Pt yI) a.p),T.ro ((Pt yF) a.m),L 3 zS c]))]):=⟨⟩
instance(a:xM)(e f:Int)(b:zN):LH (R:=(List Int)×xM) (yAO a e f b) [3,9,10,12,68,69] [] (fun d=>[(0,T.ptr (T.agg [T.ro ((Pt yI) a.p),T.ro ((Pt yF) a.m),L 3 zS d.1])),(70,I d.2)]) (.xe 0 [3,9,12,68,69] fun c=>[(0,T.ptr (T.agg [T.ro ((Pt yI) a.p),T.ro ((Pt yF) a.m),L 3 zS c]))]):=⟨⟩
instance t_C:FI J0 137 (∀(a:xM)(b:List Int)(c d:Int),FnK J0 137 [T.ptr (T.agg [T.ro ((Pt yI) a.p),T.ro ((Pt yF) a.m),L 3 zS a.sums]),T.ro (lV b),I c,I d] (fun r:(List Int)×xM=>[lV r.1]) (fun r=>[(0,(Pt (fun x=>T.agg [(Ro (Pt yI)) x.p,(Ro (Pt yF)) x.m,(L 3 zS) x.sums])) r.2)]) (f_C a b c d)):=⟨Hm,fun a b c d=>iM Tryz.func137⟩
end
end Go.Wk
