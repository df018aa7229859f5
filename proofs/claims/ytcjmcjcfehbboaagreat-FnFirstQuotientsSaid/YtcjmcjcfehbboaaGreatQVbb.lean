/- x -/
import Derived.Test.YtcjmcjcfehbboaaGreatQVad
import Derived.Test.YtcjmcjcfehbboaaGreatQVae
import Derived.Test.YtcjmcjcfehbboaaGreatQVaj
import Derived.Test.YtcjmcjcfehbboaaGreatQVao
import Derived.Test.YtcjmcjcfehbboaaGreatQVaq
import Derived.Test.YtcjmcjcfehbboaaGreatQVas
import Derived.Test.YtcjmcjcfehbboaaGreatQVax
import Derived.Test.YtcjmcjcfehbboaaGreatQWT
import Derived.Test.YtcjmcjcfehbboaaGreatQVaa
import Derived.Test.YtcjmcjcfehbboaaGreatQVap
import Derived.Test.YtcjmcjcfehbboaaGreatQVay
import Derived.Test.YtcjmcjcfehbboaaGreatQVba
open Go.Proofs.Tryz renaming prog→J0
open Option renaming some→jq,none→jr
open Bool renaming true→js,false→jt
namespace Go.Wk
open Go Go.Proofs Go.Ab
set_option maxRecDepth 100000
set_option maxHeartbeats 4000000
section
attribute [local irreducible] RW CW DK OkL Ok yL yM xQ wE XS.post rng wF xN ixO zQ yC xR yH zC GTo zE FnC FnK wJ wS Kp Lk BsL BuL RpL Bk Lc
instance:HS Tryz.f130.8 [(2,4,0,.tr 3 13),(0,23,0,.fz 22),(0,25,0,.tr 20 3),(2,6,0,.tr 3 25),(0,33,0,.fz 32),(1,5,0,.trf 35 0 34 [0,0]),(1,5,1,.trf 35 1 34 [1,0]),(1,5,2,.trf 35 2 34 [2,0]),(1,2,0,.trf 37 0 5 [0,0]),(1,2,1,.trf 37 1 5 [1,0]),(1,2,2,.trf 37 2 5 [2,0]),(0,42,0,.fz 41),(0,51,0,.fz 50),(0,83,0,.fz 82)]:=⟨⟩
instance:LH (R:=SPr×zM) zTa [2] [] (fun a=>[(0,T.ptr (T.agg [T.ro ((L 1 (IK .u8)) a.1),I a.2.1,I a.2.2.1])),(3,L 1 I a.2.2.2.1),(4,I a.2.2.2.2)]) (.xe 1 [] fun b=>[(0,T.ptr (T.agg [T.ro ((L 1 (IK .u8)) b.1),I b.2.1,I b.2.2.1])),(3,L 1 I b.2.2.2)]):=⟨⟩
instance t_bh:FI J0 130 (∀(a:zM),FnK J0 130 [T.ptr (zW a)] (fun r=>[(fun x=>T.agg [(Ro lV) x.zA,(Ro lM) x.yB,(Ro lC) x.zD]) r.1]) (fun r=>[(0,(Pt (fun x=>T.agg [(Ro (L 1 (IK .u8))) x.code,I x.at_,I x.seed])) r.2)]) (zTb a)):=⟨Tryz.call130,fun a=>iM Tryz.func130⟩
end
end Go.Wk

namespace Go.Wk
open Go Go.Proofs Go.Ab
set_option maxRecDepth 100000
set_option maxHeartbeats 4000000
section
attribute [local irreducible] RW CW DK OkL Ok yL yM xQ wE XS.post rng wF xN ixO zQ yC xR yH zC GTo zE FnC FnK wJ wS Kp Lk BsL BuL RpL Bk Lc
instance:HS Tryz.f81.8 [(1,4,0,.trf 29 0 6 [0,0]),(1,4,1,.trf 29 1 6 [1,0]),(1,4,2,.trf 29 2 6 [2,0]),(1,4,3,.fz 31)]:=⟨⟩
instance(c:Int):LH (R:=SPr×zM) (zTc c) [1,4] [] (fun b=>[(0,T.ptr (T.agg [T.ro ((L 1 (IK .u8)) b.1),I b.2.1,I b.2.2.1])),(5,I b.2.2.2)]) (.xs (.xe 0 [1] fun a=>[(0,T.ptr (T.agg [T.ro ((L 1 (IK .u8)) a.1),I a.2.1,I a.2.2]))]) .xr):=⟨⟩
instance t_bi:FI J0 81 (∀(a:zM)(b:Int),FnK J0 81 [T.ptr (zW a),I b] (fun r=>[(fun x=>T.agg [(Ro lV) x.zA,(Ro lM) x.yB,(Ro lC) x.zD]) r.1]) (fun r=>[(0,(Pt (fun x=>T.agg [(Ro (L 1 (IK .u8))) x.code,I x.at_,I x.seed])) r.2)]) (zVO a b)):=⟨Tryz.call81,fun a b=>iM Tryz.func81⟩
instance:HS Tryz.f70.8 [(0,36,0,.trq 20 5 [1,0]),(2,7,0,.tr 7 38),(0,62,0,.tr 47 7),(0,66,0,.tr 65 7),(0,67,0,.trq 64 5 [2,0]),(1,4,0,.trf 69 0 5 [0,0]),(1,4,1,.trf 69 1 5 [1,0]),(1,4,2,.trf 69 2 5 [2,0])]:=⟨⟩
instance(c:SPr)(d:List (List Int))(e:(List (List Int))×(List (List (List Int)))×Int):LH (R:=SPr) (zLM c d e) [1,2,4,5,6] [] (fun b=>[(7,L 1 lV b.1),(8,I b.2)]) (.xe 2 [] fun a=>[(7,L 1 lV a)]):=⟨⟩
instance(d:SPr)(e:List (List Int))(b:(List Int)):LH (R:=SPr) (zLN d e b) [1,2,4] [] (fun c=>[(5,T.ptr (T.agg [L 1 I b,L 1 lV c.1,L 1 lM c.2.1])),(6,I c.2.2)]) (.xe 0 [1,2] fun a=>[(5,T.ptr (T.agg [L 1 I b,L 1 lV a.1,L 1 lM a.2]))]):=⟨⟩
instance t_aa:FI J0 70 (∀(a:SPr)(b:List (List Int)),FnK J0 70 [qPr a,T.ro (lM b)] (fun r=>[yI r]) (fun _=>[]) (zWb a b)):=⟨Tryz.call70,fun a b=>iM Tryz.func70⟩
end
end Go.Wk
