/- x -/
import Derived.Test.YtcjmcjcfehbboaaGreatQVab
import Derived.Test.YtcjmcjcfehbboaaGreatQVas
import Derived.Test.YtcjmcjcfehbboaaGreatQWT
import Derived.Test.YtcjmcjcfehbboaaGreatQVad
import Derived.Test.YtcjmcjcfehbboaaGreatQVaf
import Derived.Test.YtcjmcjcfehbboaaGreatQVba
import Derived.Test.YtcjmcjcfehbboaaGreatQVag
import Derived.Test.YtcjmcjcfehbboaaGreatQVbg
open Go.Proofs.Tryz renaming prog→J0,f102→Jb0,call54→Jbj
open Option renaming some→jq,none→jr
open Bool renaming true→js,false→jt
namespace Go.Wk
open Go Go.Proofs Go.Ab
set_option maxRecDepth 100000
set_option maxHeartbeats 4000000
section
attribute [local irreducible] RW CW DK OkL Ok yL yM xQ wE XS.post rng wF xN ixO zQ yC xR yH zC GTo zE FnC FnK wJ wS Kp Lk BsL BuL RpL Bk Lc
instance:HS Tryz.f148.8 [(0,54,0,.nil 38 8),(2,5,0,.tr 1 56),(0,92,0,.nil 76 8)]:=⟨⟩
instance(c:xS):LH (R:=(List Int)×xS) (zO7 c) [0] [] (fun b=>[(1,T.ro (lV b.1)),(5,I b.2)]) (.xe 0 [] fun a=>[(1,T.ro (lV a))]):=⟨⟩
instance t_a8:FI J0 148 (∀(a:xS)(b:List Int),FnK J0 148 [T.ptr (T.agg [T.ro ((Pt yI) a.p),L 1 (Ro (Nz 1 I)) a.base]),T.ro (lV b)] (fun r:(List Int)×xS=>[T.ro (lV r.1)]) (fun r=>[(0,(Pt (fun x=>T.agg [(Ro (Pt yI)) x.p,(L 1 (Ro (Nz 1 I))) x.base])) r.2)]) (zVv a b)):=⟨Tryz.call148,fun a b=>iM Tryz.func148⟩
end
end Go.Wk

namespace Go.Wk
open Go Go.Proofs Go.Ab
set_option maxRecDepth 100000
set_option maxHeartbeats 4000000
section
attribute [local irreducible] RW CW DK OkL Ok yL yM xQ wE XS.post rng wF xN ixO zQ yC xR yH zC GTo zE FnC FnK wJ wS Kp Lk BsL BuL RpL Bk Lc
instance:HS Jb0.8 [(3,0,0,.tr 6 14),(0,24,0,.tr 23 6),(2,6,0,.tr 6 24),(0,52,0,.tr 49 6),(2,11,0,.tr 6 52),(2,12,0,.tr 7 59),(0,77,0,.fz 76),(0,78,0,.tr 60 6),(2,13,0,.tr 6 78),(0,97,0,.nil 95 8),(0,98,0,.fz 97),(0,99,0,.tr 90 6),(2,18,0,.tr 6 99),(1,107,0,.tr 106 7),(1,107,1,.fz 106),(1,107,2,.nil 106 9)]:=⟨⟩
instance:DrH Jb0.8 24:=⟨⟩
instance(d:(List Int)×xS)(a:(List Int)):LH (R:=Bool×xS) (zPT d a) [0,5,7,8,82,83] [] (fun c=>[(6,L 1 (Ro lV) c.1),(84,I c.2)]) (.xe 2 [82,83] fun b=>[(6,L 1 (Ro lV) b)]):=⟨⟩
instance:LH (R:=Bool×xS) zPU [] [] (fun b=>[(0,T.ptr (T.agg [T.ro ((Pt yI) b.1),L 1 (Ro (Nz 1 I)) b.2.1])),(5,B b.2.2.1),(6,L 1 (Ro lV) b.2.2.2)]) (.xe 0 [] fun a=>[(0,T.ptr (T.agg [T.ro ((Pt yI) a.1),L 1 (Ro (Nz 1 I)) a.2.1])),(5,B a.2.2)]):=⟨⟩
instance t_N:FI J0 102 (∀(a:xS)(b:List (List Int)),FnK J0 102 [T.ptr (T.agg [T.ro ((Pt yI) a.p),L 1 (Ro (Nz 1 I)) a.base]),T.ro (lM b)] (fun r=>[B r.1]) (fun r=>[(0,(Pt (fun x=>T.agg [(Ro (Pt yI)) x.p,(L 1 (Ro (Nz 1 I))) x.base])) r.2)]) (f_N a b)):=⟨Tryz.call102,fun a b=>iM Tryz.func102⟩
end
end Go.Wk

namespace Go.Wk
open Go Go.Proofs Go.Ab
set_option maxRecDepth 100000
set_option maxHeartbeats 4000000
section
attribute [local irreducible] RW CW DK OkL Ok yL yM xQ wE XS.post rng wF xN ixO zQ yC xR yH zC GTo zE FnC FnK wJ wS Kp Lk BsL BuL RpL Bk Lc
instance:HS Tryz.f54.8 [(2,2,0,.tr 5 7)]:=⟨⟩
instance t_ba:FI J0 54 (∀(a:SPr)(b:List (List Int)),FnK J0 54 [T.ro ((Pt yI) a),T.ro (lM b)] (fun r:(List (List Int))=>[lM r]) (fun _=>[]) (zNi a b)):=⟨Jbj,fun a b=>iM Tryz.func54⟩
end
end Go.Wk
