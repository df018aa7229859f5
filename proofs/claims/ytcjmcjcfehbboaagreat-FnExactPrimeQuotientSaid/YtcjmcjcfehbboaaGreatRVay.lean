/- x -/
import Derived.Test.YtcjmcjcfehbboaaGreatRVaa
import Derived.Test.YtcjmcjcfehbboaaGreatRVab
import Derived.Test.YtcjmcjcfehbboaaGreatRVag
import Derived.Test.YtcjmcjcfehbboaaGreatRVak
import Derived.Test.YtcjmcjcfehbboaaGreatRVao
import Derived.Test.YtcjmcjcfehbboaaGreatRVat
import Derived.Test.YtcjmcjcfehbboaaGreatRWT
open Go.Proofs.Tryz renaming prog->J1,f102->Jbh
open Option renaming some->Wu,none->Wv
open Bool renaming true->Ww,false->Wx
namespace Go.Wk
open Go Go.Proofs Go.Ab
set_option maxRecDepth 100000
set_option maxHeartbeats 4000000
section
attribute [local irreducible] RW CW DK OkL Ok yX xC wK wY XS.post rng vP vL ixO zT yR wN yO zF GTo zI FnC FnK vB uC Kp Lk BsL BuL RpL Bk Lc
instance:HS Jbh.8 [(3,0,0,.tr 6 14),(0,24,0,.tr 23 6),(2,6,0,.tr 6 24),(0,52,0,.tr 49 6),(2,11,0,.tr 6 52),(2,12,0,.tr 7 59),(0,77,0,.fz 76),(0,78,0,.tr 60 6),(2,13,0,.tr 6 78),(0,97,0,.nil 95 8),(0,98,0,.fz 97),(0,99,0,.tr 90 6),(2,18,0,.tr 6 99),(1,107,0,.tr 106 7),(1,107,1,.fz 106),(1,107,2,.nil 106 9)]:=⟨⟩
instance:DrH Jbh.8 24:=⟨⟩
instance(d:(List Int)×xU)(a:(List Int)):LH (R:=Bool×xU) (zRR d a) [0,5,7,8,82,83] [] (fun c=>[(6,L 1 (Ro lV) c.1),(84,I c.2)]) (.xe 2 [82,83] fun b=>[(6,L 1 (Ro lV) b)]):=⟨⟩
instance:LH (R:=Bool×xU) zRS [] [] (fun b=>[(0,T.ptr (T.agg [T.ro ((Pt yM) b.1),L 1 (Ro (Nz 1 I)) b.2.1])),(5,B b.2.2.1),(6,L 1 (Ro lV) b.2.2.2)]) (.xe 0 [] fun a=>[(0,T.ptr (T.agg [T.ro ((Pt yM) a.1),L 1 (Ro (Nz 1 I)) a.2.1])),(5,B a.2.2)]):=⟨⟩
instance t_H:FI J1 102 (∀(a:xU)(b:List (List Int)),FnK J1 102 [T.ptr (T.agg [T.ro ((Pt yM) a.p),L 1 (Ro (Nz 1 I)) a.base]),T.ro (lM b)] (fun r=>[B r.1]) (fun r=>[(0,(Pt (fun x=>T.agg [(Ro (Pt yM)) x.p,(L 1 (Ro (Nz 1 I))) x.base])) r.2)]) (f_H a b)):=⟨Tryz.call102,fun a b=>iM Tryz.func102⟩
end
end Go.Wk
