/- x -/
import Derived.Test.YtchnmobojdcikaaGreatVbj
import Derived.Test.YtchnmobojdcikaaGreatVbk
import Derived.Test.YtchnmobojdcikaaGreatWT
open Go.Proofs.Tryz renaming prog→J0,f277→Jat
open Option renaming some→dS,none→dT
open Bool renaming true→dU,false→dV
namespace Go.Wk
open Go Go.Proofs Go.Ab
set_option maxRecDepth 100000
set_option maxHeartbeats 4000000
section
attribute [local irreducible] RW CW DK OkL Ok zU zY yO yZ XS.post rng xC yL ixO zL zX yM zV zE GTo zK FnC FnK xJ xQ Kp Lk BsL BuL RpL Bk Lc JQ AK
instance:HS Jat.8 [(3,0,0,.tr 6 14),(0,24,0,.tr 23 6),(2,6,0,.tr 6 24),(0,52,0,.tr 49 6),(2,11,0,.tr 6 52),(2,12,0,.tr 7 59),(0,77,0,.fz 76),(0,78,0,.tr 60 6),(2,13,0,.tr 6 78),(0,97,0,.nil 95 8),(0,98,0,.fz 97),(0,99,0,.tr 90 6),(2,18,0,.tr 6 99),(1,107,0,.tr 106 7),(1,107,1,.fz 106),(1,107,2,.nil 106 9)]:=⟨⟩
instance:DrH Jat.8 24:=⟨⟩
instance(d:(List Int)×yV)(a:(List Int)):LH (R:=Bool×yV) (zRk d a) [0,5,7,8,82,83] [] (fun c=>[(6,L 1 (Ro lV) c.1),(84,I c.2)]) (.xe 2 [82,83] fun b=>[(6,L 1 (Ro lV) b)]):=⟨⟩
instance:LH (R:=Bool×yV) zRl [] [] (fun b=>[(0,T.ptr (T.agg [T.ro ((Pt xR) b.1),L 1 (Ro (Nz 1 I)) b.2.1])),(5,B b.2.2.1),(6,L 1 (Ro lV) b.2.2.2)]) (.xe 0 [] fun a=>[(0,T.ptr (T.agg [T.ro ((Pt xR) a.1),L 1 (Ro (Nz 1 I)) a.2.1])),(5,B a.2.2)]):=⟨⟩
instance t_N:FI J0 277 (∀(a:yV)(b:List (List Int)),FnK J0 277 [T.ptr (T.agg [T.ro ((Pt xR) a.p),L 1 (Ro (Nz 1 I)) a.base]),T.ro (lM b)] (fun r=>[B r.1]) (fun r=>[(0,(Pt (fun x=>T.agg [(Ro (Pt xR)) x.p,(L 1 (Ro (Nz 1 I))) x.base])) r.2)]) (f_N a b)):=⟨Tryz.call277,fun a b=>iM Tryz.func277⟩
instance:HS Tryz.f283.8 [(2,2,0,.tr 5 7)]:=⟨⟩
instance t_cC:FI J0 283 (∀(a:SPr)(b:List (List Int)),FnK J0 283 [T.ro ((Pt xR) a),T.ro (lM b)] (fun r:(List (List Int))=>[lM r]) (fun _=>[]) (zW9 a b)):=⟨Tryz.call283,fun a b=>iM Tryz.func283⟩
instance(a:SPr)(b:List (List Int)):LH (R:=Bool) (zRu a b) [0,6,14,15,16,28,29] [] (fun c=>[(30,I c)]) (.xs (.xe 2 [28,29] fun _=>[]) .xr):=⟨⟩
instance(a:SPr)(b:List (List (List Int))):LH (R:=Bool) (zVe a b) [0,14,15] [] (fun c=>[(16,I c)]) (.xs (.xe 0 [0,14,15] fun _=>[]) .xr):=⟨⟩
instance t_Z:FI J0 210 (∀(a:SPr)(b:List (List (List Int))),FnK J0 210 [T.ro ((Pt xR) a),T.ro (lC b)] (fun r=>[B r]) (fun _=>[]) (f_Z a b)):=⟨Tryz.call210,fun a b=>iM Tryz.func210⟩
end
end Go.Wk
