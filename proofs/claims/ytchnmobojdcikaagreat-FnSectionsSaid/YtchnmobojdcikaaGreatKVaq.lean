/- x -/
import Derived.Test.YtchnmobojdcikaaGreatKVam
import Derived.Test.YtchnmobojdcikaaGreatKVan
import Derived.Test.YtchnmobojdcikaaGreatKVao
import Derived.Test.YtchnmobojdcikaaGreatKVap
import Derived.Test.YtchnmobojdcikaaGreatKWT
open Go.Proofs.Tryz renaming prog→J0
open Option renaming some→dJ,none→dK
open Bool renaming true→dL,false→dM
namespace Go.Wk
open Go Go.Proofs Go.Ab
set_option maxRecDepth 100000
set_option maxHeartbeats 4000000
section
attribute [local irreducible] RW CW DK OkL Ok yO yY wQ wK XS.post rng wS xR ixO zQ zZ wP yG zH GTo zX FnC FnK vM uH Kp Lk BsL BuL RpL Bk Lc JQ AK
instance:HS Tryz.f268.8 [(0,10,0,.fz 9),(1,3,0,.trf 33 2 5 [2,0])]:=⟨⟩
instance t_b3:FI J0 268 (∀(a:zE),FnK J0 268 [T.ptr (wO a)] (fun r:SPr×zC×zE=>[(fun x=>T.agg [(Ro lV) x.zA,(Ro lM) x.zJ,(Ro lC) x.zB]) r.1,(fun x=>T.agg [I x.Prime,I x.Dim,(Ro lC) x.zG]) r.2.1]) (fun r=>[(0,(Pt (fun x=>T.agg [(Ro (L 1 (IK .u8))) x.code,I x.at_,I x.seed])) r.2.2)]) (zYf a)):=⟨Tryz.call268,fun a=>iM Tryz.func268⟩
instance(a:SPr)(b:Int)(c:List (List Int)):LH (R:=Bool) (zNy a b c) [0,1,5,6,63,64] [] (fun d=>[(65,I d)]) (.xs (.xe 2 [63,64] fun _=>[]) .xr):=⟨⟩
instance(a:SPr)(b:Int):LH (R:=Bool) (zJZ a b) [0,1,5] [] (fun c=>[(6,I c)]) (.xs (.xe 0 [0,1,5] fun _=>[]) .xr):=⟨⟩
instance t_ai:FI J0 115 (∀(a:SPr)(b:Int),FnK J0 115 [T.ro ((Pt wH) a),I b] (fun r=>[B r]) (fun _=>[]) (zYi a b)):=⟨Tryz.call115,fun a b=>iM Tryz.func115⟩
instance t_be:FI J0 27 (∀(a b:SPr),FnK J0 27 [qPr a,qPr b] (fun r=>[B r]) (fun _=>[]) (zLo a b)):=⟨Tryz.call27,fun a b=>iM Tryz.func27⟩
instance t_b8:FI J0 28 (∀(a b:zC),FnK J0 28 [wL a,wL b] (fun r=>[B r]) (fun _=>[]) (zYl a b)):=⟨Tryz.call28,fun a b=>iM Tryz.func28⟩
instance:HS Tryz.f272.8 [(0,39,0,.trq 35 9 [0,0]),(0,60,0,.trq 47 9 [1,0]),(2,12,0,.tr 12 62),(0,92,0,.tr 70 12),(2,14,0,.tr 12 92),(0,111,0,.tr 98 12),(0,115,0,.tr 114 12),(0,116,0,.trq 113 9 [2,0]),(0,130,0,.trq 124 9 [1,0]),(2,26,0,.tr 16 132),(0,149,0,.tr 140 16),(2,28,0,.tr 16 149),(0,153,0,.tr 152 16),(0,154,0,.trq 151 9 [2,0]),(1,6,0,.trf 156 0 9 [0,0]),(1,6,1,.trf 156 1 9 [1,0]),(1,6,2,.trf 156 2 9 [2,0])]:=⟨⟩
instance(b:zC):LH (R:=SPr) (zUO b) [2,3,4,6,7,8] [] (fun a=>[(9,T.ptr (T.agg [L 1 I a.1,L 1 I [],L 1 I []])),(10,I a.2)]) (.xe 0 [] fun c=>[(9,T.ptr (T.agg [L 1 I c,L 1 I [],L 1 I []]))]):=⟨⟩
instance(d:SPr)(e:List (List Int))(b:(List (List Int))×(List (List (List Int)))×Int):LH (R:=SPr) (zRt d e b) [2,3,4,6,7,8,9,11] [] (fun a=>[(12,L 1 lV a.1),(13,I a.2)]) (.xe 4 [] fun c=>[(12,L 1 lV c)]):=⟨⟩
instance(d:SPr)(e:zC)(b:(List (List Int))×(List (List (List Int)))×Int):LH (R:=SPr) (zRu d e b) [2,3,4,6,7,8,9,11] [] (fun a=>[(12,L 1 lV a.1),(14,I a.2)]) (.xe 6 [] fun c=>[(12,L 1 lV c)]):=⟨⟩
instance(a:SPr)(b:zC)(c:List (List Int)):LN (zOy a b c) 9:=⟨⟩
instance(c:SPr)(d:zC)(e:List (List Int))(A0 A1 A2:T):LHk (R:=SPr) (zOy c d e) (T.ptr (T.agg [A0,A1,A2])) [2,3,4,6,7,8] [] (fun a=>[(9,T.ptr (T.agg [A0,L 1 lV a.1,L 1 lM a.2.1])),(11,I a.2.2)]) (.xe 2 [2,3,4] fun b=>[(9,T.ptr (T.agg [A0,L 1 lV b.1,L 1 lM b.2]))]):=⟨⟩
instance(c:SPr)(d:zC):LH (R:=SPr) (zRv c d) [6,7,8,9,15] [] (fun a=>[(16,L 1 lV a.1),(17,I a.2)]) (.xe 10 [] fun b=>[(16,L 1 lV b)]):=⟨⟩
instance(a:SPr)(b:zC):LN (zOz a b) 9:=⟨⟩
instance(c:SPr)(d:zC)(A0 A1 A2:T):LHk (R:=SPr) (zOz c d) (T.ptr (T.agg [A0,A1,A2])) [6,7,8] [] (fun a=>[(9,T.ptr (T.agg [A0,L 1 lV a.1,L 1 lM a.2.1])),(15,I a.2.2)]) (.xe 8 [7,8] fun b=>[(9,T.ptr (T.agg [A0,L 1 lV b.1,L 1 lM b.2]))]):=⟨⟩
instance t_j:FI J0 272 (∀(a:SPr)(b:zC)(c:List (List Int)),FnK J0 272 [qPr a,wL b,T.ro (lM c)] (fun r=>[wH r]) (fun _=>[]) (f_j a b c)):=⟨Tryz.call272,fun a b c=>iM Tryz.func272⟩
end
end Go.Wk
