/- x -/
import Derived.Test.YtchnmobojdcikaaGreatVav
import Derived.Test.YtchnmobojdcikaaGreatVbi
import Derived.Test.YtchnmobojdcikaaGreatWT
open Go.Proofs.Tryz renaming prog→J0,call258→Jad
open Option renaming some→dS,none→dT
open Bool renaming true→dU,false→dV
namespace Go.Wk
open Go Go.Proofs Go.Ab
set_option maxRecDepth 100000
set_option maxHeartbeats 4000000
section
attribute [local irreducible] RW CW DK OkL Ok zU zY yO yZ XS.post rng xC yL ixO zL zX yM zV zE GTo zK FnC FnK xJ xQ Kp Lk BsL BuL RpL Bk Lc JQ AK
instance:HS Tryz.f113.8 [(0,16,0,.fz 15)]:=⟨⟩
instance:HS Tryz.f24.8 [(2,2,0,.tr 4 8)]:=⟨⟩
instance t_cm:FI J0 206 (∀(a:List Int)(b:zB)(c:List (List Int)),FnK J0 206 [T.ro (lV a),T.ro ((Pt yX) b),T.ro ((Pt lM) c)] (fun r=>[B r]) (fun _=>[]) (zWA a b c)):=⟨Tryz.call206,fun a b c=>iM Tryz.func206⟩
instance:HS Tryz.f307.8 [(2,2,0,.tr 5 12)]:=⟨⟩
instance(b:SPr):LH (R:=(List Int)) (zFn b) [0] [] (fun a=>[(1,I a.1),(5,L 1 I a.2.1),(6,I a.2.2)]) (.xe 0 [0] fun c=>[(5,L 1 I c)]):=⟨⟩
instance t_ac:FI J0 307 (∀(a:SPr)(b:Int),FnK J0 307 [T.ro ((Pt xR) a),I b] (fun r=>[lV r]) (fun _=>[]) (zO6 a b)):=⟨Tryz.call307,fun a b=>iM Tryz.func307⟩
end
end Go.Wk

namespace Go.Wk
open Go Go.Proofs Go.Ab
set_option maxRecDepth 100000
set_option maxHeartbeats 4000000
section
attribute [local irreducible] RW CW DK OkL Ok zU zY yO yZ XS.post rng xC yL ixO zL zX yM zV zE GTo zK FnC FnK xJ xQ Kp Lk BsL BuL RpL Bk Lc JQ AK
instance:HS Tryz.f26.8 [(1,9,0,.trf 42 0 41 [0,0]),(1,9,1,.trf 42 1 41 [1,0]),(1,9,2,.trf 42 2 41 [2,0]),(2,11,0,.tr 12 54),(0,70,0,.tr 60 12),(2,15,0,.tr 12 70),(2,16,0,.tr 14 71),(0,94,0,.tr 78 14),(2,18,0,.tr 14 94),(0,98,0,.tr 97 14),(0,99,0,.trq 96 11 [2,0]),(0,129,0,.tr 113 12),(2,26,0,.tr 12 129),(1,4,0,.trf 130 0 9 [0,0]),(1,4,1,.trf 130 1 9 [1,0]),(1,4,2,.trf 130 2 9 [2,0]),(1,5,0,.trf 131 2 11 [2,0])]:=⟨⟩
end
end Go.Wk

namespace Go.Wk
open Go Go.Proofs Go.Ab
set_option maxRecDepth 100000
set_option maxHeartbeats 4000000
section
attribute [local irreducible] RW CW DK OkL Ok zU zY yO yZ XS.post rng xC yL ixO zL zX yM zV zE GTo zK FnC FnK xJ xQ Kp Lk BsL BuL RpL Bk Lc JQ AK
instance:HS Tryz.f258.8 [(2,5,0,.tr 8 20),(2,7,0,.tr 9 28),(2,10,0,.tr 10 36)]:=⟨⟩
theorem yCX{g_i:SPr→Int→(List Int)→Option (List Int)}[FI J0 258 (∀(x0:SPr)(x1:Int)(x2:List Int),FnK J0 258 [qPr x0,I x1,T.ro (lV x2)] (fun r:(List Int)=>[lV r]) (fun _=>[]) (g_i x0 x1 x2))]:∀(x0:SPr)(x1:Int)(x2:List Int),FnK J0 258 [qPr x0,I x1,T.ro (lV x2)] (fun r:(List Int)=>[lV r]) (fun _=>[]) (b_i g_i x0 x1 x2):=fun x0 x1 x2=>iM Tryz.func258
theorem yCY{g_i:SPr→Int→(List Int)→Option (List Int)}(H_i:∀(x0:SPr)(x1:Int)(x2:List Int) r,g_i x0 x1 x2=dS r→FnC J0 258 [qPr x0,I x1,T.ro (lV x2)] [lV r] [])(x0:SPr)(x1:Int)(x2:List Int)(r:(List Int))(h:b_i g_i x0 x1 x2=dS r):FnC J0 258 [qPr x0,I x1,T.ro (lV x2)] [lV r] []:=by have:FI J0 258 (∀(x0:SPr)(x1:Int)(x2:List Int),FnK J0 258 [qPr x0,I x1,T.ro (lV x2)] (fun r:(List Int)=>[lV r]) (fun _=>[]) (g_i x0 x1 x2)):=⟨Jad,fun x0 x1 x2=>FnK.mk (H_i x0 x1 x2)⟩;exact(yCX x0 x1 x2).go h
end
theorem yCZ:∀n,(∀(x0:SPr)(x1:Int)(x2:List Int) r,zOv n x0 x1 x2=dS r→FnC J0 258 [qPr x0,I x1,T.ro (lV x2)] [lV r] []):=by
  intro n
  induction n with
  |zero=>exact(fun _ _ _ r h=>by simp[zOv]at h)
  |succ n ih=>exact(fun x0 x1 x2 r h=>yCY ih x0 x1 x2 r (by simpa[zOv]using h))
theorem u_i(x0:SPr)(x1:Int)(x2:List Int)(r:(List Int))(h:f_i x0 x1 x2=dS r):FnC J0 258 [qPr x0,I x1,T.ro (lV x2)] [lV r] []:=by obtain⟨n,hn⟩:=kH h;exact(yCZ n) x0 x1 x2 r hn
instance t_i:FI J0 258 (∀(a:SPr)(b:Int)(c:List Int),FnK J0 258 [qPr a,I b,T.ro (lV c)] (fun r=>[lV r]) (fun _=>[]) (f_i a b c)):=⟨Jad,fun a b c=>FnK.mk (u_i a b c)⟩
section
attribute [local irreducible] RW CW DK OkL Ok zU zY yO yZ XS.post rng xC yL ixO zL zX yM zV zE GTo zK FnC FnK xJ xQ Kp Lk BsL BuL RpL Bk Lc JQ AK
instance t_ck:FI J0 167 (∀(a:SPr)(b:List Int),FnK J0 167 [qPr a,T.ro (lV b)] (fun r=>[lV r]) (fun _=>[]) (zTY a b)):=⟨Tryz.call167,fun a b=>iM Tryz.func167⟩
instance(a:List Int):LH (R:=Int) (zNc a) [0,5,6] [] (fun b=>[(7,I b)]) (.xs (.xe 0 [5,6] fun _=>[]) .xr):=⟨⟩
instance t_aG:FI J0 310 (∀(a:List Int),FnK J0 310 [T.ro (lV a)] (fun r=>[I r]) (fun _=>[]) (zO4 a)):=⟨Tryz.call310,fun a=>iM Tryz.func310⟩
instance:HS Tryz.f309.8 [(0,54,0,.nil 38 8),(2,5,0,.tr 1 56),(0,92,0,.nil 76 8)]:=⟨⟩
instance(c:yV):LH (R:=(List Int)×yV) (zPO c) [0] [] (fun b=>[(1,T.ro (lV b.1)),(5,I b.2)]) (.xe 0 [] fun a=>[(1,T.ro (lV a))]):=⟨⟩
instance t_bD:FI J0 309 (∀(a:yV)(b:List Int),FnK J0 309 [T.ptr (T.agg [T.ro ((Pt xR) a.p),L 1 (Ro (Nz 1 I)) a.base]),T.ro (lV b)] (fun r:(List Int)×yV=>[T.ro (lV r.1)]) (fun r=>[(0,(Pt (fun x=>T.agg [(Ro (Pt xR)) x.p,(L 1 (Ro (Nz 1 I))) x.base])) r.2)]) (zW7 a b)):=⟨Tryz.call309,fun a b=>iM Tryz.func309⟩
end
end Go.Wk
