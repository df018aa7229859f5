/- x -/
import Derived.Test.YtchnmobojdcikaaGreatWT
open Go.Proofs.Tryz renaming prog→J0,call342→Jaa
open Option renaming some→dS,none→dT
open Bool renaming true→dU,false→dV
namespace Go.Wk
open Go Go.Proofs Go.Ab
set_option maxRecDepth 100000
set_option maxHeartbeats 4000000
section
attribute [local irreducible] RW CW DK OkL Ok zU zY yO yZ XS.post rng xC yL ixO zL zX yM zV zE GTo zK FnC FnK xJ xQ Kp Lk BsL BuL RpL Bk Lc JQ AK
instance:HS Tryz.f110.8 [(2,2,0,.tr 3 7)]:=⟨⟩
instance(a:List Int):LH (R:=zD) (zU0 a) [0] [] (fun b=>[(3,T.ptr (T.agg [T.ro ((L 1 (IK .u8)) a),I 0,I b.1])),(4,I b.2)]) (.xe 0 [0] fun c=>[(3,T.ptr (T.agg [T.ro ((L 1 (IK .u8)) a),I 0,I c]))]):=⟨⟩
instance t_aI:FI J0 110 (∀(a:List Int),FnK J0 110 [T.ro ((L 1 (IK .u8)) a)] (fun r=>[(Pt (fun x=>T.agg [(Ro (L 1 (IK .u8))) x.code,I x.at_,I x.seed])) r]) (fun _=>[]) (zKN a)):=⟨Tryz.call110,fun a=>iM Tryz.func110⟩
instance t_a2:FI J0 118 (∀(a b c:Int),FnK J0 118 [I a,I b,I c] (fun r=>[B r]) (fun _=>[]) (zIt a b c)):=⟨Tryz.call118,fun a b c=>iM Tryz.func118⟩
instance t_bZ:FI J0 199 (∀(a:Int),FnK J0 199 [I a] (fun r=>[B r]) (fun _=>[]) (zOj a)):=⟨Tryz.call199,fun a=>iM Tryz.func199⟩
instance:HS Tryz.f328.8 [(2,2,0,.tr 4 6),(0,22,0,.tr 19 4),(2,7,0,.tr 4 22)]:=⟨⟩
instance(c:Int×(List Int)×Int):LH (R:=(List Int)×Bool) (zU1 c) [5] [] (fun a=>[(0,I a.1),(4,L 1 I a.2)]) (.xe 2 [] fun b=>[(0,I b.1),(4,L 1 I b.2)]):=⟨⟩
instance:LH (R:=(List Int)×Bool) zPR [] [] (fun a=>[(0,I a.1),(4,L 1 I a.2.1),(5,I a.2.2)]) (.xe 0 [] fun b=>[(0,I b.1),(4,L 1 I b.2)]):=⟨⟩
instance t_aj:FI J0 328 (∀(a:Int),FnK J0 328 [I a] (fun r:(List Int)×Bool=>[lV r.1,B r.2]) (fun _=>[]) (zO7 a)):=⟨Tryz.call328,fun a=>iM Tryz.func328⟩
instance:HS Tryz.f318.8 [(2,2,0,.tr 7 11),(0,14,0,.tr 12 7)]:=⟨⟩
instance t_bU:FI J0 318 (∀(a:Int)(b:List Int)(c:Int),FnK J0 318 [I a,T.ro (lV b),I c] (fun r=>[lV r]) (fun _=>[]) (zNg a b c)):=⟨Tryz.call318,fun a b c=>iM Tryz.func318⟩
instance:HS Tryz.f335.8 [(2,2,0,.tr 5 8),(0,26,0,.tr 20 5),(2,7,0,.tr 5 26),(0,34,0,.tr 29 5)]:=⟨⟩
instance(c:ByteArray)(d:Int):LH (R:=(List ByteArray)) (zUA c d) [0,1] [] (fun a=>[(5,L 1 Str a.1),(6,I a.2.1),(7,I a.2.2)]) (.xe 0 [1] fun b=>[(5,L 1 Str b.1),(6,I b.2)]):=⟨⟩
instance t_bo:FI J0 335 (∀(a:ByteArray)(b:Int),FnK J0 335 [Str a,(IK .u8) b] (fun r=>[(L 1 Str) r]) (fun _=>[]) (zRp a b)):=⟨Tryz.call335,fun a b=>iM Tryz.func335⟩
instance(b:List Int):LH (R:=Int) (zQL b) [0] [] (fun a=>[(3,I a.1),(4,I a.2)]) (.xe 0 [0] fun c=>[(3,I c)]):=⟨⟩
instance t_S:FI J0 123 (∀(a:List Int),FnK J0 123 [T.ro (lV a)] (fun r=>[I r]) (fun _=>[]) (f_S a)):=⟨Tryz.call123,fun a=>iM Tryz.func123⟩
instance:HS Tryz.f340.8 [(2,4,0,.tr 6 13),(0,39,0,.tr 36 6),(2,6,0,.tr 6 39),(2,6,1,.tr 6 48),(0,48,0,.tr 44 6)]:=⟨⟩
instance(c:Int)(d:ByteArray):LH (R:=(List Int)×Bool) (zUD c d) [0,1] [] (fun b=>[(6,L 1 I b.1),(7,I b.2)]) (.xs (.xe 0 [0,1] fun a=>[(6,L 1 I a)]) .xr):=⟨⟩
instance t_bS:FI J0 340 (∀(a:Int)(b:ByteArray),FnK J0 340 [I a,Str b] (fun r:(List Int)×Bool=>[lV r.1,B r.2]) (fun _=>[]) (zWJ a b)):=⟨Tryz.call340,fun a b=>iM Tryz.func340⟩
theorem yCP{g_g:Int→Option ByteArray}[FI J0 342 (∀(x0:Int),FnK J0 342 [I x0] (fun r:ByteArray=>[Str r]) (fun _=>[]) (g_g x0))]:∀(x0:Int),FnK J0 342 [I x0] (fun r:ByteArray=>[Str r]) (fun _=>[]) (b_g g_g x0):=fun x0=>iM Tryz.func342
theorem yCQ{g_g:Int→Option ByteArray}(H_g:∀(x0:Int) r,g_g x0=dS r→FnC J0 342 [I x0] [Str r] [])(x0:Int)(r:ByteArray)(h:b_g g_g x0=dS r):FnC J0 342 [I x0] [Str r] []:=by have:FI J0 342 (∀(x0:Int),FnK J0 342 [I x0] (fun r:ByteArray=>[Str r]) (fun _=>[]) (g_g x0)):=⟨Jaa,fun x0=>FnK.mk (H_g x0)⟩;exact(yCP x0).go h
end
theorem yCR:∀n,(∀(x0:Int) r,zKP n x0=dS r→FnC J0 342 [I x0] [Str r] []):=by
  intro n
  induction n with
  |zero=>exact(fun _ r h=>by simp[zKP]at h)
  |succ n ih=>exact(fun x0 r h=>yCQ ih x0 r (by simpa[zKP]using h))
theorem u_g(x0:Int)(r:ByteArray)(h:f_g x0=dS r):FnC J0 342 [I x0] [Str r] []:=by obtain⟨n,hn⟩:=kH h;exact(yCR n) x0 r hn
instance t_g:FI J0 342 (∀(a:Int),FnK J0 342 [I a] (fun r=>[Str r]) (fun _=>[]) (f_g a)):=⟨Jaa,fun a=>FnK.mk (u_g a)⟩
section
attribute [local irreducible] RW CW DK OkL Ok zU zY yO yZ XS.post rng xC yL ixO zL zX yM zV zE GTo zK FnC FnK xJ xQ Kp Lk BsL BuL RpL Bk Lc JQ AK
instance(a b:List Int)(c:Int):LH (R:=Bool) (zIu a b c) [0,1,2] [] (fun d=>[(7,I d)]) (.xs (.xe 0 [0,1,2] fun _=>[]) .xr):=⟨⟩
instance t_aa:FI J0 200 (∀(a b:List Int)(c:Int),FnK J0 200 [T.ro (lV a),T.ro (lV b),I c] (fun r=>[B r]) (fun _=>[]) (zKD a b c)):=⟨Tryz.call200,fun a b c=>iM Tryz.func200⟩
instance(a:SPr):LH (R:=Bool) (zQM a) [1,3] [] (fun b=>[(4,I b)]) (.xs (.xe 0 [] fun _=>[]) .xr):=⟨⟩
instance(a:SPr)(b:Int):LH (R:=Bool) (zOl a b) [1,3,5] [] (fun c=>[(6,I c)]) (.xs (.xe 4 [] fun _=>[]) .xr):=⟨⟩
instance(a:SPr):LH (R:=Bool) (zKE a) [1,3] [] (fun b=>[(5,I b)]) (.xs (.xe 2 [1,3] fun _=>[]) .xr):=⟨⟩
instance t_k:FI J0 83 (∀(a:SPr),FnK J0 83 [qPr a] (fun r=>[B r]) (fun _=>[]) (f_k a)):=⟨Tryz.call83,fun a=>iM Tryz.func83⟩
instance(a:Int)(b:List Int):LH (R:=Bool) (zPI a b) [0,2] [] (fun c=>[(7,I c)]) (.xs (.xe 0 [0,2] fun _=>[]) .xr):=⟨⟩
instance t_ao:FI J0 137 (∀(a b:Int)(c:List Int),FnK J0 137 [I a,I b,T.ro (lV c)] (fun r=>[B r]) (fun _=>[]) (zI9 a b c)):=⟨Tryz.call137,fun a b c=>iM Tryz.func137⟩
instance(a b:Int)(c:List (List Int)):LH (R:=Bool) (zPJ a b c) [0,1,2] [] (fun d=>[(7,I d)]) (.xs (.xe 0 [0,1,2] fun _=>[]) .xr):=⟨⟩
instance t_bB:FI J0 296 (∀(a b:Int)(c:List (List Int)),FnK J0 296 [I a,I b,T.ro (lM c)] (fun r=>[B r]) (fun _=>[]) (zWu a b c)):=⟨Tryz.call296,fun a b c=>iM Tryz.func296⟩
instance(a:zB)(b:List (List Int)):LH (R:=Bool) (zPM a b) [1,2] [] (fun c=>[(5,I c)]) (.xs (.xe 0 [1,2] fun _=>[]) .xr):=⟨⟩
instance t_bR:FI J0 270 (∀(a:zB)(b:List (List Int)),FnK J0 270 [xD a,T.ro (lM b)] (fun r=>[B r]) (fun _=>[]) (zZE a b)):=⟨Tryz.call270,fun a b=>iM Tryz.func270⟩
instance:HS Tryz.f226.8 [(2,2,0,.tr 5 7)]:=⟨⟩
instance t_bx:FI J0 226 (∀(a b:Int),FnK J0 226 [I a,I b] (fun r=>[lV r]) (fun _=>[]) (zKH a b)):=⟨Tryz.call226,fun a b=>iM Tryz.func226⟩
instance t_bA:FI J0 160 (∀(a:zB)(b:Int),FnK J0 160 [T.ro ((Pt yX) a),I b] (fun r=>[(fun x=>T.agg [I x.Prime,I x.xL,(Ro lM) x.Rows]) r]) (fun _=>[]) (zM6 a b)):=⟨Tryz.call160,fun a b=>iM Tryz.func160⟩
end
end Go.Wk
