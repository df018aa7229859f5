/- x -/
import Derived.Test.YtchnmobojdcikaaGreatRVaa
import Derived.Test.YtchnmobojdcikaaGreatRVac
import Derived.Test.YtchnmobojdcikaaGreatRWT
open Go.Proofs.Tryz renaming prog->J0
open Option renaming some->iW,none->iY
open Bool renaming true->iZ,false->ja
namespace Go.Wk
open Go Go.Proofs Go.Ab
set_option maxRecDepth 100000
set_option maxHeartbeats 4000000
section
attribute [local irreducible] RW CW DK OkL Ok yB yI xF xQ XS.post rng xV xC ixO zL yE yT yD zH GTo zR FnC FnK wA wN Kp Lk BsL BuL RpL Bk Lc JQ AK
instance:HS Tryz.f336.8 [(2,2,0,.tr 4 8),(2,5,0,.tr 5 13),(0,35,0,.tr 32 4),(2,7,0,.tr 4 35)]:=⟨⟩
instance(b:(List ByteArray)):LH (R:=(List Int)×Bool) (zRu b) [5] [] (fun a=>[(4,L 1 I a.1),(6,I a.2)]) (.xs (.xe 0 [5] fun c=>[(4,L 1 I c)]) .xr):=⟨⟩
instance t_bi:FI J0 336 (∀(a:ByteArray),FnK J0 336 [Str a] (fun r:(List Int)×Bool=>[lV r.1,B r.2]) (fun _=>[]) (zYW a)):=⟨Tryz.call336,fun a=>iM Tryz.func336⟩
instance t_be:FI J0 323 (∀(a:zO)(b c:Int),FnK J0 323 [xM a,I b,I c] (fun r=>[(fun x=>T.agg [(Ro lV) x.x,(Ro lV) x.v]) r]) (fun _=>[]) (zLL a b c)):=⟨Tryz.call323,fun a b c=>iM Tryz.func323⟩
instance:HS Tryz.f298.8 [(2,1,0,.tr 6 14),(3,2,0,.tr 58 6)]:=⟨⟩
instance(b:Int)(c:(List Int)):LH (R:=(List Int)) (zV5 b c) [0,2,6,16] [] (fun a=>[(1,L 1 I a.1),(17,I a.2)]) (.xe 0 [16] fun d=>[(1,L 1 I d)]):=⟨⟩
instance(g_d:SPr->(List Int)->(List Int)->Option (List Int))(d:SPr)(e:Int)(f:(List Int)×Int)(a:Int):LH (R:=(List Int)) (yCd g_d d e f a) [0,2,8,58,59,60,65] [] (fun c=>[(1,L 1 I c.1),(66,I c.2)]) (.xe 4 [8,65] fun b=>[(1,L 1 I b)]):=⟨⟩
instance(g_d:SPr->(List Int)->(List Int)->Option (List Int))(c:SPr)(d:Int)(e:(List Int)):LH (R:=(List Int)) (yCe g_d c d e) [0,2,58,59] [] (fun b=>[(1,L 1 I b.1),(60,I b.2)]) (.xe 2 [0,2,58,59] fun a=>[(1,L 1 I a)]):=⟨⟩
instance(g_d:SPr->(List Int)->(List Int)->Option (List Int))(e:SPr)(f:Int)(b:(List Int)×Int)(c:Int):LH (R:=(List Int)) (yCf g_d e f b c) [0,2,8,58,59,60,65] [] (fun a=>[(1,L 1 I a.1),(66,I a.2)]) (.xe 4 [8,65] fun d=>[(1,L 1 I d)]):=⟨⟩
instance(g_d:SPr->(List Int)->(List Int)->Option (List Int))(c:SPr)(d:Int)(e:(List Int)):LH (R:=(List Int)) (yCg g_d c d e) [0,2,58,59] [] (fun a=>[(1,L 1 I a.1),(60,I a.2)]) (.xe 2 [0,2,58,59] fun b=>[(1,L 1 I b)]):=⟨⟩
theorem yFA{g_d:SPr->(List Int)->(List Int)->Option (List Int)}[FI J0 246 (∀(x0:SPr)(x1:List Int)(x2:List Int),FnK J0 246 [T.ro ((Pt vQ) x0),L 1 I x1,T.ro (lV x2)] (fun _:(List Int)=>[]) (fun r=>[(1,lV r)]) (g_d x0 x1 x2))]:∀(x0:SPr)(x1:List Int)(x2:Int),FnK J0 298 [T.ro ((Pt vQ) x0),L 1 I x1,I x2] (fun _:(List Int)=>[]) (fun r=>[(1,lV r)]) (b_b g_d x0 x1 x2):=fun x0 x1 x2=>iM Tryz.func298
theorem yFB{g_d:SPr->(List Int)->(List Int)->Option (List Int)}(H_d:∀(x0:SPr)(x1:List Int)(x2:List Int) r,g_d x0 x1 x2=iW r->FnC J0 246 [T.ro ((Pt vQ) x0),L 1 I x1,T.ro (lV x2)] [] [(1,lV r)])(x0:SPr)(x1:List Int)(x2:Int)(r:(List Int))(h:b_b g_d x0 x1 x2=iW r):FnC J0 298 [T.ro ((Pt vQ) x0),L 1 I x1,I x2] [] [(1,lV r)]:=by have:FI J0 246 (∀(x0:SPr)(x1:List Int)(x2:List Int),FnK J0 246 [T.ro ((Pt vQ) x0),L 1 I x1,T.ro (lV x2)] (fun _:(List Int)=>[]) (fun r=>[(1,lV r)]) (g_d x0 x1 x2)):=⟨Tryz.call246,fun x0 x1 x2=>FnK.mk (H_d x0 x1 x2)⟩;exact(yFA x0 x1 x2).go h
instance(b c:List Int)(d e:Int):LH (R:=(List Int)) (zND b c d e) [1,2,3,10] [] (fun a=>[(0,L 1 I a.1),(11,I a.2)]) (.xe 0 [1,2,3,10] fun f=>[(0,L 1 I f)]):=⟨⟩
instance t_D:FI J0 108 (∀(a b:List Int)(c d:Int),FnK J0 108 [L 1 I a,T.ro (lV b),I c,I d] (fun _:(List Int)=>[]) (fun r=>[(0,lV r)]) (f_D a b c d)):=⟨Tryz.call108,fun a b c d=>iM Tryz.func108⟩
instance:HS Tryz.f253.8 [(0,16,0,.tr 12 3),(2,6,0,.tr 3 16)]:=⟨⟩
instance(b:List (List Int)):LH (R:=(List (List Int))) (zNI b) [6,7] [] (fun a=>[(3,L 1 lV a.1),(8,I a.2)]) (.xe 0 [6,7] fun c=>[(3,L 1 lV c)]):=⟨⟩
instance t_aU:FI J0 253 (∀(a:List (List Int)),FnK J0 253 [T.ro (lM a)] (fun r:(List (List Int))=>[lM r]) (fun _=>[]) (zY7 a)):=⟨Tryz.call253,fun a=>iM Tryz.func253⟩
end
end Go.Wk
