/- x -/
import Derived.Test.YtchnmobojdcikaaGreatKVaa
import Derived.Test.YtchnmobojdcikaaGreatKVab
import Derived.Test.YtchnmobojdcikaaGreatKVac
import Derived.Test.YtchnmobojdcikaaGreatKVad
import Derived.Test.YtchnmobojdcikaaGreatKWT
open Go.Proofs.Tryz renaming prog→J0
open Option renaming some→dJ,none→dK
open Bool renaming true→dL,false→dM
namespace Go.Wk
open Go Go.Proofs Go.Ab
set_option maxRecDepth 100000
set_option maxHeartbeats 4000000
section
attribute [local irreducible] RW CW DK OkL Ok yO yY wQ wK XS.post rng wS xR ixO zQ zZ wP yG zH GTo zX FnC FnK vM uH Kp Lk BsL BuL RpL Bk Lc JQ AK
instance(a:SPr):LH (R:=Bool) (zRh a) [1,3] [] (fun b=>[(4,I b)]) (.xs (.xe 0 [] fun _=>[]) .xr):=⟨⟩
instance(a:SPr)(b:Int):LH (R:=Bool) (zOq a b) [1,3,5] [] (fun c=>[(6,I c)]) (.xs (.xe 4 [] fun _=>[]) .xr):=⟨⟩
instance(a:SPr):LH (R:=Bool) (zLd a) [1,3] [] (fun b=>[(5,I b)]) (.xs (.xe 2 [1,3] fun _=>[]) .xr):=⟨⟩
instance t_o:FI J0 83 (∀(a:SPr),FnK J0 83 [qPr a] (fun r=>[B r]) (fun _=>[]) (f_o a)):=⟨Tryz.call83,fun a=>iM Tryz.func83⟩
end
theorem yDq:∀n,(∀(x0:SPr)(x1:Int)(x2:List Int) r,zOr n x0 x1 x2=dJ r→FnC J0 299 [qPr x0,I x1,T.ro (lV x2)] [lV r] [])∧(∀(x0:SPr)(x1:Int)(x2:List Int)(x3:List Int) r,zOs n x0 x1 x2 x3=dJ r→FnC J0 247 [qPr x0,I x1,T.ro (lV x2),T.ro (lV x3)] [lV r] []):=by
  intro n
  induction n with
  |zero=>exact⟨(fun _ _ _ r h=>by simp[zOr]at h),(fun _ _ _ _ r h=>by simp[zOs]at h)⟩
  |succ n ih=>exact⟨(fun x0 x1 x2 r h=>yEp ih.2 x0 x1 x2 r (by simpa[zOr]using h)),(fun x0 x1 x2 x3 r h=>yEw ih.1 ih.2 x0 x1 x2 x3 r (by simpa[zOs]using h))⟩
theorem u_e(x0:SPr)(x1:Int)(x2:List Int)(r:(List Int))(h:f_e x0 x1 x2=dJ r):FnC J0 299 [qPr x0,I x1,T.ro (lV x2)] [lV r] []:=by obtain⟨n,hn⟩:=jS h;exact(yDq n).1 x0 x1 x2 r hn
theorem u_a(x0:SPr)(x1:Int)(x2:List Int)(x3:List Int)(r:(List Int))(h:f_a x0 x1 x2 x3=dJ r):FnC J0 247 [qPr x0,I x1,T.ro (lV x2),T.ro (lV x3)] [lV r] []:=by obtain⟨n,hn⟩:=jS h;exact(yDq n).2 x0 x1 x2 x3 r hn
instance t_e:FI J0 299 (∀(a:SPr)(b:Int)(c:List Int),FnK J0 299 [qPr a,I b,T.ro (lV c)] (fun r=>[lV r]) (fun _=>[]) (f_e a b c)):=⟨Tryz.call299,fun a b c=>FnK.mk (u_e a b c)⟩
instance t_a:FI J0 247 (∀(a:SPr)(b:Int)(c d:List Int),FnK J0 247 [qPr a,I b,T.ro (lV c),T.ro (lV d)] (fun r=>[lV r]) (fun _=>[]) (f_a a b c d)):=⟨Tryz.call247,fun a b c d=>FnK.mk (u_a a b c d)⟩
section
attribute [local irreducible] RW CW DK OkL Ok yO yY wQ wK XS.post rng wS xR ixO zQ zZ wP yG zH GTo zX FnC FnK vM uH Kp Lk BsL BuL RpL Bk Lc JQ AK
instance:HS Tryz.f312.8 [(2,2,0,.tr 9 14),(2,6,0,.tr 9 25),(2,7,0,.tr 10 30)]:=⟨⟩
instance(b:SPr)(c:Int):LH (R:=(List Int)) (zQh b c) [1,4] [] (fun a=>[(3,I a.1),(9,L 1 I a.2.1),(10,T.ro (lV a.2.2))]) (.xe 0 [1,4] fun d=>[(9,L 1 I d)]):=⟨⟩
instance t_a0:FI J0 312 (∀(a:SPr)(b:Int)(c:List Int)(d:Int),FnK J0 312 [qPr a,I b,T.ro (lV c),I d] (fun r=>[lV r]) (fun _=>[]) (zXi a b c d)):=⟨Tryz.call312,fun a b c d=>iM Tryz.func312⟩
instance:HS Tryz.f319.8 [(2,7,0,.tr 8 49),(2,17,0,.tr 13 113),(2,26,0,.tr 16 155),(2,28,0,.tr 17 16),(2,28,1,.fz 17),(2,28,2,.res 16 17 []),(2,29,0,.tr 17 169),(2,31,0,.tr 17 16),(2,31,1,.fz 17),(2,31,2,.res 16 17 [])]:=⟨⟩
instance(a:SPr)(b:Int):LH (R:=yX) (zUf a b) [1,2,4,5,6] [] (fun c=>[(7,I c)]) (.xs (.xe 0 [] fun _=>[]) .xr):=⟨⟩
instance(a:SPr)(b c:Int):LH (R:=yX) (zUg a b c) [1,2,4,5,6,9] [] (fun d=>[(10,I d)]) (.xs (.xe 4 [] fun _=>[]) .xr):=⟨⟩
instance(a:SPr)(b:Int):LH (R:=yX) (zUh a b) [1,2,4,5,6] [] (fun c=>[(9,I c)]) (.xs (.xe 2 [] fun _=>[]) .xr):=⟨⟩
instance(c:SPr)(d:Int):LH (R:=yX) (zUi c d) [1,2,4,5,6,14,15,16] [16] (fun a=>[(17,T.ro (lV a.1)),(18,I a.2)]) (.xe 8 [] fun b=>[(17,T.ro (lV b))]):=⟨⟩
instance(c:SPr)(d:Int)(a:List Int):LH (R:=yX) (zUj c d a) [1,2,4,5,6,14] [] (fun b=>[(15,I b)]) (.xs (.xe 6 [1,2,5,6,14] fun _=>[]) .xr):=⟨⟩
instance t_x:FI J0 319 (∀(a:SPr)(b:Int),FnK J0 319 [qPr a,I b] (fun r=>[zHb r]) (fun _=>[]) (f_x a b)):=⟨Tryz.call319,fun a b=>iM Tryz.func319⟩
end
end Go.Wk
