/- x -/
import Derived.Test.YtchnmobojdcikaaGreatCVaa
import Derived.Test.YtchnmobojdcikaaGreatCVad
import Derived.Test.YtchnmobojdcikaaGreatCVae
import Derived.Test.YtchnmobojdcikaaGreatCVaf
import Derived.Test.YtchnmobojdcikaaGreatCVak
import Derived.Test.YtchnmobojdcikaaGreatCVav
import Derived.Test.YtchnmobojdcikaaGreatCVaw
import Derived.Test.YtchnmobojdcikaaGreatCVas
import Derived.Test.YtchnmobojdcikaaGreatCWT
open Go.Proofs.Tryz renaming prog→J0,call134→Jam
open Option renaming some→iz,none→iA
open Bool renaming true→iB,false→iC
namespace Go.Wk
open Go Go.Proofs Go.Ab
set_option maxRecDepth 100000
set_option maxHeartbeats 4000000
section
attribute [local irreducible] RW CW DK OkL Ok zV yA yW xK XS.post rng xN yP ixO zO yG yO yB zG GTo zP FnC FnK xQ wB Kp Lk BsL BuL RpL Bk Lc JQ AK
instance t_cc:FI J0 229 (∀(a:SPr),FnK J0 229 [qPr a] (fun r=>[B r]) (fun _=>[]) (zZR a)):=⟨Tryz.call229,fun a=>iM Tryz.func229⟩
instance:HS Tryz.f175.8 [(2,6,0,.tr 2 29)]:=⟨⟩
instance(b:zC)(c:List (List Int))(d:List Int)(e:(List Int)×Int):LH (R:=(List Int)) (zUn b c d e) [1,3,4,9] [] (fun a=>[(2,T.ro (lV a.1)),(10,I a.2)]) (.xe 2 [] fun f=>[(2,T.ro (lV f))]):=⟨⟩
instance(b:zC)(c:List (List Int))(d:List Int):LH (R:=(List Int)) (zUo b c d) [1,3,4] [] (fun a=>[(2,T.ro (lV a.1)),(9,I a.2)]) (.xe 0 [1,3,4] fun e=>[(2,T.ro (lV e))]):=⟨⟩
instance t_V:FI J0 175 (∀(a:zC)(b:List (List Int))(c d:List Int),FnK J0 175 [vC a,T.ro (lM b),T.ro (lV c),T.ro (lV d)] (fun r=>[T.ro (lV r)]) (fun _=>[]) (f_V a b c d)):=⟨Tryz.call175,fun a b c d=>iM Tryz.func175⟩
end
theorem yCf:∀n,(∀(x0:zN)(x1:Int)(x2:zH) r,zOm n x0 x1 x2=iz r→FnC J0 325 [xG x0,I x1,xC x2] [xX r] [])∧(∀(x0:zN)(x1:Int)(x2:zH)(x3:zH) r,zOn n x0 x1 x2 x3=iz r→FnC J0 322 [xG x0,I x1,xC x2,xC x3] [xX r] []):=by
  intro n
  induction n with
  |zero=>exact⟨(fun _ _ _ r h=>by simp[zOm]at h),(fun _ _ _ _ r h=>by simp[zOn]at h)⟩
  |succ n ih=>exact⟨(fun x0 x1 x2 r h=>yDi ih.2 x0 x1 x2 r (by simpa[zOm]using h)),(fun x0 x1 x2 x3 r h=>yDg ih.1 ih.2 x0 x1 x2 x3 r (by simpa[zOn]using h))⟩
theorem u_f(x0:zN)(x1:Int)(x2:zH)(r:zH)(h:f_f x0 x1 x2=iz r):FnC J0 325 [xG x0,I x1,xC x2] [xX r] []:=by obtain⟨n,hn⟩:=qS h;exact(yCf n).1 x0 x1 x2 r hn
theorem u_c(x0:zN)(x1:Int)(x2:zH)(x3:zH)(r:zH)(h:f_c x0 x1 x2 x3=iz r):FnC J0 322 [xG x0,I x1,xC x2,xC x3] [xX r] []:=by obtain⟨n,hn⟩:=qS h;exact(yCf n).2 x0 x1 x2 x3 r hn
instance t_f:FI J0 325 (∀(a:zN)(b:Int)(c:zH),FnK J0 325 [xG a,I b,xC c] (fun r=>[xX r]) (fun _=>[]) (f_f a b c)):=⟨Tryz.call325,fun a b c=>FnK.mk (u_f a b c)⟩
instance t_c:FI J0 322 (∀(a:zN)(b:Int)(c d:zH),FnK J0 322 [xG a,I b,xC c,xC d] (fun r=>[xX r]) (fun _=>[]) (f_c a b c d)):=⟨Tryz.call322,fun a b c d=>FnK.mk (u_c a b c d)⟩
section
attribute [local irreducible] RW CW DK OkL Ok zV yA yW xK XS.post rng xN yP ixO zO yG yO yB zG GTo zP FnC FnK xQ wB Kp Lk BsL BuL RpL Bk Lc JQ AK
instance:HS Tryz.f134.8 [(1,4,0,.trf 30 2 5 [2,0])]:=⟨⟩
instance(c:zC)(d:List Int):LH (R:=zT) (zMu c d) [0,4,17,18] [] (fun a=>[(5,T.ptr (T.agg [I a.1,I a.2.1,L 1 lV a.2.2.1])),(19,I a.2.2.2)]) (.xe 0 [0,17,18] fun b=>[(5,T.ptr (T.agg [I b.1,I b.2.1,L 1 lV b.2.2]))]):=⟨⟩
instance t_ai:FI J0 134 (∀(a:zC)(b:List Int),FnK J0 134 [T.ro ((Pt xV) a),T.ro (lV b)] (fun r=>[zCm r]) (fun _=>[]) (zUb a b)):=⟨Jam,fun a b=>iM Tryz.func134⟩
instance:HS Tryz.f173.8 [(2,2,0,.tr 7 14),(2,6,0,.tr 7 26)]:=⟨⟩
instance(c:zC)(d:List (List Int))(e:List Int):LH (R:=(List Int)) (zM3 c d e) [0,1,15,16] [] (fun b=>[(7,L 1 I b.1),(17,I b.2)]) (.xe 0 [0,1,15,16] fun a=>[(7,L 1 I a)]):=⟨⟩
instance t_aC:FI J0 173 (∀(a:zC)(b:List (List Int))(c:List Int),FnK J0 173 [T.ro ((Pt xV) a),T.ro (lM b),T.ro (lV c)] (fun r=>[lV r]) (fun _=>[]) (zUq a b c)):=⟨Tryz.call173,fun a b c=>iM Tryz.func173⟩
instance:HS Tryz.f183.8 [(2,2,0,.tr 5 9)]:=⟨⟩
instance(b:zT)(c:(List Int)):LH (R:=(List Int)) (zJG b c) [2,12,13] [] (fun a=>[(5,L 1 I a.1),(14,I a.2)]) (.xe 0 [2,12,13] fun d=>[(5,L 1 I d)]):=⟨⟩
instance t_am:FI J0 183 (∀(a:zT)(b:List Int),FnK J0 183 [qO a,T.ro (lV b)] (fun r=>[lV r]) (fun _=>[]) (zUw a b)):=⟨Tryz.call183,fun a b=>iM Tryz.func183⟩
instance(a:List (List Int)):LH (R:=Bool) (zPP a) [0] [] (fun b=>[(3,I b)]) (.xs (.xe 0 [0] fun _=>[]) .xr):=⟨⟩
instance t_aw:FI J0 78 (∀(a:List (List Int)),FnK J0 78 [T.ro (lM a)] (fun r=>[B r]) (fun _=>[]) (zOr a)):=⟨Tryz.call78,fun a=>iM Tryz.func78⟩
end
end Go.Wk
