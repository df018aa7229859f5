/- x -/
import Derived.Test.YtchnmobojdcikaaGreatCVaa
import Derived.Test.YtchnmobojdcikaaGreatCVah
import Derived.Test.YtchnmobojdcikaaGreatCWT
open Go.Proofs.Tryz renaming prog→J0
open Option renaming some→iz,none→iA
open Bool renaming true→iB,false→iC
namespace Go.Wk
open Go Go.Proofs Go.Ab
set_option maxRecDepth 100000
set_option maxHeartbeats 4000000
section
attribute [local irreducible] RW CW DK OkL Ok zV yA yW xK XS.post rng xN yP ixO zO yG yO yB zG GTo zP FnC FnK xQ wB Kp Lk BsL BuL RpL Bk Lc JQ AK
instance(a:SPr):LH (R:=Bool) (zQD a) [1,3] [] (fun b=>[(4,I b)]) (.xs (.xe 0 [] fun _=>[]) .xr):=⟨⟩
instance(a:SPr)(b:Int):LH (R:=Bool) (zNQ a b) [1,3,5] [] (fun c=>[(6,I c)]) (.xs (.xe 4 [] fun _=>[]) .xr):=⟨⟩
instance(a:SPr):LH (R:=Bool) (zK7 a) [1,3] [] (fun b=>[(5,I b)]) (.xs (.xe 2 [1,3] fun _=>[]) .xr):=⟨⟩
instance t_m:FI J0 83 (∀(a:SPr),FnK J0 83 [qPr a] (fun r=>[B r]) (fun _=>[]) (f_m a)):=⟨Tryz.call83,fun a=>iM Tryz.func83⟩
end
theorem yCd:∀n,(∀(x0:SPr)(x1:Int)(x2:List Int) r,zNR n x0 x1 x2=iz r→FnC J0 299 [qPr x0,I x1,T.ro (lV x2)] [lV r] [])∧(∀(x0:SPr)(x1:Int)(x2:List Int)(x3:List Int) r,zNS n x0 x1 x2 x3=iz r→FnC J0 247 [qPr x0,I x1,T.ro (lV x2),T.ro (lV x3)] [lV r] []):=by
  intro n
  induction n with
  |zero=>exact⟨(fun _ _ _ r h=>by simp[zNR]at h),(fun _ _ _ _ r h=>by simp[zNS]at h)⟩
  |succ n ih=>exact⟨(fun x0 x1 x2 r h=>yCW ih.2 x0 x1 x2 r (by simpa[zNR]using h)),(fun x0 x1 x2 x3 r h=>yDc ih.1 ih.2 x0 x1 x2 x3 r (by simpa[zNS]using h))⟩
theorem u_e(x0:SPr)(x1:Int)(x2:List Int)(r:(List Int))(h:f_e x0 x1 x2=iz r):FnC J0 299 [qPr x0,I x1,T.ro (lV x2)] [lV r] []:=by obtain⟨n,hn⟩:=qS h;exact(yCd n).1 x0 x1 x2 r hn
theorem u_a(x0:SPr)(x1:Int)(x2:List Int)(x3:List Int)(r:(List Int))(h:f_a x0 x1 x2 x3=iz r):FnC J0 247 [qPr x0,I x1,T.ro (lV x2),T.ro (lV x3)] [lV r] []:=by obtain⟨n,hn⟩:=qS h;exact(yCd n).2 x0 x1 x2 x3 r hn
instance t_e:FI J0 299 (∀(a:SPr)(b:Int)(c:List Int),FnK J0 299 [qPr a,I b,T.ro (lV c)] (fun r=>[lV r]) (fun _=>[]) (f_e a b c)):=⟨Tryz.call299,fun a b c=>FnK.mk (u_e a b c)⟩
instance t_a:FI J0 247 (∀(a:SPr)(b:Int)(c d:List Int),FnK J0 247 [qPr a,I b,T.ro (lV c),T.ro (lV d)] (fun r=>[lV r]) (fun _=>[]) (f_a a b c d)):=⟨Tryz.call247,fun a b c d=>FnK.mk (u_a a b c d)⟩
section
attribute [local irreducible] RW CW DK OkL Ok zV yA yW xK XS.post rng xN yP ixO zO yG yO yB zG GTo zP FnC FnK xQ wB Kp Lk BsL BuL RpL Bk Lc JQ AK
instance(a b:Int)(c:List (List Int)):LH (R:=Bool) (zPG a b c) [0,1,2] [] (fun d=>[(7,I d)]) (.xs (.xe 0 [0,1,2] fun _=>[]) .xr):=⟨⟩
instance t_a5:FI J0 296 (∀(a b:Int)(c:List (List Int)),FnK J0 296 [I a,I b,T.ro (lM c)] (fun r=>[B r]) (fun _=>[]) (zWo a b c)):=⟨Tryz.call296,fun a b c=>iM Tryz.func296⟩
end
end Go.Wk
