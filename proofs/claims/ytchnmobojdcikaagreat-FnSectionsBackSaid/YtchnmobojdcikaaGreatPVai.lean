/- x -/
import Derived.Test.YtchnmobojdcikaaGreatPVaa
import Derived.Test.YtchnmobojdcikaaGreatPVae
import Derived.Test.YtchnmobojdcikaaGreatPWT
open Go.Proofs.Tryz renaming prog→J0
open Option renaming some→aB,none→aC
open Bool renaming true→aD,false→aE
namespace Go.Wk
open Go Go.Proofs Go.Ab
set_option maxRecDepth 100000
set_option maxHeartbeats 4000000
section
attribute [local irreducible] RW CW DK OkL Ok yA yB xE xH XS.post rng xK yV ixO zN yD xC zU zC GTo zO FnC FnK xV wG Kp Lk BsL BuL RpL Bk Lc JQ AK
instance:HS Tryz.f290.8 [(0,28,0,.trq 20 3 [2,0]),(1,2,0,.trf 30 0 3 [0,0]),(1,2,1,.trf 30 1 3 [1,0]),(1,2,2,.trf 30 2 3 [2,0])]:=⟨⟩
instance(a:SPr):LN (zJ3 a) 3:=⟨⟩
instance(b:SPr)(A0 A1 A2:T):LHk (R:=SPr) (zJ3 b) (T.ptr (T.agg [A0,A1,A2])) [1,2] [] (fun a=>[(3,T.ptr (T.agg [A0,A1,L 1 lM a.1])),(4,I a.2)]) (.xe 0 [1] fun c=>[(3,T.ptr (T.agg [A0,A1,L 1 lM c]))]):=⟨⟩
instance t_Q:FI J0 290 (∀(a:SPr),FnK J0 290 [qPr a] (fun r=>[xT r]) (fun _=>[]) (f_Q a)):=⟨Tryz.call290,fun a=>iM Tryz.func290⟩
end
theorem zWx:∀n,(∀(x0:SPr)(x1:Int)(x2:List Int) r,zKu n x0 x1 x2=aB r→FnC J0 299 [qPr x0,I x1,T.ro (lV x2)] [lV r] [])∧(∀(x0:SPr)(x1:Int)(x2:List Int)(x3:List Int) r,zKv n x0 x1 x2 x3=aB r→FnC J0 247 [qPr x0,I x1,T.ro (lV x2),T.ro (lV x3)] [lV r] []):=by
  intro n
  induction n with
  |zero=>exact⟨(fun _ _ _ r h=>by simp[zKu]at h),(fun _ _ _ _ r h=>by simp[zKv]at h)⟩
  |succ n ih=>exact⟨(fun x0 x1 x2 r h=>zXs ih.2 x0 x1 x2 r (by simpa[zKu]using h)),(fun x0 x1 x2 x3 r h=>zXy ih.1 ih.2 x0 x1 x2 x3 r (by simpa[zKv]using h))⟩
theorem u_d(x0:SPr)(x1:Int)(x2:List Int)(r:(List Int))(h:f_d x0 x1 x2=aB r):FnC J0 299 [qPr x0,I x1,T.ro (lV x2)] [lV r] []:=by obtain⟨n,hn⟩:=zAu h;exact(zWx n).1 x0 x1 x2 r hn
theorem u_a(x0:SPr)(x1:Int)(x2:List Int)(x3:List Int)(r:(List Int))(h:f_a x0 x1 x2 x3=aB r):FnC J0 247 [qPr x0,I x1,T.ro (lV x2),T.ro (lV x3)] [lV r] []:=by obtain⟨n,hn⟩:=zAu h;exact(zWx n).2 x0 x1 x2 x3 r hn
instance t_d:FI J0 299 (∀(a:SPr)(b:Int)(c:List Int),FnK J0 299 [qPr a,I b,T.ro (lV c)] (fun r=>[lV r]) (fun _=>[]) (f_d a b c)):=⟨Tryz.call299,fun a b c=>FnK.mk (u_d a b c)⟩
instance t_a:FI J0 247 (∀(a:SPr)(b:Int)(c d:List Int),FnK J0 247 [qPr a,I b,T.ro (lV c),T.ro (lV d)] (fun r=>[lV r]) (fun _=>[]) (f_a a b c d)):=⟨Tryz.call247,fun a b c d=>FnK.mk (u_a a b c d)⟩
end Go.Wk
