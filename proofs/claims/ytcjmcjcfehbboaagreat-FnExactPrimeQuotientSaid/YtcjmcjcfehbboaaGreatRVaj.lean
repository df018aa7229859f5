/- x -/
import Derived.Test.YtcjmcjcfehbboaaGreatRVaa
import Derived.Test.YtcjmcjcfehbboaaGreatRVaf
import Derived.Test.YtcjmcjcfehbboaaGreatRWT
open Go.Proofs.Tryz renaming prog->J1
open Option renaming some->Wu,none->Wv
open Bool renaming true->Ww,false->Wx
namespace Go.Wk
open Go Go.Proofs Go.Ab
set_option maxRecDepth 100000
set_option maxHeartbeats 4000000
theorem yDi:∀n,(∀(x0:SPr)(x1:List Int)(x2:Int) r,zVk n x0 x1 x2=Wu r->FnC J1 146 [T.ro ((Pt yM) x0),L 1 I x1,I x2] [] [(1,lV r)])/\(∀(x0:SPr)(x1:List Int)(x2:List Int) r,zR1 n x0 x1 x2=Wu r->FnC J1 99 [T.ro ((Pt yM) x0),L 1 I x1,T.ro (lV x2)] [] [(1,lV r)]):=by
  intro n
  induction n with
  |zero=>exact⟨(fun _ _ _ r h=>by simp[zVk]at h),(fun _ _ _ r h=>by simp[zR1]at h)⟩
  |succ n ih=>exact⟨(fun x0 x1 x2 r h=>yEk ih.2 x0 x1 x2 r (by simpa[zVk]using h)),(fun x0 x1 x2 r h=>yEf ih.1 x0 x1 x2 r (by simpa[zR1]using h))⟩
theorem u_c(x0:SPr)(x1:List Int)(x2:Int)(r:(List Int))(h:f_c x0 x1 x2=Wu r):FnC J1 146 [T.ro ((Pt yM) x0),L 1 I x1,I x2] [] [(1,lV r)]:=by obtain⟨n,hn⟩:=zBQ h;exact(yDi n).1 x0 x1 x2 r hn
theorem u_b(x0:SPr)(x1:List Int)(x2:List Int)(r:(List Int))(h:f_b x0 x1 x2=Wu r):FnC J1 99 [T.ro ((Pt yM) x0),L 1 I x1,T.ro (lV x2)] [] [(1,lV r)]:=by obtain⟨n,hn⟩:=zBQ h;exact(yDi n).2 x0 x1 x2 r hn
instance t_c:FI J1 146 (∀(a:SPr)(b:List Int)(c:Int),FnK J1 146 [T.ro ((Pt yM) a),L 1 I b,I c] (fun _:(List Int)=>[]) (fun r=>[(1,lV r)]) (f_c a b c)):=⟨Tryz.call146,fun a b c=>FnK.mk (u_c a b c)⟩
instance t_b:FI J1 99 (∀(a:SPr)(b c:List Int),FnK J1 99 [T.ro ((Pt yM) a),L 1 I b,T.ro (lV c)] (fun _:(List Int)=>[]) (fun r=>[(1,lV r)]) (f_b a b c)):=⟨Tryz.call99,fun a b c=>FnK.mk (u_b a b c)⟩
theorem yEn:∀n,(∀(x0:SPr)(x1:Int)(x2:List Int) r,zR0 n x0 x1 x2=Wu r->FnC J1 156 [qPr x0,I x1,T.ro (lV x2)] [lV r] [])/\(∀(x0:SPr)(x1:Int)(x2:List Int)(x3:List Int) r,zOu n x0 x1 x2 x3=Wu r->FnC J1 126 [qPr x0,I x1,T.ro (lV x2),T.ro (lV x3)] [lV r] []):=by
  intro n
  induction n with
  |zero=>exact⟨(fun _ _ _ r h=>by simp[zR0]at h),(fun _ _ _ _ r h=>by simp[zOu]at h)⟩
  |succ n ih=>exact⟨(fun x0 x1 x2 r h=>yEh ih.2 x0 x1 x2 r (by simpa[zR0]using h)),(fun x0 x1 x2 x3 r h=>yEm ih.1 ih.2 x0 x1 x2 x3 r (by simpa[zOu]using h))⟩
theorem u_a(x0:SPr)(x1:Int)(x2:List Int)(x3:List Int)(r:(List Int))(h:f_a x0 x1 x2 x3=Wu r):FnC J1 126 [qPr x0,I x1,T.ro (lV x2),T.ro (lV x3)] [lV r] []:=by obtain⟨n,hn⟩:=zBQ h;exact(yEn n).2 x0 x1 x2 x3 r hn
instance t_a:FI J1 126 (∀(a:SPr)(b:Int)(c d:List Int),FnK J1 126 [qPr a,I b,T.ro (lV c),T.ro (lV d)] (fun r=>[lV r]) (fun _=>[]) (f_a a b c d)):=⟨Tryz.call126,fun a b c d=>FnK.mk (u_a a b c d)⟩
end Go.Wk
