/- The program's IsTerminal returns what the reference's returns,for all arguments;no conditions. -/
import Derived.Test.YtfeijieociajaaaGreatVA
import Derived.Test.YtfeijieociajaaaGreatWT
open Go.Proofs.Tryz renaming prog->J0,underlying22->Ll,underlying3->Qv,call203->Jar,call181->Jas,call139->Jau,f173->Jbi,call52->Jbz
open Option renaming some->jd,none->je
open Bool renaming true->jf,false->jg
namespace Go.Wk
open Go Go.Proofs Go.Ab
set_option maxRecDepth 100000
set_option maxHeartbeats 4000000
section
attribute [local irreducible] RW CW DK OkL Ok yQ yT wF vH XS.post rng vK vA ixO zR yI wJ yG zG GTo zQ FnC FnK wU uH Kp Lk BsL BuL RpL Bk Lc
instance t_bX:FI J0 90 (∀(a b:Int)(c:List Int),FnK J0 90 [I a,I b,T.ro (lV c)] (fun r=>[lV r]) (fun _=>[]) (zYA a b c)):=⟨Tryz.call90,fun a b c=>iM Tryz.func90⟩
instance:HS Tryz.f55.8 [(2,2,0,.tr 5 12),(2,6,0,.tr 7 25),(0,7,0,.fz 40),(2,10,0,.tr 9 41),(0,62,0,.tr 59 9),(2,15,0,.tr 9 62),(0,80,0,.fz 79),(0,81,0,.tr 63 9),(0,87,0,.tr 84 9),(2,19,0,.tr 9 87),(2,4,0,.tr 5 9)]:=⟨⟩
instance(c:Int)(d:(List (List Int))×Int)(e:Int)(f:(List Int)):LH (R:=(List (List Int))) (zIK c d e f) [0,1,5,6,7,8] [] (fun b=>[(9,L 1 (Ro lV) b.1),(10,B b.2.1),(11,I b.2.2)]) (.xe 2 [5,8] fun a=>[(9,L 1 (Ro lV) a.1),(10,B a.2)]):=⟨⟩
instance(c:Int)(d:List (List Int)):LH (R:=(List (List Int))) (zSu c d) [0,1] [] (fun b=>[(5,L 1 (Ro lV) b.1),(6,I b.2)]) (.xe 0 [0,1] fun a=>[(5,L 1 (Ro lV) a)]):=⟨⟩
instance t_q:FI J0 55 (∀(a:Int)(b:List (List Int)),FnK J0 55 [I a,T.ro (lM b)] (fun r:(List (List Int))=>[(L 1 (Ro lV)) r]) (fun _=>[]) (f_q a b)):=⟨Tryz.call55,fun a b=>iM Tryz.func55⟩
instance:HS Tryz.f191.8 [(2,2,0,.tr 5 10),(2,3,0,.tr 6 11),(0,30,0,.tr 18 6),(0,33,0,.fz 6),(0,33,1,.res 32 6 [])]:=⟨⟩
instance(b:List (List Int))(c:(List (List Int))):LH (R:=(List (List Int))) (zN4 b c) [0,1,5] [] (fun a=>[(6,L 1 lV a.1),(7,I a.2)]) (.xe 0 [1,5] fun d=>[(6,L 1 lV d)]):=⟨⟩
instance t_aU:FI J0 191 (∀(a:Int)(b:List (List Int)),FnK J0 191 [I a,T.ro (lM b)] (fun r:(List (List Int))=>[(L 1 (Ro lV)) r]) (fun _=>[]) (zYB a b)):=⟨Tryz.call191,fun a b=>iM Tryz.func191⟩
instance:HS Tryz.f149.8 [(2,2,0,.tr 7 12),(2,3,0,.tr 8 13),(0,36,0,.tr 27 8),(2,5,0,.tr 8 36)]:=⟨⟩
instance(c:Int)(d:(List (List Int))):LH (R:=(List (List Int))) (zJN c d) [2,7] [] (fun b=>[(8,L 1 lV b.1),(9,I b.2)]) (.xe 0 [2,7] fun a=>[(8,L 1 lV a)]):=⟨⟩
instance t_aA:FI J0 149 (∀(a:Int)(b:List (List Int))(c:Int),FnK J0 149 [I a,T.ro (lM b),I c] (fun r:(List (List Int))=>[lM r]) (fun _=>[]) (zYC a b c)):=⟨Tryz.call149,fun a b c=>iM Tryz.func149⟩
end
theorem u_B(x0:List Int)(r:(List Int))(h:f_B x0=jd r):FnC J0 58 [T.ro (lV x0)] [lV r] []:=by
 refine fB Tryz.func58 (fun St W w0 v=>?_);refine sR (oP (zDm 1 rfl) ?_);refine rN (CW.seq (sR (xR ?_)));refine RW.isnil Ll (zAG rfl rfl) (.inl rfl) rfl rfl (fun b1 d8=>?_);refine rN (CW.cond _ rfl (fun hc=>?_) (fun hc=>?_));have hx:=d8 hc;subst hx;have h:jd ([])=jd r:=by simpa[yI,f_B]using h
 refine sR (oP (zDm 1 rfl) ?_);refine rN (CW.ret (rA ?_));obtain rfl:=sI h;exact rT;refine CW.skip (nA (sR (oP (zTH elt_22 rfl) ?_)));refine xR ?_;obtain⟨v2,cr,h⟩:=bd h;refine oP (zHo (f:=I) (g:=I) elt_22 (fun _=>rfl) (fun _=>rfl) inferInstance cr rfl (zAG rfl rfl) rfl) ?_;refine tH ?_;refine RW.ghost (zQ.tr 2 7 _ rfl rfl (yL (xF (Enc.clean (f:=I)))) rfl) ?_;refine rN (CW.ret ?_);obtain rfl:=sI h;exact rT
instance t_B:FI J0 58 (∀(a:List Int),FnK J0 58 [T.ro (lV a)] (fun r=>[lV r]) (fun _=>[]) (f_B a)):=⟨Tryz.call58,fun a=>FnK.mk (u_B a)⟩
section
attribute [local irreducible] RW CW DK OkL Ok yQ yT wF vH XS.post rng vK vA ixO zR yI wJ yG zG GTo zQ FnC FnK wU uH Kp Lk BsL BuL RpL Bk Lc
instance:HS Tryz.f181.8 [(2,1,0,.tr 6 14),(3,2,0,.tr 58 6)]:=⟨⟩
instance(b:Int)(c:(List Int)):LH (R:=(List Int)) (zVW b c) [0,2,6,16] [] (fun a=>[(1,L 1 I a.1),(17,I a.2)]) (.xe 0 [16] fun d=>[(1,L 1 I d)]):=⟨⟩
instance(g_c:SPr->(List Int)->(List Int)->Option (List Int))(d:SPr)(e:Int)(f:(List Int)×Int)(a:Int):LH (R:=(List Int)) (yBL g_c d e f a) [0,2,8,58,59,60,65] [] (fun c=>[(1,L 1 I c.1),(66,I c.2)]) (.xe 4 [8,65] fun b=>[(1,L 1 I b)]):=⟨⟩
instance(g_c:SPr->(List Int)->(List Int)->Option (List Int))(c:SPr)(d:Int)(e:(List Int)):LH (R:=(List Int)) (yBM g_c c d e) [0,2,58,59] [] (fun b=>[(1,L 1 I b.1),(60,I b.2)]) (.xe 2 [0,2,58,59] fun a=>[(1,L 1 I a)]):=⟨⟩
instance(g_c:SPr->(List Int)->(List Int)->Option (List Int))(e:SPr)(f:Int)(b:(List Int)×Int)(c:Int):LH (R:=(List Int)) (yBN g_c e f b c) [0,2,8,58,59,60,65] [] (fun a=>[(1,L 1 I a.1),(66,I a.2)]) (.xe 4 [8,65] fun d=>[(1,L 1 I d)]):=⟨⟩
instance(g_c:SPr->(List Int)->(List Int)->Option (List Int))(c:SPr)(d:Int)(e:(List Int)):LH (R:=(List Int)) (yBO g_c c d e) [0,2,58,59] [] (fun a=>[(1,L 1 I a.1),(60,I a.2)]) (.xe 2 [0,2,58,59] fun b=>[(1,L 1 I b)]):=⟨⟩
theorem yF2{g_c:SPr->(List Int)->(List Int)->Option (List Int)}[FI J0 139 (∀(x0:SPr)(x1:List Int)(x2:List Int),FnK J0 139 [T.ro ((Pt yW) x0),L 1 I x1,T.ro (lV x2)] (fun _:(List Int)=>[]) (fun r=>[(1,lV r)]) (g_c x0 x1 x2))]:∀(x0:SPr)(x1:List Int)(x2:Int),FnK J0 181 [T.ro ((Pt yW) x0),L 1 I x1,I x2] (fun _:(List Int)=>[]) (fun r=>[(1,lV r)]) (b_d g_c x0 x1 x2):=fun x0 x1 x2=>iM Tryz.func181
theorem yF3{g_c:SPr->(List Int)->(List Int)->Option (List Int)}(H_c:∀(x0:SPr)(x1:List Int)(x2:List Int) r,g_c x0 x1 x2=jd r->FnC J0 139 [T.ro ((Pt yW) x0),L 1 I x1,T.ro (lV x2)] [] [(1,lV r)])(x0:SPr)(x1:List Int)(x2:Int)(r:(List Int))(h:b_d g_c x0 x1 x2=jd r):FnC J0 181 [T.ro ((Pt yW) x0),L 1 I x1,I x2] [] [(1,lV r)]:=by have:FI J0 139 (∀(x0:SPr)(x1:List Int)(x2:List Int),FnK J0 139 [T.ro ((Pt yW) x0),L 1 I x1,T.ro (lV x2)] (fun _:(List Int)=>[]) (fun r=>[(1,lV r)]) (g_c x0 x1 x2)):=⟨Jau,fun x0 x1 x2=>FnK.mk (H_c x0 x1 x2)⟩;exact(yF2 x0 x1 x2).go h
instance:HS Tryz.f86.8 [(0,53,0,.trq 40 7 [0,0])]:=⟨⟩
instance(g_b:zO->Int->zC->zC->Option zC)(c:zO)(d:Int)(e:zC)(f:(List Int)×(List Int)×Int):LH (R:=zC) (zYE g_b c d e f) [1,3,5,6,8] [] (fun a=>[(7,T.ptr (T.agg [L 1 I a.1,L 1 I a.2.1])),(9,I a.2.2)]) (.xe 2 [] fun b=>[(7,T.ptr (T.agg [L 1 I b.1,L 1 I b.2]))]):=⟨⟩
instance(g_b:zO->Int->zC->zC->Option zC)(c:zO)(d:Int)(e:zC):LH (R:=zC) (zWB g_b c d e) [1,3,5,6] [] (fun b=>[(7,T.ptr (T.agg [L 1 I b.1,L 1 I b.2.1])),(8,I b.2.2)]) (.xe 0 [] fun a=>[(7,T.ptr (T.agg [L 1 I a.1,L 1 I a.2]))]):=⟨⟩
theorem yF4{g_b:zO->Int->zC->zC->Option zC}[FI J0 52 (∀(x0:zO)(x1:Int)(x2:zC)(x3:zC),FnK J0 52 [xQ x0,I x1,xH x2,xH x3] (fun r:zC=>[wD r]) (fun _=>[]) (g_b x0 x1 x2 x3))]:∀(x0:zO)(x1:Int)(x2:zC),FnK J0 86 [xQ x0,I x1,xH x2] (fun r:zC=>[wD r]) (fun _=>[]) (b_h g_b x0 x1 x2):=fun x0 x1 x2=>iM Tryz.func86
theorem yF5{g_b:zO->Int->zC->zC->Option zC}(H_b:∀(x0:zO)(x1:Int)(x2:zC)(x3:zC) r,g_b x0 x1 x2 x3=jd r->FnC J0 52 [xQ x0,I x1,xH x2,xH x3] [wD r] [])(x0:zO)(x1:Int)(x2:zC)(r:zC)(h:b_h g_b x0 x1 x2=jd r):FnC J0 86 [xQ x0,I x1,xH x2] [wD r] []:=by have:FI J0 52 (∀(x0:zO)(x1:Int)(x2:zC)(x3:zC),FnK J0 52 [xQ x0,I x1,xH x2,xH x3] (fun r:zC=>[wD r]) (fun _=>[]) (g_b x0 x1 x2 x3)):=⟨Jbz,fun x0 x1 x2 x3=>FnK.mk (H_b x0 x1 x2 x3)⟩;exact(yF4 x0 x1 x2).go h
instance t_aE:FI J0 54 (∀(a:zO)(b c:zC),FnK J0 54 [xQ a,xH b,xH c] (fun r=>[lV r]) (fun _=>[]) (zIv a b c)):=⟨Tryz.call54,fun a b c=>iM Tryz.func54⟩
instance t_aX:FI J0 200 (∀(a:SPr)(b c:List Int),FnK J0 200 [qPr a,T.ro (lV b),T.ro (lV c)] (fun r=>[lV r]) (fun _=>[]) (zIM a b c)):=⟨Tryz.call200,fun a b c=>iM Tryz.func200⟩
instance:HS Tryz.f203.8 [(2,5,0,.tr 8 20),(2,7,0,.tr 9 28),(2,10,0,.tr 10 36)]:=⟨⟩
theorem yF6{g_j:SPr->Int->(List Int)->Option (List Int)}[FI J0 203 (∀(x0:SPr)(x1:Int)(x2:List Int),FnK J0 203 [qPr x0,I x1,T.ro (lV x2)] (fun r:(List Int)=>[lV r]) (fun _=>[]) (g_j x0 x1 x2))]:∀(x0:SPr)(x1:Int)(x2:List Int),FnK J0 203 [qPr x0,I x1,T.ro (lV x2)] (fun r:(List Int)=>[lV r]) (fun _=>[]) (b_j g_j x0 x1 x2):=fun x0 x1 x2=>iM Tryz.func203
theorem yF7{g_j:SPr->Int->(List Int)->Option (List Int)}(H_j:∀(x0:SPr)(x1:Int)(x2:List Int) r,g_j x0 x1 x2=jd r->FnC J0 203 [qPr x0,I x1,T.ro (lV x2)] [lV r] [])(x0:SPr)(x1:Int)(x2:List Int)(r:(List Int))(h:b_j g_j x0 x1 x2=jd r):FnC J0 203 [qPr x0,I x1,T.ro (lV x2)] [lV r] []:=by have:FI J0 203 (∀(x0:SPr)(x1:Int)(x2:List Int),FnK J0 203 [qPr x0,I x1,T.ro (lV x2)] (fun r:(List Int)=>[lV r]) (fun _=>[]) (g_j x0 x1 x2)):=⟨Jar,fun x0 x1 x2=>FnK.mk (H_j x0 x1 x2)⟩;exact(yF6 x0 x1 x2).go h
end
theorem yF8:∀n,(∀(x0:SPr)(x1:Int)(x2:List Int) r,zP1 n x0 x1 x2=jd r->FnC J0 203 [qPr x0,I x1,T.ro (lV x2)] [lV r] []):=by
  intro n
  induction n with
  |zero=>exact(fun _ _ _ r h=>by simp[zP1]at h)
  |succ n ih=>exact(fun x0 x1 x2 r h=>yF7 ih x0 x1 x2 r (by simpa[zP1]using h))
theorem u_j(x0:SPr)(x1:Int)(x2:List Int)(r:(List Int))(h:f_j x0 x1 x2=jd r):FnC J0 203 [qPr x0,I x1,T.ro (lV x2)] [lV r] []:=by obtain⟨n,hn⟩:=qK h;exact(yF8 n) x0 x1 x2 r hn
instance t_j:FI J0 203 (∀(a:SPr)(b:Int)(c:List Int),FnK J0 203 [qPr a,I b,T.ro (lV c)] (fun r=>[lV r]) (fun _=>[]) (f_j a b c)):=⟨Jar,fun a b c=>FnK.mk (u_j a b c)⟩
section
attribute [local irreducible] RW CW DK OkL Ok yQ yT wF vH XS.post rng vK vA ixO zR yI wJ yG zG GTo zQ FnC FnK wU uH Kp Lk BsL BuL RpL Bk Lc
instance t_by:FI J0 171 (∀(a:SPr)(b:List Int),FnK J0 171 [qPr a,T.ro (lV b)] (fun r=>[lV r]) (fun _=>[]) (zSs a b)):=⟨Tryz.call171,fun a b=>iM Tryz.func171⟩
instance t_br:FI J0 168 (∀(a:SPr)(b c:List Int),FnK J0 168 [qPr a,T.ro (lV b),T.ro (lV c)] (fun r=>[lV r]) (fun _=>[]) (zPG a b c)):=⟨Tryz.call168,fun a b c=>iM Tryz.func168⟩
instance t_aH:FI J0 127 (∀(a:SPr)(b:List Int)(c:Int),FnK J0 127 [qPr a,T.ro (lV b),I c] (fun r=>[lV r]) (fun _=>[]) (zIy a b c)):=⟨Tryz.call127,fun a b c=>iM Tryz.func127⟩
instance:HS Tryz.f172.8 [(2,2,0,.tr 8 11)]:=⟨⟩
instance(c:SPr)(d:List (List Int)):LH (R:=Int×(List Int)) (zNJ c d) [1,3] [] (fun b=>[(8,L 1 I b.1),(9,I b.2)]) (.xs (.xe 0 [3] fun a=>[(8,L 1 I a)]) .xr):=⟨⟩
instance t_aY:FI J0 172 (∀(a:SPr)(b:List (List Int))(c:List Int),FnK J0 172 [qPr a,T.ro (lM b),T.ro (lV c)] (fun r:Int×(List Int)=>[I r.1,lV r.2]) (fun _=>[]) (zYP a b c)):=⟨Tryz.call172,fun a b c=>iM Tryz.func172⟩
instance:HS Tryz.f102.8 [(0,10,0,.fz 9)]:=⟨⟩
instance t_bm:FI J0 102 (∀(a:SPr)(b:zE),FnK J0 102 [qPr a,jT b] (fun r:(List (List Int))=>[(L 1 (Ro lV)) r]) (fun _=>[]) (zPB a b)):=⟨Tryz.call102,fun a b=>iM Tryz.func102⟩
instance(g_d:SPr->(List Int)->Int->Option (List Int))(b:SPr)(c:(List Int)×Int)(d:Int):LH (R:=(List Int)) (zVX g_d b c d) [0,6,8,9,10,15] [] (fun a=>[(1,L 1 I a.1),(16,I a.2)]) (.xe 2 [6,15] fun e=>[(1,L 1 I e)]):=⟨⟩
instance(g_d:SPr->(List Int)->Int->Option (List Int))(b:SPr)(c:List Int):LH (R:=(List Int)) (zVY g_d b c) [0,8,9] [] (fun a=>[(1,L 1 I a.1),(10,I a.2)]) (.xe 0 [0,8,9] fun d=>[(1,L 1 I d)]):=⟨⟩
theorem yF9{g_d:SPr->(List Int)->Int->Option (List Int)}[FI J0 181 (∀(x0:SPr)(x1:List Int)(x2:Int),FnK J0 181 [T.ro ((Pt yW) x0),L 1 I x1,I x2] (fun _:(List Int)=>[]) (fun r=>[(1,lV r)]) (g_d x0 x1 x2))]:∀(x0:SPr)(x1:List Int)(x2:List Int),FnK J0 139 [T.ro ((Pt yW) x0),L 1 I x1,T.ro (lV x2)] (fun _:(List Int)=>[]) (fun r=>[(1,lV r)]) (b_c g_d x0 x1 x2):=fun x0 x1 x2=>iM Tryz.func139
theorem yFA{g_d:SPr->(List Int)->Int->Option (List Int)}(H_d:∀(x0:SPr)(x1:List Int)(x2:Int) r,g_d x0 x1 x2=jd r->FnC J0 181 [T.ro ((Pt yW) x0),L 1 I x1,I x2] [] [(1,lV r)])(x0:SPr)(x1:List Int)(x2:List Int)(r:(List Int))(h:b_c g_d x0 x1 x2=jd r):FnC J0 139 [T.ro ((Pt yW) x0),L 1 I x1,T.ro (lV x2)] [] [(1,lV r)]:=by have:FI J0 181 (∀(x0:SPr)(x1:List Int)(x2:Int),FnK J0 181 [T.ro ((Pt yW) x0),L 1 I x1,I x2] (fun _:(List Int)=>[]) (fun r=>[(1,lV r)]) (g_d x0 x1 x2)):=⟨Jas,fun x0 x1 x2=>FnK.mk (H_d x0 x1 x2)⟩;exact(yF9 x0 x1 x2).go h
end
theorem yEq:∀n,(∀(x0:SPr)(x1:List Int)(x2:Int) r,zVZ n x0 x1 x2=jd r->FnC J0 181 [T.ro ((Pt yW) x0),L 1 I x1,I x2] [] [(1,lV r)])/\(∀(x0:SPr)(x1:List Int)(x2:List Int) r,zSq n x0 x1 x2=jd r->FnC J0 139 [T.ro ((Pt yW) x0),L 1 I x1,T.ro (lV x2)] [] [(1,lV r)]):=by
  intro n
  induction n with
  |zero=>exact⟨(fun _ _ _ r h=>by simp[zVZ]at h),(fun _ _ _ r h=>by simp[zSq]at h)⟩
  |succ n ih=>exact⟨(fun x0 x1 x2 r h=>yF3 ih.2 x0 x1 x2 r (by simpa[zVZ]using h)),(fun x0 x1 x2 r h=>yFA ih.1 x0 x1 x2 r (by simpa[zSq]using h))⟩
theorem u_d(x0:SPr)(x1:List Int)(x2:Int)(r:(List Int))(h:f_d x0 x1 x2=jd r):FnC J0 181 [T.ro ((Pt yW) x0),L 1 I x1,I x2] [] [(1,lV r)]:=by obtain⟨n,hn⟩:=qK h;exact(yEq n).1 x0 x1 x2 r hn
theorem u_c(x0:SPr)(x1:List Int)(x2:List Int)(r:(List Int))(h:f_c x0 x1 x2=jd r):FnC J0 139 [T.ro ((Pt yW) x0),L 1 I x1,T.ro (lV x2)] [] [(1,lV r)]:=by obtain⟨n,hn⟩:=qK h;exact(yEq n).2 x0 x1 x2 r hn
instance t_d:FI J0 181 (∀(a:SPr)(b:List Int)(c:Int),FnK J0 181 [T.ro ((Pt yW) a),L 1 I b,I c] (fun _:(List Int)=>[]) (fun r=>[(1,lV r)]) (f_d a b c)):=⟨Jas,fun a b c=>FnK.mk (u_d a b c)⟩
instance t_c:FI J0 139 (∀(a:SPr)(b c:List Int),FnK J0 139 [T.ro ((Pt yW) a),L 1 I b,T.ro (lV c)] (fun _:(List Int)=>[]) (fun r=>[(1,lV r)]) (f_c a b c)):=⟨Jau,fun a b c=>FnK.mk (u_c a b c)⟩
section
attribute [local irreducible] RW CW DK OkL Ok yQ yT wF vH XS.post rng vK vA ixO zR yI wJ yG zG GTo zQ FnC FnK wU uH Kp Lk BsL BuL RpL Bk Lc
instance:HS Tryz.f98.8 [(2,2,0,.tr 7 10)]:=⟨⟩
instance(b:SPr)(c:List Int)(d:Int):LH (R:=(List Int)) (zWa b c d) [0,1,11] [] (fun a=>[(7,L 1 I a.1),(12,I a.2)]) (.xe 0 [0,1,11] fun e=>[(7,L 1 I e)]):=⟨⟩
instance t_Y:FI J0 98 (∀(a:SPr)(b:List Int)(c:Int),FnK J0 98 [T.ro ((Pt yW) a),T.ro (lV b),I c] (fun r=>[lV r]) (fun _=>[]) (f_Y a b c)):=⟨Tryz.call98,fun a b c=>iM Tryz.func98⟩
instance:HS Tryz.f166.8 [(2,2,0,.tr 7 12)]:=⟨⟩
instance(b:SPr)(c:List Int)(d:Int):LH (R:=(List Int)) (zWb b c d) [0,1,2,9,19,20,21,32] [] (fun a=>[(7,L 1 I a.1),(33,I a.2)]) (.xe 2 [9,32] fun e=>[(7,L 1 I e)]):=⟨⟩
instance(c:SPr)(d:Int)(e:List Int)(f:List (List Int)):LH (R:=(List Int)) (zWc c d e f) [0,1,2,19,20] [] (fun b=>[(7,L 1 I b.1),(21,I b.2)]) (.xe 0 [0,1,2,19,20] fun a=>[(7,L 1 I a)]):=⟨⟩
instance t_K:FI J0 166 (∀(a:SPr)(b:Int)(c:List Int),FnK J0 166 [T.ro ((Pt yW) a),I b,T.ro (lV c)] (fun r=>[lV r]) (fun _=>[]) (f_K a b c)):=⟨Tryz.call166,fun a b c=>iM Tryz.func166⟩
instance:HS Tryz.f178.8 [(2,2,0,.tr 5 9),(2,3,0,.tr 6 12)]:=⟨⟩
instance(c:SPr)(d:(List Int)×(List Int)×Int):LH (R:=(List Int)) (zSr c d) [0,7,14,15] [] (fun a=>[(5,L 1 I a.1),(6,L 1 I a.2)]) (.xe 2 [7] fun b=>[(5,L 1 I b.1),(6,L 1 I b.2)]):=⟨⟩
instance(b:SPr)(c:(List Int)):LH (R:=(List Int)) (zWe b c) [0,14] [] (fun a=>[(5,L 1 I a.1),(6,L 1 I a.2.1),(15,I a.2.2)]) (.xe 0 [0,14] fun d=>[(6,L 1 I d)]):=⟨⟩
instance t_N:FI J0 178 (∀(a:SPr)(b:List Int),FnK J0 178 [T.ro ((Pt yW) a),T.ro (lV b)] (fun r=>[lV r]) (fun _=>[]) (f_N a b)):=⟨Tryz.call178,fun a b=>iM Tryz.func178⟩
instance:HS Tryz.f177.8 [(2,2,0,.tr 7 9)]:=⟨⟩
instance t_a4:FI J0 177 (∀(a:SPr)(b c:List Int),FnK J0 177 [T.ro ((Pt yW) a),T.ro (lV b),T.ro (lV c)] (fun r=>[lV r]) (fun _=>[]) (zLn a b c)):=⟨Tryz.call177,fun a b c=>iM Tryz.func177⟩
instance t_aO:FI J0 167 (∀(a:SPr)(b c:List Int),FnK J0 167 [T.ro ((Pt yW) a),T.ro (lV b),T.ro (lV c)] (fun r=>[lV r]) (fun _=>[]) (zIG a b c)):=⟨Tryz.call167,fun a b c=>iM Tryz.func167⟩
end
theorem yFB(x1:Int)(r:(List Int))(h:zWu x1=jd r):FnC J0 109 [T.lit (.slice je 0 0),I x1] [lV r] []:=by
 refine fB Tryz.func109 (fun St W w0 v=>?_);refine sR (oP (zDm 1 rfl) ?_);refine rN (CW.seq (sR (xR ?_)));refine zQs ?_;refine rN (cn h (fun hc h=>?_) (fun hc h=>?_))
 ·refine CW.region ?_
  cases h
 ·refine CW.skip (nA (CW.seq (sR (xR ?_))))
  refine xR ?_;refine oP (zEo Ll rfl rfl) ?_;refine xR ?_;refine oP (zEn Ll rfl rfl) ?_;obtain⟨v1,bR,h⟩:=bd h;refine zJk ?_;obtain⟨v2,cr,h⟩:=bd h;refine zJk ?_;refine tH ?_;refine rN (sR (xR ?_));refine zZw ?_;refine rN (cn h (fun hc h=>?_) (fun hc h=>?_))
  ·refine CW.region (xR ?_)
   refine xR ?_;refine oP (zEo Ll rfl rfl) ?_;refine oP (zQm elt_22 rfl rfl rfl) ?_;refine xR ?_;obtain⟨v3,cY,h⟩:=bd h;refine oP (zTI (f:=I) (z:=0) elt_22 Qv (rfl) cY rfl rfl rfl) ?_;refine xR ?_;refine oP (zEn Ll rfl rfl) ?_;obtain⟨v4,pT,h⟩:=bd h;refine oP (zQl (f:=I) elt_22 pT rfl rfl (.inl rfl) rfl) ?_;refine tH ?_;refine RW.ghost (zQ.tr 0 25 _ rfl rfl (yL (xF (Enc.clean (f:=I)))) rfl) ?_;refine rN (sR (xR ?_));refine tH ?_;refine RW.ghost (zQ.tr 4 0 _ rfl rfl (yL (xF (Enc.clean (f:=I)))) rfl) ?_;refine rN (CW.ret ?_);obtain rfl:=sI h;exact rT
  ·refine CW.skip (nA (sR (xR ?_)))
   refine tH ?_;refine rN (CW.ghost (zQ.nil 4 1 rfl) ?_);refine CW.ret ?_;obtain rfl:=sI h;exact rT
instance t_bk:FI J0 109 (∀(a:Int),FnK J0 109 [T.lit (.slice je 0 0),I a] (fun r=>[lV r]) (fun _=>[]) (zWu a)):=⟨Tryz.call109,fun a=>FnK.mk (yFB a)⟩
section
attribute [local irreducible] RW CW DK OkL Ok yQ yT wF vH XS.post rng vK vA ixO zR yI wJ yG zG GTo zQ FnC FnK wU uH Kp Lk BsL BuL RpL Bk Lc
instance:HS Tryz.f69.8 [(2,10,0,.tr 6 24),(0,33,0,.tr 31 6),(2,14,0,.tr 6 33)]:=⟨⟩
instance(b:List (List Int)):LH (R:=(List Int)) (zWv b) [0,9,10] [] (fun a=>[(3,I a.1),(11,I a.2)]) (.xe 0 [9,10] fun c=>[(3,I c)]):=⟨⟩
instance(b:List (List Int)):LH (R:=(List Int)) (zWw b) [25,26] [] (fun a=>[(6,L 1 I a.1),(27,I a.2)]) (.xe 2 [25,26] fun c=>[(6,L 1 I c)]):=⟨⟩
instance t_t:FI J0 69 (∀(a:List (List Int)),FnK J0 69 [T.ro (lM a)] (fun r=>[lV r]) (fun _=>[]) (f_t a)):=⟨Tryz.call69,fun a=>iM Tryz.func69⟩
instance t_bY:FI J0 154 (∀(a:yY)(b:List Int)(c:Int),FnK J0 154 [T.ro ((Pt zJQ) a),T.ro (lV b),I c] (fun r=>[I r]) (fun _=>[]) (zYI a b c)):=⟨Tryz.call154,fun a b c=>iM Tryz.func154⟩
instance t_a8:FI J0 161 (∀(a b:Int),FnK J0 161 [I a,I b] (fun r=>[I r]) (fun _=>[]) (zLp a b)):=⟨Tryz.call161,fun a b=>iM Tryz.func161⟩
instance(b c:List Int)(d e:Int):LH (R:=(List Int)) (zNu b c d e) [1,2,3,10] [] (fun a=>[(0,L 1 I a.1),(11,I a.2)]) (.xe 0 [1,2,3,10] fun f=>[(0,L 1 I f)]):=⟨⟩
instance t_z:FI J0 116 (∀(a b:List Int)(c d:Int),FnK J0 116 [L 1 I a,T.ro (lV b),I c,I d] (fun _:(List Int)=>[]) (fun r=>[(0,lV r)]) (f_z a b c d)):=⟨Tryz.call116,fun a b c d=>iM Tryz.func116⟩
instance:HS Tryz.f209.8 [(2,2,0,.tr 5 10)]:=⟨⟩
instance(b:List Int)(c:zS):LH (R:=(List Int)) (zNv b c) [3,11,12] [] (fun a=>[(5,L 1 I a.1),(13,I a.2)]) (.xe 0 [3,11,12] fun d=>[(5,L 1 I d)]):=⟨⟩
instance t_aw:FI J0 209 (∀(a:List Int)(b:zS),FnK J0 209 [T.ro (lV a),zGE b] (fun r=>[lV r]) (fun _=>[]) (zWs a b)):=⟨Tryz.call209,fun a b=>iM Tryz.func209⟩
instance:HS Tryz.f194.8 [(0,26,0,.trq 21 5 [2,0]),(1,4,0,.trf 29 2 5 [2,0])]:=⟨⟩
instance(a b:zS):LH (R:=zS) (zNw a b) [3,4,14,15] [] (fun c=>[(5,T.ptr (T.agg [I a.Prime,I b.tC,L 1 lV c.1])),(16,I c.2)]) (.xe 0 [3,14,15] fun d=>[(5,T.ptr (T.agg [I a.Prime,I b.tC,L 1 lV d]))]):=⟨⟩
instance t_aQ:FI J0 194 (∀(a b:zS),FnK J0 194 [zGE a,zGE b] (fun r=>[wB r]) (fun _=>[]) (zY4 a b)):=⟨Tryz.call194,fun a b=>iM Tryz.func194⟩
instance:HS Tryz.f156.8 [(2,6,0,.tr 6 19),(0,31,0,.tr 30 6),(0,32,0,.tr 29 3),(2,9,0,.tr 3 32)]:=⟨⟩
instance(b:List (List Int)):LH (R:=(List (List Int))) (zNy b) [0,7,8] [] (fun a=>[(3,L 1 lV a.1),(9,I a.2)]) (.xe 0 [0,7,8] fun c=>[(3,L 1 lV c)]):=⟨⟩
instance t_aV:FI J0 156 (∀(a:List (List Int)),FnK J0 156 [T.ro (lM a)] (fun r:(List (List Int))=>[lM r]) (fun _=>[]) (zY8 a)):=⟨Tryz.call156,fun a=>iM Tryz.func156⟩
end
theorem yEr:∀n,(∀(x0:zO)(x1:Int)(x2:zC) r,zP9 n x0 x1 x2=jd r->FnC J0 86 [xQ x0,I x1,xH x2] [wD r] [])/\(∀(x0:zO)(x1:Int)(x2:zC)(x3:zC) r,zPA n x0 x1 x2 x3=jd r->FnC J0 52 [xQ x0,I x1,xH x2,xH x3] [wD r] []):=by
  intro n
  induction n with
  |zero=>exact⟨(fun _ _ _ r h=>by simp[zP9]at h),(fun _ _ _ _ r h=>by simp[zPA]at h)⟩
  |succ n ih=>exact⟨(fun x0 x1 x2 r h=>yF5 ih.2 x0 x1 x2 r (by simpa[zP9]using h)),(fun x0 x1 x2 x3 r h=>yF1 ih.1 ih.2 x0 x1 x2 x3 r (by simpa[zPA]using h))⟩
theorem u_h(x0:zO)(x1:Int)(x2:zC)(r:zC)(h:f_h x0 x1 x2=jd r):FnC J0 86 [xQ x0,I x1,xH x2] [wD r] []:=by obtain⟨n,hn⟩:=qK h;exact(yEr n).1 x0 x1 x2 r hn
theorem u_b(x0:zO)(x1:Int)(x2:zC)(x3:zC)(r:zC)(h:f_b x0 x1 x2 x3=jd r):FnC J0 52 [xQ x0,I x1,xH x2,xH x3] [wD r] []:=by obtain⟨n,hn⟩:=qK h;exact(yEr n).2 x0 x1 x2 x3 r hn
instance t_h:FI J0 86 (∀(a:zO)(b:Int)(c:zC),FnK J0 86 [xQ a,I b,xH c] (fun r=>[wD r]) (fun _=>[]) (f_h a b c)):=⟨Tryz.call86,fun a b c=>FnK.mk (u_h a b c)⟩
instance t_b:FI J0 52 (∀(a:zO)(b:Int)(c d:zC),FnK J0 52 [xQ a,I b,xH c,xH d] (fun r=>[wD r]) (fun _=>[]) (f_b a b c d)):=⟨Jbz,fun a b c d=>FnK.mk (u_b a b c d)⟩
section
attribute [local irreducible] RW CW DK OkL Ok yQ yT wF vH XS.post rng vK vA ixO zR yI wJ yG zG GTo zQ FnC FnK wU uH Kp Lk BsL BuL RpL Bk Lc
instance:HS Tryz.f190.8 [(2,3,0,.tr 6 23),(0,63,0,.tr 52 6),(2,12,0,.tr 6 63),(0,102,0,.tr 86 6),(0,115,0,.tr 106 6),(2,20,0,.tr 6 115),(1,17,0,.fi 9 16),(1,17,1,.resf 129 0 16 [0,0]),(1,17,2,.resf 129 1 16 [1,0]),(0,160,0,.tr 144 6)]:=⟨⟩
instance(c:zO)(d:Int)(e:(List (List Int))×Int):LH (R:=(List (List Int))) (zSz c d e) [1,2,5,6,7] [] (fun a=>[(8,T.ptr (T.agg [L 1 I a.1,L 1 I a.2.1])),(9,I a.2.2)]) (.xe 2 [] fun b=>[(8,T.ptr (T.agg [L 1 I b.1,L 1 I b.2]))]):=⟨⟩
instance(c:zO)(d:Int)(e:(List (List Int))×Int):LH (R:=(List (List Int))) (zS0 c d e) [1,2,5,7] [] (fun a=>[(6,L 1 lV a.1),(10,I a.2)]) (.xe 4 [] fun b=>[(6,L 1 lV b)]):=⟨⟩
instance(c:zO)(d:Int):LH (R:=(List (List Int))) (zWC c d) [1,2,5] [] (fun b=>[(6,L 1 lV b.1),(7,I b.2)]) (.xe 0 [] fun a=>[(6,L 1 lV a)]):=⟨⟩
instance(c:zO)(d:Int):LH (R:=(List (List Int))) (zWD c d) [1,2,5,6,14,15,16] [] (fun a=>[(17,T.ptr (T.agg [T.ro (lV a.1),T.ro (lV a.2.1)])),(18,I a.2.2)]) (.xe 8 [] fun b=>[(17,T.ptr (T.agg [T.ro (lV b.1),T.ro (lV b.2)]))]):=⟨⟩
instance(d:zO)(e:Int)(b:zC):LH (R:=(List (List Int))) (zS1 d e b) [1,2,5,14] [] (fun a=>[(6,L 1 lV a.1),(15,I a.2)]) (.xe 6 [1,2,5,14] fun c=>[(6,L 1 lV c)]):=⟨⟩
instance t_l:FI J0 190 (∀(a:zO)(b:Int),FnK J0 190 [xQ a,I b] (fun r:(List (List Int))=>[lM r]) (fun _=>[]) (f_l a b)):=⟨Tryz.call190,fun a b=>iM Tryz.func190⟩
instance:HS Tryz.f148.8 [(2,2,0,.tr 3 5),(0,18,0,.tr 14 3),(2,4,0,.tr 3 18)]:=⟨⟩
instance(b:zO):LH (R:=(List (List Int))) (zJO b) [1] [] (fun a=>[(3,L 1 lV a.1),(4,I a.2)]) (.xe 0 [1] fun c=>[(3,L 1 lV c)]):=⟨⟩
instance t_ab:FI J0 148 (∀(a:zO),FnK J0 148 [xQ a] (fun r:(List (List Int))=>[lM r]) (fun _=>[]) (zLr a)):=⟨Tryz.call148,fun a=>iM Tryz.func148⟩
instance:HS Tryz.f103.8 [(2,8,0,.tr 9 35),(0,58,0,.tr 57 9),(0,59,0,.trq 56 7 [2,0]),(2,14,0,.tr 11 62),(2,14,1,.fz 11),(2,15,0,.tr 12 63),(2,19,0,.tr 14 69),(0,91,0,.tr 76 14),(0,94,0,.tr 93 14),(0,95,0,.tr 92 12),(2,17,0,.tr 12 95)]:=⟨⟩
instance(c:zE)(d:(List (List Int))×Int):LH (R:=(List (List Int))) (zS6 c d) [3,5,6,7,8] [] (fun b=>[(9,L 1 I b.1),(10,I b.2)]) (.xe 2 [] fun a=>[(9,L 1 I a)]):=⟨⟩
instance(a:zE)(b c:Int):LN (zS7 a b c) 7:=⟨⟩
instance(a:zE)(d e:Int)(A0 A1 A2 A3 A4 A5 A6:T):LHk (R:=(List (List Int))) (zS7 a d e) (T.ptr (T.agg [T.agg [A0,A1,A2],T.agg [A3,A4,A5],A6])) [3,5,6] [] (fun c=>[(7,T.ptr (T.agg [T.agg [A0,A1,A2],jT a,L 1 lV c.1])),(8,I c.2)]) (.xe 0 [5] fun b=>[(7,T.ptr (T.agg [T.agg [A0,A1,A2],jT a,L 1 lV b]))]):=⟨⟩
instance(e:zE)(b:(List (List Int)))(c:(List (List Int))×Int):LH (R:=(List (List Int))) (zS8 e b c) [3,6,11,12,13] [] (fun a=>[(14,L 1 I a.1),(15,I a.2)]) (.xe 6 [] fun d=>[(14,L 1 I d)]):=⟨⟩
instance(d:zE)(e:Int)(b:(List (List Int))):LH (R:=(List (List Int))) (zWL d e b) [3,6,11] [] (fun a=>[(12,L 1 lV a.1),(13,I a.2)]) (.xe 4 [6] fun c=>[(12,L 1 lV c)]):=⟨⟩
instance t_n:FI J0 103 (∀(a:SPr)(b:zE),FnK J0 103 [qPr a,jT b] (fun r:(List (List Int))=>[lM r]) (fun _=>[]) (f_n a b)):=⟨Tryz.call103,fun a b=>iM Tryz.func103⟩
instance:HS Jbi.8 [(2,2,0,.tr 5 13),(2,14,0,.tr 9 70),(0,89,0,.tr 83 9),(2,16,0,.tr 9 89)]:=⟨⟩
instance:MkH Jbi.8 13 I:=⟨⟩
instance(c:SPr)(d:List (List Int))(e:(List (List Int))×Int):LH (R:=(List (List Int))) (zWX c d e) [1,2,5,6] [] (fun b=>[(7,T.ro (lV b.1)),(8,I b.2)]) (.xe 2 [] fun a=>[(7,T.ro (lV a))]):=⟨⟩
instance(c:SPr)(d:List (List Int)):LH (R:=(List (List Int))) (zYQ c d) [1,2] [] (fun b=>[(5,L 1 (Ro lV) b.1),(6,I b.2)]) (.xe 0 [1,2] fun a=>[(5,L 1 (Ro lV) a)]):=⟨⟩
instance(a:(List (List Int))):LH (R:=(List (List Int))) (zSN a) [5] [] (fun c=>[(9,L 1 (Ro lV) c.1),(10,I c.2)]) (.xe 4 [5] fun b=>[(9,L 1 (Ro lV) b)]):=⟨⟩
instance t_F:FI J0 173 (∀(a:SPr)(b:List (List Int)),FnK J0 173 [qPr a,T.ro (lM b)] (fun r:(List (List Int))=>[(L 1 (Ro lV)) r]) (fun _=>[]) (f_F a b)):=⟨Tryz.call173,fun a b=>iM Tryz.func173⟩
end
end Go.Wk
