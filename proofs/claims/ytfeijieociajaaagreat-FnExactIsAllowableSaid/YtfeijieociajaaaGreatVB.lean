/- The program's IsAllowable returns what the reference's returns,for all arguments;no conditions. -/
import Derived.Test.YtfeijieociajaaaGreatVA
import Derived.Test.YtfeijieociajaaaGreatWT
open Go.Proofs.Tryz renaming prog->J0,underlying22->Lv,underlying3->U5,underlying174->Ub,call152->Qy,f128->Ja8,f71->Jaf,call181->Jas,call176->Jat,f173->Jbh,f48->Jbv,call52->Jby
open List renaming replicate→J1
open Nat renaming le_refl->Je,zero_le->Lf
open Option renaming some->jf,none->jg
open Bool renaming true->jh,false->ji
namespace Go.Wk
open Go Go.Proofs Go.Ab
set_option maxRecDepth 100000
set_option maxHeartbeats 4000000
section
attribute [local irreducible] RW CW DK OkL Ok yR yT wH vK XS.post rng vN vD ixO zS yH wK yG zE GTo zR FnC FnK wX uJ Kp Lk BsL BuL RpL Bk Lc
instance:HS Tryz.f102.8 [(0,10,0,.fz 9)]:=⟨⟩
instance t_bt:FI J0 102 (∀(a:SPr)(b:zF),FnK J0 102 [qPr a,jW b] (fun r:(List (List Int))=>[(L 1 (Ro lV)) r]) (fun _=>[]) (zPO a b)):=⟨Tryz.call102,fun a b=>iM Tryz.func102⟩
instance(g_d:SPr->(List Int)->Int->Option (List Int))(b:SPr)(c:(List Int)×Int)(d:Int):LH (R:=(List Int)) (zW2 g_d b c d) [0,6,8,9,10,15] [] (fun a=>[(1,L 1 I a.1),(16,I a.2)]) (.xe 2 [6,15] fun e=>[(1,L 1 I e)]):=⟨⟩
instance(g_d:SPr->(List Int)->Int->Option (List Int))(b:SPr)(c:List Int):LH (R:=(List Int)) (zW3 g_d b c) [0,8,9] [] (fun a=>[(1,L 1 I a.1),(10,I a.2)]) (.xe 0 [0,8,9] fun d=>[(1,L 1 I d)]):=⟨⟩
theorem yGq{g_d:SPr->(List Int)->Int->Option (List Int)}[FI J0 181 (∀(x0:SPr)(x1:List Int)(x2:Int),FnK J0 181 [T.ro ((Pt yW) x0),L 1 I x1,I x2] (fun _:(List Int)=>[]) (fun r=>[(1,lV r)]) (g_d x0 x1 x2))]:∀(x0:SPr)(x1:List Int)(x2:List Int),FnK J0 139 [T.ro ((Pt yW) x0),L 1 I x1,T.ro (lV x2)] (fun _:(List Int)=>[]) (fun r=>[(1,lV r)]) (b_c g_d x0 x1 x2):=fun x0 x1 x2=>iM Tryz.func139
theorem yGr{g_d:SPr->(List Int)->Int->Option (List Int)}(H_d:∀(x0:SPr)(x1:List Int)(x2:Int) r,g_d x0 x1 x2=jf r->FnC J0 181 [T.ro ((Pt yW) x0),L 1 I x1,I x2] [] [(1,lV r)])(x0:SPr)(x1:List Int)(x2:List Int)(r:(List Int))(h:b_c g_d x0 x1 x2=jf r):FnC J0 139 [T.ro ((Pt yW) x0),L 1 I x1,T.ro (lV x2)] [] [(1,lV r)]:=by have:FI J0 181 (∀(x0:SPr)(x1:List Int)(x2:Int),FnK J0 181 [T.ro ((Pt yW) x0),L 1 I x1,I x2] (fun _:(List Int)=>[]) (fun r=>[(1,lV r)]) (g_d x0 x1 x2)):=⟨Jas,fun x0 x1 x2=>FnK.mk (H_d x0 x1 x2)⟩;exact(yGq x0 x1 x2).go h
end
theorem yEZ:∀n,(∀(x0:SPr)(x1:List Int)(x2:Int) r,zW4 n x0 x1 x2=jf r->FnC J0 181 [T.ro ((Pt yW) x0),L 1 I x1,I x2] [] [(1,lV r)])/\(∀(x0:SPr)(x1:List Int)(x2:List Int) r,zSB n x0 x1 x2=jf r->FnC J0 139 [T.ro ((Pt yW) x0),L 1 I x1,T.ro (lV x2)] [] [(1,lV r)]):=by
  intro n
  induction n with
  |zero=>exact⟨(fun _ _ _ r h=>by simp[zW4]at h),(fun _ _ _ r h=>by simp[zSB]at h)⟩
  |succ n ih=>exact⟨(fun x0 x1 x2 r h=>yGk ih.2 x0 x1 x2 r (by simpa[zW4]using h)),(fun x0 x1 x2 r h=>yGr ih.1 x0 x1 x2 r (by simpa[zSB]using h))⟩
theorem u_d(x0:SPr)(x1:List Int)(x2:Int)(r:(List Int))(h:f_d x0 x1 x2=jf r):FnC J0 181 [T.ro ((Pt yW) x0),L 1 I x1,I x2] [] [(1,lV r)]:=by obtain⟨n,hn⟩:=qL h;exact(yEZ n).1 x0 x1 x2 r hn
theorem u_c(x0:SPr)(x1:List Int)(x2:List Int)(r:(List Int))(h:f_c x0 x1 x2=jf r):FnC J0 139 [T.ro ((Pt yW) x0),L 1 I x1,T.ro (lV x2)] [] [(1,lV r)]:=by obtain⟨n,hn⟩:=qL h;exact(yEZ n).2 x0 x1 x2 r hn
instance t_d:FI J0 181 (∀(a:SPr)(b:List Int)(c:Int),FnK J0 181 [T.ro ((Pt yW) a),L 1 I b,I c] (fun _:(List Int)=>[]) (fun r=>[(1,lV r)]) (f_d a b c)):=⟨Jas,fun a b c=>FnK.mk (u_d a b c)⟩
instance t_c:FI J0 139 (∀(a:SPr)(b c:List Int),FnK J0 139 [T.ro ((Pt yW) a),L 1 I b,T.ro (lV c)] (fun _:(List Int)=>[]) (fun r=>[(1,lV r)]) (f_c a b c)):=⟨Tryz.call139,fun a b c=>FnK.mk (u_c a b c)⟩
section
attribute [local irreducible] RW CW DK OkL Ok yR yT wH vK XS.post rng vN vD ixO zS yH wK yG zE GTo zR FnC FnK wX uJ Kp Lk BsL BuL RpL Bk Lc
instance:HS Tryz.f98.8 [(2,2,0,.tr 7 10)]:=⟨⟩
instance(b:SPr)(c:List Int)(d:Int):LH (R:=(List Int)) (zW5 b c d) [0,1,11] [] (fun a=>[(7,L 1 I a.1),(12,I a.2)]) (.xe 0 [0,1,11] fun e=>[(7,L 1 I e)]):=⟨⟩
instance t_Y:FI J0 98 (∀(a:SPr)(b:List Int)(c:Int),FnK J0 98 [T.ro ((Pt yW) a),T.ro (lV b),I c] (fun r=>[lV r]) (fun _=>[]) (f_Y a b c)):=⟨Tryz.call98,fun a b c=>iM Tryz.func98⟩
instance:HS Tryz.f166.8 [(2,2,0,.tr 7 12)]:=⟨⟩
instance(b:SPr)(c:List Int)(d:Int):LH (R:=(List Int)) (zW6 b c d) [0,1,2,9,19,20,21,32] [] (fun a=>[(7,L 1 I a.1),(33,I a.2)]) (.xe 2 [9,32] fun e=>[(7,L 1 I e)]):=⟨⟩
instance(c:SPr)(d:Int)(e:List Int)(f:List (List Int)):LH (R:=(List Int)) (zW7 c d e f) [0,1,2,19,20] [] (fun b=>[(7,L 1 I b.1),(21,I b.2)]) (.xe 0 [0,1,2,19,20] fun a=>[(7,L 1 I a)]):=⟨⟩
instance t_K:FI J0 166 (∀(a:SPr)(b:Int)(c:List Int),FnK J0 166 [T.ro ((Pt yW) a),I b,T.ro (lV c)] (fun r=>[lV r]) (fun _=>[]) (f_K a b c)):=⟨Tryz.call166,fun a b c=>iM Tryz.func166⟩
instance:HS Tryz.f178.8 [(2,2,0,.tr 5 9),(2,3,0,.tr 6 12)]:=⟨⟩
instance(c:SPr)(d:(List Int)×(List Int)×Int):LH (R:=(List Int)) (zSC c d) [0,7,14,15] [] (fun a=>[(5,L 1 I a.1),(6,L 1 I a.2)]) (.xe 2 [7] fun b=>[(5,L 1 I b.1),(6,L 1 I b.2)]):=⟨⟩
instance(b:SPr)(c:(List Int)):LH (R:=(List Int)) (zW9 b c) [0,14] [] (fun a=>[(5,L 1 I a.1),(6,L 1 I a.2.1),(15,I a.2.2)]) (.xe 0 [0,14] fun d=>[(6,L 1 I d)]):=⟨⟩
instance t_N:FI J0 178 (∀(a:SPr)(b:List Int),FnK J0 178 [T.ro ((Pt yW) a),T.ro (lV b)] (fun r=>[lV r]) (fun _=>[]) (f_N a b)):=⟨Tryz.call178,fun a b=>iM Tryz.func178⟩
instance:HS Tryz.f177.8 [(2,2,0,.tr 7 9)]:=⟨⟩
instance t_a7:FI J0 177 (∀(a:SPr)(b c:List Int),FnK J0 177 [T.ro ((Pt yW) a),T.ro (lV b),T.ro (lV c)] (fun r=>[lV r]) (fun _=>[]) (zLx a b c)):=⟨Tryz.call177,fun a b c=>iM Tryz.func177⟩
instance t_aR:FI J0 167 (∀(a:SPr)(b c:List Int),FnK J0 167 [T.ro ((Pt yW) a),T.ro (lV b),T.ro (lV c)] (fun r=>[lV r]) (fun _=>[]) (zIR a b c)):=⟨Tryz.call167,fun a b c=>iM Tryz.func167⟩
end
theorem yGs(x1:Int)(r:(List Int))(h:zWP x1=jf r):FnC J0 109 [T.lit (.slice jg 0 0),I x1] [lV r] []:=by
 refine fB Tryz.func109 (fun St W w0 v=>?_);refine sR (oP (zDv 1 rfl) ?_);refine rN (CW.seq (sR (xN ?_)));refine zQ4 ?_;refine rN (cn h (fun hc h=>?_) (fun hc h=>?_))
 ·refine CW.region ?_
  cases h
 ·refine CW.skip (nA (CW.seq (sR (xN ?_))))
  refine xN ?_;refine oP (zEy Lv rfl rfl) ?_;refine xN ?_;refine oP (zEx Lv rfl rfl) ?_;obtain⟨v1,bV,h⟩:=bd h;refine zJv ?_;obtain⟨v2,cu,h⟩:=bd h;refine zJv ?_;refine uQ ?_;refine rN (sR (xN ?_));refine zZX ?_;refine rN (cn h (fun hc h=>?_) (fun hc h=>?_))
  ·refine CW.region (xN ?_)
   refine xN ?_;refine oP (zEy Lv rfl rfl) ?_;refine oP (zQy elt_22 rfl rfl rfl) ?_;refine xN ?_;obtain⟨v3,cZ,h⟩:=bd h;refine oP (zUg (f:=I) (z:=0) elt_22 U5 (rfl) cZ rfl rfl rfl) ?_;refine xN ?_;refine oP (zEx Lv rfl rfl) ?_;obtain⟨v4,pX,h⟩:=bd h;refine oP (zQx (f:=I) elt_22 pX rfl rfl (.inl rfl) rfl) ?_;refine uQ ?_;refine RW.ghost (zR.tr 0 25 _ rfl rfl (yL (xE (Enc.clean (f:=I)))) rfl) ?_;refine rN (sR (xN ?_));refine uQ ?_;refine RW.ghost (zR.tr 4 0 _ rfl rfl (yL (xE (Enc.clean (f:=I)))) rfl) ?_;refine rN (CW.ret ?_);obtain rfl:=sI h;exact rT
  ·refine CW.skip (nA (sR (xN ?_)))
   refine uQ ?_;refine rN (CW.ghost (zR.nil 4 1 rfl) ?_);refine CW.ret ?_;obtain rfl:=sI h;exact rT
instance t_bq:FI J0 109 (∀(a:Int),FnK J0 109 [T.lit (.slice jg 0 0),I a] (fun r=>[lV r]) (fun _=>[]) (zWP a)):=⟨Tryz.call109,fun a=>FnK.mk (yGs a)⟩
section
attribute [local irreducible] RW CW DK OkL Ok yR yT wH vK XS.post rng vN vD ixO zS yH wK yG zE GTo zR FnC FnK wX uJ Kp Lk BsL BuL RpL Bk Lc
instance:HS Tryz.f69.8 [(2,10,0,.tr 6 24),(0,33,0,.tr 31 6),(2,14,0,.tr 6 33)]:=⟨⟩
instance(b:List (List Int)):LH (R:=(List Int)) (zWQ b) [0,9,10] [] (fun a=>[(3,I a.1),(11,I a.2)]) (.xe 0 [9,10] fun c=>[(3,I c)]):=⟨⟩
instance(b:List (List Int)):LH (R:=(List Int)) (zWR b) [25,26] [] (fun a=>[(6,L 1 I a.1),(27,I a.2)]) (.xe 2 [25,26] fun c=>[(6,L 1 I c)]):=⟨⟩
instance t_t:FI J0 69 (∀(a:List (List Int)),FnK J0 69 [T.ro (lM a)] (fun r=>[lV r]) (fun _=>[]) (f_t a)):=⟨Tryz.call69,fun a=>iM Tryz.func69⟩
instance t_cb:FI J0 154 (∀(a:yY)(b:List Int)(c:Int),FnK J0 154 [T.ro ((Pt zJZ) a),T.ro (lV b),I c] (fun r=>[I r]) (fun _=>[]) (zZr a b c)):=⟨Tryz.call154,fun a b c=>iM Tryz.func154⟩
instance t_ba:FI J0 161 (∀(a b:Int),FnK J0 161 [I a,I b] (fun r=>[I r]) (fun _=>[]) (zLz a b)):=⟨Tryz.call161,fun a b=>iM Tryz.func161⟩
instance(b c:List Int)(d e:Int):LH (R:=(List Int)) (zN3 b c d e) [1,2,3,10] [] (fun a=>[(0,L 1 I a.1),(11,I a.2)]) (.xe 0 [1,2,3,10] fun f=>[(0,L 1 I f)]):=⟨⟩
instance t_A:FI J0 116 (∀(a b:List Int)(c d:Int),FnK J0 116 [L 1 I a,T.ro (lV b),I c,I d] (fun _:(List Int)=>[]) (fun r=>[(0,lV r)]) (f_A a b c d)):=⟨Tryz.call116,fun a b c d=>iM Tryz.func116⟩
instance:HS Tryz.f209.8 [(2,2,0,.tr 5 10)]:=⟨⟩
instance(b:List Int)(c:zI):LH (R:=(List Int)) (zN4 b c) [3,11,12] [] (fun a=>[(5,L 1 I a.1),(13,I a.2)]) (.xe 0 [3,11,12] fun d=>[(5,L 1 I d)]):=⟨⟩
instance t_ay:FI J0 209 (∀(a:List Int)(b:zI),FnK J0 209 [T.ro (lV a),vP b] (fun r=>[lV r]) (fun _=>[]) (zWM a b)):=⟨Tryz.call209,fun a b=>iM Tryz.func209⟩
instance:HS Tryz.f194.8 [(0,26,0,.trq 21 5 [2,0]),(1,4,0,.trf 29 2 5 [2,0])]:=⟨⟩
instance(a b:zI):LH (R:=zI) (zN5 a b) [3,4,14,15] [] (fun c=>[(5,T.ptr (T.agg [I a.Prime,I b.xF,L 1 lV c.1])),(16,I c.2)]) (.xe 0 [3,14,15] fun d=>[(5,T.ptr (T.agg [I a.Prime,I b.xF,L 1 lV d]))]):=⟨⟩
instance t_aT:FI J0 194 (∀(a b:zI),FnK J0 194 [vP a,vP b] (fun r=>[xU r]) (fun _=>[]) (zZa a b)):=⟨Tryz.call194,fun a b=>iM Tryz.func194⟩
instance:HS Tryz.f156.8 [(2,6,0,.tr 6 19),(0,31,0,.tr 30 6),(0,32,0,.tr 29 3),(2,9,0,.tr 3 32)]:=⟨⟩
instance(b:List (List Int)):LH (R:=(List (List Int))) (zN7 b) [0,7,8] [] (fun a=>[(3,L 1 lV a.1),(9,I a.2)]) (.xe 0 [0,7,8] fun c=>[(3,L 1 lV c)]):=⟨⟩
instance t_aZ:FI J0 156 (∀(a:List (List Int)),FnK J0 156 [T.ro (lM a)] (fun r:(List (List Int))=>[lM r]) (fun _=>[]) (zZd a)):=⟨Tryz.call156,fun a=>iM Tryz.func156⟩
end
theorem yFa:∀n,(∀(x0:zP)(x1:Int)(x2:zC) r,zPK n x0 x1 x2=jf r->FnC J0 86 [xS x0,I x1,xI x2] [wG r] [])/\(∀(x0:zP)(x1:Int)(x2:zC)(x3:zC) r,zPL n x0 x1 x2 x3=jf r->FnC J0 52 [xS x0,I x1,xI x2,xI x3] [wG r] []):=by
  intro n
  induction n with
  |zero=>exact⟨(fun _ _ _ r h=>by simp[zPK]at h),(fun _ _ _ _ r h=>by simp[zPL]at h)⟩
  |succ n ih=>exact⟨(fun x0 x1 x2 r h=>yGm ih.2 x0 x1 x2 r (by simpa[zPK]using h)),(fun x0 x1 x2 x3 r h=>yGi ih.1 ih.2 x0 x1 x2 x3 r (by simpa[zPL]using h))⟩
theorem u_h(x0:zP)(x1:Int)(x2:zC)(r:zC)(h:f_h x0 x1 x2=jf r):FnC J0 86 [xS x0,I x1,xI x2] [wG r] []:=by obtain⟨n,hn⟩:=qL h;exact(yFa n).1 x0 x1 x2 r hn
theorem u_b(x0:zP)(x1:Int)(x2:zC)(x3:zC)(r:zC)(h:f_b x0 x1 x2 x3=jf r):FnC J0 52 [xS x0,I x1,xI x2,xI x3] [wG r] []:=by obtain⟨n,hn⟩:=qL h;exact(yFa n).2 x0 x1 x2 x3 r hn
instance t_h:FI J0 86 (∀(a:zP)(b:Int)(c:zC),FnK J0 86 [xS a,I b,xI c] (fun r=>[wG r]) (fun _=>[]) (f_h a b c)):=⟨Tryz.call86,fun a b c=>FnK.mk (u_h a b c)⟩
instance t_b:FI J0 52 (∀(a:zP)(b:Int)(c d:zC),FnK J0 52 [xS a,I b,xI c,xI d] (fun r=>[wG r]) (fun _=>[]) (f_b a b c d)):=⟨Jby,fun a b c d=>FnK.mk (u_b a b c d)⟩
section
attribute [local irreducible] RW CW DK OkL Ok yR yT wH vK XS.post rng vN vD ixO zS yH wK yG zE GTo zR FnC FnK wX uJ Kp Lk BsL BuL RpL Bk Lc
instance:HS Tryz.f190.8 [(2,3,0,.tr 6 23),(0,63,0,.tr 52 6),(2,12,0,.tr 6 63),(0,102,0,.tr 86 6),(0,115,0,.tr 106 6),(2,20,0,.tr 6 115),(1,17,0,.fi 9 16),(1,17,1,.resf 129 0 16 [0,0]),(1,17,2,.resf 129 1 16 [1,0]),(0,160,0,.tr 144 6)]:=⟨⟩
instance(c:zP)(d:Int)(e:(List (List Int))×Int):LH (R:=(List (List Int))) (zSM c d e) [1,2,5,6,7] [] (fun a=>[(8,T.ptr (T.agg [L 1 I a.1,L 1 I a.2.1])),(9,I a.2.2)]) (.xe 2 [] fun b=>[(8,T.ptr (T.agg [L 1 I b.1,L 1 I b.2]))]):=⟨⟩
instance(c:zP)(d:Int)(e:(List (List Int))×Int):LH (R:=(List (List Int))) (zSN c d e) [1,2,5,7] [] (fun a=>[(6,L 1 lV a.1),(10,I a.2)]) (.xe 4 [] fun b=>[(6,L 1 lV b)]):=⟨⟩
instance(c:zP)(d:Int):LH (R:=(List (List Int))) (zXh c d) [1,2,5] [] (fun b=>[(6,L 1 lV b.1),(7,I b.2)]) (.xe 0 [] fun a=>[(6,L 1 lV a)]):=⟨⟩
instance(c:zP)(d:Int):LH (R:=(List (List Int))) (zXi c d) [1,2,5,6,14,15,16] [] (fun a=>[(17,T.ptr (T.agg [T.ro (lV a.1),T.ro (lV a.2.1)])),(18,I a.2.2)]) (.xe 8 [] fun b=>[(17,T.ptr (T.agg [T.ro (lV b.1),T.ro (lV b.2)]))]):=⟨⟩
instance(d:zP)(e:Int)(b:zC):LH (R:=(List (List Int))) (zSO d e b) [1,2,5,14] [] (fun a=>[(6,L 1 lV a.1),(15,I a.2)]) (.xe 6 [1,2,5,14] fun c=>[(6,L 1 lV c)]):=⟨⟩
instance t_l:FI J0 190 (∀(a:zP)(b:Int),FnK J0 190 [xS a,I b] (fun r:(List (List Int))=>[lM r]) (fun _=>[]) (f_l a b)):=⟨Tryz.call190,fun a b=>iM Tryz.func190⟩
instance:HS Tryz.f148.8 [(2,2,0,.tr 3 5),(0,18,0,.tr 14 3),(2,4,0,.tr 3 18)]:=⟨⟩
instance(b:zP):LH (R:=(List (List Int))) (zJX b) [1] [] (fun a=>[(3,L 1 lV a.1),(4,I a.2)]) (.xe 0 [1] fun c=>[(3,L 1 lV c)]):=⟨⟩
instance t_ab:FI J0 148 (∀(a:zP),FnK J0 148 [xS a] (fun r:(List (List Int))=>[lM r]) (fun _=>[]) (zL1 a)):=⟨Tryz.call148,fun a=>iM Tryz.func148⟩
instance:HS Tryz.f103.8 [(2,8,0,.tr 9 35),(0,58,0,.tr 57 9),(0,59,0,.trq 56 7 [2,0]),(2,14,0,.tr 11 62),(2,14,1,.fz 11),(2,15,0,.tr 12 63),(2,19,0,.tr 14 69),(0,91,0,.tr 76 14),(0,94,0,.tr 93 14),(0,95,0,.tr 92 12),(2,17,0,.tr 12 95)]:=⟨⟩
instance(c:zF)(d:(List (List Int))×Int):LH (R:=(List (List Int))) (zST c d) [3,5,6,7,8] [] (fun b=>[(9,L 1 I b.1),(10,I b.2)]) (.xe 2 [] fun a=>[(9,L 1 I a)]):=⟨⟩
instance(a:zF)(b c:Int):LN (zSU a b c) 7:=⟨⟩
instance(a:zF)(d e:Int)(A0 A1 A2 A3 A4 A5 A6:T):LHk (R:=(List (List Int))) (zSU a d e) (T.ptr (T.agg [T.agg [A0,A1,A2],T.agg [A3,A4,A5],A6])) [3,5,6] [] (fun c=>[(7,T.ptr (T.agg [T.agg [A0,A1,A2],jW a,L 1 lV c.1])),(8,I c.2)]) (.xe 0 [5] fun b=>[(7,T.ptr (T.agg [T.agg [A0,A1,A2],jW a,L 1 lV b]))]):=⟨⟩
instance(e:zF)(b:(List (List Int)))(c:(List (List Int))×Int):LH (R:=(List (List Int))) (zSV e b c) [3,6,11,12,13] [] (fun a=>[(14,L 1 I a.1),(15,I a.2)]) (.xe 6 [] fun d=>[(14,L 1 I d)]):=⟨⟩
instance(d:zF)(e:Int)(b:(List (List Int))):LH (R:=(List (List Int))) (zXq d e b) [3,6,11] [] (fun a=>[(12,L 1 lV a.1),(13,I a.2)]) (.xe 4 [6] fun c=>[(12,L 1 lV c)]):=⟨⟩
instance t_n:FI J0 103 (∀(a:SPr)(b:zF),FnK J0 103 [qPr a,jW b] (fun r:(List (List Int))=>[lM r]) (fun _=>[]) (f_n a b)):=⟨Tryz.call103,fun a b=>iM Tryz.func103⟩
instance:HS Jbh.8 [(2,2,0,.tr 5 13),(2,14,0,.tr 9 70),(0,89,0,.tr 83 9),(2,16,0,.tr 9 89)]:=⟨⟩
instance:MkH Jbh.8 13 I:=⟨⟩
instance(c:SPr)(d:List (List Int))(e:(List (List Int))×Int):LH (R:=(List (List Int))) (zX2 c d e) [1,2,5,6] [] (fun b=>[(7,T.ro (lV b.1)),(8,I b.2)]) (.xe 2 [] fun a=>[(7,T.ro (lV a))]):=⟨⟩
instance(c:SPr)(d:List (List Int)):LH (R:=(List (List Int))) (zZz c d) [1,2] [] (fun b=>[(5,L 1 (Ro lV) b.1),(6,I b.2)]) (.xe 0 [1,2] fun a=>[(5,L 1 (Ro lV) a)]):=⟨⟩
instance(a:(List (List Int))):LH (R:=(List (List Int))) (zTk a) [5] [] (fun c=>[(9,L 1 (Ro lV) c.1),(10,I c.2)]) (.xe 4 [5] fun b=>[(9,L 1 (Ro lV) b)]):=⟨⟩
instance t_F:FI J0 173 (∀(a:SPr)(b:List (List Int)),FnK J0 173 [qPr a,T.ro (lM b)] (fun r:(List (List Int))=>[(L 1 (Ro lV)) r]) (fun _=>[]) (f_F a b)):=⟨Tryz.call173,fun a b=>iM Tryz.func173⟩
instance t_bY:FI J0 201 (∀(a:SPr)(b c:List Int),FnK J0 201 [qPr a,T.ro (lV b),T.ro (lV c)] (fun r=>[lV r]) (fun _=>[]) (zX7 a b c)):=⟨Tryz.call201,fun a b c=>iM Tryz.func201⟩
instance(a b:List Int):LH (R:=Bool) (zW8 a b) [0,1,12] [] (fun c=>[(13,I c)]) (.xs (.xe 0 [0,1,12] fun _=>[]) .xr):=⟨⟩
instance t_al:FI J0 125 (∀(a b:List Int),FnK J0 125 [T.ro (lV a),T.ro (lV b)] (fun r=>[B r]) (fun _=>[]) (zLw a b)):=⟨Tryz.call125,fun a b=>iM Tryz.func125⟩
instance:HS Tryz.f159.8 [(2,2,0,.tr 5 7)]:=⟨⟩
instance t_aS:FI J0 159 (∀(a b:Int),FnK J0 159 [I a,I b] (fun r=>[lV r]) (fun _=>[]) (zIS a b)):=⟨Tryz.call159,fun a b=>iM Tryz.func159⟩
instance(b:SPr):LH (R:=Int) (zXx b) [9,10] [] (fun a=>[(3,I a.1),(11,I a.2)]) (.xe 0 [9,10] fun c=>[(3,I c)]):=⟨⟩
instance t_bx:FI J0 66 (∀(a:SPr),FnK J0 66 [T.ro ((Pt yW) a)] (fun r=>[I r]) (fun _=>[]) (yCA a)):=⟨Tryz.call66,fun a=>iM Tryz.func66⟩
instance:HS Tryz.f104.8 [(2,6,0,.tr 7 16),(0,23,0,.tr 22 7),(0,24,0,.trq 21 5 [2,0]),(1,4,0,.trf 27 2 5 [2,0])]:=⟨⟩
instance(a:Int):LN (zLy a) 5:=⟨⟩
instance(a:Int)(A0 A1 A2:T):LHk (R:=zI) (zLy a) (T.ptr (T.agg [A0,A1,A2])) [1,4,11] [] (fun b=>[(5,T.ptr (T.agg [A0,I a,L 1 lV b.1])),(12,I b.2)]) (.xe 0 [1,11] fun c=>[(5,T.ptr (T.agg [A0,I a,L 1 lV c]))]):=⟨⟩
instance t_O:FI J0 104 (∀(a b:Int),FnK J0 104 [I a,I b] (fun r=>[xU r]) (fun _=>[]) (f_O a b)):=⟨Tryz.call104,fun a b=>iM Tryz.func104⟩
instance:HS Tryz.f67.8 [(0,24,0,.trq 23 22 [2]),(0,25,0,.trq 19 7 [2,0]),(1,6,0,.trf 28 2 7 [2,0])]:=⟨⟩
instance(d:SPr)(a b:Int):LH (R:=zF) (zGs d a b) [1,2,6,15] [] (fun c=>[(7,T.ptr (T.agg [I a,I b,L 1 lM c.1])),(16,I c.2)]) (.xe 0 [1,2,15] fun e=>[(7,T.ptr (T.agg [I a,I b,L 1 lM e]))]):=⟨⟩
instance t_ac:FI J0 67 (∀(a:SPr)(b c:Int),FnK J0 67 [T.ro ((Pt yW) a),I b,I c] (fun r=>[xT r]) (fun _=>[]) (zPS a b c)):=⟨Tryz.call67,fun a b c=>iM Tryz.func67⟩
instance t_bU:FI J0 92 (∀(a:SPr),FnK J0 92 [T.ro ((Pt yW) a)] (fun r=>[I r]) (fun _=>[]) (zXb a)):=⟨Tryz.call92,fun a=>iM Tryz.func92⟩
instance:HS Tryz.f192.8 [(0,20,0,.tr 16 3),(2,8,0,.tr 3 20)]:=⟨⟩
instance(b:(List Int)×Int)(c:Int):LH (R:=(List Int)) (zWH b c) [4,6,7,8,13] [] (fun a=>[(3,L 1 I a.1),(14,I a.2)]) (.xe 2 [4,13] fun d=>[(3,L 1 I d)]):=⟨⟩
instance(b:List Int):LH (R:=(List Int)) (zWI b) [6,7] [] (fun a=>[(3,L 1 I a.1),(8,I a.2)]) (.xe 0 [6,7] fun c=>[(3,L 1 I c)]):=⟨⟩
instance t_C:FI J0 192 (∀(a:List Int),FnK J0 192 [T.ro (lV a)] (fun r=>[lV r]) (fun _=>[]) (f_C a)):=⟨Tryz.call192,fun a=>iM Tryz.func192⟩
instance t_cp:FI J0 205 (∀(a b:Int),FnK J0 205 [(IK .u64) a,(IK .u64) b] (fun r=>[(IK .u64) r.1,(IK .u64) r.2]) (fun _=>[]) (yFb a b)):=⟨Tryz.call205,fun a b=>iM Tryz.func205⟩
instance t_bG:FI J0 176 (∀(a b:Int),FnK J0 176 [(IK .u64) a,(IK .u64) b] (fun r=>[(IK .u64) r.1,(IK .u64) r.2]) (fun _=>[]) (zWG a b)):=⟨Jat,fun a b=>iM Tryz.func176⟩
end
theorem u_k(x0:List Int)(x1:Int)(r:(List Int))(h:f_k x0 x1=jf r):FnC J0 133 [T.ro (lV x0),I x1] [lV r] []:=by
 refine fB Tryz.func133 (fun St W w0 v=>?_);refine sR (oP (zDv 1 rfl) ?_);refine rN (CW.seq (sR (xN ?_)));refine zQ4 ?_;refine rN (cn h (fun hc h=>?_) (fun hc h=>?_))
 ·refine CW.region ?_
  cases h
 ·refine CW.skip (nA (sR (xN ?_)))
  refine zUr ?_;refine oP (zK4 U5 Ub rfl rfl) ?_;refine xN ?_;refine oP (zK4 U5 Ub rfl rfl) ?_;obtain⟨r1,pY,h⟩:=bd h;refine cA Jat (FnK.go (t_bG.h _ _) pY) ?_;refine zZY ?_;refine zQ5 ?_;refine zQ5 ?_;refine uQ ?_;refine uQ ?_;refine rN (CW.seq (sR (xN ?_)));refine oP (zUj rfl rfl rfl) ?_;refine xN ?_;refine RW.cases 23 _ rfl (fun hc=>?_) (fun hc=>?_)
  ·have h:=cT hc h
   refine sk2 ?_;refine sk2 ?_;refine zUs ?_;refine rN (CW.condT rfl ?_);refine CW.region ?_;cases h
  ·have h:=cF hc h
   refine yFl ?_;refine RW.cons (wF.guard 2 ji 23 (zUj rfl rfl rfl)) ?_;refine zUs ?_;refine rN (cn h (fun hc h=>?_) (fun hc h=>?_))
   ·refine CW.region ?_
    cases h
   ·refine CW.skip (nA (sR (xN ?_)))
    refine oP (zK4 Ub U5 rfl rfl) ?_;obtain⟨m2,hm2,h⟩:=bd h;refine oP (zQt (f:=I) (z:=0) elt_22 (rfl) hm2 rfl rfl rfl) ?_;refine uQ ?_;refine RW.ghost (zR.tr 7 30 _ rfl rfl (yL (xE (Enc.clean (f:=I)))) rfl) ?_;refine rN (CW.seq (CW.to [(0,T.ro (lV x0)),(7,L 1 I (J1 m2 (0:Int)))] ⟨rfl,rfl,trivial⟩ ?_));refine CW.region (xN ?_);refine xN ?_;refine oP (zK5 elt_22 rfl (fun _=>(zCq.same rfl rfl)) (fun _=>(zGe.ro (zAp rfl rfl))) (Lf _) (Je _) rfl) ?_;refine uQ ?_;refine rN (CW.seq (CW.block ?_));obtain⟨r6,uf,h⟩:=bd h;refine CW.lp (s:=(wQ (J1 m2 (0:Int)) 0 (x0.take (((J1 m2 (0:Int)).length)-0)),((min x0.length (((J1 m2 (0:Int)).length)-0):Nat):Int))) zBN (fun s1:(List Int)×Int=>vW [(7,L 1 I s1.1),(8,I s1.2)]) (fun(r6:(List Int)) e E=>e=.exit 0/\zR ⟨St,W,w0,Tryz.f133.ntmps⟩ E (vW [(7,L 1 I r6)])) (.has ⟨rfl,rfl,trivial⟩) (fun s1 x h=>?_) uf (fun e E hq=>?_)
    ·refine CW.seq (sR (xN ?_))
     refine xN ?_;refine zUu ?_;refine zQ4 ?_;refine rN (cn h (fun hc h=>?_) (fun hc h=>?_))
     ·refine CW.skip (nA (CW.block ?_))
      obtain⟨v3,cZ,h⟩:=bd h;obtain⟨v4,pX,h⟩:=bd h;obtain⟨v5,hv5,h⟩:=bd h;refine CW.dk ?_;refine zCr [(8,_)] ?_;refine zCr [(7,_)] ?_;refine zCr [(8,_)] ?_;refine dG [(39,_),(7,_),(40,_)] [([(41,jf (T.sub 7 [] 1 ((s1.2:Int).toNat) ((s1.1.length:Int).toNat)))],[(41,0)])] ⟨rfl,rfl,rfl,trivial⟩ (fun E h=>wF.opE (zUe row_22 cZ (zDi h.1 h.2.1 rfl rfl) (yAR (zJr cZ) h.2.2.1) yDh rfl) rfl) ?_;refine zCr [(7,_)] ?_;refine zCr [(8,_)] ?_;refine dG [(42,_),(7,_),(43,_)] [([(44,jf (T.sub 7 [] 1 ((0:Int).toNat) ((s1.2:Int).toNat)))],[(44,0)])] ⟨rfl,rfl,rfl,trivial⟩ (fun E h=>wF.opE (zUe row_22 pX (zDi h.1 h.2.1 rfl rfl) yDi (yAR (zJs pX) h.2.2.1) rfl) rfl) ?_;refine dG [(41,_),(7,_),(44,_)] [([(7,jf (L 1 I (wQ s1.1 ((s1.2:Int).toNat) (v4.take (((s1.1.length:Int).toNat)-((s1.2:Int).toNat))))))],[(7,1)]),([(45,jf (I ((min v4.length (((s1.1.length:Int).toNat)-((s1.2:Int).toNat)):Nat):Int)))],[(45,0)])] ⟨rfl,rfl,rfl,trivial⟩ (fun E h=>wF.opE (zK5 elt_22 h.2.1 (fun _=>(zCq.sub h.1)) (fun _=>(zGe.sub h.2.2.1 h.2.1 rfl pX)) (zRN cZ) (zRO cZ) rfl) rfl) ?_;refine yDq [(38,_),(45,_)] ?_;refine yBe [(46,_)] ?_;refine dNA zIA ?_;exact nB (eN h)
     ·refine CW.exit (xA ?_)
      exact eX h
    ·obtain⟨rfl,hg⟩:=hq
     refine xB ?_;refine nA (CW.ghost hg ?_);refine sR (xN ?_);refine uQ ?_;refine RW.ghost (zR.tr 4 7 _ rfl rfl (yL (xE (Enc.clean (f:=I)))) rfl) ?_;refine rN (CW.ret ?_);obtain rfl:=sI h;exact rT
instance t_k:FI J0 133 (∀(a:List Int)(b:Int),FnK J0 133 [T.ro (lV a),I b] (fun r=>[lV r]) (fun _=>[]) (f_k a b)):=⟨Tryz.call133,fun a b=>FnK.mk (u_k a b)⟩
section
attribute [local irreducible] RW CW DK OkL Ok yR yT wH vK XS.post rng vN vD ixO zS yH wK yG zE GTo zR FnC FnK wX uJ Kp Lk BsL BuL RpL Bk Lc
instance t_aI:FI J0 152 (∀(a b:Int),FnK J0 152 [I a,I b] (fun r=>[lV r]) (fun _=>[]) (zNP a b)):=⟨Qy,fun a b=>iM Tryz.func152⟩
instance t_bR:FI J0 195 (∀(a:zF)(b:Int),FnK J0 195 [T.ro ((Pt xT) a),I b] (fun r=>[(fun x=>T.agg [I x.Prime,I x.xF,(Ro lM) x.Rows]) r]) (fun _=>[]) (zWF a b)):=⟨Tryz.call195,fun a b=>iM Tryz.func195⟩
instance(b:List Int)(c:Int)(a:List Int):LH (R:=Bool) (zPP b c a) [1,2,49,50] [] (fun d=>[(51,I d)]) (.xs (.xe 0 [1,2,49,50] fun _=>[]) .xr):=⟨⟩
instance(a:List Int)(b:Int)(c:List Int):LH (R:=Bool) (zPQ a b c) [1,2,49,50] [] (fun d=>[(51,I d)]) (.xs (.xe 0 [1,2,49,50] fun _=>[]) .xr):=⟨⟩
instance t_J:FI J0 193 (∀(a:SPr)(b:List Int)(c:Int),FnK J0 193 [T.ro ((Pt yW) a),T.ro (lV b),I c] (fun r=>[B r]) (fun _=>[]) (f_J a b c)):=⟨Tryz.call193,fun a b c=>iM Tryz.func193⟩
instance(a:SPr)(b:List Int):LH (R:=Int) (zNQ a b) [0,1,7] [] (fun c=>[(8,I c)]) (.xs (.xe 0 [0,1,7] fun _=>[]) .xr):=⟨⟩
instance t_au:FI J0 153 (∀(a:SPr)(b:List Int),FnK J0 153 [T.ro ((Pt yW) a),T.ro (lV b)] (fun r=>[I r]) (fun _=>[]) (zTf a b)):=⟨Tryz.call153,fun a b=>iM Tryz.func153⟩
instance:HS Tryz.f114.8 [(0,16,0,.tr 12 3),(2,6,0,.tr 3 16)]:=⟨⟩
instance(b:List (List Int)):LH (R:=(List (List Int))) (zN8 b) [6,7] [] (fun a=>[(3,L 1 lV a.1),(8,I a.2)]) (.xe 0 [6,7] fun c=>[(3,L 1 lV c)]):=⟨⟩
instance t_aA:FI J0 114 (∀(a:List (List Int)),FnK J0 114 [T.ro (lM a)] (fun r:(List (List Int))=>[lM r]) (fun _=>[]) (zWW a)):=⟨Tryz.call114,fun a=>iM Tryz.func114⟩
instance:HS Tryz.f62.8 [(2,2,0,.tr 5 11),(2,2,1,.tr 6 14),(2,3,0,.tr 7 15),(0,32,0,.tr 22 7),(0,36,0,.fz 7),(0,36,1,.res 35 7 [])]:=⟨⟩
instance(b:zF)(c:(List (List Int)))(d:(List (List Int))):LH (R:=(List (List Int))) (zGr b c d) [3,5,6] [] (fun a=>[(7,L 1 lV a.1),(8,I a.2)]) (.xe 0 [5,6] fun e=>[(7,L 1 lV e)]):=⟨⟩
instance t_ak:FI J0 62 (∀(a:SPr)(b:zF),FnK J0 62 [qPr a,jW b] (fun r:(List (List Int))=>[(L 1 (Ro lV)) r]) (fun _=>[]) (zXw a b)):=⟨Tryz.call62,fun a b=>iM Tryz.func62⟩
instance:HS Tryz.f35.8 [(0,6,0,.fz 5)]:=⟨⟩
instance t_aJ:FI J0 35 (∀(a:SPr),FnK J0 35 [qPr a] (fun r:(List (List Int))=>[(L 1 (Ro lV)) r]) (fun _=>[]) (zI6 a)):=⟨Tryz.call35,fun a=>iM Tryz.func35⟩
instance:HS Tryz.f24.8 [(2,5,0,.tr 5 12)]:=⟨⟩
instance t_cg:FI J0 24 (∀(a:SPr),FnK J0 24 [qPr a] (fun r:(List (List Int))×Int=>[(L 1 (Ro lV)) r.1,I r.2]) (fun _=>[]) (zZ1 a)):=⟨Tryz.call24,fun a=>iM Tryz.func24⟩
instance:HS Tryz.f155.8 [(1,4,0,.trf 30 2 5 [2,0])]:=⟨⟩
instance(c:zF)(d:List Int):LH (R:=zI) (zN6 c d) [0,4,17,18] [] (fun a=>[(5,T.ptr (T.agg [I a.1,I a.2.1,L 1 lV a.2.2.1])),(19,I a.2.2.2)]) (.xe 0 [0,17,18] fun b=>[(5,T.ptr (T.agg [I b.1,I b.2.1,L 1 lV b.2.2]))]):=⟨⟩
instance t_am:FI J0 155 (∀(a:zF)(b:List Int),FnK J0 155 [T.ro ((Pt xT) a),T.ro (lV b)] (fun r=>[xU r]) (fun _=>[]) (zPB a b)):=⟨Tryz.call155,fun a b=>iM Tryz.func155⟩
instance:LH (R:=Int×Bool) zJV [1] [] (fun a=>[(6,I a.1),(7,I a.2.1),(8,I a.2.2.1),(9,I a.2.2.2)]) (.xe 0 [] fun b=>[(6,I b.1),(8,I b.2)]):=⟨⟩
instance t_ag:FI J0 115 (∀(a b:Int),FnK J0 115 [I a,I b] (fun r=>[I r.1,B r.2]) (fun _=>[]) (zN9 a b)):=⟨Tryz.call115,fun a b=>iM Tryz.func115⟩
instance:HS Jaf.8 [(2,2,0,.tr 1 13),(0,138,0,.tr 135 1)]:=⟨⟩
instance:yEi Jaf.results:=⟨⟩
instance:SwH Jaf.8 10 1 [0,5,6,7]:=⟨⟩
instance(a:(List (List Int))×Int×Int):LH (R:=(List (List Int))) (zIT a) [0,1,5,6] [] (fun b=>[(7,I b)]) (.xe 2 [] fun c=>[(7,I c)]):=⟨⟩
instance(f:Int)(b:(List (List Int))×Int×Int)(c:Int×Bool)(d:List Int):LH (R:=(List (List Int))) (zNA f b c d) [0,5,6,8,84] [] (fun a=>[(1,L 1 lV a.1),(85,I a.2)]) (.xe 4 [8,84] fun e=>[(1,L 1 lV e)]):=⟨⟩
instance(e:Int)(b:(List (List Int))×Int×Int)(c:(List (List Int))):LH (R:=(List (List Int))) (zPD e b c) [0,5,6,107] [] (fun a=>[(1,L 1 lV a.1),(108,I a.2)]) (.xe 6 [107] fun d=>[(1,L 1 lV d)]):=⟨⟩
instance(c:Int):LH (R:=(List (List Int))) (zPE c) [0] [] (fun a=>[(1,L 1 lV a.1),(5,I a.2.1),(6,I a.2.2)]) (.xe 0 [0] fun b=>[(1,L 1 lV b.1),(5,I b.2)]):=⟨⟩
instance t_i:FI J0 71 (∀(a:Int)(b:List (List Int)),FnK J0 71 [I a,T.ro (lM b)] (fun r:(List (List Int))=>[lM r]) (fun _=>[]) (f_i a b)):=⟨Tryz.call71,fun a b=>iM Tryz.func71⟩
instance:HS Tryz.f108.8 [(0,14,0,.fz 13),(0,28,0,.tr 23 7),(2,7,0,.tr 7 28)]:=⟨⟩
instance(c:Int)(d:(List (List Int))):LH (R:=(List (List Int))) (zSS c d) [0,2,13,14] [] (fun b=>[(7,L 1 (Ro lV) b.1),(15,I b.2)]) (.xe 0 [2,13,14] fun a=>[(7,L 1 (Ro lV) a)]):=⟨⟩
instance t_Z:FI J0 108 (∀(a:Int)(b:List (List Int))(c:Int),FnK J0 108 [I a,T.ro (lM b),I c] (fun r:(List (List Int))=>[lM r]) (fun _=>[]) (f_Z a b c)):=⟨Tryz.call108,fun a b c=>iM Tryz.func108⟩
instance t_br:FI J0 110 (∀(a b:Int)(c:List (List Int)),FnK J0 110 [I a,I b,T.ro (lM c)] (fun r=>[xU r]) (fun _=>[]) (zPN a b c)):=⟨Tryz.call110,fun a b c=>iM Tryz.func110⟩
instance:HS Tryz.f132.8 [(0,22,0,.trq 18 4 [1,0]),(0,36,0,.tr 31 6),(2,10,0,.tr 6 36),(0,40,0,.tr 39 6),(0,41,0,.trq 38 4 [2,0]),(1,2,0,.trf 44 0 4 [0,0]),(1,2,1,.trf 44 1 4 [1,0]),(1,2,2,.trf 44 2 4 [2,0])]:=⟨⟩
instance(b:List Int):LH (R:=SPr) (zSJ b) [2,3,4,13,14] [] (fun a=>[(6,L 1 lV a.1),(7,I a.2)]) (.xe 2 [] fun c=>[(6,L 1 lV c)]):=⟨⟩
instance(a:List Int):LN (zSK a) 4:=⟨⟩
instance(c:List Int)(A0 A1 A2:T):LHk (R:=SPr) (zSK c) (T.ptr (T.agg [A0,A1,A2])) [2,3,13] [] (fun b=>[(4,T.ptr (T.agg [A0,L 1 lV b.1,L 1 lM b.2.1])),(14,I b.2.2)]) (.xe 0 [3,13] fun a=>[(4,T.ptr (T.agg [A0,L 1 lV a.1,L 1 lM a.2]))]):=⟨⟩
instance t_P:FI J0 132 (∀(a:List Int),FnK J0 132 [T.ro (lV a)] (fun r=>[yW r]) (fun _=>[]) (f_P a)):=⟨Tryz.call132,fun a=>iM Tryz.func132⟩
instance:HS Ja8.8 [(2,3,0,.tr 6 17),(3,0,0,.tr 7 19),(0,33,0,.tr 29 7),(2,7,0,.tr 7 33),(2,8,0,.trq 10 38 [1]),(2,10,0,.tr 11 56),(1,60,0,.tr 59 11),(0,63,0,.tr 62 10),(0,64,0,.tr 61 7),(2,12,0,.tr 7 64),(0,75,0,.tr 65 7),(2,13,0,.tr 7 75),(0,101,0,.tr 92 7),(0,104,0,.fz 6),(0,104,1,.res 103 6 [])]:=⟨⟩
instance:HX Ja8.8 [(0,33,0,.trh 8 7),(2,11,0,.rd2 59 11)]:=⟨⟩
instance:DrH Ja8.8 33:=⟨⟩
instance(d:SPr)(e:(List (List Int))×(List (List Int)))(f:Int×(List Int))(a:(List Int)):LH (R:=(List (List Int))) (zTl d e f a) [2,5,6,9,11] [] (fun c=>[(7,L 1 lV c.1),(12,I c.2)]) (.xe 2 [9,11] fun b=>[(7,L 1 lV b)]):=⟨⟩
instance(c:SPr):LH (R:=(List (List Int))) (zTm c) [2,5] [] (fun b=>[(6,L 1 lV b.1),(7,L 1 lV b.2)]) (.xe 0 [5] fun a=>[(6,L 1 lV a)]):=⟨⟩
instance t_H:FI J0 128 (∀(a:SPr)(b:List (List Int)),FnK J0 128 [qPr a,T.ro (lM b)] (fun r:(List (List Int))=>[(L 1 (Ro lV)) r]) (fun _=>[]) (f_H a b)):=⟨Tryz.call128,fun a b=>iM Tryz.func128⟩
instance:HS Tryz.f169.8 [(2,3,0,.tr 8 14),(0,39,0,.tr 27 8),(0,42,0,.fz 8),(0,42,1,.res 41 8 []),(2,11,0,.tr 11 42)]:=⟨⟩
instance(d:SPr)(e:List (List Int))(b:(List (List Int)))(c:(List (List Int))×Int):LH (R:=(List (List Int))) (zX8 d e b c) [2,3,7,9] [] (fun a=>[(8,L 1 lV a.1),(10,I a.2)]) (.xe 4 [] fun f=>[(8,L 1 lV f)]):=⟨⟩
instance(c:SPr)(d:List (List Int))(b:(List (List Int))):LH (R:=(List (List Int))) (zTr c d b) [2,3,7] [] (fun a=>[(8,L 1 lV a.1),(9,I a.2)]) (.xe 2 [] fun e=>[(8,L 1 lV e)]):=⟨⟩
instance(b:SPr)(c:List (List Int)):LH (R:=(List (List Int))) (zZ2 b c) [2,3] [] (fun a=>[(7,T.ro (lM a))]) .xr:=⟨⟩
instance t_G:FI J0 169 (∀(a:SPr)(b:List (List Int))(c:List (List Int)),FnK J0 169 [qPr a,T.ro (lM b),T.ro (lM c)] (fun r:(List (List Int))=>[(L 1 (Ro lV)) r]) (fun _=>[]) (f_G a b c)):=⟨Tryz.call169,fun a b c=>iM Tryz.func169⟩
instance:HS Tryz.f126.8 [(2,2,0,.tr 7 10),(0,35,0,.tr 23 7),(0,39,0,.fz 7),(0,39,1,.res 38 7 []),(0,44,0,.fz 39),(0,44,1,.fz 43)]:=⟨⟩
instance(b:SPr)(c:List (List Int))(d:List (List Int))(e:(List (List Int))×Int):LH (R:=(List (List Int))) (zX9 b c d e) [1,2,3,8] [] (fun a=>[(7,L 1 lV a.1),(9,I a.2)]) (.xe 2 [] fun f=>[(7,L 1 lV f)]):=⟨⟩
instance(b:SPr)(c:List (List Int))(d:List (List Int)):LH (R:=(List (List Int))) (zTs b c d) [1,2,3] [] (fun a=>[(7,L 1 lV a.1),(8,I a.2)]) (.xe 0 [] fun e=>[(7,L 1 lV e)]):=⟨⟩
instance t_X:FI J0 126 (∀(a:SPr)(b:List (List Int))(c:List (List Int)),FnK J0 126 [qPr a,T.ro (lM b),T.ro (lM c)] (fun r:(List (List Int))=>[(L 1 (Ro lV)) r]) (fun _=>[]) (f_X a b c)):=⟨Tryz.call126,fun a b c=>iM Tryz.func126⟩
instance:HS Tryz.f81.8 [(0,13,0,.fz 12),(2,2,0,.tr 7 13),(0,28,0,.fz 27),(0,29,0,.tr 20 7),(0,32,0,.fz 7),(0,32,1,.res 31 7 [])]:=⟨⟩
instance(b:SPr)(c:List (List Int))(d:Int):LH (R:=(List (List Int))) (zKa b c d) [1,2,3] [] (fun a=>[(7,L 1 (Ro lV) a.1),(8,I a.2)]) (.xe 0 [1,2] fun e=>[(7,L 1 (Ro lV) e)]):=⟨⟩
instance t_av:FI J0 81 (∀(a:SPr)(b:List (List Int))(c:Int),FnK J0 81 [qPr a,T.ro (lM b),I c] (fun r:(List (List Int))=>[(L 1 (Ro lV)) r]) (fun _=>[]) (zXA a b c)):=⟨Tryz.call81,fun a b c=>iM Tryz.func81⟩
instance:HS Jbv.8 [(3,0,0,.tr 5 10),(2,4,0,.tr 7 20),(0,29,0,.tr 28 7),(0,29,1,.fz 28),(0,30,0,.tr 27 5)]:=⟨⟩
instance:HX Jbv.8 [(3,1,0,.fzl 2 5)]:=⟨⟩
instance(a:SPr)(b:Int):LH (R:=(List (List (List Int)))) (zI9 a b) [1,2] [] (fun c=>[(5,L 1 (Ro lM) c)]) .xr:=⟨⟩
instance t_ai:FI J0 48 (∀(a:SPr)(b:Int),FnK J0 48 [qPr a,I b] (fun r:(List (List (List Int)))=>[(L 1 (Ro lM)) r]) (fun _=>[]) (zPW a b)):=⟨Tryz.call48,fun a b=>iM Tryz.func48⟩
instance:HS Tryz.f25.8 [(2,3,0,.tr 6 24),(0,41,0,.trf 37 2 8 [2,0]),(0,10,0,.fz 43),(2,8,0,.tr 11 44),(1,14,0,.fz 67),(0,72,0,.tr 68 11),(2,18,0,.tr 11 72),(0,99,0,.fz 98),(0,100,0,.tr 88 11),(0,103,0,.fz 11),(0,103,1,.res 102 11 [])]:=⟨⟩
instance(c:SPr)(d:Int)(e:zF)(f:(List (List Int)))(g:zC)(h:List Int):LH (R:=(List (List Int))) (zXB c d e f g h) [2,5,7,9,10,11,12,13] [] (fun a=>[(14,T.ptr (T.agg [T.ro (lV a.1),T.ro (lV a.2.1)])),(15,I a.2.2)]) (.xe 2 [] fun b=>[(14,T.ptr (T.agg [T.ro (lV b.1),T.ro (lV b.2)]))]):=⟨⟩
instance(c:SPr)(d:zF)(e:(List (List Int)))(f:zC)(g:List Int):LH (R:=(List (List Int))) (zXC c d e f g) [2,5,7,9,10,12,13] [] (fun a=>[(11,L 1 (Ro lV) a.1),(16,I a.2)]) (.xe 4 [13] fun b=>[(11,L 1 (Ro lV) b)]):=⟨⟩
instance(c:SPr)(d:Int)(e:List (List Int))(f:zF)(g:(List (List Int)))(h:zC):LH (R:=(List (List Int))) (zXD c d e f g h) [2,5,7,9,10] [] (fun b=>[(11,L 1 (Ro lV) b.1),(12,I b.2)]) (.xe 0 [2,7,9,10] fun a=>[(11,L 1 (Ro lV) a)]):=⟨⟩
instance t_y:FI J0 25 (∀(a:SPr)(b:List (List Int)),FnK J0 25 [qPr a,T.ro (lM b)] (fun r:(List (List Int))=>[(L 1 (Ro lV)) r]) (fun _=>[]) (f_y a b)):=⟨Tryz.call25,fun a b=>iM Tryz.func25⟩
instance:HS Tryz.f121.8 [(2,23,0,.tr 12 152),(2,26,0,.tr 12 165)]:=⟨⟩
instance(a:SPr)(b:Int):LH (R:=xG) (zWA a b) [0,1,4,5,6] [] (fun c=>[(7,I c)]) (.xs (.xe 0 [] fun _=>[]) .xr):=⟨⟩
instance(a:SPr)(b c:Int):LH (R:=xG) (zWB a b c) [0,1,4,5,6,8] [] (fun d=>[(9,I d)]) (.xs (.xe 4 [] fun _=>[]) .xr):=⟨⟩
instance(a:SPr)(b:Int):LH (R:=xG) (zWC a b) [0,1,4,5,6] [] (fun c=>[(8,I c)]) (.xs (.xe 2 [] fun _=>[]) .xr):=⟨⟩
instance(d:SPr)(e b:Int):LH (R:=xG) (zWD d e b) [0,1,4,5,6,10,11,159] [] (fun a=>[(12,L 1 I a.1),(160,I a.2)]) (.xe 8 [159] fun c=>[(12,L 1 I c)]):=⟨⟩
instance(c:SPr)(d:Int)(a:List Int):LH (R:=xG) (zWE c d a) [0,1,4,5,6,10] [] (fun b=>[(11,I b)]) (.xs (.xe 6 [0,1,5,6,10] fun _=>[]) .xr):=⟨⟩
instance t_o:FI J0 121 (∀(a:SPr)(b:Int),FnK J0 121 [T.ro ((Pt yW) a),I b] (fun r=>[zGQ r]) (fun _=>[]) (f_o a b)):=⟨Tryz.call121,fun a b=>iM Tryz.func121⟩
instance(a:SPr):LH (R:=Int) (zN1 a) [0] [] (fun b=>[(3,I b)]) (.xe 0 [0] fun c=>[(3,I c)]):=⟨⟩
instance t_a8:FI J0 75 (∀(a:SPr),FnK J0 75 [T.ro ((Pt yW) a)] (fun r=>[I r]) (fun _=>[]) (yC2 a)):=⟨Tryz.call75,fun a=>iM Tryz.func75⟩
instance t_bE:FI J0 45 (∀(a:SPr),FnK J0 45 [qPr a] (fun r=>[B r]) (fun _=>[]) (zSD a)):=⟨Tryz.call45,fun a=>iM Tryz.func45⟩
instance(a:SPr):LH (R:=Bool) (yAH a) [0,21,22] [] (fun b=>[(23,I b)]) (.xs (.xe 0 [0,21,22] fun _=>[]) .xr):=⟨⟩
instance t_bv:FI J0 65 (∀(a:SPr),FnK J0 65 [T.ro ((Pt yW) a)] (fun r=>[B r]) (fun _=>[]) (zZv a)):=⟨Tryz.call65,fun a=>iM Tryz.func65⟩
instance t_ce:FI J0 37 (∀(a:SPr),FnK J0 37 [T.ro ((Pt yW) a)] (fun r=>[I r]) (fun _=>[]) (zZw a)):=⟨Tryz.call37,fun a=>iM Tryz.func37⟩
instance t_bI:FI J0 199 (∀(a:Int),FnK J0 199 [I a] (fun r=>[B r]) (fun _=>[]) (zSQ a)):=⟨Tryz.call199,fun a=>iM Tryz.func199⟩
instance(a:List Int):LH (R:=Int) (zGq a) [0,1,7] [] (fun b=>[(8,I b)]) (.xs (.xe 0 [0,1,7] fun _=>[]) .xr):=⟨⟩
instance t_ah:FI J0 198 (∀(a:List Int),FnK J0 198 [T.ro (lV a),T.lit (.func (.func 199) #[] #[])] (fun r=>[I r]) (fun _=>[]) (zSR a)):=⟨Tryz.call198,fun a=>iM Tryz.func198⟩
instance:HS Tryz.f160.8 [(0,16,0,.tr 12 3),(2,6,0,.tr 3 16)]:=⟨⟩
instance(b:List (List Int)):LH (R:=(List Int)) (zIW b) [6,7] [] (fun a=>[(3,L 1 I a.1),(8,I a.2)]) (.xe 0 [6,7] fun c=>[(3,L 1 I c)]):=⟨⟩
instance t_Q:FI J0 160 (∀(a:List (List Int)),FnK J0 160 [T.ro (lM a)] (fun r=>[lV r]) (fun _=>[]) (f_Q a)):=⟨Tryz.call160,fun a=>iM Tryz.func160⟩
end
end Go.Wk
