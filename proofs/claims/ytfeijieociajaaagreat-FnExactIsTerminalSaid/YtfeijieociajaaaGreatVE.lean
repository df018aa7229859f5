/- The program's IsTerminal returns what the reference's returns,for all arguments;no conditions. -/
import Derived.Test.YtfeijieociajaaaGreatVC
import Derived.Test.YtfeijieociajaaaGreatVD
import Derived.Test.YtfeijieociajaaaGreatWT
open Go.Proofs.Tryz renaming prog->J0,underlying23->Lp,underlying3->Qv,call96->Jb4,call94->Jb5,call77->Jb6,f141->Jbj,f138->Jbl,f94->Jbv,f44->Jbx
open Option renaming some->jd,none->je
open Bool renaming true->jf,false->jg
namespace Go.Wk
open Go Go.Proofs Go.Ab
set_option maxRecDepth 100000
set_option maxHeartbeats 4000000
section
attribute [local irreducible] RW CW DK OkL Ok yQ yT wF vH XS.post rng vK vA ixO zR yI wJ yG zG GTo zQ FnC FnK wU uH Kp Lk BsL BuL RpL Bk Lc
instance:HS Tryz.f113.8 [(2,2,0,.tr 5 9)]:=⟨⟩
instance(b:zS)(c:(List Int)):LH (R:=(List Int)) (zJP b c) [2,12,13] [] (fun a=>[(5,L 1 I a.1),(14,I a.2)]) (.xe 0 [2,12,13] fun d=>[(5,L 1 I d)]):=⟨⟩
instance t_az:FI J0 113 (∀(a:zS)(b:List Int),FnK J0 113 [zGE a,T.ro (lV b)] (fun r=>[lV r]) (fun _=>[]) (zYF a b)):=⟨Tryz.call113,fun a b=>iM Tryz.func113⟩
instance t_bK:FI J0 70 (∀(a:SPr)(b:zE)(c:List Int),FnK J0 70 [T.ro ((Pt yW) a),T.ro ((Pt xS) b),T.ro (lV c)] (fun r:(List (List Int))=>[lM r]) (fun _=>[]) (zWK a b c)):=⟨Tryz.call70,fun a b c=>iM Tryz.func70⟩
instance t_bg:FI J0 136 (∀(a:SPr)(b c:List Int),FnK J0 136 [T.ro ((Pt yW) a),T.ro (lV b),T.ro (lV c)] (fun r=>[lV r]) (fun _=>[]) (zNL a b c)):=⟨Tryz.call136,fun a b c=>iM Tryz.func136⟩
end
theorem yFE(x1:Int)(r:(List (List Int)))(h:zXl x1=jd r):FnC J0 180 [T.lit (.slice je 0 0),I x1] [lM r] []:=by
 refine fB Tryz.func180 (fun St W w0 v=>?_);refine sR (oP (zDm 1 rfl) ?_);refine rN (CW.seq (sR (xR ?_)));refine zQs ?_;refine rN (cn h (fun hc h=>?_) (fun hc h=>?_))
 ·refine CW.region ?_
  cases h
 ·refine CW.skip (nA (CW.seq (sR (xR ?_))))
  refine xR ?_;refine oP (zEo Lp rfl rfl) ?_;refine xR ?_;refine oP (zEn Lp rfl rfl) ?_;obtain⟨v1,bR,h⟩:=bd h;refine zJk ?_;obtain⟨v2,cr,h⟩:=bd h;refine zJk ?_;refine tH ?_;refine rN (sR (xR ?_));refine zZw ?_;refine rN (cn h (fun hc h=>?_) (fun hc h=>?_))
  ·refine CW.region (xR ?_)
   refine xR ?_;refine oP (zEo Lp rfl rfl) ?_;refine oP (zQm elt_23 rfl rfl rfl) ?_;refine xR ?_;obtain⟨v3,cY,h⟩:=bd h;refine oP (zTI (f:=lV) (z:=[]) elt_23 Qv (rfl) cY rfl rfl rfl) ?_;refine xR ?_;refine oP (zEn Lp rfl rfl) ?_;obtain⟨v4,pT,h⟩:=bd h;refine oP (zQl (f:=lV) elt_23 pT rfl rfl (.inl rfl) rfl) ?_;refine tH ?_;refine RW.ghost (zQ.tr 0 25 _ rfl rfl (yL (xF (Enc.clean (f:=lV)))) rfl) ?_;refine rN (sR (xR ?_));refine tH ?_;refine RW.ghost (zQ.tr 4 0 _ rfl rfl (yL (xF (Enc.clean (f:=lV)))) rfl) ?_;refine rN (CW.ret ?_);obtain rfl:=sI h;exact rT
  ·refine CW.skip (nA (sR (xR ?_)))
   refine tH ?_;refine rN (CW.ghost (zQ.nil 4 1 rfl) ?_);refine CW.ret ?_;obtain rfl:=sI h;exact rT
instance t_bt:FI J0 180 (∀(a:Int),FnK J0 180 [T.lit (.slice je 0 0),I a] (fun r:(List (List Int))=>[lM r]) (fun _=>[]) (zXl a)):=⟨Tryz.call180,fun a=>FnK.mk (yFE a)⟩
section
attribute [local irreducible] RW CW DK OkL Ok yQ yT wF vH XS.post rng vK vA ixO zR yI wJ yG zG GTo zQ FnC FnK wU uH Kp Lk BsL BuL RpL Bk Lc
instance:HS Jbl.8 [(2,10,0,.tr 6 24),(0,33,0,.tr 31 6),(2,14,0,.tr 6 33)]:=⟨⟩
instance:HX Jbl.8 [(2,11,0,.fzl 2 6),(2,15,0,.fzl 2 6)]:=⟨⟩
instance(b:List (List (List Int))):LH (R:=(List (List Int))) (zNN b) [0,9,10] [] (fun a=>[(3,I a.1),(11,I a.2)]) (.xe 0 [9,10] fun c=>[(3,I c)]):=⟨⟩
instance(b:List (List (List Int))):LH (R:=(List (List Int))) (zNO b) [25,26] [] (fun a=>[(6,L 1 (Ro lV) a.1),(27,I a.2)]) (.xe 2 [25,26] fun c=>[(6,L 1 (Ro lV) c)]):=⟨⟩
instance t_ae:FI J0 138 (∀(a:List (List (List Int))),FnK J0 138 [T.ro (lC a)] (fun r:(List (List Int))=>[(L 1 (Ro lV)) r]) (fun _=>[]) (zYV a)):=⟨Tryz.call138,fun a=>iM Tryz.func138⟩
instance:HS Tryz.f185.8 [(2,2,0,.tr 7 11)]:=⟨⟩
instance(a:SPr)(b:List (List Int))(c:(List Int)×Int)(d:Int):LH (R:=(List Int)) (zSS a b c d) [0,1,8,9,13,14,15] [] (fun e=>[(7,L 1 I e)]) (.xe 2 [8,9] fun f=>[(7,L 1 I f)]):=⟨⟩
instance(b:SPr)(c:List (List Int))(d:(List Int)):LH (R:=(List Int)) (zPI b c d) [0,1,13,14] [] (fun a=>[(7,L 1 I a.1),(15,I a.2)]) (.xe 0 [0,1,13,14] fun e=>[(7,L 1 I e)]):=⟨⟩
instance t_M:FI J0 185 (∀(a:SPr)(b:List (List Int))(c:List Int),FnK J0 185 [T.ro ((Pt yW) a),T.ro (lM b),T.ro (lV c)] (fun r=>[lV r]) (fun _=>[]) (f_M a b c)):=⟨Tryz.call185,fun a b c=>iM Tryz.func185⟩
instance:HS Tryz.f142.8 [(0,36,0,.nil 35 8),(2,7,0,.tr 5 36),(0,38,0,.tr 37 5),(0,40,0,.tr 39 3),(2,4,0,.tr 3 40)]:=⟨⟩
instance(b:xD):LH (R:=(List (List Int))) (zRs b) [0] [] (fun a=>[(3,L 1 lV a.1),(4,I a.2)]) (.xe 0 [0] fun c=>[(3,L 1 lV c)]):=⟨⟩
instance t_aI:FI J0 142 (∀(a:xD),FnK J0 142 [T.ro ((Pt zIx) a)] (fun r:(List (List Int))=>[lM r]) (fun _=>[]) (zST a)):=⟨Tryz.call142,fun a=>iM Tryz.func142⟩
instance:HS Tryz.f179.8 [(0,22,0,.tr 16 7),(2,6,0,.tr 7 22)]:=⟨⟩
instance(b:SPr)(c:List (List Int))(d:List Int):LH (R:=(List (List Int))) (zNP b c d) [0,2,10,11] [] (fun a=>[(7,L 1 lV a.1),(12,I a.2)]) (.xe 0 [0,2,10,11] fun e=>[(7,L 1 lV e)]):=⟨⟩
instance t_aZ:FI J0 179 (∀(a:SPr)(b:List (List Int))(c:List Int),FnK J0 179 [T.ro ((Pt yW) a),T.ro (lM b),T.ro (lV c)] (fun r:(List (List Int))=>[lM r]) (fun _=>[]) (zYW a b c)):=⟨Tryz.call179,fun a b c=>iM Tryz.func179⟩
instance(a:List (List Int))(b:List (List Int)):LH (R:=Bool) (zWt a b) [1,2,15,16] [] (fun c=>[(17,I c)]) (.xs (.xe 0 [1,2,15,16] fun _=>[]) .xr):=⟨⟩
instance t_bj:FI J0 124 (∀(a:List (List Int))(b:List (List Int)),FnK J0 124 [T.ro (lM a),T.ro (lM b),T.lit (.func (.func 125) #[] #[])] (fun r=>[B r]) (fun _=>[]) (yBQ a b)):=⟨Tryz.call124,fun a b=>iM Tryz.func124⟩
instance t_bG:FI J0 77 (∀(a:List (List Int))(b:List (List Int)),FnK J0 77 [T.ro (lM a),T.ro (lM b)] (fun r=>[B r]) (fun _=>[]) (zY5 a b)):=⟨Jb6,fun a b=>iM Tryz.func77⟩
instance:HS Tryz.f11.8 [(0,5,0,.fz 13)]:=⟨⟩
instance:HS Tryz.f19.8 [(1,2,0,.trf 14 2 3 [2,0])]:=⟨⟩
instance:HS Jbx.8 [(2,2,0,.tr 9 13),(0,21,0,.fz 9),(0,21,1,.res 20 9 [])]:=⟨⟩
instance:HX Jbx.8 [(0,13,0,.fzl 2 11)]:=⟨⟩
instance:HS Tryz.f134.8 [(0,12,0,.fz 8),(0,12,1,.fz 11)]:=⟨⟩
instance t_bW:FI J0 134 (∀(a:List Int)(b c:Int),FnK J0 134 [T.ro (lV a),I b,I c] (fun r=>[lV r]) (fun _=>[]) (zY6 a b c)):=⟨Tryz.call134,fun a b c=>iM Tryz.func134⟩
instance:HS Tryz.f93.8 [(1,6,0,.trf 129 0 9 [0,0]),(1,6,1,.trf 129 1 9 [1,0]),(1,6,2,.trf 129 2 9 [2,0])]:=⟨⟩
instance(a:SPr)(b:List (List Int)):LN (zP4 a b) 9:=⟨⟩
instance(c:SPr)(d:List (List Int))(A0 A1 A2:T):LHk (R:=SPr) (zP4 c d) (T.ptr (T.agg [A0,A1,A2])) [0,1,2,6,7,44,45] [] (fun b=>[(9,T.ptr (T.agg [A0,L 1 lV b.1,A2])),(10,I b.2.1),(46,I b.2.2)]) (.xe 0 [44,45] fun a=>[(9,T.ptr (T.agg [A0,L 1 lV a.1,A2])),(10,I a.2)]):=⟨⟩
instance(c:List (List Int))(a:(List (List (List Int)))×Int×Int)(b:List (List Int)):LN (zP5 c a b) 9:=⟨⟩
instance(e:List (List Int))(c:(List (List (List Int)))×Int×Int)(d:List (List Int))(A0 A1 A2:T):LHk (R:=SPr) (zP5 e c d) (T.ptr (T.agg [A0,A1,A2])) [0,1,2,6,7,13,65,66,75,76] [] (fun a=>[(9,T.ptr (T.agg [A0,A1,L 1 lM a.1])),(10,I a.2.1),(77,I a.2.2)]) (.xe 4 [75,76] fun b=>[(9,T.ptr (T.agg [A0,A1,L 1 lM b.1])),(10,I b.2)]):=⟨⟩
instance(c:SPr)(a:(List (List (List Int)))×Int×Int)(b:List (List Int)):LN (zP6 c a b) 9:=⟨⟩
instance(e:SPr)(b:(List (List (List Int)))×Int×Int)(c:List (List Int))(A0 A1 A2:T):LHk (R:=SPr) (zP6 e b c) (T.ptr (T.agg [A0,A1,A2])) [0,1,2,6,7,10,13,65,66,105,106] [] (fun a=>[(9,T.ptr (T.agg [A0,A1,L 1 lM a.1])),(107,I a.2)]) (.xe 6 [13,105,106] fun d=>[(9,T.ptr (T.agg [A0,A1,L 1 lM d]))]):=⟨⟩
instance(a:SPr)(b:zE)(c:List (List Int)):LN (zP7 a b c) 9:=⟨⟩
instance(c:SPr)(d:zE)(e:List (List Int))(A0 A1 A2:T):LHk (R:=SPr) (zP7 c d e) (T.ptr (T.agg [A0,A1,A2])) [0,1,2,6,7,65] [] (fun a=>[(9,T.ptr (T.agg [A0,A1,L 1 lM a.1])),(10,I a.2.1),(66,I a.2.2)]) (.xe 2 [0,1,2,7,65] fun b=>[(9,T.ptr (T.agg [A0,A1,L 1 lM b]))]):=⟨⟩
instance t_m:FI J0 93 (∀(a:SPr)(b:zE)(c:List (List Int)),FnK J0 93 [T.ro ((Pt yW) a),T.ro ((Pt xS) b),T.ro (lM c)] (fun r=>[yW r]) (fun _=>[]) (f_m a b c)):=⟨Tryz.call93,fun a b c=>iM Tryz.func93⟩
instance:HS Tryz.f56.8 [(2,6,0,.tr 7 16),(0,29,0,.tr 23 7),(2,10,0,.tr 7 29),(0,33,0,.tr 32 7),(0,34,0,.tr 31 5),(2,12,0,.tr 5 34)]:=⟨⟩
instance(b:List (List Int))(c:(List (List Int))×Int):LH (R:=SPr) (zWW b c) [0,1,4,5,6,12,13,17,18] [] (fun a=>[(7,L 1 I a.1),(19,I a.2)]) (.xe 2 [6,17,18] fun d=>[(7,L 1 I d)]):=⟨⟩
instance(b:List (List Int))(c:Int):LH (R:=SPr) (zSM b c) [0,1,4,12] [] (fun a=>[(5,L 1 lV a.1),(13,I a.2)]) (.xe 0 [12] fun d=>[(5,L 1 lV d)]):=⟨⟩
instance t_V:FI J0 56 (∀(a:SPr)(b:List (List Int)),FnK J0 56 [T.ro ((Pt yW) a),T.ro (lM b)] (fun r=>[yW r]) (fun _=>[]) (f_V a b)):=⟨Tryz.call56,fun a b=>iM Tryz.func56⟩
instance(a b:List Int):LH (R:=Bool) (zWx a b) [0,1] [] (fun c=>[(5,I c)]) (.xs (.xe 0 [0,1] fun _=>[]) .xr):=⟨⟩
instance t_a1:FI J0 31 (∀(a b:List Int),FnK J0 31 [T.ro (lV a),T.ro (lV b)] (fun r=>[B r]) (fun _=>[]) (zWy a b)):=⟨Tryz.call31,fun a b=>iM Tryz.func31⟩
instance(a:List (List Int))(b:List (List Int)):LH (R:=Bool) (zWz a b) [0,1] [] (fun c=>[(5,I c)]) (.xs (.xe 0 [0,1] fun _=>[]) .xr):=⟨⟩
instance t_a2:FI J0 32 (∀(a:List (List Int))(b:List (List Int)),FnK J0 32 [T.ro (lM a),T.ro (lM b)] (fun r=>[B r]) (fun _=>[]) (zW0 a b)):=⟨Tryz.call32,fun a b=>iM Tryz.func32⟩
instance(a:List (List (List Int)))(b:List (List (List Int))):LH (R:=Bool) (zW1 a b) [0,1] [] (fun c=>[(5,I c)]) (.xs (.xe 0 [0,1] fun _=>[]) .xr):=⟨⟩
instance t_bi:FI J0 33 (∀(a:List (List (List Int)))(b:List (List (List Int))),FnK J0 33 [T.ro (lC a),T.ro (lC b)] (fun r=>[B r]) (fun _=>[]) (yBR a b)):=⟨Tryz.call33,fun a b=>iM Tryz.func33⟩
instance t_bT:FI J0 10 (∀(a b:SPr),FnK J0 10 [qPr a,qPr b] (fun r=>[B r]) (fun _=>[]) (zY7 a b)):=⟨Tryz.call10,fun a b=>iM Tryz.func10⟩
instance:HS Tryz.f38.8 [(0,28,0,.tr 22 4),(2,7,0,.tr 4 28)]:=⟨⟩
instance(b:SPr)(c:zE)(d:(List (List Int))):LH (R:=(List (List Int))) (zWT b c d) [0,3,16,17] [] (fun a=>[(4,L 1 lV a.1),(18,I a.2)]) (.xe 0 [0,16,17] fun e=>[(4,L 1 lV e)]):=⟨⟩
instance t_bf:FI J0 38 (∀(a:SPr),FnK J0 38 [T.ro ((Pt yW) a)] (fun r:(List (List Int))=>[lM r]) (fun _=>[]) (zYO a)):=⟨Tryz.call38,fun a=>iM Tryz.func38⟩
instance:HS Tryz.f29.8 [(2,5,0,.tr 5 12)]:=⟨⟩
instance t_b4:FI J0 29 (∀(a:SPr),FnK J0 29 [T.ro ((Pt yW) a)] (fun r:(List (List Int))×Int=>[lM r.1,I r.2]) (fun _=>[]) (zYU a)):=⟨Tryz.call29,fun a=>iM Tryz.func29⟩
instance:HS Jbj.8 [(3,0,0,.tr 6 14),(0,24,0,.tr 23 6),(2,6,0,.tr 6 24),(0,52,0,.tr 49 6),(2,11,0,.tr 6 52),(2,12,0,.tr 7 59),(0,77,0,.fz 76),(0,78,0,.tr 60 6),(2,13,0,.tr 6 78),(0,97,0,.nil 95 8),(0,98,0,.fz 97),(0,99,0,.tr 90 6),(2,18,0,.tr 6 99),(1,107,0,.tr 106 7),(1,107,1,.fz 106),(1,107,2,.nil 106 9)]:=⟨⟩
instance:DrH Jbj.8 24:=⟨⟩
instance(d:(List Int)×xD)(a:(List Int)):LH (R:=Bool×xD) (zSQ d a) [0,5,7,8,82,83] [] (fun c=>[(6,L 1 (Ro lV) c.1),(84,I c.2)]) (.xe 2 [82,83] fun b=>[(6,L 1 (Ro lV) b)]):=⟨⟩
instance:LH (R:=Bool×xD) zSR [] [] (fun b=>[(0,T.ptr (T.agg [T.ro ((Pt yW) b.1),L 1 (Ro (Nz 1 I)) b.2.1])),(5,B b.2.2.1),(6,L 1 (Ro lV) b.2.2.2)]) (.xe 0 [] fun a=>[(0,T.ptr (T.agg [T.ro ((Pt yW) a.1),L 1 (Ro (Nz 1 I)) a.2.1])),(5,B a.2.2)]):=⟨⟩
instance t_E:FI J0 141 (∀(a:xD)(b:List (List Int)),FnK J0 141 [T.ptr (T.agg [T.ro ((Pt yW) a.p),L 1 (Ro (Nz 1 I)) a.base]),T.ro (lM b)] (fun r=>[B r.1]) (fun r=>[(0,(Pt (fun x=>T.agg [(Ro (Pt yW)) x.p,(L 1 (Ro (Nz 1 I))) x.base])) r.2)]) (f_E a b)):=⟨Tryz.call141,fun a b=>iM Tryz.func141⟩
instance:HS Tryz.f137.8 [(2,2,0,.tr 7 13),(2,7,0,.tr 9 19),(0,31,0,.fz 30)]:=⟨⟩
instance(c:SPr)(d:List (List Int))(e:(List (List Int))):LH (R:=(List (List Int))) (zJS c d e) [0,2,9,20,21] [] (fun a=>[(7,T.ptr (T.agg [T.ro ((Pt yW) a.1),L 1 (Ro (Nz 1 I)) a.2.1])),(8,B a.2.2.1),(22,I a.2.2.2)]) (.xe 2 [9,20,21] fun b=>[(7,T.ptr (T.agg [T.ro ((Pt yW) b.1),L 1 (Ro (Nz 1 I)) b.2.1])),(8,B b.2.2)]):=⟨⟩
instance(c:SPr)(d:List (List Int)):LH (R:=(List (List Int))) (zRt c d) [0,2] [] (fun b=>[(7,T.ptr (T.agg [T.ro ((Pt yW) b.1),L 1 (Ro (Nz 1 I)) b.2.1])),(8,B b.2.2)]) (.xe 0 [0,2] fun a=>[(7,T.ptr (T.agg [T.ro ((Pt yW) a.1),L 1 (Ro (Nz 1 I)) a.2]))]):=⟨⟩
instance t_ad:FI J0 137 (∀(a:SPr)(b:List (List Int))(c:List (List Int)),FnK J0 137 [T.ro ((Pt yW) a),T.ro (lM b),T.ro (lM c)] (fun r:(List (List Int))=>[lM r]) (fun _=>[]) (zYX a b c)):=⟨Tryz.call137,fun a b c=>iM Tryz.func137⟩
instance:HS Tryz.f97.8 [(0,30,0,.tr 24 7),(2,9,0,.tr 7 30),(0,38,0,.fz 37)]:=⟨⟩
instance(b:SPr)(c:List (List Int))(d:List Int):LH (R:=(List (List Int))) (zXm b c d) [0,1,2,9,12,13,14,18,19] [] (fun a=>[(7,L 1 lV a.1),(20,I a.2)]) (.xe 2 [9,18,19] fun e=>[(7,L 1 lV e)]):=⟨⟩
instance(b:SPr)(c:List (List Int))(d:List (List Int)):LH (R:=(List (List Int))) (zSW b c d) [0,1,2,12,13] [] (fun a=>[(7,L 1 lV a.1),(14,I a.2)]) (.xe 0 [12,13] fun e=>[(7,L 1 lV e)]):=⟨⟩
instance t_W:FI J0 97 (∀(a:SPr)(b:List (List Int))(c:List (List Int)),FnK J0 97 [T.ro ((Pt yW) a),T.ro (lM b),T.ro (lM c)] (fun r:(List (List Int))=>[lM r]) (fun _=>[]) (f_W a b c)):=⟨Tryz.call97,fun a b c=>iM Tryz.func97⟩
instance:HS Tryz.f99.8 [(2,2,0,.tr 5 7)]:=⟨⟩
instance t_bL:FI J0 99 (∀(a:SPr)(b:List (List Int)),FnK J0 99 [T.ro ((Pt yW) a),T.ro (lM b)] (fun r:(List (List Int))=>[lM r]) (fun _=>[]) (zXa a b)):=⟨Tryz.call99,fun a b=>iM Tryz.func99⟩
instance:HS Tryz.f96.8 [(2,2,0,.tr 5 12),(0,25,0,.tr 19 5),(2,6,0,.tr 5 25)]:=⟨⟩
instance(b:List (List Int))(c:SPr)(d:Int):LH (R:=(List (List Int))) (zJT b c d) [1,2,13,14] [] (fun a=>[(5,L 1 lV a.1),(15,I a.2)]) (.xe 0 [2,13,14] fun e=>[(5,L 1 lV e)]):=⟨⟩
instance t_ao:FI J0 96 (∀(a:List (List Int))(b:SPr)(c:Int),FnK J0 96 [T.ro (lM a),T.ro ((Pt (Pt yW)) b),T.ro ((Pt I) c)] (fun r:(List (List Int))=>[lM r]) (fun _=>[]) (zXn a b c)):=⟨Jb4,fun a b c=>iM Tryz.func96⟩
end
theorem yFF(x0:List (List Int))(x1:SPr×Int)(r:(List (List (List Int))))(h:zYY x0 x1=jd r):FnC J0 94 [T.ro (lM x0),T.ro ((Fv2 96 (Pt (Pt yW)) (Pt I)) x1)] [(L 1 (Ro lM)) r] []:=by refine fB Tryz.func94 (fun St W w0 v=>?_);refine sR (oP (zDm 1 rfl) ?_);refine rN (sR (xR ?_));refine oP (zOf elt_24 [.tmp 7] [.slot 7 (T.ro (lM x0))] [x0] (Ro lM) ⟨.slot _ _,trivial⟩ (pkS rfl (yL trivial) rfl pkN) rfl rfl) ?_;refine tH ?_;refine RW.ghost (zQ.tr 5 8 _ rfl rfl (yL (xF (fun _=>trivial))) rfl) ?_;refine rN (CW.block ?_);obtain⟨r8,hr8,h⟩:=bd h;refine CW.lp (s:=[x0]) (zRu x1) (fun s1:(List (List (List Int)))=>vU [(1,T.ro ((Fv2 96 (Pt (Pt yW)) (Pt I)) x1)),(5,L 1 (Ro lM) s1)]) (fun(r8:(List (List (List Int)))) e E=>e=.ret/\vH ⟨St,W,w0,Jbv.ntmps⟩ J0 Jbv.8 [T.ro (lM x0),T.ro ((Fv2 96 (Pt (Pt yW)) (Pt I)) x1)] [(L 1 (Ro lM)) r8] [] .ret E) (.has ⟨rfl,rfl,trivial⟩) (fun s1 x h=>?_) hr8 (fun e E hq=>?_);refine CW.block (sR (xR ?_));refine xR ?_;refine xR ?_;refine zTU ?_;obtain⟨v1,bR,h⟩:=bd h;refine oP (zHf bR rfl rfl rfl) ?_;obtain⟨v2,cr,h⟩:=bd h;refine yC8 ?_;refine yC7 ?_;obtain⟨r3,aB,h⟩:=bd h;refine oP (zXE (xs:=[.tmp 15]) (ts:=[(Pt (Pt yW)) x1.1,(Pt I) x1.2]) rfl rfl Jb4 (FnK.go (t_ao.h _ _ _) aB) ⟨(agC _ rfl rfl rfl),trivial⟩ rfl (zLR (f:=lM) inferInstance zFm) rfl) ?_;refine tH ?_;refine RW.ghost (zQ.tr 6 16 _ rfl rfl (yL (xF (Enc.clean (f:=lV)))) rfl) ?_;refine rN (CW.seq (sR (xR ?_)));refine xR ?_;refine xR ?_;refine zTU ?_;obtain⟨v4,pT,h⟩:=bd h;refine oP (zHf pT rfl rfl rfl) ?_;obtain⟨v5,hv5,h⟩:=bd h;refine yC8 ?_;refine yC7 ?_;obtain⟨r6,ud,h⟩:=bd h;refine cA Jb6 (FnK.go (t_bG.h _ _) ud) ?_;refine rN (cn h (fun hc h=>?_) (fun hc h=>?_));refine sR (xR ?_);refine tH ?_;refine RW.ghost (zQ.tr 4 5 _ rfl rfl (yL (xF (fun _=>trivial))) rfl) ?_;refine rN (CW.ret (rA (rB ?_)));exact eX h;refine CW.skip (nA (CW.region (xR ?_)));refine xR ?_;refine RW.ghost (zQ.tr 27 6 _ rfl rfl (yL (xF (Enc.clean (f:=lV)))) rfl) ?_;refine RW.ghost (zQ.frz 27 (k:=1) (f:=lV) (g:=lV) r3 rfl inferInstance) ?_;refine oP (zOf elt_24 [.tmp 27] [.slot 27 (T.ro (lM r3))] [r3] (Ro lM) ⟨.slot _ _,trivial⟩ (pkS rfl (yL trivial) rfl pkN) rfl rfl) ?_;refine RW.ghost (zQ.tr 26 5 _ rfl rfl (yL (xF (fun _=>trivial))) rfl) ?_;obtain⟨v7,hv7,h⟩:=bd h;refine oP (zKt (f:=(Ro lM)) elt_24 (fun _=>rfl) hv7 rfl (zAG rfl rfl) rfl) ?_;refine tH ?_;refine RW.ghost (zQ.tr 5 29 _ rfl rfl (yL (xF (fun _=>trivial))) rfl) ?_;refine RW.nil ?_;exact nB (eN h);obtain⟨rfl,hq⟩:=hq;refine rB ?_;obtain rfl:=sI h;exact hq
instance t_av:FI J0 94 (∀(a:List (List Int))(b:SPr×Int),FnK J0 94 [T.ro (lM a),T.ro ((Fv2 96 (Pt (Pt yW)) (Pt I)) b)] (fun r:(List (List (List Int)))=>[(L 1 (Ro lM)) r]) (fun _=>[]) (zYY a b)):=⟨Jb5,fun a b=>FnK.mk (yFF a b)⟩
theorem yFG(x0:SPr)(x1:Int)(r:(List (List (List Int))))(h:zNQ x0 x1=jd r):FnC J0 57 [T.ro ((Pt yW) x0),I x1] [(L 1 (Ro lM)) r] []:=by refine fB Tryz.func57 (fun St W w0 v=>?_);refine sR (zTV ?_);refine zTV ?_;refine oP (zDm 1 rfl) ?_;refine rN (CW.pin 2 rfl (fun p2=>?_));refine CW.pin 3 rfl (fun p3=>?_);refine sR (zMe ?_);obtain⟨r1,mz,h⟩:=bd h;refine cA Tryz.call95 (FnK.go (t_bz.h _) mz) ?_;refine RW.ghost (zQ.frzG 2 _ (t':=T.ro ((Pt (Pt yW)) x0)) rfl (fzP rfl)) ?_;refine RW.ghost (zQ.frzG 3 _ (t':=T.ro ((Pt I) x1)) rfl (fzP rfl)) ?_;refine oP (yDv (xs:=[.tmp 2,.tmp 3]) (ts:=[(Pt (Pt yW)) x0,(Pt I) x1]) ⟨rfl,rfl,trivial⟩ rfl rfl) ?_;refine RW.ghost (zQ.frzG 6 _ (t':=T.ro (lM r1)) rfl (fzO inferInstance)) ?_;obtain⟨r2,pZ,h⟩:=bd h;refine oP (zQj (xs:=[.tmp 6,.tmp 7]) Jb5 (FnK.go (t_av.h _ _) pZ) (afC rfl rfl (afC rfl rfl afN)) rfl ⟨(xF (fun _=>trivial)),trivial⟩ rfl rfl) ?_;refine tH ?_;refine RW.ghost (zQ.tr 4 8 _ rfl rfl (yL (xF (fun _=>trivial))) rfl) ?_;refine rN (CW.ret ?_);obtain rfl:=sI h;exact rT
instance t_a0:FI J0 57 (∀(a:SPr)(b:Int),FnK J0 57 [T.ro ((Pt yW) a),I b] (fun r:(List (List (List Int)))=>[(L 1 (Ro lM)) r]) (fun _=>[]) (zNQ a b)):=⟨Tryz.call57,fun a b=>FnK.mk (yFG a b)⟩
section
attribute [local irreducible] RW CW DK OkL Ok yQ yT wF vH XS.post rng vK vA ixO zR yI wJ yG zG GTo zQ FnC FnK wU uH Kp Lk BsL BuL RpL Bk Lc
instance:HS Tryz.f30.8 [(0,38,0,.fz 5),(0,58,0,.trq 48 7 [2,0]),(1,4,0,.trf 61 2 7 [2,0])]:=⟨⟩
instance(a:SPr)(b:List (List Int)):LN (zJU a b) 7:=⟨⟩
instance(c:SPr)(d:List (List Int))(A0 A1 A2:T):LHk (R:=zS) (zJU c d) (T.ptr (T.agg [A0,A1,A2])) [0,4,41,42] [] (fun b=>[(7,T.ptr (T.agg [A0,A1,L 1 lV b.1])),(43,I b.2)]) (.xe 0 [0,41,42] fun a=>[(7,T.ptr (T.agg [A0,A1,L 1 lV a]))]):=⟨⟩
instance t_aJ:FI J0 30 (∀(a:SPr)(b:List (List Int)),FnK J0 30 [T.ro ((Pt yW) a),T.ro (lM b)] (fun r=>[wB r]) (fun _=>[]) (zYZ a b)):=⟨Tryz.call30,fun a b=>iM Tryz.func30⟩
instance:HS Tryz.f43.8 [(2,4,0,.trq 6 18 [0])]:=⟨⟩
end
section
attribute [local irreducible] RW CW DK OkL Ok yQ yT wF vH XS.post rng vK vA ixO zR yI wJ yG zG GTo zQ FnC FnK wU uH Kp Lk BsL BuL RpL Bk Lc
instance:HS Tryz.f9.8 [(2,2,0,.trq 4 7 [0])]:=⟨⟩
instance t_bQ:FI J0 9 (∀(a:SPr),FnK J0 9 [qPr a] (fun r=>[B r.1,I r.2]) (fun _=>[]) (zXo a)):=⟨Tryz.call9,fun a=>iM Tryz.func9⟩
instance t_bR:FI J0 3 (∀(a:SPr),FnK J0 3 [qPr a] (fun r=>[B r]) (fun _=>[]) (zZa a)):=⟨Tryz.call3,fun a=>iM Tryz.func3⟩
instance:HS Tryz.f12.8 [(2,5,0,.tr 5 11)]:=⟨⟩
instance:HS Tryz.f4.8 [(1,4,0,.trf 23 2 22 [2,0]),(1,7,0,.trf 30 2 29 [2,0]),(1,12,0,.trf 77 2 76 [2,0])]:=⟨⟩
instance:HS Tryz.f20.8 [(2,4,0,.trq 6 17 [0])]:=⟨⟩
end
end Go.Wk
