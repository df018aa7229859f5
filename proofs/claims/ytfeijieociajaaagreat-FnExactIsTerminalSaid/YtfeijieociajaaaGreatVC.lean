/- The program's IsTerminal returns what the reference's returns,for all arguments;no conditions. -/
import Derived.Test.YtfeijieociajaaaGreatVA
import Derived.Test.YtfeijieociajaaaGreatVB
import Derived.Test.YtfeijieociajaaaGreatWT
open Go.Proofs.Tryz renaming prog->J0,underlying174->Ub,underlying3->Qv,call152->Qx,f128->Ja7,f71->Jaf,call176->Jat,f48->Jbw
open List renaming replicate→J1
open Nat renaming le_refl->Je,zero_le->Lb
open Option renaming some->jd,none->je
open Bool renaming true->jf,false->jg
namespace Go.Wk
open Go Go.Proofs Go.Ab
set_option maxRecDepth 100000
set_option maxHeartbeats 4000000
section
attribute [local irreducible] RW CW DK OkL Ok yQ yT wF vH XS.post rng vK vA ixO zR yI wJ yG zG GTo zQ FnC FnK wU uH Kp Lk BsL BuL RpL Bk Lc
instance t_bN:FI J0 201 (∀(a:SPr)(b c:List Int),FnK J0 201 [qPr a,T.ro (lV b),T.ro (lV c)] (fun r=>[lV r]) (fun _=>[]) (zXc a b c)):=⟨Tryz.call201,fun a b c=>iM Tryz.func201⟩
instance(a b:List Int):LH (R:=Bool) (zWd a b) [0,1,12] [] (fun c=>[(13,I c)]) (.xs (.xe 0 [0,1,12] fun _=>[]) .xr):=⟨⟩
instance t_al:FI J0 125 (∀(a b:List Int),FnK J0 125 [T.ro (lV a),T.ro (lV b)] (fun r=>[B r]) (fun _=>[]) (zLm a b)):=⟨Tryz.call125,fun a b=>iM Tryz.func125⟩
instance:HS Tryz.f159.8 [(2,2,0,.tr 5 7)]:=⟨⟩
instance t_aP:FI J0 159 (∀(a b:Int),FnK J0 159 [I a,I b] (fun r=>[lV r]) (fun _=>[]) (zIH a b)):=⟨Tryz.call159,fun a b=>iM Tryz.func159⟩
instance(b:SPr):LH (R:=Int) (zWS b) [9,10] [] (fun a=>[(3,I a.1),(11,I a.2)]) (.xe 0 [9,10] fun c=>[(3,I c)]):=⟨⟩
instance t_bq:FI J0 66 (∀(a:SPr),FnK J0 66 [T.ro ((Pt yW) a)] (fun r=>[I r]) (fun _=>[]) (yBX a)):=⟨Tryz.call66,fun a=>iM Tryz.func66⟩
instance:HS Tryz.f104.8 [(2,6,0,.tr 7 16),(0,23,0,.tr 22 7),(0,24,0,.trq 21 5 [2,0]),(1,4,0,.trf 27 2 5 [2,0])]:=⟨⟩
instance(a:Int):LN (zLo a) 5:=⟨⟩
instance(a:Int)(A0 A1 A2:T):LHk (R:=zS) (zLo a) (T.ptr (T.agg [A0,A1,A2])) [1,4,11] [] (fun b=>[(5,T.ptr (T.agg [A0,I a,L 1 lV b.1])),(12,I b.2)]) (.xe 0 [1,11] fun c=>[(5,T.ptr (T.agg [A0,I a,L 1 lV c]))]):=⟨⟩
instance t_O:FI J0 104 (∀(a b:Int),FnK J0 104 [I a,I b] (fun r=>[wB r]) (fun _=>[]) (f_O a b)):=⟨Tryz.call104,fun a b=>iM Tryz.func104⟩
instance:HS Tryz.f67.8 [(0,24,0,.trq 23 22 [2]),(0,25,0,.trq 19 7 [2,0]),(1,6,0,.trf 28 2 7 [2,0])]:=⟨⟩
instance(d:SPr)(a b:Int):LH (R:=zE) (zGh d a b) [1,2,6,15] [] (fun c=>[(7,T.ptr (T.agg [I a,I b,L 1 lM c.1])),(16,I c.2)]) (.xe 0 [1,2,15] fun e=>[(7,T.ptr (T.agg [I a,I b,L 1 lM e]))]):=⟨⟩
instance t_ac:FI J0 67 (∀(a:SPr)(b c:Int),FnK J0 67 [T.ro ((Pt yW) a),I b,I c] (fun r=>[xS r]) (fun _=>[]) (zPF a b c)):=⟨Tryz.call67,fun a b c=>iM Tryz.func67⟩
instance t_bJ:FI J0 92 (∀(a:SPr),FnK J0 92 [T.ro ((Pt yW) a)] (fun r=>[I r]) (fun _=>[]) (zW6 a)):=⟨Tryz.call92,fun a=>iM Tryz.func92⟩
instance:HS Tryz.f192.8 [(0,20,0,.tr 16 3),(2,8,0,.tr 3 20)]:=⟨⟩
instance(b:(List Int)×Int)(c:Int):LH (R:=(List Int)) (zWn b c) [4,6,7,8,13] [] (fun a=>[(3,L 1 I a.1),(14,I a.2)]) (.xe 2 [4,13] fun d=>[(3,L 1 I d)]):=⟨⟩
instance(b:List Int):LH (R:=(List Int)) (zWo b) [6,7] [] (fun a=>[(3,L 1 I a.1),(8,I a.2)]) (.xe 0 [6,7] fun c=>[(3,L 1 I c)]):=⟨⟩
instance t_C:FI J0 192 (∀(a:List Int),FnK J0 192 [T.ro (lV a)] (fun r=>[lV r]) (fun _=>[]) (f_C a)):=⟨Tryz.call192,fun a=>iM Tryz.func192⟩
instance t_ca:FI J0 205 (∀(a b:Int),FnK J0 205 [(IK .u64) a,(IK .u64) b] (fun r=>[(IK .u64) r.1,(IK .u64) r.2]) (fun _=>[]) (yEs a b)):=⟨Tryz.call205,fun a b=>iM Tryz.func205⟩
instance t_bw:FI J0 176 (∀(a b:Int),FnK J0 176 [(IK .u64) a,(IK .u64) b] (fun r=>[(IK .u64) r.1,(IK .u64) r.2]) (fun _=>[]) (zWm a b)):=⟨Jat,fun a b=>iM Tryz.func176⟩
end
theorem u_k(x0:List Int)(x1:Int)(r:(List Int))(h:f_k x0 x1=jd r):FnC J0 133 [T.ro (lV x0),I x1] [lV r] []:=by
 refine fB Tryz.func133 (fun St W w0 v=>?_);refine sR (oP (zDm 1 rfl) ?_);refine rN (CW.seq (sR (xR ?_)));refine zQs ?_;refine rN (cn h (fun hc h=>?_) (fun hc h=>?_))
 ·refine CW.region ?_
  cases h
 ·refine CW.skip (nA (sR (xR ?_)))
  refine zTR ?_;refine oP (zKv Qv Ub rfl rfl) ?_;refine xR ?_;refine oP (zKv Qv Ub rfl rfl) ?_;obtain⟨r1,mz,h⟩:=bd h;refine cA Jat (FnK.go (t_bw.h _ _) mz) ?_;refine yC9 ?_;refine zZx ?_;refine zZx ?_;refine tH ?_;refine tH ?_;refine rN (CW.seq (sR (xR ?_)));refine oP (zTL rfl rfl rfl) ?_;refine xR ?_;refine RW.cases 23 _ rfl (fun hc=>?_) (fun hc=>?_)
  ·have h:=cT hc h
   refine sk2 ?_;refine sk2 ?_;refine zTS ?_;refine rN (CW.condT rfl ?_);refine CW.region ?_;cases h
  ·have h:=cF hc h
   refine yE3 ?_;refine RW.cons (wI.guard 2 jg 23 (zTL rfl rfl rfl)) ?_;refine zTS ?_;refine rN (cn h (fun hc h=>?_) (fun hc h=>?_))
   ·refine CW.region ?_
    cases h
   ·refine CW.skip (nA (sR (xR ?_)))
    refine oP (zKv Ub Qv rfl rfl) ?_;obtain⟨m2,hm2,h⟩:=bd h;refine oP (zQg (f:=I) (z:=0) elt_22 (rfl) hm2 rfl rfl rfl) ?_;refine tH ?_;refine RW.ghost (zQ.tr 7 30 _ rfl rfl (yL (xF (Enc.clean (f:=I)))) rfl) ?_;refine rN (CW.seq (CW.to [(0,T.ro (lV x0)),(7,L 1 I (J1 m2 (0:Int)))] ⟨rfl,rfl,trivial⟩ ?_));refine CW.region (xR ?_);refine xR ?_;refine oP (zKw elt_22 rfl (fun _=>(zCl.same rfl rfl)) (fun _=>(zFS.ro (zAG rfl rfl))) (Lb _) (Je _) rfl) ?_;refine tH ?_;refine rN (CW.seq (CW.block ?_));obtain⟨r6,ud,h⟩:=bd h;refine CW.lp (s:=(wP (J1 m2 (0:Int)) 0 (x0.take (((J1 m2 (0:Int)).length)-0)),((min x0.length (((J1 m2 (0:Int)).length)-0):Nat):Int))) zBI (fun s1:(List Int)×Int=>vU [(7,L 1 I s1.1),(8,I s1.2)]) (fun(r6:(List Int)) e E=>e=.exit 0/\zQ ⟨St,W,w0,Tryz.f133.ntmps⟩ E (vU [(7,L 1 I r6)])) (.has ⟨rfl,rfl,trivial⟩) (fun s1 x h=>?_) ud (fun e E hq=>?_)
    ·refine CW.seq (sR (xR ?_))
     refine xR ?_;refine zTU ?_;refine zQs ?_;refine rN (cn h (fun hc h=>?_) (fun hc h=>?_))
     ·refine CW.skip (nA (CW.block ?_))
      obtain⟨v3,cY,h⟩:=bd h;obtain⟨v4,pT,h⟩:=bd h;obtain⟨v5,hv5,h⟩:=bd h;refine CW.dk ?_;refine zDC [(8,_)] ?_;refine zDC [(7,_)] ?_;refine zDC [(8,_)] ?_;refine dG [(39,_),(7,_),(40,_)] [([(41,jd (T.sub 7 [] 1 ((s1.2:Int).toNat) ((s1.1.length:Int).toNat)))],[(41,0)])] ⟨rfl,rfl,rfl,trivial⟩ (fun E h=>wI.opE (zTG row_22 cY (zEl h.1 h.2.1 rfl rfl) (yAp (zJg cY) h.2.2.1) yC0 rfl) rfl) ?_;refine zDC [(7,_)] ?_;refine zDC [(8,_)] ?_;refine dG [(42,_),(7,_),(43,_)] [([(44,jd (T.sub 7 [] 1 ((0:Int).toNat) ((s1.2:Int).toNat)))],[(44,0)])] ⟨rfl,rfl,rfl,trivial⟩ (fun E h=>wI.opE (zTG row_22 pT (zEl h.1 h.2.1 rfl rfl) yC1 (yAp (zJh pT) h.2.2.1) rfl) rfl) ?_;refine dG [(41,_),(7,_),(44,_)] [([(7,jd (L 1 I (wP s1.1 ((s1.2:Int).toNat) (v4.take (((s1.1.length:Int).toNat)-((s1.2:Int).toNat))))))],[(7,1)]),([(45,jd (I ((min v4.length (((s1.1.length:Int).toNat)-((s1.2:Int).toNat)):Nat):Int)))],[(45,0)])] ⟨rfl,rfl,rfl,trivial⟩ (fun E h=>wI.opE (zKw elt_22 h.2.1 (fun _=>(zCl.sub h.1)) (fun _=>(zFS.sub h.2.2.1 h.2.1 rfl pT)) (zR5 cY) (zR6 cY) rfl) rfl) ?_;refine yCA [(38,_),(45,_)] ?_;refine yE4 [(46,_)] ?_;refine dNA zLt ?_;exact nB (eN h)
     ·refine CW.exit (xA ?_)
      exact eX h
    ·obtain⟨rfl,hg⟩:=hq
     refine xB ?_;refine nA (CW.ghost hg ?_);refine sR (xR ?_);refine tH ?_;refine RW.ghost (zQ.tr 4 7 _ rfl rfl (yL (xF (Enc.clean (f:=I)))) rfl) ?_;refine rN (CW.ret ?_);obtain rfl:=sI h;exact rT
instance t_k:FI J0 133 (∀(a:List Int)(b:Int),FnK J0 133 [T.ro (lV a),I b] (fun r=>[lV r]) (fun _=>[]) (f_k a b)):=⟨Tryz.call133,fun a b=>FnK.mk (u_k a b)⟩
section
attribute [local irreducible] RW CW DK OkL Ok yQ yT wF vH XS.post rng vK vA ixO zR yI wJ yG zG GTo zQ FnC FnK wU uH Kp Lk BsL BuL RpL Bk Lc
instance t_aF:FI J0 152 (∀(a b:Int),FnK J0 152 [I a,I b] (fun r=>[lV r]) (fun _=>[]) (zNF a b)):=⟨Qx,fun a b=>iM Tryz.func152⟩
instance t_bF:FI J0 195 (∀(a:zE)(b:Int),FnK J0 195 [T.ro ((Pt xS) a),I b] (fun r=>[(fun x=>T.agg [I x.Prime,I x.tC,(Ro lM) x.Rows]) r]) (fun _=>[]) (zWl a b)):=⟨Tryz.call195,fun a b=>iM Tryz.func195⟩
instance(b:List Int)(c:Int)(a:List Int):LH (R:=Bool) (zPC b c a) [1,2,49,50] [] (fun d=>[(51,I d)]) (.xs (.xe 0 [1,2,49,50] fun _=>[]) .xr):=⟨⟩
instance(a:List Int)(b:Int)(c:List Int):LH (R:=Bool) (zPD a b c) [1,2,49,50] [] (fun d=>[(51,I d)]) (.xs (.xe 0 [1,2,49,50] fun _=>[]) .xr):=⟨⟩
instance t_J:FI J0 193 (∀(a:SPr)(b:List Int)(c:Int),FnK J0 193 [T.ro ((Pt yW) a),T.ro (lV b),I c] (fun r=>[B r]) (fun _=>[]) (f_J a b c)):=⟨Tryz.call193,fun a b c=>iM Tryz.func193⟩
instance(a:SPr)(b:List Int):LH (R:=Int) (zNG a b) [0,1,7] [] (fun c=>[(8,I c)]) (.xs (.xe 0 [0,1,7] fun _=>[]) .xr):=⟨⟩
instance t_at:FI J0 153 (∀(a:SPr)(b:List Int),FnK J0 153 [T.ro ((Pt yW) a),T.ro (lV b)] (fun r=>[I r]) (fun _=>[]) (zSI a b)):=⟨Tryz.call153,fun a b=>iM Tryz.func153⟩
instance:HS Tryz.f114.8 [(0,16,0,.tr 12 3),(2,6,0,.tr 3 16)]:=⟨⟩
instance(b:List (List Int)):LH (R:=(List (List Int))) (zNz b) [6,7] [] (fun a=>[(3,L 1 lV a.1),(8,I a.2)]) (.xe 0 [6,7] fun c=>[(3,L 1 lV c)]):=⟨⟩
instance t_aS:FI J0 114 (∀(a:List (List Int)),FnK J0 114 [T.ro (lM a)] (fun r:(List (List Int))=>[lM r]) (fun _=>[]) (zY9 a)):=⟨Tryz.call114,fun a=>iM Tryz.func114⟩
instance:HS Tryz.f62.8 [(2,2,0,.tr 5 11),(2,2,1,.tr 6 14),(2,3,0,.tr 7 15),(0,32,0,.tr 22 7),(0,36,0,.fz 7),(0,36,1,.res 35 7 [])]:=⟨⟩
instance(b:zE)(c:(List (List Int)))(d:(List (List Int))):LH (R:=(List (List Int))) (zGg b c d) [3,5,6] [] (fun a=>[(7,L 1 lV a.1),(8,I a.2)]) (.xe 0 [5,6] fun e=>[(7,L 1 lV e)]):=⟨⟩
instance t_ak:FI J0 62 (∀(a:SPr)(b:zE),FnK J0 62 [qPr a,jT b] (fun r:(List (List Int))=>[(L 1 (Ro lV)) r]) (fun _=>[]) (zWR a b)):=⟨Tryz.call62,fun a b=>iM Tryz.func62⟩
instance:HS Tryz.f35.8 [(0,6,0,.fz 5)]:=⟨⟩
instance t_aG:FI J0 35 (∀(a:SPr),FnK J0 35 [qPr a] (fun r:(List (List Int))=>[(L 1 (Ro lV)) r]) (fun _=>[]) (zIw a)):=⟨Tryz.call35,fun a=>iM Tryz.func35⟩
instance:HS Tryz.f24.8 [(2,5,0,.tr 5 12)]:=⟨⟩
instance t_b3:FI J0 24 (∀(a:SPr),FnK J0 24 [qPr a] (fun r:(List (List Int))×Int=>[(L 1 (Ro lV)) r.1,I r.2]) (fun _=>[]) (zYS a)):=⟨Tryz.call24,fun a=>iM Tryz.func24⟩
instance:HS Tryz.f155.8 [(1,4,0,.trf 30 2 5 [2,0])]:=⟨⟩
instance(c:zE)(d:List Int):LH (R:=zS) (zNx c d) [0,4,17,18] [] (fun a=>[(5,T.ptr (T.agg [I a.1,I a.2.1,L 1 lV a.2.2.1])),(19,I a.2.2.2)]) (.xe 0 [0,17,18] fun b=>[(5,T.ptr (T.agg [I b.1,I b.2.1,L 1 lV b.2.2]))]):=⟨⟩
instance t_am:FI J0 155 (∀(a:zE)(b:List Int),FnK J0 155 [T.ro ((Pt xS) a),T.ro (lV b)] (fun r=>[wB r]) (fun _=>[]) (zP0 a b)):=⟨Tryz.call155,fun a b=>iM Tryz.func155⟩
instance:LH (R:=Int×Bool) zJM [1] [] (fun a=>[(6,I a.1),(7,I a.2.1),(8,I a.2.2.1),(9,I a.2.2.2)]) (.xe 0 [] fun b=>[(6,I b.1),(8,I b.2)]):=⟨⟩
instance t_ag:FI J0 115 (∀(a b:Int),FnK J0 115 [I a,I b] (fun r=>[I r.1,B r.2]) (fun _=>[]) (zN0 a b)):=⟨Tryz.call115,fun a b=>iM Tryz.func115⟩
instance:HS Jaf.8 [(2,2,0,.tr 1 13),(0,138,0,.tr 135 1)]:=⟨⟩
instance:yD0 Jaf.results:=⟨⟩
instance:SwH Jaf.8 10 1 [0,5,6,7]:=⟨⟩
instance(a:(List (List Int))×Int×Int):LH (R:=(List (List Int))) (zII a) [0,1,5,6] [] (fun b=>[(7,I b)]) (.xe 2 [] fun c=>[(7,I c)]):=⟨⟩
instance(f:Int)(b:(List (List Int))×Int×Int)(c:Int×Bool)(d:List Int):LH (R:=(List (List Int))) (zN1 f b c d) [0,5,6,8,84] [] (fun a=>[(1,L 1 lV a.1),(85,I a.2)]) (.xe 4 [8,84] fun e=>[(1,L 1 lV e)]):=⟨⟩
instance(e:Int)(b:(List (List Int))×Int×Int)(c:(List (List Int))):LH (R:=(List (List Int))) (zP2 e b c) [0,5,6,107] [] (fun a=>[(1,L 1 lV a.1),(108,I a.2)]) (.xe 6 [107] fun d=>[(1,L 1 lV d)]):=⟨⟩
instance(c:Int):LH (R:=(List (List Int))) (zP3 c) [0] [] (fun a=>[(1,L 1 lV a.1),(5,I a.2.1),(6,I a.2.2)]) (.xe 0 [0] fun b=>[(1,L 1 lV b.1),(5,I b.2)]):=⟨⟩
instance t_i:FI J0 71 (∀(a:Int)(b:List (List Int)),FnK J0 71 [I a,T.ro (lM b)] (fun r:(List (List Int))=>[lM r]) (fun _=>[]) (f_i a b)):=⟨Tryz.call71,fun a b=>iM Tryz.func71⟩
instance:HS Tryz.f108.8 [(0,14,0,.fz 13),(0,28,0,.tr 23 7),(2,7,0,.tr 7 28)]:=⟨⟩
instance(c:Int)(d:(List (List Int))):LH (R:=(List (List Int))) (zS5 c d) [0,2,13,14] [] (fun b=>[(7,L 1 (Ro lV) b.1),(15,I b.2)]) (.xe 0 [2,13,14] fun a=>[(7,L 1 (Ro lV) a)]):=⟨⟩
instance t_Z:FI J0 108 (∀(a:Int)(b:List (List Int))(c:Int),FnK J0 108 [I a,T.ro (lM b),I c] (fun r:(List (List Int))=>[lM r]) (fun _=>[]) (f_Z a b c)):=⟨Tryz.call108,fun a b c=>iM Tryz.func108⟩
instance t_b9:FI J0 110 (∀(a b:Int)(c:List (List Int)),FnK J0 110 [I a,I b,T.ro (lM c)] (fun r=>[wB r]) (fun _=>[]) (yBT a b c)):=⟨Tryz.call110,fun a b c=>iM Tryz.func110⟩
instance:HS Tryz.f132.8 [(0,22,0,.trq 18 4 [1,0]),(0,36,0,.tr 31 6),(2,10,0,.tr 6 36),(0,40,0,.tr 39 6),(0,41,0,.trq 38 4 [2,0]),(1,2,0,.trf 44 0 4 [0,0]),(1,2,1,.trf 44 1 4 [1,0]),(1,2,2,.trf 44 2 4 [2,0])]:=⟨⟩
instance(b:List Int):LH (R:=SPr) (zSw b) [2,3,4,13,14] [] (fun a=>[(6,L 1 lV a.1),(7,I a.2)]) (.xe 2 [] fun c=>[(6,L 1 lV c)]):=⟨⟩
instance(a:List Int):LN (zSx a) 4:=⟨⟩
instance(c:List Int)(A0 A1 A2:T):LHk (R:=SPr) (zSx c) (T.ptr (T.agg [A0,A1,A2])) [2,3,13] [] (fun b=>[(4,T.ptr (T.agg [A0,L 1 lV b.1,L 1 lM b.2.1])),(14,I b.2.2)]) (.xe 0 [3,13] fun a=>[(4,T.ptr (T.agg [A0,L 1 lV a.1,L 1 lM a.2]))]):=⟨⟩
instance t_P:FI J0 132 (∀(a:List Int),FnK J0 132 [T.ro (lV a)] (fun r=>[yW r]) (fun _=>[]) (f_P a)):=⟨Tryz.call132,fun a=>iM Tryz.func132⟩
instance:HS Ja7.8 [(2,3,0,.tr 6 17),(3,0,0,.tr 7 19),(0,33,0,.tr 29 7),(2,7,0,.tr 7 33),(2,8,0,.trq 10 38 [1]),(2,10,0,.tr 11 56),(1,60,0,.tr 59 11),(0,63,0,.tr 62 10),(0,64,0,.tr 61 7),(2,12,0,.tr 7 64),(0,75,0,.tr 65 7),(2,13,0,.tr 7 75),(0,101,0,.tr 92 7),(0,104,0,.fz 6),(0,104,1,.res 103 6 [])]:=⟨⟩
instance:HX Ja7.8 [(0,33,0,.trh 8 7),(2,11,0,.rd2 59 11)]:=⟨⟩
instance:DrH Ja7.8 33:=⟨⟩
instance(d:SPr)(e:(List (List Int))×(List (List Int)))(f:Int×(List Int))(a:(List Int)):LH (R:=(List (List Int))) (zSO d e f a) [2,5,6,9,11] [] (fun c=>[(7,L 1 lV c.1),(12,I c.2)]) (.xe 2 [9,11] fun b=>[(7,L 1 lV b)]):=⟨⟩
instance(c:SPr):LH (R:=(List (List Int))) (zSP c) [2,5] [] (fun b=>[(6,L 1 lV b.1),(7,L 1 lV b.2)]) (.xe 0 [5] fun a=>[(6,L 1 lV a)]):=⟨⟩
instance t_H:FI J0 128 (∀(a:SPr)(b:List (List Int)),FnK J0 128 [qPr a,T.ro (lM b)] (fun r:(List (List Int))=>[(L 1 (Ro lV)) r]) (fun _=>[]) (f_H a b)):=⟨Tryz.call128,fun a b=>iM Tryz.func128⟩
instance:HS Tryz.f169.8 [(2,3,0,.tr 8 14),(0,39,0,.tr 27 8),(0,42,0,.fz 8),(0,42,1,.res 41 8 []),(2,11,0,.tr 11 42)]:=⟨⟩
instance(d:SPr)(e:List (List Int))(b:(List (List Int)))(c:(List (List Int))×Int):LH (R:=(List (List Int))) (zXd d e b c) [2,3,7,9] [] (fun a=>[(8,L 1 lV a.1),(10,I a.2)]) (.xe 4 [] fun f=>[(8,L 1 lV f)]):=⟨⟩
instance(c:SPr)(d:List (List Int))(b:(List (List Int))):LH (R:=(List (List Int))) (zSU c d b) [2,3,7] [] (fun a=>[(8,L 1 lV a.1),(9,I a.2)]) (.xe 2 [] fun e=>[(8,L 1 lV e)]):=⟨⟩
instance(b:SPr)(c:List (List Int)):LH (R:=(List (List Int))) (zYT b c) [2,3] [] (fun a=>[(7,T.ro (lM a))]) .xr:=⟨⟩
instance t_G:FI J0 169 (∀(a:SPr)(b:List (List Int))(c:List (List Int)),FnK J0 169 [qPr a,T.ro (lM b),T.ro (lM c)] (fun r:(List (List Int))=>[(L 1 (Ro lV)) r]) (fun _=>[]) (f_G a b c)):=⟨Tryz.call169,fun a b c=>iM Tryz.func169⟩
instance:HS Tryz.f126.8 [(2,2,0,.tr 7 10),(0,35,0,.tr 23 7),(0,39,0,.fz 7),(0,39,1,.res 38 7 []),(0,44,0,.fz 39),(0,44,1,.fz 43)]:=⟨⟩
instance(b:SPr)(c:List (List Int))(d:List (List Int))(e:(List (List Int))×Int):LH (R:=(List (List Int))) (zXe b c d e) [1,2,3,8] [] (fun a=>[(7,L 1 lV a.1),(9,I a.2)]) (.xe 2 [] fun f=>[(7,L 1 lV f)]):=⟨⟩
instance(b:SPr)(c:List (List Int))(d:List (List Int)):LH (R:=(List (List Int))) (zSV b c d) [1,2,3] [] (fun a=>[(7,L 1 lV a.1),(8,I a.2)]) (.xe 0 [] fun e=>[(7,L 1 lV e)]):=⟨⟩
instance t_X:FI J0 126 (∀(a:SPr)(b:List (List Int))(c:List (List Int)),FnK J0 126 [qPr a,T.ro (lM b),T.ro (lM c)] (fun r:(List (List Int))=>[(L 1 (Ro lV)) r]) (fun _=>[]) (f_X a b c)):=⟨Tryz.call126,fun a b c=>iM Tryz.func126⟩
instance:HS Tryz.f81.8 [(0,13,0,.fz 12),(2,2,0,.tr 7 13),(0,28,0,.fz 27),(0,29,0,.tr 20 7),(0,32,0,.fz 7),(0,32,1,.res 31 7 [])]:=⟨⟩
instance(b:SPr)(c:List (List Int))(d:Int):LH (R:=(List (List Int))) (zJR b c d) [1,2,3] [] (fun a=>[(7,L 1 (Ro lV) a.1),(8,I a.2)]) (.xe 0 [1,2] fun e=>[(7,L 1 (Ro lV) e)]):=⟨⟩
instance t_au:FI J0 81 (∀(a:SPr)(b:List (List Int))(c:Int),FnK J0 81 [qPr a,T.ro (lM b),I c] (fun r:(List (List Int))=>[(L 1 (Ro lV)) r]) (fun _=>[]) (zXf a b c)):=⟨Tryz.call81,fun a b c=>iM Tryz.func81⟩
instance:HS Jbw.8 [(3,0,0,.tr 5 10),(2,4,0,.tr 7 20),(0,29,0,.tr 28 7),(0,29,1,.fz 28),(0,30,0,.tr 27 5)]:=⟨⟩
instance:HX Jbw.8 [(3,1,0,.fzl 2 5)]:=⟨⟩
instance(a:SPr)(b:Int):LH (R:=(List (List (List Int)))) (zIz a b) [1,2] [] (fun c=>[(5,L 1 (Ro lM) c)]) .xr:=⟨⟩
instance t_ai:FI J0 48 (∀(a:SPr)(b:Int),FnK J0 48 [qPr a,I b] (fun r:(List (List (List Int)))=>[(L 1 (Ro lM)) r]) (fun _=>[]) (zPJ a b)):=⟨Tryz.call48,fun a b=>iM Tryz.func48⟩
instance:HS Tryz.f25.8 [(2,3,0,.tr 6 24),(0,41,0,.trf 37 2 8 [2,0]),(0,10,0,.fz 43),(2,8,0,.tr 11 44),(1,14,0,.fz 67),(0,72,0,.tr 68 11),(2,18,0,.tr 11 72),(0,99,0,.fz 98),(0,100,0,.tr 88 11),(0,103,0,.fz 11),(0,103,1,.res 102 11 [])]:=⟨⟩
instance(c:SPr)(d:Int)(e:zE)(f:(List (List Int)))(g:zC)(h:List Int):LH (R:=(List (List Int))) (zXg c d e f g h) [2,5,7,9,10,11,12,13] [] (fun a=>[(14,T.ptr (T.agg [T.ro (lV a.1),T.ro (lV a.2.1)])),(15,I a.2.2)]) (.xe 2 [] fun b=>[(14,T.ptr (T.agg [T.ro (lV b.1),T.ro (lV b.2)]))]):=⟨⟩
instance(c:SPr)(d:zE)(e:(List (List Int)))(f:zC)(g:List Int):LH (R:=(List (List Int))) (zXh c d e f g) [2,5,7,9,10,12,13] [] (fun a=>[(11,L 1 (Ro lV) a.1),(16,I a.2)]) (.xe 4 [13] fun b=>[(11,L 1 (Ro lV) b)]):=⟨⟩
instance(c:SPr)(d:Int)(e:List (List Int))(f:zE)(g:(List (List Int)))(h:zC):LH (R:=(List (List Int))) (zXi c d e f g h) [2,5,7,9,10] [] (fun b=>[(11,L 1 (Ro lV) b.1),(12,I b.2)]) (.xe 0 [2,7,9,10] fun a=>[(11,L 1 (Ro lV) a)]):=⟨⟩
instance t_A:FI J0 25 (∀(a:SPr)(b:List (List Int)),FnK J0 25 [qPr a,T.ro (lM b)] (fun r:(List (List Int))=>[(L 1 (Ro lV)) r]) (fun _=>[]) (f_A a b)):=⟨Tryz.call25,fun a b=>iM Tryz.func25⟩
instance:HS Tryz.f121.8 [(2,23,0,.tr 12 152),(2,26,0,.tr 12 165)]:=⟨⟩
instance(a:SPr)(b:Int):LH (R:=xE) (zWf a b) [0,1,4,5,6] [] (fun c=>[(7,I c)]) (.xs (.xe 0 [] fun _=>[]) .xr):=⟨⟩
instance(a:SPr)(b c:Int):LH (R:=xE) (zWg a b c) [0,1,4,5,6,8] [] (fun d=>[(9,I d)]) (.xs (.xe 4 [] fun _=>[]) .xr):=⟨⟩
instance(a:SPr)(b:Int):LH (R:=xE) (zWh a b) [0,1,4,5,6] [] (fun c=>[(8,I c)]) (.xs (.xe 2 [] fun _=>[]) .xr):=⟨⟩
instance(d:SPr)(e b:Int):LH (R:=xE) (zWi d e b) [0,1,4,5,6,10,11,159] [] (fun a=>[(12,L 1 I a.1),(160,I a.2)]) (.xe 8 [159] fun c=>[(12,L 1 I c)]):=⟨⟩
instance(c:SPr)(d:Int)(a:List Int):LH (R:=xE) (zWj c d a) [0,1,4,5,6,10] [] (fun b=>[(11,I b)]) (.xs (.xe 6 [0,1,5,6,10] fun _=>[]) .xr):=⟨⟩
instance t_o:FI J0 121 (∀(a:SPr)(b:Int),FnK J0 121 [T.ro ((Pt yW) a),I b] (fun r=>[zGD r]) (fun _=>[]) (f_o a b)):=⟨Tryz.call121,fun a b=>iM Tryz.func121⟩
instance(a:SPr):LH (R:=Int) (zNt a) [0] [] (fun b=>[(3,I b)]) (.xe 0 [0] fun c=>[(3,I c)]):=⟨⟩
instance t_a6:FI J0 75 (∀(a:SPr),FnK J0 75 [T.ro ((Pt yW) a)] (fun r=>[I r]) (fun _=>[]) (yBP a)):=⟨Tryz.call75,fun a=>iM Tryz.func75⟩
instance t_bD:FI J0 45 (∀(a:SPr),FnK J0 45 [qPr a] (fun r=>[B r]) (fun _=>[]) (zWk a)):=⟨Tryz.call45,fun a=>iM Tryz.func45⟩
instance(a:SPr):LH (R:=Bool) (yAf a) [0,21,22] [] (fun b=>[(23,I b)]) (.xs (.xe 0 [0,21,22] fun _=>[]) .xr):=⟨⟩
instance t_bo:FI J0 65 (∀(a:SPr),FnK J0 65 [T.ro ((Pt yW) a)] (fun r=>[B r]) (fun _=>[]) (zYM a)):=⟨Tryz.call65,fun a=>iM Tryz.func65⟩
instance t_b1:FI J0 37 (∀(a:SPr),FnK J0 37 [T.ro ((Pt yW) a)] (fun r=>[I r]) (fun _=>[]) (zYN a)):=⟨Tryz.call37,fun a=>iM Tryz.func37⟩
instance t_bx:FI J0 199 (∀(a:Int),FnK J0 199 [I a] (fun r=>[B r]) (fun _=>[]) (zS3 a)):=⟨Tryz.call199,fun a=>iM Tryz.func199⟩
instance(a:List Int):LH (R:=Int) (zGf a) [0,1,7] [] (fun b=>[(8,I b)]) (.xs (.xe 0 [0,1,7] fun _=>[]) .xr):=⟨⟩
instance t_ah:FI J0 198 (∀(a:List Int),FnK J0 198 [T.ro (lV a),T.lit (.func (.func 199) #[] #[])] (fun r=>[I r]) (fun _=>[]) (zS4 a)):=⟨Tryz.call198,fun a=>iM Tryz.func198⟩
instance:HS Tryz.f160.8 [(0,16,0,.tr 12 3),(2,6,0,.tr 3 16)]:=⟨⟩
instance(b:List (List Int)):LH (R:=(List Int)) (zIL b) [6,7] [] (fun a=>[(3,L 1 I a.1),(8,I a.2)]) (.xe 0 [6,7] fun c=>[(3,L 1 I c)]):=⟨⟩
instance t_Q:FI J0 160 (∀(a:List (List Int)),FnK J0 160 [T.ro (lM a)] (fun r=>[lV r]) (fun _=>[]) (f_Q a)):=⟨Tryz.call160,fun a=>iM Tryz.func160⟩
end
end Go.Wk
