/- x -/
import Derived.Test.YtimahceaenahkaaSVah
import Derived.Test.YtimahceaenahkaaSVai
import Derived.Test.YtimahceaenahkaaSWT
open Go.Proofs.Try renaming prog→J0
open Option renaming some→df,none→dg
open Bool renaming true→dh,false→di
namespace Go.Wk
open Go Go.Proofs Go.Ab
set_option maxRecDepth 100000
set_option maxHeartbeats 4000000
theorem u_w(x0:zL)(x1:List Int)(x2:List (Int×(List Int)))(x3:Int)(x4:Int)(x5:Int)(r:(List Int)×Bool)(h:f_w x0 x1 x2 x3 x4 x5=df r):FnC J0 46 [T.ro ((Pt zO) x0),T.ro (lV x1),T.ro ((MV lV) x2),I x3,I x4,I x5] [lV r.1,B r.2] []:=by
 refine fB Try.func46 (fun St W w0 v=>?_);refine sR (oP (zBm 1 rfl) ?_);refine xX ?_;refine rN (CW.seq (sR (zZ ?_)));refine zZ ?_;refine oP (zN8 mapV_68 (vP rfl rfl) rfl rfl) ?_;refine zKp ?_;refine sN ?_;refine sN ?_;refine xX ?_;refine xX ?_;refine rN (sR (zZ ?_));refine rN (cn h (fun hc h=>?_) (fun hc h=>?_))
 ·refine sR (oP (zBm 1 rfl) ?_)
  refine xX ?_;refine rN (CW.ret (rA ?_));obtain rfl:=sI h;exact rT
 ·refine CW.skip (nA (sR (zZ ?_)))
  refine zZ ?_;refine zZ ?_;refine zZ ?_;obtain⟨r1,ma,h⟩:=bd h;refine cA Try.call66 (FnK.go (t_ap.h _ _ _) ma) ?_;refine oP (zN8 mapV_68 (vP rfl rfl) rfl rfl) ?_;refine zKp ?_;refine sN ?_;refine sN ?_;refine xX ?_;refine xX ?_;refine rN (CW.seq (sR (zZ ?_)));refine zNx ?_;refine rN (cn h (fun hc h=>?_) (fun hc h=>?_))
  ·refine CW.seq (CW.to [] trivial ?_)
   refine CW.region (oP (zBm 1 rfl) ?_);refine xX ?_;refine rN (CW.ret (rA ?_));obtain rfl:=sI h;exact rT
  ·refine CW.skip (nA (CW.seq (CW.to [(0,T.ro ((Pt zO) x0)),(1,T.ro (lV x1)),(2,T.ro ((MV lV) x2)),(3,I x3),(5,I x5),(16,T.ro (lV ((kV x2 r1).getD [])))] ⟨rfl,rfl,rfl,rfl,rfl,rfl,trivial⟩ ?_)))
   refine CW.region (zZ ?_);refine zZ ?_;refine zBG ?_;obtain⟨v2,eD,h⟩:=bd h;refine zGa ?_;refine xX ?_;refine rN (sR (zZ ?_));refine zZ ?_;obtain⟨r3,mL,h⟩:=bd h;refine cA Try.call67 (FnK.go (t_af.h _ _ _) mL) ?_;refine xX ?_;refine RW.ghost (zF.tr 19 48 _ rfl rfl (zQ (yO (Enc.clean (f:=I)))) rfl) ?_;refine rN (CW.seq (sR (zZ ?_)));refine zBG ?_;refine zZ ?_;refine rN (CW.block ?_);obtain⟨r13,pq,h⟩:=bd h;refine CW.lp (s:=(r3,0)) (zJt x0 x1 x2 x3 v2) (fun s5:(List Int)×Int=>xT [(0,T.ro ((Pt zO) x0)),(1,T.ro (lV x1)),(2,T.ro ((MV lV) x2)),(3,I x3),(5,I x5),(18,I v2),(19,L 1 I s5.1),(49,T.ro (lV x1)),(50,I (x1.length:Int)),(51,I s5.2)]) (fun(r13:(List Int)) e E=>e=.exit 0∧zF ⟨St,W,w0,Try.f46.ntmps⟩ E (xT [(1,T.ro (lV x1)),(5,I x5),(19,L 1 I r13)])) (.has ⟨rfl,rfl,rfl,rfl,rfl,rfl,rfl,rfl,rfl,rfl,trivial⟩) (fun s5 x h=>?_) pq (fun e E hq=>?_)
   ·refine sR (zCi ?_)
    refine rN (CW.seq (cn h (fun hc h=>?_) (fun hc h=>?_)))
    ·refine CW.skip (nA (CW.seq (CW.block (sR ?_))))
     obtain⟨v4,bS,h⟩:=bd h;refine zIf ?_;refine zCh ?_;refine xX ?_;refine rN (sR (zZ ?_));refine oP (zN9 mapV_68 (vP rfl rfl) rfl) ?_;refine rN (CW.block ?_);obtain⟨r11,pt,h⟩:=bd h;refine CW.rng (fun cur l(s6:List Int)=>xT [(0,T.ro ((Pt zO) x0)),(1,T.ro (lV x1)),(2,T.ro ((MV lV) x2)),(3,I x3),(5,I x5),(18,I v2),(19,L 1 I s6),(21,I v4),(49,T.ro (lV x1)),(50,I (x1.length:Int)),(51,I s5.2),(56,IT lV cur l)]) (fun(r11:(List Int)) e E=>e=.exit 2∧zF ⟨St,W,w0,Try.f46.ntmps⟩ E (xT [(0,T.ro ((Pt zO) x0)),(1,T.ro (lV x1)),(2,T.ro ((MV lV) x2)),(3,I x3),(5,I x5),(18,I v2),(19,L 1 I r11),(49,T.ro (lV x1)),(50,I (x1.length:Int)),(51,I s5.2)])) (fun cur l s6 gA=>?_) (.has ⟨rfl,rfl,rfl,rfl,rfl,rfl,rfl,rfl,rfl,rfl,rfl,rfl,trivial⟩) pt (fun r11' e E hp hq=>?_)
     ·refine sR (RW.next 56 (.tmp 56) (fun _=>rfl) rfl rfl rfl (zP rfl) rfl (vP rfl rfl) rfl (fun h0=>?_) (fun a rest gZ=>?_))
      ·refine sN ?_
       refine rN (CW.seq (CW.condF rfl ?_));refine CW.exit (xA ?_);exact .inr ⟨neX,h0,rfl,.has ⟨rfl,rfl,rfl,rfl,rfl,rfl,rfl,rfl,rfl,rfl,trivial⟩⟩
      ·obtain⟨s',gB⟩:=gA a rest gZ
       have h:=gB;unfold yH at h;refine sN ?_;refine rN (CW.seq (CW.condT rfl ?_));refine CW.skip (nA (CW.block (sR (oP (zNA (vP rfl rfl) rfl) ?_))));refine sN ?_;refine sN ?_;refine xX ?_;refine xX ?_;refine rN (CW.seq ?_);obtain⟨v5,hv5,h⟩:=bd h;obtain⟨v6,hv6,h⟩:=bd h;obtain⟨v7,hv7,h⟩:=bd h;obtain⟨v8,bR,h⟩:=bd h;refine CW.dk ?_;refine jY [(0,_)] ?_;refine zGX [(62,_)] ?_;refine zKq [(63,_)] ?_;refine zBq [(64,_)] ?_;refine jY [(21,_)] ?_;refine zEt [(65,_),(66,_)] ?_;refine zBq [(67,_)] ?_;refine jY [(3,_)] ?_;refine zEt [(68,_),(69,_)] ?_;refine zBq [(70,_)] ?_;refine jY [(0,_)] ?_;refine zGX [(72,_)] ?_;refine zKq [(73,_)] ?_;refine zBq [(74,_)] ?_;refine jY [(3,_)] ?_;refine zEt [(75,_),(76,_)] ?_;refine zBq [(77,_)] ?_;refine jY [(22,_)] ?_;refine zEt [(78,_),(79,_)] ?_;refine zBq [(80,_)] ?_;refine zPF [(71,_),(81,_)] ?_;refine dNA zDM ?_;refine nA (cn h (fun hc h=>?_) (fun hc h=>?_))
       ·refine CW.to [(0,T.ro ((Pt zO) x0)),(1,T.ro (lV x1)),(2,T.ro ((MV lV) x2)),(3,I x3),(5,I x5),(18,I v2),(19,L 1 I s6),(21,I v4),(23,T.ro (lV a.2)),(49,T.ro (lV x1)),(50,I (x1.length:Int)),(51,I s5.2),(56,IT lV (df a) rest)] ⟨rfl,rfl,rfl,rfl,rfl,rfl,rfl,rfl,rfl,rfl,rfl,rfl,rfl,trivial⟩ ?_
        refine CW.region (zZ ?_);refine zZ ?_;refine zZ ?_;obtain⟨r9,tx,h⟩:=bd h;refine cA Try.call67 (FnK.go (t_af.h _ _ _) tx) ?_;refine RW.ghost (zF.tr 83 19 _ rfl rfl (zQ (yO (Enc.clean (f:=I)))) rfl) ?_;obtain⟨v10,te,h⟩:=bd h;refine oP (zGS (f:=I) elt_22 (fun _=>rfl) te rfl (vP rfl rfl) rfl) ?_;refine xX ?_;refine RW.ghost (zF.tr 19 87 _ rfl rfl (zQ (yO (Enc.clean (f:=I)))) rfl) ?_;refine RW.nil ?_;refine nB ?_;obtain rfl:=sI h;exact .inl ⟨rfl,a,rest,_,gZ,gB,.has ⟨rfl,rfl,rfl,rfl,rfl,rfl,rfl,rfl,rfl,rfl,rfl,rfl,trivial⟩⟩
       ·refine CW.skip (nB ?_)
        obtain rfl:=sI h;exact .inl ⟨rfl,a,rest,_,gZ,gB,.has ⟨rfl,rfl,rfl,rfl,rfl,rfl,rfl,rfl,rfl,rfl,rfl,rfl,trivial⟩⟩
     ·obtain⟨rfl,hg⟩:=hq
      subst hp;refine xB ?_;refine nB (nA (CW.ghost hg ?_));refine CW.region ?_;obtain⟨v12,pb,h⟩:=bd h;refine sM ?_;refine zZ ?_;refine RW.nil ?_;exact eN h
    ·refine CW.exit (xA ?_)
     exact eX h
   ·obtain⟨rfl,hg⟩:=hq
    refine xB ?_;refine nA (CW.ghost hg ?_);refine sR (zZ ?_);refine zZ ?_;refine zNz ?_;refine zZ ?_;refine zZ ?_;refine zBG ?_;obtain⟨v14,ta,h⟩:=bd h;refine sM ?_;obtain⟨v15,mA,h⟩:=bd h;refine zPD ?_;refine zNy ?_;refine xX ?_;refine xX ?_;refine RW.ghost (zF.tr 12 19 _ rfl rfl (zQ (yO (Enc.clean (f:=I)))) rfl) ?_;refine rN (CW.ret ?_);obtain rfl:=sI h;exact rT
instance t_w:FI J0 46 (∀(a:zL)(b:List Int)(c:List (Int×(List Int)))(d e f:Int),FnK J0 46 [T.ro ((Pt zO) a),T.ro (lV b),T.ro ((MV lV) c),I d,I e,I f] (fun r:(List Int)×Bool=>[lV r.1,B r.2]) (fun _=>[]) (f_w a b c d e f)):=⟨Try.call46,fun a b c d e f=>FnK.mk (u_w a b c d e f)⟩
end Go.Wk
