/- The program's NucleusOf returns what the reference's returns,for all arguments;no conditions. -/
import Derived.Test.YtfeijieociajaaaGreatAbC
open List renaming replicate→J1
open Int renaming fdiv->Gg
open Option renaming some->jh,none->ji
open Bool renaming true->jj,false->jk
noncomputable section
namespace Go.Wk
open Go Go.Ab
abbrev jn:=List Int
abbrev jo:=List jn
structure SPr where
 zA:jn
 zP:jo
 zE:List jo
abbrev yV(x:SPr):T:=.agg [(L 1 I) x.zA,(L 1 (L 1 I)) x.zP,(L 1 (L 1 (L 1 I))) x.zE]
instance:Enc yV:=.of fun _=>zMi ⟨Enc.t (f:=(L 1 I)) inferInstance _,Enc.t (f:=(L 1 (L 1 I))) inferInstance _,Enc.t (f:=(L 1 (L 1 (L 1 I)))) inferInstance _,trivial⟩
structure zG where
 Prime:Int
 Dim:Int
 zM:List jo
abbrev xT(x:zG):T:=.agg [I x.Prime,I x.Dim,(L 1 (L 1 (L 1 I))) x.zM]
instance:Enc xT:=.of fun _=>zMi ⟨Enc.t (f:=I) inferInstance _,Enc.t (f:=I) inferInstance _,Enc.t (f:=(L 1 (L 1 (L 1 I)))) inferInstance _,trivial⟩
structure xE where
 Kind:Int
 yAF:Int
 yAG:Int
 zXL:Int
abbrev zGR(x:xE):T:=.agg [I x.Kind,I x.yAF,I x.yAG,I x.zXL]
instance:Enc zGR:=.of fun _=>zMi ⟨Enc.t (f:=I) inferInstance _,Enc.t (f:=I) inferInstance _,Enc.t (f:=I) inferInstance _,Enc.t (f:=I) inferInstance _,trivial⟩
structure zL where
 Prime:Int
 vN:Int
 Rows:jo
abbrev xL(x:zL):T:=.agg [I x.Prime,I x.vN,(L 1 (L 1 I)) x.Rows]
instance:Enc xL:=.of fun _=>zMi ⟨Enc.t (f:=I) inferInstance _,Enc.t (f:=I) inferInstance _,Enc.t (f:=(L 1 (L 1 I))) inferInstance _,trivial⟩
structure zQ where
 p:SPr
 m:zG
 zOh:jo
structure zC where
 x:jn
 v:jn
abbrev wF(x:zC):T:=.agg [(L 1 I) x.x,(L 1 I) x.v]
instance:Enc wF:=.of fun _=>zMi ⟨Enc.t (f:=(L 1 I)) inferInstance _,Enc.t (f:=(L 1 I)) inferInstance _,trivial⟩
def zWe(b:jn)(c:Int):Option Int:=(rng (c-b.length)).bind fun a=>cond (a<0) (jh (-1)) (jh a)
def yAA(b:jo)(a:Int×Int):Option ((Int×Int)⊕(Int⊕Int)):=cond (a.2<b.length) ((ixO b a.2).bind fun d=>(zWe d a.1).bind fun c=>cond (c<0) (jh (.inr (.inr (-1)))) ((rng (a.2+1)).bind fun e=>jh (.inl (c,e)))) (jh (.inr (.inl a.1)))
def zYU(b:jo)(d:Int):Option Int:=(rng (d-b.length)).bind fun c=>cond (c<0) (jh (-1)) ((zF (yAA b) (c,0)).bind fun a=>match a with|(.inl a)=>jh a|(.inr a)=>jh a)
def yAB(b:List jo)(a:Int×Int):Option ((Int×Int)⊕(Int⊕Int)):=cond (a.2<b.length) ((ixO b a.2).bind fun d=>(zYU d a.1).bind fun c=>cond (c<0) (jh (.inr (.inr (-1)))) ((rng (a.2+1)).bind fun e=>jh (.inl (c,e)))) (jh (.inr (.inl a.1)))
def yCo(b:List jo)(d:Int):Option Int:=(rng (d-b.length)).bind fun c=>cond (c<0) (jh (-1)) ((zF (yAB b) (c,0)).bind fun a=>match a with|(.inl a)=>jh a|(.inr a)=>jh a)
def zYV(a:SPr)(e:Int):Option Int:=(zWe a.zA e).bind fun b=>cond (b<0) (jh (-1)) ((zYU a.zP b).bind fun c=>cond (c<0) (jh (-1)) ((yCo a.zE c).bind fun d=>cond (d<0) (jh (-1)) (jh d)))
def zWf(b:jn)(a:jn×Int):Option ((jn×Int)⊕jn):=cond (a.2<b.length) ((ixO b a.2).bind fun c=>(ixO a.1 a.2).bind fun _=>(rng (a.2+1)).bind fun d=>jh (.inl (a.1.set a.2.toNat c,d))) (jh (.inr a.1))
def zSC(a:jn):Option jn:=(yG (a.length:Int)).bind fun b=>(zF (zWf a) (J1 b (0:Int),0)).bind fun c=>jh c
def zWg(b:jo)(a:jo×Int):Option ((jo×Int)⊕jo):=cond (a.2<b.length) ((ixO b a.2).bind fun c=>(zSC c).bind fun d=>(ixO a.1 a.2).bind fun _=>(rng (a.2+1)).bind fun e=>jh (.inl (a.1.set a.2.toNat d,e))) (jh (.inr a.1))
def zSD(a:jo):Option jo:=(yG (a.length:Int)).bind fun b=>(zF (zWg a) (J1 b ([]:jn),0)).bind fun c=>jh c
def zWh(b:List jo)(a:(List jo)×Int):Option (((List jo)×Int)⊕(List jo)):=cond (a.2<b.length) ((ixO b a.2).bind fun c=>(zSD c).bind fun d=>(ixO a.1 a.2).bind fun _=>(rng (a.2+1)).bind fun e=>jh (.inl (a.1.set a.2.toNat d,e))) (jh (.inr a.1))
def zYW(a:List jo):Option (List jo):=(yG (a.length:Int)).bind fun b=>(zF (zWh a) (J1 b ([]:jo),0)).bind fun c=>jh c
def zPF(a:SPr):Option SPr:=(zSC a.zA).bind fun b=>(zSD a.zP).bind fun c=>(zYW a.zE).bind fun d=>jh (SPr.mk b c d)
def yCp(a:Int):Option Bool:=cond (a==2) (jh jj) (cond (a==3) (jh jj) (cond (a==5) (jh jj) (jh (a==7))))
def zN5(b:jn)(a:Int×Int):Option ((Int×Int)⊕Int):=cond (a.2<b.length) (cond (a.1<=729) ((ixO b a.2).bind fun c=>(rng (a.1*c)).bind fun d=>(rng (a.2+1)).bind fun e=>jh (.inl (d,e))) ((rng (a.2+1)).bind fun f=>jh (.inl (a.1,f)))) (jh (.inr a.1))
def zYX(a:jn):Option Int:=(zF (zN5 a) (1,0)).bind fun b=>jh b
def yCq(a b c:Int):Option Bool:=cond (a>=b) (jh (a<=c)) (jh jk)
def zRE(d b:jn)(e a:Int):Option (Int⊕(Unit⊕Bool)):=cond (a<b.length) ((ixO b a).bind fun f=>(ixO d a).bind fun g=>(rng (g-1)).bind fun h=>(yCq f 0 h).bind fun i=>cond (!i) (jh (.inr (.inr jk))) (cond (a<=e) ((ixO b a).bind fun c=>cond (c != 0) (jh (.inr (.inr jk))) ((rng (a+1)).bind fun j=>jh (.inl j))) ((rng (a+1)).bind fun c=>jh (.inl c)))) (jh (.inr (.inl ())))
def zWi(b c:jn)(d:Int):Option Bool:=cond ((c.length:Int) != b.length) (jh jk) ((zF (zRE b c d) 0).bind fun a=>match a with|(.inl _a)=>jh jj|(.inr a)=>jh a)
def zWj(b:SPr)(a:Int):Option (Int⊕(Unit⊕Bool)):=cond (a<b.zA.length) ((ixO b.zA a).bind fun c=>(yCp c).bind fun d=>cond (!d) (jh (.inr (.inr jk))) ((rng (a+1)).bind fun e=>jh (.inl e))) (jh (.inr (.inl ())))
def zWk(a:SPr)(b c:Int):Option (Int⊕(Unit⊕Bool)):=(ixO a.zE b).bind fun d=>cond (c<d.length) ((ixO a.zE b).bind fun e=>(ixO e c).bind fun f=>(zWi a.zA f b).bind fun g=>cond (!g) (jh (.inr (.inr jk))) ((rng (c+1)).bind fun h=>jh (.inl h))) (jh (.inr (.inl ())))
def zPG(c:SPr)(b:Int):Option (Int⊕(Unit⊕Bool)):=cond (b<c.zA.length) ((ixO c.zP b).bind fun f=>(zWi c.zA f b).bind fun g=>cond (!g) (jh (.inr (.inr jk))) ((ixO c.zE b).bind fun h=>(rng ((c.zA.length:Int)-1)).bind fun i=>(rng (i-b)).bind fun d=>cond ((h.length:Int) != d) (jh (.inr (.inr jk))) ((zF (zWk c b) 0).bind fun a=>match a with|(.inl _a)=>(rng (b+1)).bind fun e=>jh (.inl e)|(.inr a)=>jh (.inr (.inr a))))) (jh (.inr (.inl ())))
def f_w(b:SPr):Option Bool:=cond ((b.zA.length:Int)> 6) (jh jk) (cond ((b.zP.length:Int) != b.zA.length) (jh jk) (cond ((b.zE.length:Int) != b.zA.length) (jh jk) ((zF (zWj b) 0).bind fun c=>match c with|(.inl _c)=>(zYX b.zA).bind fun d=>cond (d> 729) (jh jk) ((zF (zPG b) 0).bind fun a=>(match a with|(.inl _a)=>jh jj|(.inr a)=>jh a))|(.inr c)=>jh c)))
def f_y(a:jn):Option jn:=(yI [] a).bind fun b=>jh b
def zWl(g_a:SPr->Int->jn->jn->Option jn)(d:SPr)(b:Int)(f:jn)(e:jn×Int)(a:jn×Int):Option ((jn×Int)⊕jn):=(ixO f e.2).bind fun g=>cond (a.2<g) ((rng (b+1)).bind fun h=>(ixO d.zE b).bind fun i=>(rng (e.2-b)).bind fun j=>(rng (j-1)).bind fun k=>(ixO i k).bind fun l=>(g_a d h a.1 l).bind fun m=>(rng (a.2+1)).bind fun c=>jh (.inl (m,c))) (jh (.inr a.1))
def zWm(g_a:SPr->Int->jn->jn->Option jn)(d:SPr)(e:Int)(f:jn)(a:jn×Int):Option ((jn×Int)⊕jn):=cond (a.2<d.zA.length) ((zF (zWl g_a d e f a) (a.1,0)).bind fun b=>(rng (a.2+1)).bind fun c=>jh (.inl (b,c))) (jh (.inr a.1))
def b_g(g_a:SPr->Int->jn->jn->Option jn)(b:SPr)(c:Int)(d:jn):Option jn:=(yG (b.zA.length:Int)).bind fun e=>(rng (c+1)).bind fun f=>(zF (zWm g_a b c d) (J1 e (0:Int),f)).bind fun a=>jh a
def zYY(g_g:SPr->Int->jn->Option jn)(c:SPr)(b:Int)(d:jn)(a:jn×Int):Option ((jn×Int)⊕jn):=(ixO d b).bind fun e=>cond (a.2<e) ((g_g c b a.1).bind fun f=>(rng (a.2+1)).bind fun g=>jh (.inl (f,g))) (jh (.inr a.1))
def b_a(g_g:SPr->Int->jn->Option jn)(g_a:SPr->Int->jn->jn->Option jn)(b:SPr)(a:Int)(q g:jn):Option jn:=cond (a>=b.zA.length) ((yG (b.zA.length:Int)).bind fun t=>jh (J1 t (0:Int))) ((f_y q).bind fun r=>(f_y g).bind fun s=>(ixO r a).bind fun _=>(ixO s a).bind fun _=>(zF (zYY g_g b a g) (r.set a.toNat 0,0)).bind fun u=>(rng (a+1)).bind fun h=>(g_a b h u (s.set a.toNat 0)).bind fun d=>(ixO q a).bind fun i=>(ixO g a).bind fun j=>(rng (i+j)).bind fun c=>(ixO b.zA a).bind fun k=>cond (c>=k) ((ixO b.zA a).bind fun l=>(rng (c-l)).bind fun m=>(rng (a+1)).bind fun n=>(ixO b.zP a).bind fun o=>(g_a b n o d).bind fun p=>(f_y p).bind fun e=>(ixO e a).bind fun _=>jh (e.set a.toNat m)) ((f_y d).bind fun f=>(ixO f a).bind fun _=>jh (f.set a.toNat c)))
mutual
def zPH:Nat->SPr->Int->jn->Option jn|0=>fun _ _ _=>ji|n+1=>b_g (zPI n)
def zPI:Nat->SPr->Int->jn->jn->Option jn|0=>fun _ _ _ _=>ji|n+1=>b_a (zPH n) (zPI n)
end
def f_g(a:SPr)(b:Int)(c:jn):Option jn:=zCn fun n=>zPH n a b c
def f_a(a:SPr)(b:Int)(c d:jn):Option jn:=zCn fun n=>zPI n a b c d
def zJW(b:SPr)(c:Int)(a:Int×jn×jn):Option ((Int×jn×jn)⊕jn):=cond (a.1> 0) ((vB a.1 2).bind fun d=>cond (d==1) ((f_a b c a.2.1 a.2.2).bind fun e=>(f_a b c a.2.2 a.2.2).bind fun f=>(vK a.1 2).bind fun g=>jh (.inl (g,e,f))) ((f_a b c a.2.2 a.2.2).bind fun h=>(vK a.1 2).bind fun i=>jh (.inl (i,a.2.1,h)))) (jh (.inr a.2.1))
def zN6(a:SPr)(b:Int)(c:jn)(d:Int):Option jn:=(yG (a.zA.length:Int)).bind fun e=>(zF (zJW a b) (d,J1 e (0:Int),c)).bind fun f=>jh f
def yAC(b c:jn)(a:Int):Option (Int⊕(Unit⊕Bool)):=cond (a<b.length) ((ixO b a).bind fun d=>(ixO c a).bind fun e=>cond (d != e) (jh (.inr (.inr jk))) ((rng (a+1)).bind fun f=>jh (.inl f))) (jh (.inr (.inl ())))
def zSE(b c:jn):Option Bool:=cond ((b.length:Int) != c.length) (jh jk) ((zF (yAC b c) 0).bind fun a=>match a with|(.inl _a)=>jh jj|(.inr a)=>jh a)
def zWn(c a:Int):Option jn:=(yG c).bind fun b=>(ixO (J1 b (0:Int)) a).bind fun _=>jh ((J1 b (0:Int)).set a.toNat 1)
def zWo(a:SPr)(c b:Int):Option (Int⊕(Unit⊕xE)):=cond (b<a.zA.length) ((rng (c+1)).bind fun g=>(ixO a.zE c).bind fun h=>(rng (b-c)).bind fun i=>(rng (i-1)).bind fun j=>(ixO h j).bind fun k=>(ixO a.zA b).bind fun l=>(zN6 a g k l).bind fun m=>(ixO a.zP b).bind fun n=>(f_g a c n).bind fun d=>(zSE m d).bind fun e=>cond (!e) (jh (.inr (.inr (xE.mk 1 c b 0)))) ((rng (b+1)).bind fun f=>jh (.inl f))) (jh (.inr (.inl ())))
def zWp(b:SPr)(a e c:Int):Option (Int⊕(Unit⊕xE)):=cond (c<b.zA.length) ((ixO b.zE a).bind fun f=>(rng (e-a)).bind fun g=>(rng (g-1)).bind fun h=>(ixO f h).bind fun d=>(ixO b.zE a).bind fun i=>(rng (c-a)).bind fun j=>(rng (j-1)).bind fun k=>(ixO i k).bind fun l=>(ixO b.zE e).bind fun m=>(rng (c-e)).bind fun n=>(rng (n-1)).bind fun o=>(ixO m o).bind fun p=>(f_g b a p).bind fun q=>(rng (a+1)).bind fun r=>(f_a b r l d).bind fun s=>(rng (a+1)).bind fun t=>(f_a b t d q).bind fun u=>(zSE s u).bind fun v=>cond (!v) (jh (.inr (.inr (xE.mk 2 a e c)))) ((rng (c+1)).bind fun w=>jh (.inl w))) (jh (.inr (.inl ())))
def zWq(e:SPr)(f b:Int):Option (Int⊕(Unit⊕xE)):=cond (b<e.zA.length) ((rng (b+1)).bind fun c=>(zF (zWp e f b) c).bind fun a=>match a with|(.inl _a)=>(rng (b+1)).bind fun d=>jh (.inl d)|(.inr a)=>jh (.inr (.inr a))) (jh (.inr (.inl ())))
def zWr(e:SPr)(f:Int)(a:jn×Int):Option ((jn×Int)⊕jn):=(ixO e.zA f).bind fun b=>cond (a.2<b) ((f_g e f a.1).bind fun c=>(rng (a.2+1)).bind fun d=>jh (.inl (c,d))) (jh (.inr a.1))
def zWs(b:SPr)(e:Int)(c:jn)(a:Int):Option (Int⊕(Unit⊕xE)):=cond (a<b.zA.length) ((zWn (b.zA.length:Int) a).bind fun d=>(zF (zWr b e) (d,0)).bind fun f=>(rng (e+1)).bind fun g=>(f_a b g c f).bind fun h=>(rng (e+1)).bind fun i=>(f_a b i d c).bind fun j=>(zSE h j).bind fun k=>cond (!k) (jh (.inr (.inr (xE.mk 4 e a 0)))) ((rng (a+1)).bind fun l=>jh (.inl l))) (jh (.inr (.inl ())))
def f_p(f:SPr)(a:Int):Option xE:=(rng (a+1)).bind fun k=>(zF (zWo f a) k).bind fun b=>match b with|(.inl _b)=>(rng (a+1)).bind fun g=>(zF (zWq f a) g).bind fun c=>(match c with|(.inl _c)=>(ixO f.zP a).bind fun e=>(f_g f a e).bind fun h=>(zSE h e).bind fun i=>cond (!i) (jh (xE.mk 3 a 0 0)) ((rng (a+1)).bind fun j=>(zF (zWs f a e) j).bind fun d=>(match d with|(.inl _d)=>jh (xE.mk 0 0 0 0)|(.inr d)=>jh d))|(.inr c)=>jh c)|(.inr b)=>jh b
def zN7(c:SPr)(a:Int):Option (Int⊕(Unit⊕xE)):=cond (a>=0) ((f_p c a).bind fun b=>cond (b.Kind != 0) (jh (.inr (.inr b))) ((rng (a-1)).bind fun d=>jh (.inl d))) (jh (.inr (.inl ())))
def yCr(b:SPr):Option xE:=(rng ((b.zA.length:Int)-1)).bind fun c=>(zF (zN7 b) c).bind fun a=>match a with|(.inl _a)=>jh (xE.mk 0 0 0 0)|(.inr a)=>jh a
def yCs(a:SPr):Option Bool:=(yCr a).bind fun b=>jh (b.Kind==0)
def zWt(a:SPr):Option Bool:=(f_w a).bind fun b=>cond b ((yCs a).bind fun c=>jh c) (jh jk)
def zFi(b:Int)(a:jo×Int):Option ((jo×Int)⊕jo):=cond (a.2<b) ((yG b).bind fun c=>(ixO (J1 c (0:Int)) a.2).bind fun _=>(yI a.1 [(J1 c (0:Int)).set a.2.toNat 1]).bind fun d=>(rng (a.2+1)).bind fun e=>jh (.inl (d,e))) (jh (.inr a.1))
def f_v(a:Int):Option jo:=(zF (zFi a) ([],0)).bind fun b=>jh b
def zWu(e:Int)(f:jn)(d:jo)(b:jn×Int)(a:jn×Int):Option ((jn×Int)⊕jn):=cond (a.2<a.1.length) ((ixO d b.2).bind fun g=>cond (a.2<g.length) ((ixO a.1 a.2).bind fun h=>(ixO f b.2).bind fun i=>(ixO d b.2).bind fun j=>(ixO j a.2).bind fun k=>(rng (i*k)).bind fun l=>(rng (h+l)).bind fun m=>(vB m e).bind fun n=>(ixO a.1 a.2).bind fun _=>(rng (a.2+1)).bind fun c=>jh (.inl (a.1.set a.2.toNat n,c))) (jh (.inr a.1))) (jh (.inr a.1))
def zWv(f:Int)(d:jn)(e:jo)(a:jn×Int):Option ((jn×Int)⊕jn):=cond (a.2<d.length) (cond (a.2<e.length) ((zF (zWu f d e a) (a.1,0)).bind fun b=>(rng (a.2+1)).bind fun c=>jh (.inl (b,c))) (jh (.inr a.1))) (jh (.inr a.1))
def f_R(b:Int)(c:jn)(d:jo)(e:Int):Option jn:=(yG e).bind fun f=>(zF (zWv b c d) (J1 f (0:Int),0)).bind fun a=>jh a
def zYZ(a:Int):Option Bool:=cond (a==2) (jh jj) (cond (a==3) (jh jj) (cond (a==5) (jh jj) (jh (a==7))))
def zZa(a b c:Int):Option Bool:=cond (a>=b) (jh (a<=c)) (jh jk)
def zRF(c:SPr)(b:jn)(a:Int):Option (Int⊕(Unit⊕Bool)):=cond (a<b.length) ((ixO b a).bind fun d=>(ixO c.zA a).bind fun e=>(rng (e-1)).bind fun f=>(zZa d 0 f).bind fun g=>cond (!g) (jh (.inr (.inr jk))) ((rng (a+1)).bind fun h=>jh (.inl h))) (jh (.inr (.inl ())))
def zZb(b:SPr)(c:jn):Option Bool:=cond ((c.length:Int) != b.zA.length) (jh jk) ((zF (zRF b c) 0).bind fun a=>match a with|(.inl _a)=>jh jj|(.inr a)=>jh a)
def zJX(b:jn)(a:Int):Option (Int⊕(Unit⊕Bool)):=cond (a<b.length) ((ixO b a).bind fun c=>cond (c != 0) (jh (.inr (.inr jk))) ((rng (a+1)).bind fun d=>jh (.inl d))) (jh (.inr (.inl ())))
def zWw(b:jn):Option Bool:=(zF (zJX b) 0).bind fun a=>match a with|(.inl _a)=>jh jj|(.inr a)=>jh a
def zWx(b:SPr)(c:Int)(a:jn):Option Bool:=(zZb b a).bind fun d=>cond d ((rng (c+1)).bind fun e=>(zS a 0 e).bind fun f=>(zWw f).bind fun g=>jh g) (jh jk)
def zPJ(c:SPr)(a:Int×Int):Option ((Int×Int)⊕(Unit⊕Bool)):=cond (a.2<c.zA.length) ((ixO c.zA a.2).bind fun b=>(zYZ b).bind fun d=>cond (!d) (jh (.inr (.inr jk))) ((rng (a.1*b)).bind fun e=>cond (e> 729) (jh (.inr (.inr jk))) ((rng (a.1*b)).bind fun f=>(rng (a.2+1)).bind fun g=>jh (.inl (f,g))))) (jh (.inr (.inl ())))
def zWy(f:SPr)(g:Int)(a:jo)(b:Int):Option (Int⊕(Unit⊕Bool)):=cond (b<a.length) ((ixO a b).bind fun c=>(zWx f g c).bind fun d=>cond (!d) (jh (.inr (.inr jk))) ((rng (b+1)).bind fun e=>jh (.inl e))) (jh (.inr (.inl ())))
def zPK(c:SPr)(b:Int):Option (Int⊕(Unit⊕Bool)):=cond (b<c.zA.length) ((ixO c.zP b).bind fun h=>(zWx c b h).bind fun i=>cond (!i) (jh (.inr (.inr jk))) ((ixO c.zE b).bind fun j=>(rng ((c.zA.length:Int)-1)).bind fun d=>(rng (d-b)).bind fun e=>cond ((j.length:Int) != e) (jh (.inr (.inr jk))) ((ixO c.zE b).bind fun f=>(zF (zWy c b f) 0).bind fun a=>match a with|(.inl _a)=>(rng (b+1)).bind fun g=>jh (.inl g)|(.inr a)=>jh (.inr (.inr a))))) (jh (.inr (.inl ())))
def f_u(b:SPr):Option Bool:=cond ((b.zA.length:Int)> 6) (jh jk) (cond ((b.zP.length:Int) != b.zA.length) (jh jk) (cond ((b.zE.length:Int) != b.zA.length) (jh jk) ((zF (zPJ b) (1,0)).bind fun c=>match c with|(.inl _c)=>(zF (zPK b) 0).bind fun a=>(match a with|(.inl _a)=>jh jj|(.inr a)=>jh a)|(.inr c)=>jh c)))
def f_B(a:jn):Option jn:=(yI [] a).bind fun b=>jh b
def zWz(c:Int)(d:jn)(a:jn×Int):Option ((jn×Int)⊕jn):=cond (a.2<d.length) ((rng (c+1)).bind fun e=>(rng (e+a.2)).bind fun b=>(ixO a.1 b).bind fun _=>(rng (a.2+1)).bind fun f=>jh (.inl (a.1.set b.toNat 0,f))) (jh (.inr a.1))
def yCt(g_c:SPr->jn->jn->Option jn)(g:SPr)(h:Int)(i:jn×Int)(b:Int)(a:jn×Int):Option ((jn×Int)⊕jn):=cond (a.2<b) ((ixO g.zE h).bind fun c=>(ixO c i.2).bind fun d=>(g_c g a.1 d).bind fun e=>(rng (a.2+1)).bind fun f=>jh (.inl (e,f))) (jh (.inr a.1))
def yCu(g_c:SPr->jn->jn->Option jn)(f:SPr)(g:Int)(e:jn)(a:jn×Int):Option ((jn×Int)⊕jn):=cond (a.2<e.length) ((ixO e a.2).bind fun b=>(zF (yCt g_c f g a b) (a.1,0)).bind fun c=>(rng (a.2+1)).bind fun d=>jh (.inl (c,d))) (jh (.inr a.1))
def yCv(g_c:SPr->jn->jn->Option jn)(h:SPr)(i:Int)(b:jn×Int)(c:Int)(a:jn×Int):Option ((jn×Int)⊕jn):=cond (a.2<c) ((ixO h.zE i).bind fun d=>(ixO d b.2).bind fun e=>(g_c h a.1 e).bind fun f=>(rng (a.2+1)).bind fun g=>jh (.inl (f,g))) (jh (.inr a.1))
def yCw(g_c:SPr->jn->jn->Option jn)(f:SPr)(g:Int)(e:jn)(a:jn×Int):Option ((jn×Int)⊕jn):=cond (a.2<e.length) ((ixO e a.2).bind fun b=>(zF (yCv g_c f g a b) (a.1,0)).bind fun c=>(rng (a.2+1)).bind fun d=>jh (.inl (c,d))) (jh (.inr a.1))
def b_d(g_c:SPr->jn->jn->Option jn)(d:SPr)(e:jn)(a:Int):Option jn:=(rng (a+1)).bind fun m=>(zS e m e.length).bind fun n=>(f_B n).bind fun f=>(zF (zWz a f) (e,0)).bind fun c=>(ixO c a).bind fun o=>(rng (o+1)).bind fun b=>(ixO c a).bind fun _=>(ixO (c.set a.toNat b) a).bind fun g=>(ixO d.zA a).bind fun h=>cond (g==h) ((ixO (c.set a.toNat b) a).bind fun _=>(ixO d.zP a).bind fun i=>(g_c d ((c.set a.toNat b).set a.toNat 0) i).bind fun j=>(zF (yCu g_c d a f) (j,0)).bind fun k=>jh k) ((zF (yCw g_c d a f) (c.set a.toNat b,0)).bind fun l=>jh l)
def zW0(g_d:SPr->jn->Int->Option jn)(b:SPr)(c:jn×Int)(d:Int)(a:jn×Int):Option ((jn×Int)⊕jn):=cond (a.2<d) ((g_d b a.1 c.2).bind fun e=>(rng (a.2+1)).bind fun f=>jh (.inl (e,f))) (jh (.inr a.1))
def zW1(g_d:SPr->jn->Int->Option jn)(c:SPr)(b:jn)(a:jn×Int):Option ((jn×Int)⊕jn):=cond (a.2<b.length) ((ixO b a.2).bind fun d=>(zF (zW0 g_d c a d) (a.1,0)).bind fun e=>(rng (a.2+1)).bind fun f=>jh (.inl (e,f))) (jh (.inr a.1))
def b_c(g_d:SPr->jn->Int->Option jn)(a:SPr)(b c:jn):Option jn:=(zF (zW1 g_d a c) (b,0)).bind fun d=>jh d
mutual
def zW2:Nat->SPr->jn->Int->Option jn|0=>fun _ _ _=>ji|n+1=>b_d (zSF n)
def zSF:Nat->SPr->jn->jn->Option jn|0=>fun _ _ _=>ji|n+1=>b_c (zW2 n)
end
def f_d(a:SPr)(b:jn)(c:Int):Option jn:=zCn fun n=>zW2 n a b c
def f_c(a:SPr)(b c:jn):Option jn:=zCn fun n=>zSF n a b c
def zW3(b:SPr)(c:jn)(d:Int)(a:jn×Int):Option ((jn×Int)⊕jn):=cond (a.2<d) ((f_c b a.1 c).bind fun e=>(rng (a.2+1)).bind fun f=>jh (.inl (e,f))) (jh (.inr a.1))
def f_Y(b:SPr)(a:jn)(c:Int):Option jn:=(yG (a.length:Int)).bind fun d=>(zF (zW3 b a c) (J1 d (0:Int),0)).bind fun e=>jh e
def zW4(b:SPr)(c:jn)(d:Int)(a:jn×Int):Option ((jn×Int)⊕jn):=cond (a.2<d) ((f_c b a.1 c).bind fun e=>(rng (a.2+1)).bind fun f=>jh (.inl (e,f))) (jh (.inr a.1))
def zW5(d:SPr)(e:Int)(f:jn)(c:jo)(a:jn×Int):Option ((jn×Int)⊕jn):=cond (a.2<c.length) ((ixO c a.2).bind fun g=>(rng (e+1)).bind fun h=>(rng (h+a.2)).bind fun i=>(ixO f i).bind fun j=>(zF (zW4 d g j) (a.1,0)).bind fun k=>(rng (a.2+1)).bind fun b=>jh (.inl (k,b))) (jh (.inr a.1))
def f_K(b:SPr)(c:Int)(d:jn):Option jn:=(yG (d.length:Int)).bind fun e=>(ixO b.zE c).bind fun f=>(zF (zW5 b c d f) (J1 e (0:Int),0)).bind fun a=>jh a
def zW6(b c:jn)(a:Int):Option (Int⊕(Unit⊕Bool)):=cond (a<b.length) ((ixO b a).bind fun d=>(ixO c a).bind fun e=>cond (d != e) (jh (.inr (.inr jk))) ((rng (a+1)).bind fun f=>jh (.inl f))) (jh (.inr (.inl ())))
def zL0(b c:jn):Option Bool:=cond ((b.length:Int) != c.length) (jh jk) ((zF (zW6 b c) 0).bind fun a=>match a with|(.inl _a)=>jh jj|(.inr a)=>jh a)
def zSG(c:SPr)(b:jn×jn×Int)(a:jn×jn):Option ((jn×jn)⊕(jn×jn)):=(ixO a.1 b.2.2).bind fun d=>cond (d != 0) ((f_d c a.1 b.2.2).bind fun e=>(f_d c a.2 b.2.2).bind fun f=>jh (.inl (e,f))) (jh (.inr (a.1,a.2)))
def zW7(c:SPr)(d:jn)(a:jn×jn×Int):Option ((jn×jn×Int)⊕jn):=cond (a.2.2<d.length) ((zF (zSG c a) (a.1,a.2.1)).bind fun b=>(rng (a.2.2+1)).bind fun e=>jh (.inl (b.1,b.2,e))) (jh (.inr a.2.1))
def f_N(c:SPr)(a:jn):Option jn:=(f_B a).bind fun b=>(yG (a.length:Int)).bind fun d=>(zF (zW7 c b) (b,J1 d (0:Int),0)).bind fun e=>jh e
def zL1(a:SPr)(b c:jn):Option jn:=(f_B b).bind fun d=>(f_c a d c).bind fun e=>jh e
def zIS(a:SPr)(c b:jn):Option jn:=(f_N a b).bind fun d=>(zL1 a c b).bind fun e=>(zL1 a d e).bind fun f=>jh f
def zIT(c a:Int):Option jn:=(yG c).bind fun b=>(ixO (J1 b (0:Int)) a).bind fun _=>jh ((J1 b (0:Int)).set a.toNat 1)
def zW8(a:SPr)(c b:Int):Option (Int⊕(Unit⊕xE)):=cond (b<a.zA.length) ((ixO a.zE c).bind fun f=>(rng (b-c)).bind fun g=>(rng (g-1)).bind fun h=>(ixO f h).bind fun i=>(ixO a.zA b).bind fun j=>(f_Y a i j).bind fun k=>(ixO a.zP b).bind fun l=>(f_K a c l).bind fun m=>(zL0 k m).bind fun d=>cond (!d) (jh (.inr (.inr (xE.mk 1 c b 0)))) ((rng (b+1)).bind fun e=>jh (.inl e))) (jh (.inr (.inl ())))
def zW9(a:SPr)(b d c:Int):Option (Int⊕(Unit⊕xE)):=cond (c<a.zA.length) ((ixO a.zE b).bind fun e=>(rng (c-b)).bind fun f=>(rng (f-1)).bind fun g=>(ixO e g).bind fun h=>(ixO a.zE b).bind fun i=>(rng (d-b)).bind fun j=>(rng (j-1)).bind fun k=>(ixO i k).bind fun l=>(zIS a h l).bind fun m=>(ixO a.zE d).bind fun n=>(rng (c-d)).bind fun o=>(rng (o-1)).bind fun p=>(ixO n p).bind fun q=>(f_K a b q).bind fun r=>(zL0 m r).bind fun s=>cond (!s) (jh (.inr (.inr (xE.mk 2 b d c)))) ((rng (c+1)).bind fun t=>jh (.inl t))) (jh (.inr (.inl ())))
def zWA(e:SPr)(f b:Int):Option (Int⊕(Unit⊕xE)):=cond (b<e.zA.length) ((rng (b+1)).bind fun c=>(zF (zW9 e f b) c).bind fun a=>match a with|(.inl _a)=>(rng (b+1)).bind fun d=>jh (.inl d)|(.inr a)=>jh (.inr (.inr a))) (jh (.inr (.inl ())))
def zWB(e:SPr)(f b:Int)(a:jn×Int):Option ((jn×Int)⊕jn):=cond (a.2<b) ((f_K e f a.1).bind fun c=>(rng (a.2+1)).bind fun d=>jh (.inl (c,d))) (jh (.inr a.1))
def zWC(b:SPr)(c:Int)(d:jn)(a:Int):Option (Int⊕(Unit⊕xE)):=cond (a<b.zA.length) ((zIT (b.zA.length:Int) a).bind fun e=>(ixO b.zA c).bind fun f=>(zF (zWB b c f) (e,0)).bind fun g=>(zIT (b.zA.length:Int) a).bind fun h=>(zIS b h d).bind fun i=>(zL0 g i).bind fun j=>cond (!j) (jh (.inr (.inr (xE.mk 4 c a 0)))) ((rng (a+1)).bind fun k=>jh (.inl k))) (jh (.inr (.inl ())))
def f_o(f:SPr)(a:Int):Option xE:=(rng (a+1)).bind fun k=>(zF (zW8 f a) k).bind fun b=>match b with|(.inl _b)=>(rng (a+1)).bind fun g=>(zF (zWA f a) g).bind fun c=>(match c with|(.inl _c)=>(ixO f.zP a).bind fun e=>(f_K f a e).bind fun h=>(zL0 h e).bind fun i=>cond (!i) (jh (xE.mk 3 a 0 0)) ((rng (a+1)).bind fun j=>(zF (zWC f a e) j).bind fun d=>(match d with|(.inl _d)=>jh (xE.mk 0 0 0 0)|(.inr d)=>jh d))|(.inr c)=>jh c)|(.inr b)=>jh b
def zN8(c:SPr)(a:Int):Option (Int⊕Int):=cond (a> 0) ((rng (a-1)).bind fun d=>(f_o c d).bind fun b=>cond (b.Kind==0&&(b.yAF==0&&(b.yAG==0&&b.zXL==0))) ((rng (a-1)).bind fun e=>jh (.inl e)) (jh (.inr a))) (jh (.inr a))
def yCx(a:SPr):Option Int:=(zF (zN8 a) (a.zA.length:Int)).bind fun b=>jh b
def zWD(a:SPr):Option Bool:=(f_u a).bind fun b=>cond b ((yCx a).bind fun c=>jh (c==0)) (jh jk)
def zWE(a:zG)(b:Int):Option zL:=(ixO a.zM b).bind fun c=>jh (zL.mk a.Prime a.Dim c)
def yET(a b:Int):Option (Int×Int):=jh ((IntKind.wrap .u64 ((IntKind.wrap .u64 ((IntKind.wrap .u64 ((Gg a (2 ^ (min (32:Int).toNat (IntKind.bits .u64))))*(Gg b (2 ^ (min (32:Int).toNat (IntKind.bits .u64))))))+(Gg (IntKind.wrap .u64 ((IntKind.wrap .u64 ((Gg a (2 ^ (min (32:Int).toNat (IntKind.bits .u64))))*(zGw .u64 b 4294967295)))+(Gg (IntKind.wrap .u64 ((zGw .u64 a 4294967295)*(zGw .u64 b 4294967295))) (2 ^ (min (32:Int).toNat (IntKind.bits .u64)))))) (2 ^ (min (32:Int).toNat (IntKind.bits .u64))))))+(Gg (IntKind.wrap .u64 ((zGw .u64 (IntKind.wrap .u64 ((IntKind.wrap .u64 ((Gg a (2 ^ (min (32:Int).toNat (IntKind.bits .u64))))*(zGw .u64 b 4294967295)))+(Gg (IntKind.wrap .u64 ((zGw .u64 a 4294967295)*(zGw .u64 b 4294967295))) (2 ^ (min (32:Int).toNat (IntKind.bits .u64)))))) 4294967295)+(IntKind.wrap .u64 ((zGw .u64 a 4294967295)*(Gg b (2 ^ (min (32:Int).toNat (IntKind.bits .u64)))))))) (2 ^ (min (32:Int).toNat (IntKind.bits .u64)))))),(IntKind.wrap .u64 (a*b)))
def zWF(b c:Int):Option (Int×Int):=(yET b c).bind fun a=>jh (a.1,a.2)
def zBK(a:jn×Int):Option ((jn×Int)⊕jn):=cond (a.2<a.1.length) ((zS a.1 a.2 a.1.length).bind fun _=>(zS a.1 0 a.2).bind fun b=>(rng (a.2+((min b.length (((a.1.length:Int).toNat)-((a.2:Int).toNat)):Nat):Int))).bind fun c=>jh (.inl (wQ a.1 ((a.2:Int).toNat) (b.take (((a.1.length:Int).toNat)-((a.2:Int).toNat))),c))) (jh (.inr a.1))
def f_k(a:jn)(d:Int):Option jn:=cond (d<0) (ji) ((zWF (IntKind.wrap .u64 (a.length:Int)) (IntKind.wrap .u64 d)).bind fun b=>cond (b.1> 0) (ji) (cond (b.2> 9223372036854775807) (ji) ((yG (IntKind.wrap .i64 b.2)).bind fun c=>(zF zBK (wQ (J1 c (0:Int)) 0 (a.take (((J1 c (0:Int)).length)-0)),((min a.length (((J1 c (0:Int)).length)-0):Nat):Int))).bind fun e=>jh e)))
def zWG(b:jn×Int)(c:Int)(a:jn×Int):Option ((jn×Int)⊕jn):=cond (a.2<c) ((rng (b.2+1)).bind fun d=>(yI a.1 [d]).bind fun e=>(rng (a.2+1)).bind fun f=>jh (.inl (e,f))) (jh (.inr a.1))
def zWH(b:jn)(a:jn×Int):Option ((jn×Int)⊕jn):=cond (a.2<b.length) ((ixO b a.2).bind fun c=>(zF (zWG a c) (a.1,0)).bind fun d=>(rng (a.2+1)).bind fun e=>jh (.inl (d,e))) (jh (.inr a.1))
def f_C(a:jn):Option jn:=(zF (zWH a) ([],0)).bind fun b=>jh b
def zWI(b:SPr)(a:(List (jn×jn))×Int):Option (((List (jn×jn))×Int)⊕(List (jn×jn))):=cond (a.2<b.zA.length) ((ixO b.zA a.2).bind fun c=>(rng (a.2+1)).bind fun d=>(f_k [d] c).bind fun e=>(ixO b.zP a.2).bind fun f=>(f_C f).bind fun g=>(yI a.1 [(e,g)]).bind fun h=>(rng (a.2+1)).bind fun i=>jh (.inl (h,i))) (jh (.inr a.1))
def zWJ(j:(List (jn×jn))×Int)(k:jo)(a:(List (jn×jn))×Int):Option (((List (jn×jn))×Int)⊕(List (jn×jn))):=cond (a.2<k.length) ((ixO k a.2).bind fun c=>(rng (j.2+1)).bind fun b=>(rng (j.2+a.2)).bind fun d=>(rng (d+2)).bind fun e=>(f_C c).bind fun f=>(yI [b] f).bind fun g=>(yI a.1 [([e,b],g)]).bind fun h=>(rng (a.2+1)).bind fun i=>jh (.inl (h,i))) (jh (.inr a.1))
def zWK(d:SPr)(a:(List (jn×jn))×Int):Option (((List (jn×jn))×Int)⊕(List (jn×jn))):=cond (a.2<d.zA.length) ((ixO d.zE a.2).bind fun e=>(zF (zWJ a e) (a.1,0)).bind fun b=>(rng (a.2+1)).bind fun c=>jh (.inl (b,c))) (jh (.inr a.1))
def f_D(b:SPr):Option (List (jn×jn)):=(zF (zWI b) ([],0)).bind fun c=>(zF (zWK b) (c,0)).bind fun a=>jh a
def zL2(b:Int)(a:jo×Int):Option ((jo×Int)⊕jo):=cond (a.2<b) ((yG b).bind fun c=>(ixO (J1 c (0:Int)) a.2).bind fun _=>(yI a.1 [(J1 c (0:Int)).set a.2.toNat 1]).bind fun d=>(rng (a.2+1)).bind fun e=>jh (.inl (d,e))) (jh (.inr a.1))
def f_O(b a:Int):Option zL:=(zF (zL2 a) ([],0)).bind fun c=>jh (zL.mk b a c)
def zL3(b a:Int):Option Int:=(vB b a).bind fun c=>(rng (c+a)).bind fun d=>(vB d a).bind fun e=>jh e
def zN9(b c:jn)(d e:Int)(a:jn×Int):Option ((jn×Int)⊕jn):=cond (a.2<b.length) ((ixO a.1 a.2).bind fun f=>(ixO c a.2).bind fun g=>(rng (d*g)).bind fun h=>(rng (f+h)).bind fun i=>(zL3 i e).bind fun j=>(ixO a.1 a.2).bind fun _=>(rng (a.2+1)).bind fun k=>jh (.inl (a.1.set a.2.toNat j,k))) (jh (.inr a.1))
def f_z(a b:jn)(c d:Int):Option jn:=(zF (zN9 a b c d) (a,0)).bind fun e=>jh e
def zNA(b:jn)(c:zL)(a:jn×Int):Option ((jn×Int)⊕jn):=cond (a.2<b.length) ((ixO b a.2).bind fun d=>(ixO c.Rows a.2).bind fun e=>(f_z a.1 e d c.Prime).bind fun f=>(rng (a.2+1)).bind fun g=>jh (.inl (f,g))) (jh (.inr a.1))
def zWL(b:jn)(a:zL):Option jn:=(yG a.vN).bind fun c=>(zF (zNA b a) (J1 c (0:Int),0)).bind fun d=>jh d
def zNB(b c:zL)(a:jo×Int):Option ((jo×Int)⊕jo):=cond (a.2<b.Rows.length) ((ixO b.Rows a.2).bind fun d=>(zWL d c).bind fun e=>(yI a.1 [e]).bind fun f=>(rng (a.2+1)).bind fun g=>jh (.inl (f,g))) (jh (.inr a.1))
def zZc(a b:zL):Option zL:=(zF (zNB a b) ([],0)).bind fun c=>jh (zL.mk a.Prime b.vN c)
def zNC(d:zG)(c:jn)(a:Int×Int×jo×Int):Option ((Int×Int×jo×Int)⊕(Int×Int×jo)):=cond (a.2.2.2<c.length) ((ixO c a.2.2.2).bind fun e=>(rng (e-1)).bind fun f=>(zWE d f).bind fun g=>(zZc (zL.mk a.1 a.2.1 a.2.2.1) g).bind fun b=>(rng (a.2.2.2+1)).bind fun h=>jh (.inl (b.Prime,b.vN,b.Rows,h))) (jh (.inr (a.1,a.2.1,a.2.2.1)))
def zPL(a:zG)(d:jn):Option zL:=(f_O a.Prime a.Dim).bind fun b=>(zF (zNC a d) (b.Prime,b.vN,b.Rows,0)).bind fun c=>jh (zL.mk c.1 c.2.1 c.2.2)
def zWM(b c:jo)(a:Int):Option (Int⊕(Unit⊕Bool)):=cond (a<b.length) ((ixO b a).bind fun d=>(ixO c a).bind fun e=>(zL0 d e).bind fun f=>cond (!f) (jh (.inr (.inr jk))) ((rng (a+1)).bind fun g=>jh (.inl g))) (jh (.inr (.inl ())))
def yCy(b c:jo):Option Bool:=cond ((b.length:Int) != c.length) (jh jk) ((zF (zWM b c) 0).bind fun a=>match a with|(.inl _a)=>jh jj|(.inr a)=>jh a)
def zZd(a b:jo):Option Bool:=(yCy a b).bind fun c=>jh c
def zWN(a:Int):Option jn:=cond (a<0) (ji) ((rng (0-0)).bind fun c=>(rng (a-c)).bind fun b=>cond (b> 0) ((wL [] b (0:Int)).bind fun d=>(zS d 0 0).bind fun e=>jh e) (jh []))
def zWO(b:jo)(a:Int×Int):Option ((Int×Int)⊕Int):=cond (a.2<b.length) ((ixO b a.2).bind fun d=>(rng (a.1+d.length)).bind fun c=>cond (c<0) (ji) ((rng (a.2+1)).bind fun e=>jh (.inl (c,e)))) (jh (.inr a.1))
def zWP(b:jo)(a:jn×Int):Option ((jn×Int)⊕jn):=cond (a.2<b.length) ((ixO b a.2).bind fun c=>(yI a.1 c).bind fun d=>(rng (a.2+1)).bind fun e=>jh (.inl (d,e))) (jh (.inr a.1))
def f_t(a:jo):Option jn:=(zF (zWO a) (0,0)).bind fun b=>(zWN b).bind fun c=>(zF (zWP a) (c,0)).bind fun d=>jh d
def zZe(a:jn)(b c:Int):Option jn:=(yG b).bind fun d=>(yG c).bind fun e=>(f_t [J1 d (0:Int),a,J1 e (0:Int)]).bind fun f=>jh f
def zWQ(b c:jn)(a:Int):Option (Int⊕(Unit⊕Bool)):=cond (a<b.length) ((ixO b a).bind fun d=>(ixO c a).bind fun e=>cond (d != e) (jh (.inr (.inr jk))) ((rng (a+1)).bind fun f=>jh (.inl f))) (jh (.inr (.inl ())))
def zWR(b c:jn):Option Bool:=cond ((b.length:Int) != c.length) (jh jk) ((zF (zWQ b c) 0).bind fun a=>match a with|(.inl _a)=>jh jj|(.inr a)=>jh a)
def zWS(b c:jo)(a:Int):Option (Int⊕(Unit⊕Bool)):=cond (a<b.length) ((ixO b a).bind fun d=>(ixO c a).bind fun e=>(zWR d e).bind fun f=>cond (!f) (jh (.inr (.inr jk))) ((rng (a+1)).bind fun g=>jh (.inl g))) (jh (.inr (.inl ())))
def zSH(b c:jo):Option Bool:=cond ((b.length:Int) != c.length) (jh jk) ((zF (zWS b c) 0).bind fun a=>match a with|(.inl _a)=>jh jj|(.inr a)=>jh a)
def zWT(b c:List jo)(a:Int):Option (Int⊕(Unit⊕Bool)):=cond (a<b.length) ((ixO b a).bind fun d=>(ixO c a).bind fun e=>(zSH d e).bind fun f=>cond (!f) (jh (.inr (.inr jk))) ((rng (a+1)).bind fun g=>jh (.inl g))) (jh (.inr (.inl ())))
def yCz(b c:List jo):Option Bool:=cond ((b.length:Int) != c.length) (jh jk) ((zF (zWT b c) 0).bind fun a=>match a with|(.inl _a)=>jh jj|(.inr a)=>jh a)
def zZf(a b:SPr):Option Bool:=(zWR a.zA b.zA).bind fun c=>cond (!c) (jh jk) ((zSH a.zP b.zP).bind fun d=>cond (!d) (jh jk) ((yCz a.zE b.zE).bind fun e=>cond (!e) (jh jk) (jh jj)))
def zRG(a:jn×Int×Int):Option ((jn×Int×Int)⊕(jn×Int)):=cond (a.2.2<a.1.length) ((ixO a.1 a.2.2).bind fun _=>(rng (a.2.1+1)).bind fun b=>(rng (a.2.2+1)).bind fun c=>jh (.inl (a.1.set a.2.2.toNat a.2.1,b,c))) (jh (.inr (a.1,a.2.1)))
def zSI(b:jn)(c:Int):Option (Int×jn):=(zF zRG (b,c,0)).bind fun a=>jh (a.2,a.1)
def zWU(a:jo×Int×Int):Option ((jo×Int×Int)⊕(jo×Int)):=cond (a.2.2<a.1.length) ((ixO a.1 a.2.2).bind fun c=>(zSI c a.2.1).bind fun b=>(rng (a.2.2+1)).bind fun d=>jh (.inl (a.1.set a.2.2.toNat b.2,b.1,d))) (jh (.inr (a.1,a.2.1)))
def zPM(b:jo)(c:Int):Option (Int×jo):=(zF zWU (b,c,0)).bind fun a=>jh (a.2,a.1)
def zWV(a:(List jo)×Int×Int):Option (((List jo)×Int×Int)⊕((List jo)×Int)):=cond (a.2.2<a.1.length) ((ixO a.1 a.2.2).bind fun c=>(zPM c a.2.1).bind fun b=>(rng (a.2.2+1)).bind fun d=>jh (.inl (a.1.set a.2.2.toNat b.2,b.1,d))) (jh (.inr (a.1,a.2.1)))
def zZg(b:List jo)(c:Int):Option (Int×(List jo)):=(zF zWV (b,c,0)).bind fun a=>jh (a.2,a.1)
def zZh(a:SPr)(e:Int):Option (Int×SPr):=(zSI a.zA e).bind fun b=>(zPM a.zP b.1).bind fun c=>(zZg a.zE c.1).bind fun d=>jh (d.1,(SPr.mk b.2 c.2 d.2))
def zND(b:jn)(a:Int×Int):Option ((Int×Int)⊕(Int⊕Int)):=cond (a.2<b.length) ((ixO b a.2).bind fun c=>cond (c != a.1) (jh (.inr (.inr (-1)))) ((rng (a.1+1)).bind fun d=>(rng (a.2+1)).bind fun e=>jh (.inl (d,e)))) (jh (.inr (.inl a.1)))
def zWW(b:jn)(c:Int):Option Int:=(zF (zND b) (c,0)).bind fun a=>match a with|(.inl a)=>jh a|(.inr a)=>jh a
def zWX(b:jo)(a:Int×Int):Option ((Int×Int)⊕(Int⊕Int)):=cond (a.2<b.length) ((ixO b a.2).bind fun d=>(zWW d a.1).bind fun c=>cond (c<0) (jh (.inr (.inr (-1)))) ((rng (a.2+1)).bind fun e=>jh (.inl (c,e)))) (jh (.inr (.inl a.1)))
def yC0(b:jo)(c:Int):Option Int:=(zF (zWX b) (c,0)).bind fun a=>match a with|(.inl a)=>jh a|(.inr a)=>jh a
def b_j(g_j:SPr->Int->jn->Option jn)(b:SPr)(a:Int)(c:jn):Option jn:=cond (a>=b.zA.length) ((yG (b.zA.length:Int)).bind fun m=>jh (J1 m (0:Int))) ((f_y c).bind fun j=>(ixO j a).bind fun _=>(rng (a+1)).bind fun n=>(g_j b n (j.set a.toNat 0)).bind fun k=>(ixO c a).bind fun o=>cond (o==0) (jh k) ((yG (b.zA.length:Int)).bind fun l=>(ixO b.zA a).bind fun p=>(ixO c a).bind fun q=>(rng (p-q)).bind fun d=>(ixO (J1 l (0:Int)) a).bind fun _=>(f_a b a k ((J1 l (0:Int)).set a.toNat d)).bind fun e=>(rng (a+1)).bind fun f=>(ixO b.zP a).bind fun g=>(g_j b f g).bind fun h=>(f_a b a e h).bind fun i=>jh i))
def zPN:Nat->SPr->Int->jn->Option jn|0=>fun _ _ _=>ji|n+1=>b_j (zPN n)
def f_j(a:SPr)(b:Int)(c:jn):Option jn:=zCn fun n=>zPN n a b c
def zSJ(a:SPr)(b:jn):Option jn:=(f_j a 0 b).bind fun c=>jh c
def zNE(d:jo)(a:jo×Int):Option ((jo×Int)⊕jo):=cond (a.2<d.length) ((ixO d a.2).bind fun b=>(rng ((b.length:Int)+d.length)).bind fun f=>(yG f).bind fun c=>(rng ((b.length:Int)+a.2)).bind fun e=>(ixO (wQ (J1 c (0:Int)) 0 (b.take (((J1 c (0:Int)).length)-0))) e).bind fun _=>(yI a.1 [(wQ (J1 c (0:Int)) 0 (b.take (((J1 c (0:Int)).length)-0))).set e.toNat 1]).bind fun g=>(rng (a.2+1)).bind fun h=>jh (.inl (g,h))) (jh (.inr a.1))
def zZi(a:jo):Option jo:=(zF (zNE a) ([],0)).bind fun b=>jh b
def zNF(b:jo)(a:jo×Int):Option ((jo×Int)⊕jo):=cond (a.2<b.length) ((ixO b a.2).bind fun c=>(f_B c).bind fun d=>(yI a.1 [d]).bind fun e=>(rng (a.2+1)).bind fun f=>jh (.inl (e,f))) (jh (.inr a.1))
def zZj(a:jo):Option jo:=(zF (zNF a) ([],0)).bind fun b=>jh b
def zJY(a:Int×Int×Int×Int):Option ((Int×Int×Int×Int)⊕(Int×Int)):=cond (a.2.1 != 0) ((vK a.1 a.2.1).bind fun b=>(rng (b*a.2.1)).bind fun c=>(rng (a.1-c)).bind fun d=>(rng (b*a.2.2.2)).bind fun e=>(rng (a.2.2.1-e)).bind fun f=>jh (.inl (a.2.1,d,a.2.2.2,f))) (jh (.inr (a.1,a.2.2.1)))
def zNG(c a:Int):Option (Int×Bool):=(zF zJY (a,c,0,1)).bind fun b=>(zL3 b.2 a).bind fun d=>jh (d,(b.1==1))
def zIU(b:jo×Int×Int)(a:Int):Option (Int⊕Int):=cond (a<b.1.length) ((ixO b.1 a).bind fun c=>(ixO c b.2.2).bind fun d=>cond (d==0) ((rng (a+1)).bind fun e=>jh (.inl e)) (jh (.inr a))) (jh (.inr a))
def zNH(k:Int)(b:jo×Int×Int)(d:Int×Bool)(e:jn)(a:jo×Int):Option ((jo×Int)⊕jo):=cond (a.2<e.length) ((ixO a.1 b.2.1).bind fun c=>(ixO a.1 b.2.1).bind fun f=>(ixO f a.2).bind fun g=>(rng (g*d.1)).bind fun h=>(vB h k).bind fun i=>(ixO c a.2).bind fun _=>(rng (a.2+1)).bind fun j=>jh (.inl (a.1.set b.2.1.toNat (c.set a.2.toNat i),j))) (jh (.inr a.1))
def zPO(l:Int)(b:jo×Int×Int)(c:jo)(a:jo×Int):Option ((jo×Int)⊕jo):=cond (a.2<c.length) (cond (a.2 != b.2.1) ((ixO a.1 a.2).bind fun d=>(ixO a.1 b.2.1).bind fun e=>(ixO a.1 a.2).bind fun f=>(ixO f b.2.2).bind fun g=>(rng (0-g)).bind fun h=>(f_z d e h l).bind fun i=>(rng (a.2+1)).bind fun j=>jh (.inl (a.1.set a.2.toNat i,j))) ((rng (a.2+1)).bind fun k=>jh (.inl (a.1,k)))) (jh (.inr a.1))
def zPP(d:Int)(a:jo×Int×Int):Option ((jo×Int×Int)⊕(jo×Int)):=cond ((a.1.length:Int)> 0) ((ixO a.1 0).bind fun n=>cond (a.2.2<n.length) (cond (a.2.1<a.1.length) ((zF (zIU a) a.2.1).bind fun b=>cond (b==a.1.length) ((rng (a.2.2+1)).bind fun o=>jh (.inl (a.1,a.2.1,o))) ((ixO a.1 b).bind fun e=>(ixO a.1 a.2.1).bind fun f=>(ixO (qZ a.1 a.2.1 b e f) a.2.1).bind fun g=>(ixO g a.2.2).bind fun h=>(zNG h d).bind fun i=>(ixO (qZ a.1 a.2.1 b e f) a.2.1).bind fun j=>(zF (zNH d a i j) (qZ a.1 a.2.1 b e f,0)).bind fun c=>(zF (zPO d a c) (c,0)).bind fun k=>(rng (a.2.1+1)).bind fun l=>(rng (a.2.2+1)).bind fun m=>jh (.inl (k,l,m)))) (jh (.inr (a.1,a.2.1)))) (jh (.inr (a.1,a.2.1)))) (jh (.inr (a.1,a.2.1)))
def f_i(c:Int)(d:jo):Option jo:=(zZj d).bind fun e=>(zF (zPP c) (e,0,0)).bind fun a=>(zS a.1 0 a.2).bind fun b=>jh b
def zWY(c b:Int):Option Int:=(vB c b).bind fun a=>cond (a<0) ((rng (a+b)).bind fun d=>jh d) (jh a)
def zIV(b:jn)(a:Int):Option (Int⊕(Unit⊕Int)):=cond (a<b.length) ((ixO b a).bind fun c=>cond (c != 0) (jh (.inr (.inr a))) ((rng (a+1)).bind fun d=>jh (.inl d))) (jh (.inr (.inl ())))
def f_I(b:jn):Option Int:=(zF (zIV b) 0).bind fun a=>match a with|(.inl _a)=>jh (b.length:Int)|(.inr a)=>jh a
def zWZ(c d:Int)(b:jn)(a:jn×Int):Option ((jn×Int)⊕jn):=cond (a.2<a.1.length) (cond (a.2<b.length) ((ixO a.1 a.2).bind fun e=>(ixO b a.2).bind fun f=>(rng (d*f)).bind fun g=>(rng (e+g)).bind fun h=>(zWY h c).bind fun i=>(ixO a.1 a.2).bind fun _=>(rng (a.2+1)).bind fun j=>jh (.inl (a.1.set a.2.toNat i,j))) (jh (.inr a.1))) (jh (.inr a.1))
def f_x(a:Int)(b:jn)(c:Int)(d:jn):Option jn:=(f_y b).bind fun e=>(zF (zWZ a c d) (e,0)).bind fun f=>jh f
def zNI(f:Int)(b:jo)(a:jn×Int):Option ((jn×Int)⊕jn):=cond (a.2<b.length) ((ixO b a.2).bind fun g=>(f_I g).bind fun c=>cond (c<a.1.length) ((ixO a.1 c).bind fun h=>cond (h != 0) ((ixO a.1 c).bind fun i=>(rng (f-i)).bind fun j=>(ixO b a.2).bind fun k=>(f_x f a.1 j k).bind fun l=>(rng (a.2+1)).bind fun m=>jh (.inl (l,m))) ((rng (a.2+1)).bind fun d=>jh (.inl (a.1,d)))) ((rng (a.2+1)).bind fun e=>jh (.inl (a.1,e)))) (jh (.inr a.1))
def zSK(b:Int)(c:jo)(d:jn):Option jn:=(f_y d).bind fun e=>(zF (zNI b c) (e,0)).bind fun a=>jh a
def zNJ(c b a:Int):Option (Int⊕(Unit⊕Int)):=cond (a<b) ((zWY c b).bind fun d=>(rng (d*a)).bind fun e=>(vB e b).bind fun f=>cond (f==1) (jh (.inr (.inr a))) ((rng (a+1)).bind fun g=>jh (.inl g))) (jh (.inr (.inl ())))
def zXa(b c:Int):Option Int:=(zF (zNJ b c) 1).bind fun a=>match a with|(.inl _a)=>jh 0|(.inr a)=>jh a
def zZk(b c:Int)(a:jn):Option jn:=(yG (a.length:Int)).bind fun d=>(f_x b (J1 d (0:Int)) c a).bind fun e=>jh e
def zIW(c:Int)(b:jo×Int)(d:Int)(e:jn)(a:jo×Bool×Int):Option ((jo×Bool×Int)⊕(jo×Bool)):=cond (a.2.2<b.1.length) (cond (!a.2.1) ((ixO b.1 a.2.2).bind fun C=>(f_I C).bind fun D=>cond (D> d) ((yI a.1 [e]).bind fun f=>(ixO b.1 a.2.2).bind fun g=>(ixO b.1 a.2.2).bind fun h=>(ixO h d).bind fun i=>(rng (c-i)).bind fun j=>(f_x c g j e).bind fun k=>(yI f [k]).bind fun l=>(rng (a.2.2+1)).bind fun m=>jh (.inl (l,jj,m))) ((ixO b.1 a.2.2).bind fun n=>(ixO b.1 a.2.2).bind fun o=>(ixO o d).bind fun p=>(rng (c-p)).bind fun q=>(f_x c n q e).bind fun r=>(yI a.1 [r]).bind fun s=>(rng (a.2.2+1)).bind fun t=>jh (.inl (s,a.2.1,t)))) ((ixO b.1 a.2.2).bind fun u=>(ixO b.1 a.2.2).bind fun v=>(ixO v d).bind fun w=>(rng (c-w)).bind fun x=>(f_x c u x e).bind fun y=>(yI a.1 [y]).bind fun z=>(rng (a.2.2+1)).bind fun A=>jh (.inl (z,a.2.1,A)))) (jh (.inr (a.1,a.2.1)))
def zSL(c:Int)(i:jo)(a:jo×Int):Option ((jo×Int)⊕jo):=cond (a.2<i.length) ((ixO i a.2).bind fun k=>(zSK c a.1 k).bind fun d=>(f_I d).bind fun e=>cond (e==d.length) ((rng (a.2+1)).bind fun l=>jh (.inl (a.1,l))) ((ixO d e).bind fun m=>(zXa m c).bind fun n=>(zZk c n d).bind fun j=>(zF (zIW c a e j) ([],jk,0)).bind fun b=>cond (!b.2) ((yI b.1 [j]).bind fun f=>(rng (a.2+1)).bind fun g=>jh (.inl (f,g))) ((rng (a.2+1)).bind fun h=>jh (.inl (b.1,h))))) (jh (.inr a.1))
def f_q(b:Int)(c:jo):Option jo:=(zF (zSL b c) ([],0)).bind fun a=>jh a
def zNK(b c:jo)(a:jo×Int):Option ((jo×Int)⊕jo):=cond (a.2<b.length) ((ixO b a.2).bind fun d=>(f_y d).bind fun e=>(ixO c a.2).bind fun f=>(yI e f).bind fun g=>(yI a.1 [g]).bind fun h=>(rng (a.2+1)).bind fun i=>jh (.inl (h,i))) (jh (.inr a.1))
def zZl(b:Int)(a:jo):Option jo:=(f_v (a.length:Int)).bind fun c=>(zF (zNK a c) ([],0)).bind fun d=>(f_q b d).bind fun e=>jh e
def zJZ(c:Int)(b:jo)(a:jo×Int):Option ((jo×Int)⊕jo):=cond (a.2<b.length) ((ixO b a.2).bind fun e=>(f_I e).bind fun f=>cond (f>=c) ((ixO b a.2).bind fun d=>(zS d c d.length).bind fun g=>(f_y g).bind fun h=>(yI a.1 [h]).bind fun i=>(rng (a.2+1)).bind fun j=>jh (.inl (i,j))) ((rng (a.2+1)).bind fun k=>jh (.inl (a.1,k)))) (jh (.inr a.1))
def zZm(b:Int)(c:jo)(d:Int):Option jo:=(zZl b c).bind fun e=>(zF (zJZ d e) ([],0)).bind fun a=>jh a
def zXb(a:SPr):Option Int:=(rng ((a.zA.length:Int)-1)).bind fun b=>(rng ((a.zA.length:Int)*b)).bind fun c=>(vK c 2).bind fun d=>(rng ((a.zA.length:Int)+d)).bind fun e=>jh e
def yC1(b a c:Int):Option Int:=(rng (a*b)).bind fun d=>(rng (b+d)).bind fun e=>(rng (a+1)).bind fun f=>(rng (a*f)).bind fun g=>(vK g 2).bind fun h=>(rng (e-h)).bind fun i=>(rng (i+c)).bind fun j=>(rng (j-a)).bind fun k=>(rng (k-1)).bind fun l=>jh l
def zXc(a:SPr):Option Int:=(rng ((a.zA.length:Int)+1)).bind fun b=>(rng ((a.zA.length:Int)*b)).bind fun c=>(vK c 2).bind fun d=>jh d
def zNL(b:jn)(c:Int)(a:jo×Int):Option ((jo×Int)⊕jo):=cond (a.2<b.length) ((rng (a.2+c)).bind fun d=>(zS b a.2 d).bind fun e=>(f_B e).bind fun f=>(yI a.1 [f]).bind fun g=>(rng (a.2+c)).bind fun h=>jh (.inl (g,h))) (jh (.inr a.1))
def zSM(a:jn)(b:Int):Option jo:=(zF (zNL a b) ([],0)).bind fun c=>jh c
def zSN(b:jn)(a:jo×Int):Option ((jo×Int)⊕jo):=cond (a.2<b.length) ((zIT (b.length:Int) a.2).bind fun c=>(yI a.1 [c]).bind fun d=>(rng (a.2+1)).bind fun e=>jh (.inl (d,e))) (jh (.inr a.1))
def zSO(b:jn)(a:jo×(List jo)×Int):Option ((jo×(List jo)×Int)⊕(jo×(List jo))):=cond (a.2.2<b.length) ((yG (b.length:Int)).bind fun d=>(yI a.1 [J1 d (0:Int)]).bind fun e=>(rng (a.2.2+1)).bind fun f=>(zF (zSN b) ([],f)).bind fun g=>(yI a.2.1 [g]).bind fun h=>(rng (a.2.2+1)).bind fun c=>jh (.inl (e,h,c))) (jh (.inr (a.1,a.2.1)))
def f_P(b:jn):Option SPr:=(f_B b).bind fun c=>(zF (zSO b) ([],[],0)).bind fun a=>jh (SPr.mk c a.1 a.2)
def zPQ(c:SPr)(d:jo)(a:jo×Int×Int):Option ((jo×Int×Int)⊕(jo×Int)):=cond (a.2.2<c.zP.length) ((ixO c.zP a.2.2).bind fun e=>(ixO d a.2.1).bind fun f=>(f_t [e,f]).bind fun g=>(ixO a.1 a.2.2).bind fun _=>(rng (a.2.1+1)).bind fun h=>(rng (a.2.2+1)).bind fun b=>jh (.inl (a.1.set a.2.2.toNat g,h,b))) (jh (.inr (a.1,a.2.1)))
def zPR(j:jo)(b:(List jo)×Int×Int)(c:jo)(a:(List jo)×Int×Int):Option (((List jo)×Int×Int)⊕((List jo)×Int)):=cond (a.2.2<c.length) ((ixO c a.2.2).bind fun e=>(ixO a.1 b.2.2).bind fun d=>(ixO j a.2.1).bind fun f=>(f_t [e,f]).bind fun g=>(ixO d a.2.2).bind fun _=>(rng (a.2.1+1)).bind fun h=>(rng (a.2.2+1)).bind fun i=>jh (.inl (a.1.set b.2.2.toNat (d.set a.2.2.toNat g),h,i))) (jh (.inr (a.1,a.2.1)))
def zPS(k:SPr)(b:(List jo)×Int×Int)(c:jo)(a:(List jo)×Int):Option (((List jo)×Int)⊕(List jo)):=cond (a.2<c.length) ((ixO c a.2).bind fun f=>(ixO a.1 b.2.2).bind fun d=>(rng ((k.zA.length:Int)-1)).bind fun g=>(rng (g-b.2.2)).bind fun h=>(rng (h+a.2)).bind fun e=>(zZe f (k.zA.length:Int) 0).bind fun i=>(ixO d e).bind fun _=>(rng (a.2+1)).bind fun j=>jh (.inl (a.1.set b.2.2.toNat (d.set e.toNat i),j))) (jh (.inr a.1))
def zPT(c:SPr)(h:zG)(i:jo)(a:(List jo)×Int×Int):Option (((List jo)×Int×Int)⊕(List jo)):=cond (a.2.2<c.zA.length) ((ixO c.zE a.2.2).bind fun d=>(zF (zPR i a d) (a.1,a.2.1,0)).bind fun b=>(ixO h.zM a.2.2).bind fun e=>(zF (zPS c a e) (b.1,0)).bind fun f=>(rng (a.2.2+1)).bind fun g=>jh (.inl (f,b.2,g))) (jh (.inr a.1))
def f_m(b:SPr)(c:zG)(f:jo):Option SPr:=(f_B b.zA).bind fun g=>(f_k [c.Prime] c.Dim).bind fun h=>(yI g h).bind fun i=>(f_P i).bind fun d=>(zF (zPQ b f) (d.zP,0,0)).bind fun a=>(zF (zPT b c f) (d.zE,a.2,0)).bind fun e=>jh (SPr.mk d.zA a.1 e)
def zNM(a:zG)(c:jo)(d:jn)(b:Int):Option jn:=(ixO a.zM b).bind fun e=>(f_R a.Prime d e a.Dim).bind fun f=>(ixO c b).bind fun g=>(f_x a.Prime f 1 g).bind fun h=>jh h
def zXd(c:zG)(d:jo)(e:jn)(b:jn×Int)(a:jn×Int):Option ((jn×Int)⊕jn):=(ixO e b.2).bind fun f=>cond (a.2<f) ((zNM c d a.1 b.2).bind fun g=>(rng (a.2+1)).bind fun h=>jh (.inl (g,h))) (jh (.inr a.1))
def zXe(c:zG)(d:jo)(b:jn)(a:jn×Int):Option ((jn×Int)⊕jn):=cond (a.2<b.length) ((zF (zXd c d b a) (a.1,0)).bind fun e=>(rng (a.2+1)).bind fun f=>jh (.inl (e,f))) (jh (.inr a.1))
def f_S(a:zG)(b:jo)(c d:jn):Option jn:=(zF (zXe a b d) (c,0)).bind fun e=>jh e
def zNN(b:zG)(e:jo)(c:jn)(a:jn×Int):Option ((jn×Int)⊕jn):=cond (a.2<c.length) ((ixO c a.2).bind fun d=>(rng (d-1)).bind fun f=>(zWE b f).bind fun g=>(zWL a.1 g).bind fun h=>(rng (d-1)).bind fun i=>(ixO e i).bind fun j=>(f_z h j 1 b.Prime).bind fun k=>(rng (a.2+1)).bind fun l=>jh (.inl (k,l))) (jh (.inr a.1))
def zXf(b:zG)(c:jo)(d:jn):Option jn:=(yG b.Dim).bind fun e=>(zF (zNN b c d) (J1 e (0:Int),0)).bind fun a=>jh a
def zNO(b:zG)(c:jo)(d:(List (jn×jn)))(a:jo×Int):Option ((jo×Int)⊕jo):=cond (a.2<d.length) ((ixO d a.2).bind fun e=>(zXf b c e.1).bind fun f=>(zXf b c e.2).bind fun g=>(f_z f g (-1) b.Prime).bind fun h=>(yI a.1 [h]).bind fun i=>(rng (a.2+1)).bind fun j=>jh (.inl (i,j))) (jh (.inr a.1))
def zZn(a:SPr)(b:zG)(c:jo):Option jo:=(f_D a).bind fun d=>(zF (zNO b c d) ([],0)).bind fun e=>jh e
def zI7(a:zQ):Option zC:=cond ((a.zOh.length:Int)> 0) ((ixO a.zOh 0).bind fun b=>(yG (a.p.zA.length:Int)).bind fun c=>(yG (b.length:Int)).bind fun d=>jh (zC.mk (J1 c (0:Int)) (J1 d (0:Int)))) ((yG (a.p.zA.length:Int)).bind fun e=>(yG 0).bind fun f=>jh (zC.mk (J1 e (0:Int)) (J1 f (0:Int))))
def zL4(a:zQ)(b c:Int):Option zC:=(ixO a.p.zE b).bind fun d=>(rng (c-b)).bind fun e=>(rng (e-1)).bind fun f=>(ixO d f).bind fun g=>(yC1 (a.p.zA.length:Int) b c).bind fun h=>(ixO a.zOh h).bind fun i=>jh (zC.mk g i)
def zD5(b:zG)(c:jn)(d:Int)(a:jn×Int):Option ((jn×Int)⊕jn):=cond (a.2<c.length) ((rng (a.2+b.Dim)).bind fun e=>(zS c a.2 e).bind fun f=>(ixO b.zM d).bind fun g=>(f_R b.Prime f g b.Dim).bind fun h=>(yI a.1 h).bind fun i=>(rng (a.2+b.Dim)).bind fun j=>jh (.inl (i,j))) (jh (.inr a.1))
def zXg(a:zG)(b:jn)(c:Int):Option jn:=(zF (zD5 a b c) ([],0)).bind fun d=>jh d
def zPU(a:zQ)(b:Int):Option zC:=(ixO a.p.zP b).bind fun c=>(ixO a.zOh b).bind fun d=>jh (zC.mk c d)
def zZo(g_b:zQ->Int->zC->zC->Option zC)(b:zQ)(c:Int)(f:zC)(d:jn×jn×Int)(a:jn×jn×Int):Option ((jn×jn×Int)⊕(jn×jn)):=(ixO f.x d.2.2).bind fun g=>cond (a.2.2<g) ((rng (c+1)).bind fun h=>(zL4 b c d.2.2).bind fun i=>(g_b b h (zC.mk a.1 a.2.1) i).bind fun e=>(rng (a.2.2+1)).bind fun j=>jh (.inl (e.x,e.v,j))) (jh (.inr (a.1,a.2.1)))
def zXh(g_b:zQ->Int->zC->zC->Option zC)(d:zQ)(e:Int)(b:zC)(a:jn×jn×Int):Option ((jn×jn×Int)⊕(jn×jn)):=cond (a.2.2<b.x.length) ((zF (zZo g_b d e b a) (a.1,a.2.1,0)).bind fun c=>(rng (a.2.2+1)).bind fun f=>jh (.inl (c.1,c.2,f))) (jh (.inr (a.1,a.2.1)))
def b_h(g_b:zQ->Int->zC->zC->Option zC)(b:zQ)(c:Int)(f:zC):Option zC:=(zI7 b).bind fun g=>(rng (c+1)).bind fun h=>(zF (zXh g_b b c f) (g.x,g.v,h)).bind fun a=>(zXg b.m f.v c).bind fun d=>(f_x b.m.Prime a.2 1 d).bind fun e=>jh (zC.mk a.1 e)
def zSP(g_h:zQ->Int->zC->Option zC)(d:zQ)(b:Int)(e:zC)(a:jn×jn×Int):Option ((jn×jn×Int)⊕(jn×jn)):=(ixO e.x b).bind fun f=>cond (a.2.2<f) ((g_h d b (zC.mk a.1 a.2.1)).bind fun c=>(rng (a.2.2+1)).bind fun g=>jh (.inl (c.x,c.v,g))) (jh (.inr (a.1,a.2.1)))
def b_b(g_h:zQ->Int->zC->Option zC)(g_b:zQ->Int->zC->zC->Option zC)(b:zQ)(a:Int)(j e:zC):Option zC:=cond (a>=b.p.zA.length) ((yG (b.p.zA.length:Int)).bind fun y=>(f_x b.m.Prime j.v 1 e.v).bind fun z=>jh (zC.mk (J1 y (0:Int)) z)) ((f_y j.x).bind fun u=>(f_y e.x).bind fun w=>(ixO u a).bind fun _=>(ixO w a).bind fun _=>(zF (zSP g_h b a e) (u.set a.toNat 0,j.v,0)).bind fun f=>(rng (a+1)).bind fun k=>(g_b b k (zC.mk f.1 f.2) (zC.mk (w.set a.toNat 0) e.v)).bind fun c=>(ixO j.x a).bind fun l=>(ixO e.x a).bind fun n=>(rng (l+n)).bind fun d=>(ixO b.p.zA a).bind fun o=>cond (d>=o) ((ixO b.p.zA a).bind fun q=>(rng (d-q)).bind fun r=>(rng (a+1)).bind fun s=>(zPU b a).bind fun t=>(g_b b s t c).bind fun g=>(f_y g.x).bind fun h=>(ixO h a).bind fun _=>jh (zC.mk (h.set a.toNat r) g.v)) ((f_y c.x).bind fun i=>(ixO i a).bind fun _=>jh (zC.mk (i.set a.toNat d) c.v)))
mutual
def zPV:Nat->zQ->Int->zC->Option zC|0=>fun _ _ _=>ji|n+1=>b_h (zPW n)
def zPW:Nat->zQ->Int->zC->zC->Option zC|0=>fun _ _ _ _=>ji|n+1=>b_b (zPV n) (zPW n)
end
def f_h(a:zQ)(b:Int)(c:zC):Option zC:=zCn fun n=>zPV n a b c
def f_b(a:zQ)(b:Int)(c d:zC):Option zC:=zCn fun n=>zPW n a b c d
def zI8(a:zQ)(b c:zC):Option jn:=(rng (a.m.Prime-1)).bind fun d=>(f_x a.m.Prime b.v d c.v).bind fun e=>jh e
def zSQ(b:zQ)(c:Int)(d:jo×Int)(a:jn×jn×Int):Option ((jn×jn×Int)⊕(jn×jn)):=(ixO b.p.zA d.2).bind fun f=>cond (a.2.2<f) ((rng (c+1)).bind fun g=>(zL4 b c d.2).bind fun h=>(f_b b g (zC.mk a.1 a.2.1) h).bind fun e=>(rng (a.2.2+1)).bind fun i=>jh (.inl (e.x,e.v,i))) (jh (.inr (a.1,a.2.1)))
def zSR(b:zQ)(c:Int)(o:jo×Int)(a:jo×Int):Option ((jo×Int)⊕jo):=cond (a.2<b.p.zA.length) ((zL4 b c o.2).bind fun d=>(zL4 b c a.2).bind fun e=>(zL4 b o.2 a.2).bind fun f=>(f_h b c f).bind fun g=>(rng (c+1)).bind fun h=>(f_b b h e d).bind fun i=>(rng (c+1)).bind fun j=>(f_b b j d g).bind fun k=>(zI8 b i k).bind fun l=>(yI a.1 [l]).bind fun m=>(rng (a.2+1)).bind fun n=>jh (.inl (m,n))) (jh (.inr a.1))
def zXi(b:zQ)(c:Int)(a:jo×Int):Option ((jo×Int)⊕jo):=cond (a.2<b.p.zA.length) ((zI7 b).bind fun j=>(zF (zSQ b c a) (j.x,j.v,0)).bind fun k=>(zPU b a.2).bind fun l=>(f_h b c l).bind fun d=>(zI8 b (zC.mk k.1 k.2) d).bind fun e=>(yI a.1 [e]).bind fun f=>(rng (a.2+1)).bind fun g=>(zF (zSR b c a) (f,g)).bind fun h=>(rng (a.2+1)).bind fun i=>jh (.inl (h,i))) (jh (.inr a.1))
def zXj(e:zQ)(f:Int)(a:jn×jn×Int):Option ((jn×jn×Int)⊕(jn×jn)):=(ixO e.p.zA f).bind fun c=>cond (a.2.2<c) ((f_h e f (zC.mk a.1 a.2.1)).bind fun b=>(rng (a.2.2+1)).bind fun d=>jh (.inl (b.x,b.v,d))) (jh (.inr (a.1,a.2.1)))
def zSS(c:zQ)(f:Int)(d:zC)(a:jo×Int):Option ((jo×Int)⊕jo):=cond (a.2<c.p.zA.length) ((zI7 c).bind fun b=>(ixO b.x a.2).bind fun _=>(zF (zXj c f) (b.x.set a.2.toNat 1,b.v,0)).bind fun e=>(rng (f+1)).bind fun g=>(f_b c g d (zC.mk e.1 e.2)).bind fun h=>(rng (f+1)).bind fun i=>(f_b c i (zC.mk (b.x.set a.2.toNat 1) b.v) d).bind fun j=>(zI8 c h j).bind fun k=>(yI a.1 [k]).bind fun l=>(rng (a.2+1)).bind fun m=>jh (.inl (l,m))) (jh (.inr a.1))
def f_l(c:zQ)(b:Int):Option jo:=(rng (b+1)).bind fun j=>(zF (zXi c b) ([],j)).bind fun d=>(zPU c b).bind fun a=>(f_h c b a).bind fun e=>(zI8 c e a).bind fun f=>(yI d [f]).bind fun g=>(rng (b+1)).bind fun h=>(zF (zSS c b a) (g,h)).bind fun i=>jh i
def zKa(b:zQ)(a:jo×Int):Option ((jo×Int)⊕jo):=cond (a.2<b.p.zA.length) ((f_l b a.2).bind fun c=>(yI a.1 c).bind fun d=>(rng (a.2+1)).bind fun e=>jh (.inl (d,e))) (jh (.inr a.1))
def zL5(a:zQ):Option jo:=(zF (zKa a) ([],0)).bind fun b=>jh b
def zNP(b:jo)(a:jo×Int):Option ((jo×Int)⊕jo):=cond (a.2<b.length) ((ixO b a.2).bind fun c=>(f_y c).bind fun d=>(yI a.1 [d]).bind fun e=>(rng (a.2+1)).bind fun f=>jh (.inl (e,f))) (jh (.inr a.1))
def zPX(a:jo):Option jo:=(zF (zNP a) ([],0)).bind fun b=>jh b
def yC2(a b:Int)(c:jo):Option zL:=(f_i a c).bind fun d=>jh (zL.mk a b d)
def zST(a:Int):Option Bool:=jh (a != 0)
def zGq(b:jn)(a:Int):Option (Int⊕(Unit⊕Int)):=cond (a<b.length) ((ixO b a).bind fun c=>(zST c).bind fun d=>cond d (jh (.inr (.inr a))) ((rng (a+1)).bind fun e=>jh (.inl e))) (jh (.inr (.inl ())))
def zSU(b:jn):Option Int:=(zF (zGq b) 0).bind fun a=>match a with|(.inl _a)=>jh (-1)|(.inr a)=>jh a
def zIX(b:jo)(a:jn×Int):Option ((jn×Int)⊕jn):=cond (a.2<b.length) ((ixO b a.2).bind fun c=>(zSU c).bind fun d=>(yI a.1 [d]).bind fun e=>(rng (a.2+1)).bind fun f=>jh (.inl (e,f))) (jh (.inr a.1))
def f_Q(a:jo):Option jn:=(zF (zIX a) ([],0)).bind fun b=>jh b
def zKb(b:zL)(c:jn)(a:jn×Int):Option ((jn×Int)⊕jn):=cond (a.2<c.length) ((ixO c a.2).bind fun d=>(ixO b.Rows a.2).bind fun e=>(ixO a.1 d).bind fun f=>(rng (0-f)).bind fun g=>(f_z a.1 e g b.Prime).bind fun h=>(rng (a.2+1)).bind fun i=>jh (.inl (h,i))) (jh (.inr a.1))
def zZp(a:zL)(b:jn):Option jn:=(f_B b).bind fun c=>(f_Q a.Rows).bind fun d=>(zF (zKb a d) (c,0)).bind fun e=>jh e
def zSV(a b:zL):Option Bool:=cond (a.Prime != b.Prime) (jh jk) (cond (a.vN != b.vN) (jh jk) ((zSH a.Rows b.Rows).bind fun c=>cond (!c) (jh jk) (jh jj)))
def zNQ(b:jo)(a:jn×Int):Option ((jn×Int)⊕jn):=cond (a.2<b.length) ((ixO b a.2).bind fun c=>(yI a.1 c).bind fun d=>(rng (a.2+1)).bind fun e=>jh (.inl (d,e))) (jh (.inr a.1))
def zZq(a:jo):Option jn:=(zF (zNQ a) ([],0)).bind fun b=>jh b
def yC3(a b:Int)(c:jo):Option zL:=(zPX c).bind fun d=>jh (zL.mk a b d)
def zZr(a:zL)(c:Int):Option (Int×zL):=(zPM a.Rows c).bind fun b=>jh (b.1,(zL.mk a.Prime a.vN b.2))
def zXk(b:zL)(c:Int):Option Int:=(yC0 b.Rows c).bind fun a=>cond (a<0) (jh (-1)) (jh a)
def zSW(c:Int)(d:jo)(a:jo×Int):Option ((jo×Int)⊕jo):=cond (a.2<d.length) ((ixO d a.2).bind fun b=>(zS b 0 c).bind fun e=>(zWw e).bind fun f=>cond f ((zS b c b.length).bind fun g=>(yI a.1 [g]).bind fun h=>(rng (a.2+1)).bind fun i=>jh (.inl (h,i))) ((rng (a.2+1)).bind fun j=>jh (.inl (a.1,j)))) (jh (.inr a.1))
def f_Z(c:Int)(d:jo)(e:Int):Option jo:=(zZi d).bind fun f=>(f_i c f).bind fun g=>(zF (zSW e g) ([],0)).bind fun a=>(f_i c a).bind fun b=>jh b
def zNR(c:jn)(b:Int)(a:jo×Int):Option ((jo×Int)⊕jo):=(rng (a.2+b)).bind fun d=>cond (d<=c.length) ((rng (a.2+b)).bind fun e=>(zS c a.2 e).bind fun f=>(f_y f).bind fun g=>(yI a.1 [g]).bind fun h=>(rng (a.2+b)).bind fun i=>jh (.inl (h,i))) (jh (.inr a.1))
def zXl(a:jn)(b:Int):Option jo:=(zF (zNR a b) ([],0)).bind fun c=>jh c
def zXm(c:SPr)(d:zG)(e:jo)(b:jo×Int)(a:jn×Int):Option ((jn×Int)⊕jn):=(ixO c.zA b.2).bind fun f=>cond (a.2<f) ((zNM d e a.1 b.2).bind fun g=>(rng (a.2+1)).bind fun h=>jh (.inl (g,h))) (jh (.inr a.1))
def zXn(c:SPr)(b:zG)(f:jo)(g:Nat)(a:jo×Int):Option ((jo×Int)⊕jo):=cond (a.2<c.zA.length) ((zF (zXm c b f a) (J1 g (0:Int),0)).bind fun h=>(rng (b.Prime-1)).bind fun i=>(ixO c.zP a.2).bind fun j=>(f_S b f (J1 g (0:Int)) j).bind fun k=>(f_x b.Prime h i k).bind fun l=>(yI a.1 [l]).bind fun d=>(rng (a.2+1)).bind fun e=>jh (.inl (d,e))) (jh (.inr a.1))
def zXo(q:SPr)(c:zG)(d:jo)(r:Nat)(b:jo×Int)(a:jo×Int):Option ((jo×Int)⊕jo):=cond (a.2<q.zA.length) ((zNM c d (J1 r (0:Int)) a.2).bind fun e=>(zNM c d e b.2).bind fun f=>(zNM c d (J1 r (0:Int)) b.2).bind fun g=>(ixO q.zE b.2).bind fun h=>(rng (a.2-b.2)).bind fun i=>(rng (i-1)).bind fun j=>(ixO h j).bind fun k=>(f_S c d g k).bind fun l=>(rng (c.Prime-1)).bind fun m=>(f_x c.Prime f m l).bind fun n=>(yI a.1 [n]).bind fun o=>(rng (a.2+1)).bind fun p=>jh (.inl (o,p))) (jh (.inr a.1))
def zXp(e:SPr)(f:zG)(g:jo)(h:Nat)(a:jo×Int):Option ((jo×Int)⊕jo):=cond (a.2<e.zA.length) ((rng (a.2+1)).bind fun b=>(zF (zXo e f g h a) (a.1,b)).bind fun c=>(rng (a.2+1)).bind fun d=>jh (.inl (c,d))) (jh (.inr a.1))
def f_s(d:SPr)(a:zG)(e:jo):Option jo:=(yG a.Dim).bind fun f=>(zF (zXn d a e f) ([],0)).bind fun b=>(zF (zXp d a e f) (b,0)).bind fun c=>jh c
def zNS(e:SPr)(b:zG)(c:Int)(a:jo×Int):Option ((jo×Int)⊕jo):=cond (a.2<c) ((yG c).bind fun d=>(ixO (J1 d (0:Int)) a.2).bind fun _=>(zXl ((J1 d (0:Int)).set a.2.toNat 1) b.Dim).bind fun f=>(f_s e b f).bind fun g=>(zZq g).bind fun h=>(yI a.1 [h]).bind fun i=>(rng (a.2+1)).bind fun j=>jh (.inl (i,j))) (jh (.inr a.1))
def zZs(a:SPr)(b:zG):Option jo:=(rng ((a.zA.length:Int)*b.Dim)).bind fun c=>(zF (zNS a b c) ([],0)).bind fun d=>jh d
def zPY(b:SPr)(a:zG):Option jo:=(zZs b a).bind fun c=>(f_q a.Prime c).bind fun d=>jh d
def zNT(d:SPr)(b:zG)(c:Int)(a:jo×Int):Option ((jo×Int)⊕jo):=cond (a.2<c) ((zIT c a.2).bind fun e=>(zSM e b.Dim).bind fun f=>(zZn d b f).bind fun g=>(f_t g).bind fun h=>(yI a.1 [h]).bind fun i=>(rng (a.2+1)).bind fun j=>jh (.inl (i,j))) (jh (.inr a.1))
def zXq(a:SPr)(b:zG):Option jo:=(rng ((a.zA.length:Int)*b.Dim)).bind fun c=>(zF (zNT a b c) ([],0)).bind fun d=>jh d
def zXr(b:SPr)(a:zG)(c:jn):Option jo:=(zXq b a).bind fun d=>(yC2 a.Prime a.Dim d).bind fun e=>(zZp e c).bind fun f=>(zSM f a.Dim).bind fun g=>jh g
structure zI where
 Word:jn
 Left:jn
 yEX:jn
abbrev zK(x:zI):T:=.agg [(L 1 I) x.Word,(L 1 I) x.Left,(L 1 I) x.yEX]
instance:Enc zK:=.of fun _=>zMi ⟨Enc.t (f:=(L 1 I)) inferInstance _,Enc.t (f:=(L 1 I)) inferInstance _,Enc.t (f:=(L 1 I)) inferInstance _,trivial⟩
structure yY where
 p:SPr
 m:zG
 sums:List zL
abbrev zKc(x:yY):T:=.agg [(Pt yV) x.p,(Pt xT) x.m,(L 3 xL) x.sums]
instance:Enc zKc:=.of fun _=>zMi ⟨Enc.t (f:=(Pt yV)) inferInstance _,Enc.t (f:=(Pt xT)) inferInstance _,Enc.t (f:=(L 3 xL)) inferInstance _,trivial⟩
def zSX(b:zG)(e:jo×Int)(a:jn×Int):Option ((jn×Int)⊕jn):=cond (a.2<b.Dim) ((rng (e.2*b.Dim)).bind fun f=>(rng (f+a.2)).bind fun g=>(rng (g*b.Dim)).bind fun h=>(rng (h+a.2)).bind fun d=>(ixO a.1 d).bind fun _=>(rng (a.2+1)).bind fun c=>jh (.inl (a.1.set d.toNat 1,c))) (jh (.inr a.1))
def zSY(e:zG)(f g:Int)(a:jo×Int):Option ((jo×Int)⊕jo):=cond (a.2<f) ((rng (g*e.Dim)).bind fun h=>(yG h).bind fun i=>(zF (zSX e a) (J1 i (0:Int),0)).bind fun b=>(yI a.1 [b]).bind fun c=>(rng (a.2+1)).bind fun d=>jh (.inl (c,d))) (jh (.inr a.1))
def zSZ(k:zG)(b:jo)(c:jo×Int)(a:jn×Int):Option ((jn×Int)⊕jn):=cond (a.2<b.length) ((ixO b a.2).bind fun d=>(rng (c.2*k.Dim)).bind fun e=>(rng (c.2+1)).bind fun f=>(rng (f*k.Dim)).bind fun g=>(zS d e g).bind fun h=>(yI a.1 h).bind fun i=>(rng (a.2+1)).bind fun j=>jh (.inl (i,j))) (jh (.inr a.1))
def zXs(f:zG)(g:Int)(b:jo)(a:jo×Int):Option ((jo×Int)⊕jo):=cond (a.2<g) ((zF (zSZ f b a) ([],0)).bind fun c=>(yI a.1 [c]).bind fun d=>(rng (a.2+1)).bind fun e=>jh (.inl (d,e))) (jh (.inr a.1))
def f_n(g:SPr)(a:zG):Option jo:=(zXb g).bind fun h=>(rng (h*a.Dim)).bind fun i=>(zF (zSY a h i) ([],0)).bind fun c=>(zL5 (zQ.mk g a c)).bind fun b=>(zF (zXs a i b) ([],0)).bind fun d=>(rng ((b.length:Int)*a.Dim)).bind fun e=>(zZm a.Prime d e).bind fun f=>jh f
def zTa(c:SPr)(a:jn)(b:Int):Option jn:=(rng (b+1)).bind fun F=>cond (F<a.length) ((ixO a b).bind fun g=>(rng (b+1)).bind fun f=>(ixO a f).bind fun h=>cond (g> h) ((ixO a b).bind fun i=>(rng (i-1)).bind fun G=>(rng (b+1)).bind fun j=>(ixO a j).bind fun k=>(rng (k-1)).bind fun d=>(zS a 0 b).bind fun l=>(rng (d+1)).bind fun m=>(ixO c.zE d).bind fun n=>(rng (G-d)).bind fun o=>(rng (o-1)).bind fun p=>(ixO n p).bind fun q=>(f_C q).bind fun r=>(rng (b+2)).bind fun s=>(zS a s a.length).bind fun t=>(f_t [l,[m],r,t]).bind fun u=>jh u) ((ixO a b).bind fun v=>(rng (v-1)).bind fun e=>(zS a 0 b).bind fun w=>(ixO c.zP e).bind fun x=>(f_C x).bind fun y=>(ixO c.zA e).bind fun z=>(rng (b+z)).bind fun A=>(zS a A a.length).bind fun C=>(f_t [w,y,C]).bind fun D=>jh D)) ((ixO a b).bind fun g=>(rng (g-1)).bind fun f=>(zS a 0 b).bind fun h=>(ixO c.zP f).bind fun i=>(f_C i).bind fun H=>(ixO c.zA f).bind fun j=>
 (rng (b+j)).bind fun k=>(zS a k a.length).bind fun d=>(f_t [h,H,d]).bind fun E=>jh E)
def zNU(a:jn)(c:Int)(d:List zI)(b:SPr):Option (List zI):=(zTa b a 0).bind fun e=>(zTa b a c).bind fun f=>(yI d [(zI.mk a e f)]).bind fun g=>jh g
def zNV(a b:Int):Option jn:=(f_k [a] b).bind fun c=>jh c
def zTb(d:SPr)(b:(List zI)×Int)(c:(List zI)×Int)(a:(List zI)×Int):Option (((List zI)×Int)⊕(List zI)):=cond (a.2<=d.zA.length) ((zNU [a.2,c.2,b.2] 1 a.1 d).bind fun e=>(rng (a.2+1)).bind fun f=>jh (.inl (e,f))) (jh (.inr a.1))
def zTc(c:SPr)(b:(List zI)×Int)(a:(List zI)×Int):Option (((List zI)×Int)⊕(List zI)):=cond (a.2<=c.zA.length) ((rng (a.2+1)).bind fun d=>(zF (zTb c b a) (a.1,d)).bind fun e=>(rng (a.2+1)).bind fun f=>jh (.inl (e,f))) (jh (.inr a.1))
def zTd(b:SPr)(a:(List zI)×Int):Option (((List zI)×Int)⊕(List zI)):=cond (a.2<=b.zA.length) ((rng (a.2+1)).bind fun c=>(zF (zTc b a) (a.1,c)).bind fun d=>(rng (a.2+1)).bind fun e=>jh (.inl (d,e))) (jh (.inr a.1))
def zTe(b:SPr)(c:(List zI)×Int)(a:(List zI)×Int):Option (((List zI)×Int)⊕(List zI)):=cond (a.2<=b.zA.length) ((rng (a.2-1)).bind fun d=>(ixO b.zA d).bind fun e=>(zNV a.2 e).bind fun f=>(yI f [c.2]).bind fun g=>(rng (a.2-1)).bind fun h=>(ixO b.zA h).bind fun i=>(rng (i-1)).bind fun j=>(zNU g j a.1 b).bind fun k=>(rng (a.2+1)).bind fun l=>jh (.inl (k,l))) (jh (.inr a.1))
def zTf(e:SPr)(a:(List zI)×Int):Option (((List zI)×Int)⊕(List zI)):=cond (a.2<=e.zA.length) ((rng (a.2+1)).bind fun b=>(zF (zTe e a) (a.1,b)).bind fun c=>(rng (a.2+1)).bind fun d=>jh (.inl (c,d))) (jh (.inr a.1))
def zTg(c:SPr)(b:(List zI)×Int)(a:(List zI)×Int):Option (((List zI)×Int)⊕(List zI)):=cond (a.2<=c.zA.length) ((rng (b.2-1)).bind fun d=>(ixO c.zA d).bind fun e=>(zNV b.2 e).bind fun f=>(yI [a.2] f).bind fun g=>(zNU g 1 a.1 c).bind fun h=>(rng (a.2+1)).bind fun i=>jh (.inl (h,i))) (jh (.inr a.1))
def zTh(e:SPr)(a:(List zI)×Int):Option (((List zI)×Int)⊕(List zI)):=cond (a.2<=e.zA.length) ((rng (a.2+1)).bind fun b=>(zF (zTg e a) (a.1,b)).bind fun c=>(rng (a.2+1)).bind fun d=>jh (.inl (c,d))) (jh (.inr a.1))
def zTi(b:SPr)(a:(List zI)×Int):Option (((List zI)×Int)⊕(List zI)):=cond (a.2<=b.zA.length) ((rng (a.2-1)).bind fun c=>(ixO b.zA c).bind fun d=>(rng (d+1)).bind fun e=>(zNV a.2 e).bind fun f=>(zNU f 1 a.1 b).bind fun g=>(rng (a.2+1)).bind fun h=>jh (.inl (g,h))) (jh (.inr a.1))
def f_e(a:SPr):Option (List zI):=(zF (zTd a) ([],1)).bind fun e=>(zF (zTf a) (e,1)).bind fun b=>(zF (zTh a) (b,1)).bind fun c=>(zF (zTi a) (c,1)).bind fun d=>jh d
def zZt(s:yY)(a:jn)(b:Int):Option Int:=(rng (b+1)).bind fun t=>cond (t<a.length) ((ixO a b).bind fun d=>(rng (b+1)).bind fun e=>(ixO a e).bind fun u=>cond (d> u) ((ixO a b).bind fun v=>(rng (v-1)).bind fun w=>(rng (b+1)).bind fun x=>(ixO a x).bind fun y=>(rng (y-1)).bind fun c=>(rng ((s.p.zA.length:Int)-1)).bind fun f=>(rng (c*f)).bind fun g=>(rng ((s.p.zA.length:Int)+g)).bind fun h=>(rng (c-1)).bind fun i=>(rng (c*i)).bind fun j=>(vK j 2).bind fun k=>(rng (h-k)).bind fun l=>(rng (l+w)).bind fun m=>(rng (m-c)).bind fun n=>(rng (n-1)).bind fun o=>jh o) ((ixO a b).bind fun q=>(rng (q-1)).bind fun r=>jh r)) ((ixO a b).bind fun d=>(rng (d-1)).bind fun e=>jh e)
def zXt(i:yY)(j g:Int)(h:zL)(b:(List zL)×Int):Option (((List zL)×Int)⊕(List zL)):=cond (b.2<h.Rows.length) ((ixO h.Rows b.2).bind fun c=>(ixO b.1 g).bind fun a=>(ixO a.Rows b.2).bind fun d=>(f_z d c j i.m.Prime).bind fun e=>(rng (b.2+1)).bind fun f=>jh (.inl (b.1.set g.toNat (zL.mk a.Prime a.vN (a.Rows.set b.2.toNat e)),f))) (jh (.inr b.1))
def zXu(i:yY)(j h:Int)(c:zL)(b:(List zL)×Int):Option (((List zL)×Int)⊕(List zL)):=cond (b.2<c.Rows.length) ((ixO c.Rows b.2).bind fun d=>(ixO b.1 h).bind fun a=>(ixO a.Rows b.2).bind fun e=>(f_z e d j i.m.Prime).bind fun f=>(rng (b.2+1)).bind fun g=>jh (.inl (b.1.set h.toNat (zL.mk a.Prime a.vN (a.Rows.set b.2.toNat f)),g))) (jh (.inr b.1))
def zXv(i:yY)(j h:Int)(c:zL)(b:(List zL)×Int):Option (((List zL)×Int)⊕(List zL)):=cond (b.2<c.Rows.length) ((ixO c.Rows b.2).bind fun d=>(ixO b.1 h).bind fun a=>(ixO a.Rows b.2).bind fun e=>(f_z e d j i.m.Prime).bind fun f=>(rng (b.2+1)).bind fun g=>jh (.inl (b.1.set h.toNat (zL.mk a.Prime a.vN (a.Rows.set b.2.toNat f)),g))) (jh (.inr b.1))
def f_r(a:yY)(b:jn)(c d:Int):Option (jn×yY):=(zZt a b c).bind fun e=>(zTa a.p b c).bind fun f=>(rng (c+1)).bind fun w=>cond (w>=b.length) ((ixO b c).bind fun g=>(rng (g-1)).bind fun h=>(ixO a.p.zA h).bind fun i=>(rng (c+i)).bind fun j=>(zS b j b.length).bind fun k=>(zPL a.m k).bind fun x=>(zF (zXt a d e x) (a.sums,0)).bind fun l=>jh (f,(yY.mk a.p a.m l))) ((ixO b c).bind fun g=>(rng (c+1)).bind fun h=>(ixO b h).bind fun i=>cond (g<=i) ((ixO b c).bind fun j=>(rng (j-1)).bind fun k=>(ixO a.p.zA k).bind fun y=>(rng (c+y)).bind fun n=>(zS b n b.length).bind fun o=>(zPL a.m o).bind fun q=>(zF (zXu a d e q) (a.sums,0)).bind fun r=>jh (f,(yY.mk a.p a.m r))) ((rng (c+2)).bind fun s=>(zS b s b.length).bind fun t=>(zPL a.m t).bind fun u=>(zF (zXv a d e u) (a.sums,0)).bind fun v=>jh (f,(yY.mk a.p a.m v))))
def zPZ(f:jn)(g:Int)(a:jn)(b:Int):Option (Int⊕(Unit⊕Bool)):=cond (b<a.length) ((ixO a b).bind fun c=>(ixO f g).bind fun d=>cond (c != d) (jh (.inr (.inr jk))) ((rng (b+1)).bind fun e=>jh (.inl e))) (jh (.inr (.inl ())))
def zQa(d:jn)(e:Int)(c:jn)(a:Int):Option (Int⊕(Unit⊕Bool)):=cond (a<c.length) ((ixO c a).bind fun f=>(ixO d e).bind fun g=>cond (f != g) (jh (.inr (.inr jk))) ((rng (a+1)).bind fun b=>jh (.inl b))) (jh (.inr (.inl ())))
def f_J(l:SPr)(b:jn)(a:Int):Option Bool:=(rng (a+1)).bind fun m=>cond (m<b.length) ((ixO b a).bind fun g=>(rng (a+1)).bind fun h=>(ixO b h).bind fun e=>cond (g> e) (jh jj) ((ixO b a).bind fun i=>(rng (i-1)).bind fun j=>(ixO l.zA j).bind fun f=>(rng (a+f)).bind fun n=>cond (n> b.length) (jh jk) ((rng (a+f)).bind fun o=>(zS b a o).bind fun k=>(zF (zPZ b a k) 0).bind fun c=>match c with|(.inl _c)=>jh jj|(.inr c)=>jh c))) ((ixO b a).bind fun g=>(rng (g-1)).bind fun h=>(ixO l.zA h).bind fun e=>(rng (a+e)).bind fun i=>cond (i> b.length) (jh jk) ((rng (a+e)).bind fun j=>(zS b a j).bind fun f=>(zF (zQa b a f) 0).bind fun d=>(match d with|(.inl _d)=>jh jj|(.inr d)=>jh d)))
def zNW(c:SPr)(b:jn)(a:Int):Option (Int⊕(Unit⊕Int)):=cond (a<b.length) ((f_J c b a).bind fun d=>cond d (jh (.inr (.inr a))) ((rng (a+1)).bind fun e=>jh (.inl e))) (jh (.inr (.inl ())))
def zTj(b:SPr)(c:jn):Option Int:=(zF (zNW b c) 0).bind fun a=>match a with|(.inl _a)=>jh (-1)|(.inr a)=>jh a
def zXw(c:Int)(a:SPr×zG×(List zL)×jn×Int):Option ((SPr×zG×(List zL)×jn×Int)⊕(SPr×zG×(List zL))):=cond (a.2.2.2.2>=0) ((f_r (yY.mk a.1 a.2.1 a.2.2.1) a.2.2.2.1 a.2.2.2.2 c).bind fun b=>(zTj b.2.p b.1).bind fun d=>jh (.inl (b.2.p,b.2.m,b.2.sums,b.1,d))) (jh (.inr (a.1,a.2.1,a.2.2.1)))
def f_L(a:yY)(c:jn)(d:Int):Option yY:=(zTj a.p c).bind fun e=>(zF (zXw d) (a.p,a.m,a.sums,c,e)).bind fun b=>jh (yY.mk b.1 b.2.1 b.2.2)
def zTk(c:zL)(a:jo×Int):Option ((jo×Int)⊕jo):=cond (a.2<c.Rows.length) ((ixO a.1 a.2).bind fun b=>(ixO b a.2).bind fun _=>(rng (a.2+1)).bind fun d=>jh (.inl (a.1.set a.2.toNat (b.set a.2.toNat 0),d))) (jh (.inr a.1))
def zQb(f:zG)(g:Int)(a:(List zL)×Int):Option (((List zL)×Int)⊕(List zL)):=cond (a.2<g) ((f_O f.Prime f.Dim).bind fun b=>(zF (zTk b) (b.Rows,0)).bind fun c=>(yI a.1 [(zL.mk b.Prime b.vN c)]).bind fun d=>(rng (a.2+1)).bind fun e=>jh (.inl (d,e))) (jh (.inr a.1))
def zTl(j:zG)(d:jo×Int)(b:zL)(a:jo×Int):Option ((jo×Int)⊕jo):=cond (a.2<b.Rows.length) ((ixO b.Rows a.2).bind fun e=>(rng (d.2*j.Dim)).bind fun f=>(rng (f+a.2)).bind fun c=>(ixO a.1 c).bind fun g=>(yI g e).bind fun h=>(rng (a.2+1)).bind fun i=>jh (.inl (a.1.set c.toNat h,i))) (jh (.inr a.1))
def zNX(f:zG)(b:yY)(a:jo×Int):Option ((jo×Int)⊕jo):=cond (a.2<b.sums.length) ((ixO b.sums a.2).bind fun c=>(zF (zTl f a c) (a.1,0)).bind fun d=>(rng (a.2+1)).bind fun e=>jh (.inl (d,e))) (jh (.inr a.1))
def yEU(j:zG)(d:jo×Int)(b:zL)(a:jo×Int):Option ((jo×Int)⊕jo):=cond (a.2<b.Rows.length) ((ixO b.Rows a.2).bind fun e=>(rng (d.2*j.Dim)).bind fun f=>(rng (f+a.2)).bind fun c=>(ixO a.1 c).bind fun g=>(yI g e).bind fun h=>(rng (a.2+1)).bind fun i=>jh (.inl (a.1.set c.toNat h,i))) (jh (.inr a.1))
def yC4(f:zG)(b:yY)(a:jo×Int):Option ((jo×Int)⊕jo):=cond (a.2<b.sums.length) ((ixO b.sums a.2).bind fun c=>(zF (yEU f a c) (a.1,0)).bind fun d=>(rng (a.2+1)).bind fun e=>jh (.inl (d,e))) (jh (.inr a.1))
def yEV(j:zG)(d:jo×Int)(b:zL)(a:jo×Int):Option ((jo×Int)⊕jo):=cond (a.2<b.Rows.length) ((ixO b.Rows a.2).bind fun e=>(rng (d.2*j.Dim)).bind fun f=>(rng (f+a.2)).bind fun c=>(ixO a.1 c).bind fun g=>(yI g e).bind fun h=>(rng (a.2+1)).bind fun i=>jh (.inl (a.1.set c.toNat h,i))) (jh (.inr a.1))
def yC5(f:zG)(b:yY)(a:jo×Int):Option ((jo×Int)⊕jo):=cond (a.2<b.sums.length) ((ixO b.sums a.2).bind fun c=>(zF (yEV f a c) (a.1,0)).bind fun d=>(rng (a.2+1)).bind fun e=>jh (.inl (d,e))) (jh (.inr a.1))
def zTm(l:SPr)(d:zG)(D:Int)(C:(List zI))(a:jo×Int):Option ((jo×Int)⊕jo):=cond (a.2<C.length) ((ixO C a.2).bind fun b=>(zF (zQb d D) ([],0)).bind fun e=>(ixO b.Word 0).bind fun f=>(ixO b.Word 1).bind fun m=>cond (f==m) ((rng ((b.Word.length:Int)-1)).bind fun n=>(ixO b.Word n).bind fun o=>cond (o != f) ((rng ((b.Word.length:Int)-2)).bind fun p=>(f_r (yY.mk l d e) b.Word 0 1).bind fun c=>(f_L c.2 c.1 1).bind fun q=>(f_r q b.Word p (-1)).bind fun g=>(f_L g.2 g.1 (-1)).bind fun r=>(zF (zNX d r) (a.1,0)).bind fun s=>(rng (a.2+1)).bind fun t=>jh (.inl (s,t))) ((f_r (yY.mk l d e) b.Word 0 1).bind fun h=>(f_L h.2 h.1 1).bind fun u=>(f_r u b.Word 1 (-1)).bind fun i=>(f_L i.2 i.1 (-1)).bind fun v=>(zF (yC4 d v) (a.1,0)).bind fun w=>(rng (a.2+1)).bind fun x=>jh (.inl (w,x)))) ((f_r (yY.mk l d e) b.Word 0 1).bind fun j=>(f_L j.2 j.1 1).bind fun y=>(f_r y b.Word 1 (-1)).bind fun k=>(f_L k.2 k.1 (-1)).bind fun c=>
 (zF (yC5 d c) (a.1,0)).bind fun z=>(rng (a.2+1)).bind fun A=>jh (.inl (z,A)))) (jh (.inr a.1))
def f_f(c:SPr)(b:zG):Option jo:=(zXc c).bind fun g=>(rng (g*b.Dim)).bind fun h=>(yG h).bind fun i=>(f_e c).bind fun j=>(zF (zTm c b g j) (J1 i ([]:jn),0)).bind fun a=>cond ((a.length:Int)> 0) ((ixO a 0).bind fun d=>(f_Z b.Prime a (d.length:Int)).bind fun e=>jh e) ((f_Z b.Prime a 0).bind fun f=>jh f)
def yAD(a:SPr)(b:Int):Option (Int⊕(Unit⊕Bool)):=cond (b<a.zA.length) ((ixO a.zA b).bind fun c=>(ixO a.zA 0).bind fun d=>cond (c != d) (jh (.inr (.inr jk))) ((rng (b+1)).bind fun e=>jh (.inl e))) (jh (.inr (.inl ())))
def zZu(b:SPr):Option Bool:=(zWt b).bind fun c=>cond (!c) (jh jk) (cond ((b.zA.length:Int)==0) (jh jk) ((zF (yAD b) 0).bind fun a=>match a with|(.inl _a)=>jh jj|(.inr a)=>jh a))
def zXx(b:SPr)(a:Int×Int):Option ((Int×Int)⊕Int):=cond (a.2<b.zA.length) ((ixO b.zA a.2).bind fun c=>(rng (a.1*c)).bind fun d=>(rng (a.2+1)).bind fun e=>jh (.inl (d,e))) (jh (.inr a.1))
def yC6(a:SPr):Option Int:=(zF (zXx a) (1,0)).bind fun b=>jh b
def zZv(a:SPr):Option Int:=(zWt a).bind fun b=>cond (!b) (jh 1) ((zZu a).bind fun c=>cond (!c) (jh 5) ((yC6 a).bind fun d=>cond (d> 81) (jh 3) (jh 0)))
def zL6(b:SPr)(c:Int)(a:(List jo)×Int):Option (((List jo)×Int)⊕(List jo)):=cond (a.2<b.zA.length) ((f_v c).bind fun d=>(yI a.1 [d]).bind fun e=>(rng (a.2+1)).bind fun f=>jh (.inl (e,f))) (jh (.inr a.1))
def f_T(b:SPr)(c a:Int):Option zG:=(zF (zL6 b a) ([],0)).bind fun d=>jh (zG.mk c a d)
def zZw(a:SPr):Option zG:=(ixO a.zA 0).bind fun b=>(f_T a b 1).bind fun c=>jh c
def zGr(c:zG)(d b:jo)(a:jo×Int):Option ((jo×Int)⊕jo):=cond (a.2<b.length) ((ixO b a.2).bind fun e=>(zSK c.Prime d e).bind fun f=>(yI a.1 [f]).bind fun g=>(rng (a.2+1)).bind fun h=>jh (.inl (g,h))) (jh (.inr a.1))
def zXy(b:SPr)(a:zG):Option jo:=(zPY b a).bind fun c=>(f_n b a).bind fun d=>(zF (zGr a c d) ([],0)).bind fun e=>(f_q a.Prime e).bind fun f=>jh f
def zIY(a:SPr):Option jo:=(zZw a).bind fun b=>(zXy a b).bind fun c=>jh c
def yAE(a:SPr)(b:Int):Option (Int⊕(Unit⊕Bool)):=cond (b<a.zA.length) ((ixO a.zA b).bind fun c=>(ixO a.zA 0).bind fun d=>cond (c != d) (jh (.inr (.inr jk))) ((rng (b+1)).bind fun e=>jh (.inl e))) (jh (.inr (.inl ())))
def zZx(b:SPr):Option Bool:=(zWD b).bind fun c=>cond (!c) (jh jk) (cond ((b.zA.length:Int)==0) (jh jk) ((zF (yAE b) 0).bind fun a=>match a with|(.inl _a)=>jh jj|(.inr a)=>jh a))
def zXz(b:SPr)(a:Int×Int):Option ((Int×Int)⊕Int):=cond (a.2<b.zA.length) ((ixO b.zA a.2).bind fun c=>(rng (a.1*c)).bind fun d=>(rng (a.2+1)).bind fun e=>jh (.inl (d,e))) (jh (.inr a.1))
def yC7(a:SPr):Option Int:=(zF (zXz a) (1,0)).bind fun b=>jh b
def zZy(a:SPr):Option Int:=(zWD a).bind fun b=>cond (!b) (jh 1) ((zZx a).bind fun c=>cond (!c) (jh 5) ((yC7 a).bind fun d=>cond (d> 81) (jh 3) (jh 0)))
def zGs(b:SPr)(c d:Int)(a:(List jo)×Int):Option (((List jo)×Int)⊕(List jo)):=cond (a.2<b.zA.length) ((f_O c d).bind fun e=>(yI a.1 [e.Rows]).bind fun f=>(rng (a.2+1)).bind fun g=>jh (.inl (f,g))) (jh (.inr a.1))
def zQc(c:SPr)(a b:Int):Option zG:=(zF (zGs c a b) ([],0)).bind fun d=>jh (zG.mk a b d)
def zX0(c:SPr)(d:zG)(b:jo)(a:jo×Int):Option ((jo×Int)⊕jo):=cond (a.2<b.length) ((ixO b a.2).bind fun e=>(zXr c d e).bind fun f=>(f_t f).bind fun g=>(yI a.1 [g]).bind fun h=>(rng (a.2+1)).bind fun i=>jh (.inl (h,i))) (jh (.inr a.1))
def zZz(a:SPr):Option jo:=(ixO a.zA 0).bind fun d=>(zQc a d 1).bind fun b=>(f_f a b).bind fun e=>(zF (zX0 a b e) ([],0)).bind fun f=>(f_i b.Prime f).bind fun c=>jh c
def zNY(c:SPr)(d:zG)(b:jo)(a:jo×Int):Option ((jo×Int)⊕jo):=cond (a.2<b.length) ((ixO b a.2).bind fun e=>(zXr c d e).bind fun f=>(f_t f).bind fun g=>(yI a.1 [g]).bind fun h=>(rng (a.2+1)).bind fun i=>jh (.inl (h,i))) (jh (.inr a.1))
def zX1(b:jo)(c:jo×Int)(a:jn×Int):Option ((jn×Int)⊕jn):=cond (a.2<b.length) ((ixO b a.2).bind fun d=>(ixO d c.2).bind fun e=>(yI a.1 [e]).bind fun f=>(rng (a.2+1)).bind fun g=>jh (.inl (f,g))) (jh (.inr a.1))
def zX2(b:SPr)(c:jo)(a:jo×Int):Option ((jo×Int)⊕jo):=(zXb b).bind fun d=>cond (a.2<d) ((zF (zX1 c a) ([],0)).bind fun e=>(yI a.1 [e]).bind fun f=>(rng (a.2+1)).bind fun g=>jh (.inl (f,g))) (jh (.inr a.1))
def f_U(a:SPr)(b:jo):Option jo:=(zF (zX2 a b) ([],0)).bind fun c=>jh c
def zX3(b:jo)(c:jo×Int)(a:jn×Int):Option ((jn×Int)⊕jn):=cond (a.2<b.length) ((ixO b a.2).bind fun d=>(ixO d c.2).bind fun e=>(yI a.1 [e]).bind fun f=>(rng (a.2+1)).bind fun g=>jh (.inl (f,g))) (jh (.inr a.1))
def zTn(b:jo)(c:Int)(a:jo×Int):Option ((jo×Int)⊕jo):=cond (a.2<c) ((zF (zX3 b a) ([],0)).bind fun d=>(yI a.1 [d]).bind fun e=>(rng (a.2+1)).bind fun f=>jh (.inl (e,f))) (jh (.inr a.1))
def f_V(a:SPr)(e:jo):Option SPr:=(zXc a).bind fun f=>(zF (zTn e f) ([],0)).bind fun g=>(ixO a.zA 0).bind fun b=>(zQc a b (e.length:Int)).bind fun c=>(f_m a c g).bind fun d=>jh d
structure xD where
 p:SPr
 base:jo
abbrev zI9(x:xD):T:=.agg [(Pt yV) x.p,(L 1 (Nz 1 I)) x.base]
instance:Enc zI9:=.of fun _=>zMi ⟨Enc.t (f:=(Pt yV)) inferInstance _,Enc.t (f:=(L 1 (Nz 1 I))) inferInstance _,trivial⟩
def zIA(a:SPr)(c:jn)(b:Int):Option jn:=cond (b<0) ((zSJ a c).bind fun d=>(rng (0-b)).bind fun e=>(zN6 a 0 d e).bind fun f=>jh f) ((zN6 a 0 c b).bind fun g=>jh g)
def zIZ(a:SPr)(b c:jn):Option jn:=(f_a a 0 b c).bind fun d=>jh d
def zNZ(d:SPr)(b:jo)(a:jn×Int):Option ((jn×Int)⊕(jn⊕(Int×jn))):=cond (a.2<b.length) ((ixO a.1 a.2).bind fun e=>cond (e==0) ((rng (a.2+1)).bind fun f=>jh (.inl (a.1,f))) ((ixO b a.2).bind fun g=>cond ((g.length:Int)==0) (jh (.inr (.inr (a.2,a.1)))) ((ixO b a.2).bind fun h=>(ixO a.1 a.2).bind fun i=>(rng (0-i)).bind fun j=>(zIA d h j).bind fun k=>(zIZ d a.1 k).bind fun l=>(rng (a.2+1)).bind fun c=>jh (.inl (l,c))))) (jh (.inr (.inl a.1)))
def zZ0(c:SPr)(b:jo)(d:jn):Option (Int×jn):=(f_y d).bind fun e=>(zF (zNZ c b) (e,0)).bind fun a=>match a with|(.inl a)=>jh ((b.length:Int),a)|(.inr a)=>jh a
def zQd(a:SPr)(b c:jn):Option jn:=(zIZ a c b).bind fun d=>(zSJ a d).bind fun e=>(zIZ a b c).bind fun f=>(zIZ a e f).bind fun g=>jh g
def zX4(i:SPr)(k:jo)(j:jo×Int)(a:jn×Int):Option ((jn×Int)⊕jn):=cond (a.2<k.length) ((ixO j.1 a.2).bind fun l=>cond ((l.length:Int)> 0) ((ixO a.1 a.2).bind fun m=>cond (m != 0) ((ixO j.1 a.2).bind fun n=>(ixO a.1 a.2).bind fun b=>(rng (0-b)).bind fun c=>(zIA i n c).bind fun d=>(zIZ i a.1 d).bind fun e=>(rng (a.2+1)).bind fun f=>jh (.inl (e,f))) ((rng (a.2+1)).bind fun g=>jh (.inl (a.1,g)))) ((rng (a.2+1)).bind fun h=>jh (.inl (a.1,h)))) (jh (.inr a.1))
def zZ1(e:SPr)(b:jo)(a:jo×Int):Option ((jo×Int)⊕jo):=cond (a.2>=0) ((ixO b a.2).bind fun f=>cond ((f.length:Int)==0) ((rng (a.2-1)).bind fun g=>jh (.inl (a.1,g))) ((ixO b a.2).bind fun h=>(rng (a.2+1)).bind fun i=>(zF (zX4 e b a) (h,i)).bind fun c=>(ixO a.1 a.2).bind fun _=>(rng (a.2-1)).bind fun d=>jh (.inl (a.1.set a.2.toNat c,d)))) (jh (.inr a.1))
def zTo(b:jo)(a:jo×Int):Option ((jo×Int)⊕jo):=cond (a.2<b.length) ((ixO b a.2).bind fun c=>cond ((c.length:Int)> 0) ((ixO b a.2).bind fun d=>(yI a.1 [d]).bind fun e=>(rng (a.2+1)).bind fun f=>jh (.inl (e,f))) ((rng (a.2+1)).bind fun g=>jh (.inl (a.1,g)))) (jh (.inr a.1))
def f_F(d:SPr)(a:jo):Option jo:=(yG (a.length:Int)).bind fun e=>(rng ((a.length:Int)-1)).bind fun f=>(zF (zZ1 d a) (J1 e ([]:jn),f)).bind fun b=>(zF (zTo b) ([],0)).bind fun c=>jh c
def zTp(i:SPr)(k:jo×jo)(j:Int×jn)(b:jn)(a:jo×Int):Option ((jo×Int)⊕jo):=cond (a.2<i.zA.length) (cond (a.2 != j.1) ((ixO (k.1.set j.1.toNat b) a.2).bind fun c=>cond ((c.length:Int)> 0) ((zQd i b c).bind fun d=>(yI a.1 [d]).bind fun e=>(rng (a.2+1)).bind fun f=>jh (.inl (e,f))) ((rng (a.2+1)).bind fun g=>jh (.inl (a.1,g)))) ((rng (a.2+1)).bind fun h=>jh (.inl (a.1,h)))) (jh (.inr a.1))
def zTq(d:SPr)(a:jo×jo):Option ((jo×jo)⊕jo):=cond ((a.2.length:Int)> 0) ((rng ((a.2.length:Int)-1)).bind fun i=>(ixO a.2 i).bind fun l=>(zS a.2 0 i).bind fun j=>(zZ0 d a.1 l).bind fun b=>cond (b.1==d.zA.length) (jh (.inl (a.1,j))) ((ixO b.2 b.1).bind fun m=>(ixO d.zA b.1).bind fun k=>(zXa m k).bind fun n=>(zIA d b.2 n).bind fun c=>(ixO a.1 b.1).bind fun _=>(yI j [b.2]).bind fun e=>(zIA d c k).bind fun f=>(yI e [f]).bind fun g=>(zF (zTp d a b c) (g,0)).bind fun h=>jh (.inl (a.1.set b.1.toNat c,h)))) (jh (.inr a.1))
def f_H(a:SPr)(d:jo):Option jo:=(yG (a.zA.length:Int)).bind fun e=>(zPX d).bind fun f=>(zF (zTq a) (J1 e ([]:jn),f)).bind fun b=>(f_F a b).bind fun c=>jh c
def zX5(a:SPr):Option xD:=(yG (a.zA.length:Int)).bind fun b=>jh (xD.mk a (J1 b ([]:jn)))
def zX6(a:jo):Option jo:=(yI [] a).bind fun b=>jh b
def zOa(b:jn)(a:Int):Option (Int⊕(Unit⊕Int)):=cond (a<b.length) ((ixO b a).bind fun c=>cond (c != 0) (jh (.inr (.inr a))) ((rng (a+1)).bind fun d=>jh (.inl d))) (jh (.inr (.inl ())))
def zQe(b:jn):Option Int:=(zF (zOa b) 0).bind fun a=>match a with|(.inl _a)=>jh (b.length:Int)|(.inr a)=>jh a
def zRH(b:xD)(a:jn×Int):Option ((jn×Int)⊕jn):=cond (a.2<a.1.length) ((ixO b.base a.2).bind fun l=>cond (!l.isEmpty) ((ixO b.base a.2).bind fun m=>(ixO b.p.zA a.2).bind fun n=>(ixO a.1 a.2).bind fun o=>(rng (n-o)).bind fun q=>(f_Y b.p m q).bind fun r=>(zL1 b.p r a.1).bind fun c=>(ixO c a.2).bind fun s=>cond (s != 0) ((ixO b.base a.2).bind fun e=>(ixO b.p.zA a.2).bind fun f=>(ixO c a.2).bind fun g=>(rng (f-g)).bind fun h=>(f_Y b.p e h).bind fun i=>(zL1 b.p i c).bind fun d=>(zQe d).bind fun j=>jh (.inl (d,j))) ((zQe c).bind fun k=>jh (.inl (c,k)))) (jh (.inr a.1))) (jh (.inr a.1))
def zZ2(b:xD)(c:jn):Option (jn×xD):=(zQe c).bind fun d=>(zF (zRH b) (c,d)).bind fun a=>jh (a,b)
def zOb(a:SPr)(b c:jn):Option jn:=(f_N a b).bind fun d=>(zIS a b c).bind fun e=>(zL1 a d e).bind fun f=>jh f
def zTr(c:jn×xD)(d:jn)(a:jo×Int):Option ((jo×Int)⊕jo):=cond (a.2<c.2.base.length) ((ixO c.2.base a.2).bind fun b=>cond (!b.isEmpty) ((zOb c.2.p b d).bind fun e=>(yI a.1 [e]).bind fun f=>(rng (a.2+1)).bind fun g=>jh (.inl (f,g))) ((rng (a.2+1)).bind fun h=>jh (.inl (a.1,h)))) (jh (.inr a.1))
def zTs(b:SPr×jo×Bool×jo):Option ((SPr×jo×Bool×jo)⊕(SPr×jo×Bool)):=cond ((b.2.2.2.length:Int)> 0) ((ixO b.2.2.2 0).bind fun j=>(zZ2 (xD.mk b.1 b.2.1) j).bind fun a=>(zS b.2.2.2 1 b.2.2.2.length).bind fun i=>(zQe a.1).bind fun d=>cond (d==a.1.length) (jh (.inl (a.2.p,a.2.base,b.2.2.1,i))) ((ixO a.1 d).bind fun k=>(ixO a.2.p.zA d).bind fun l=>(zNG k l).bind fun m=>(yI i [a.1]).bind fun n=>(f_Y a.2.p a.1 m.1).bind fun c=>(ixO a.2.p.zA d).bind fun e=>(f_Y a.2.p c e).bind fun f=>(yI n [f]).bind fun g=>(zF (zTr a c) (g,0)).bind fun h=>(ixO a.2.base d).bind fun _=>(neO c).bind fun _=>jh (.inl (a.2.p,a.2.base.set d.toNat c,jj,h)))) (jh (.inr (b.1,b.2.1,b.2.2.1)))
def f_E(b:xD)(c:jo):Option (Bool×xD):=(zX6 c).bind fun d=>(zF zTs (b.p,b.base,jk,d)).bind fun a=>jh (a.2.2,(xD.mk a.1 a.2.1))
def zTt(b:SPr)(c:jo)(d:jn×Int)(e:Int)(a:jn):Option (jn⊕jn):=(ixO a e).bind fun f=>cond (f != 0) ((ixO c d.2).bind fun g=>(f_c b a g).bind fun h=>jh (.inl h)) (jh (.inr a))
def zQf(c:SPr)(d:jo)(b:jn)(a:jn×Int):Option ((jn×Int)⊕jn):=cond (a.2<b.length) ((ixO b a.2).bind fun e=>(zF (zTt c d a e) a.1).bind fun f=>(rng (a.2+1)).bind fun g=>jh (.inl (f,g))) (jh (.inr a.1))
def f_M(b:SPr)(a:jo)(c:jn):Option jn:=(f_B c).bind fun d=>(f_Q a).bind fun e=>(zF (zQf b a e) (d,0)).bind fun f=>jh f
def zRI(b:xD)(a:jo×Int):Option ((jo×Int)⊕jo):=cond (a.2>=0) ((ixO b.base a.2).bind fun c=>cond (!c.isEmpty) ((ixO b.base a.2).bind fun d=>(f_M b.p a.1 d).bind fun e=>(yI [e] a.1).bind fun f=>(rng (a.2-1)).bind fun g=>jh (.inl (f,g))) ((rng (a.2-1)).bind fun h=>jh (.inl (a.1,h)))) (jh (.inr a.1))
def zTu(a:xD):Option jo:=(rng ((a.base.length:Int)-1)).bind fun b=>(zF (zRI a) ([],b)).bind fun c=>jh c
def zX7(a:SPr)(b:jo):Option jo:=(zX5 a).bind fun c=>(f_E c b).bind fun d=>(zTu d.2).bind fun e=>jh e
def zX8(a:SPr):Option jo:=(f_v (a.zA.length:Int)).bind fun b=>jh b
def zX9(a:SPr)(c b:jn):Option jn:=(zSJ a b).bind fun d=>(zIZ a c b).bind fun e=>(zIZ a d e).bind fun f=>jh f
def zXA(d:SPr)(e b:jo)(c:jo×Int)(a:jo×Int):Option ((jo×Int)⊕jo):=cond (a.2<b.length) ((ixO b a.2).bind fun f=>(ixO e c.2).bind fun g=>(zX9 d f g).bind fun h=>(yI a.1 [h]).bind fun i=>(rng (a.2+1)).bind fun j=>jh (.inl (i,j))) (jh (.inr a.1))
def zTv(d:SPr)(c b:jo)(a:jo×Int):Option ((jo×Int)⊕jo):=cond (a.2<c.length) ((zF (zXA d c b a) (a.1,0)).bind fun e=>(rng (a.2+1)).bind fun f=>jh (.inl (e,f))) (jh (.inr a.1))
def zZ3(c:SPr)(d a:jo):Option (jo⊕jo):=(zPX a).bind fun e=>(zF (zTv c d a) (e,0)).bind fun f=>(f_H c f).bind fun b=>cond ((b.length:Int)==a.length) (jh (.inr b)) (jh (.inl b))
def f_G(b:SPr)(c d:jo):Option jo:=(zF (zZ3 b d) c).bind fun a=>jh a
def zXB(c:SPr)(d b:jo)(e:jo×Int)(a:jo×Int):Option ((jo×Int)⊕jo):=cond (a.2<b.length) ((ixO d e.2).bind fun f=>(ixO b a.2).bind fun g=>(zQd c f g).bind fun h=>(yI a.1 [h]).bind fun i=>(rng (a.2+1)).bind fun j=>jh (.inl (i,j))) (jh (.inr a.1))
def zTw(c:SPr)(b d:jo)(a:jo×Int):Option ((jo×Int)⊕jo):=cond (a.2<b.length) ((zF (zXB c b d a) (a.1,0)).bind fun e=>(rng (a.2+1)).bind fun f=>jh (.inl (e,f))) (jh (.inr a.1))
def f_X(a:SPr)(e f:jo):Option jo:=(zF (zTw a e f) ([],0)).bind fun g=>(f_H a g).bind fun h=>(zPX e).bind fun b=>(yI b f).bind fun c=>(f_G a h c).bind fun d=>jh d
def zKd(c:SPr)(b:jo)(d:Int)(a:jo×Int):Option ((jo×Int)⊕jo):=cond (a.2<b.length) ((ixO b a.2).bind fun e=>(zIA c e d).bind fun f=>(yI a.1 [f]).bind fun g=>(rng (a.2+1)).bind fun h=>jh (.inl (g,h))) (jh (.inr a.1))
def zXC(a:SPr)(b:jo)(c:Int):Option jo:=(zX8 a).bind fun d=>(f_X a b d).bind fun e=>(zF (zKd a b c) (e,0)).bind fun f=>(f_H a f).bind fun g=>jh g
def zIB(d:SPr)(e:Int)(a:(List jo)):Option ((List jo)⊕(List jo)):=(rng ((a.length:Int)-1)).bind fun f=>(ixO a f).bind fun b=>(zXC d b e).bind fun c=>cond ((c.length:Int)==b.length) (jh (.inr a)) ((yI a [c]).bind fun g=>jh (.inl g))
def zQg(a:SPr)(b:Int):Option (List jo):=(zX8 a).bind fun c=>(zF (zIB a b) [c]).bind fun d=>jh d
def zXD(d:SPr)(e:Int)(f:zG)(g:jo)(h:zC)(i:jn)(a:jn×jn×Int):Option ((jn×jn×Int)⊕(jn×jn)):=cond (a.2.2<e) ((f_b (zQ.mk d f g) 0 (zC.mk a.1 a.2.1) (zC.mk i h.v)).bind fun c=>(rng (a.2.2+1)).bind fun b=>jh (.inl (c.x,c.v,b))) (jh (.inr (a.1,a.2.1)))
def zXE(b:SPr)(e:zG)(f:jo)(d:zC)(l:jn)(a:jo×Int):Option ((jo×Int)⊕jo):=cond (a.2<b.zA.length) ((zWn (b.zA.length:Int) a.2).bind fun c=>(f_b (zQ.mk b e f) 0 (zC.mk l d.v) (zC.mk c d.v)).bind fun g=>(f_b (zQ.mk b e f) 0 (zC.mk c d.v) (zC.mk l d.v)).bind fun h=>(zI8 (zQ.mk b e f) g h).bind fun i=>(yI a.1 [i]).bind fun j=>(rng (a.2+1)).bind fun k=>jh (.inl (j,k))) (jh (.inr a.1))
def zXF(g:SPr)(l:Int)(h:jo)(i:zG)(j:jo)(b:zC)(a:jo×Int):Option ((jo×Int)⊕jo):=cond (a.2<h.length) ((ixO h a.2).bind fun k=>(zF (zXD g l i j b k) (b.x,b.v,0)).bind fun c=>(yI a.1 [c.2]).bind fun d=>(zF (zXE g i j b k) (d,0)).bind fun e=>(rng (a.2+1)).bind fun f=>jh (.inl (e,f))) (jh (.inr a.1))
def f_A(a:SPr)(e:jo):Option jo:=(ixO a.zA 0).bind fun b=>(zQg a b).bind fun f=>(rng ((f.length:Int)-2)).bind fun i=>(ixO f i).bind fun j=>(f_T a b (e.length:Int)).bind fun g=>(f_U a e).bind fun h=>(zI7 (zQ.mk a g h)).bind fun k=>(zF (zXF a b j g h k) ([],0)).bind fun c=>(f_q b c).bind fun d=>jh d
def zOc(b:SPr)(a:jo×Int):Option ((jo×Int)⊕jo):=cond (a.2<b.zA.length) ((zIT (b.zA.length:Int) a.2).bind fun c=>(yI a.1 [c]).bind fun d=>(rng (a.2+1)).bind fun e=>jh (.inl (d,e))) (jh (.inr a.1))
def yC8(a:SPr):Option jo:=(zF (zOc a) ([],0)).bind fun b=>jh b
def zXG(a:SPr):Option jo:=(yC8 a).bind fun b=>jh b
def zXH(a:Int):Option jo:=cond (a<0) (ji) ((rng (0-0)).bind fun c=>(rng (a-c)).bind fun b=>cond (b> 0) ((wL [] b ([]:jn)).bind fun d=>(zS d 0 0).bind fun e=>jh e) (jh []))
def zOd(b:List jo)(a:Int×Int):Option ((Int×Int)⊕Int):=cond (a.2<b.length) ((ixO b a.2).bind fun d=>(rng (a.1+d.length)).bind fun c=>cond (c<0) (ji) ((rng (a.2+1)).bind fun e=>jh (.inl (c,e)))) (jh (.inr a.1))
def zOe(b:List jo)(a:jo×Int):Option ((jo×Int)⊕jo):=cond (a.2<b.length) ((ixO b a.2).bind fun c=>(yI a.1 c).bind fun d=>(rng (a.2+1)).bind fun e=>jh (.inl (d,e))) (jh (.inr a.1))
def zZ4(a:List jo):Option jo:=(zF (zOd a) (0,0)).bind fun b=>(zXH b).bind fun c=>(zF (zOe a) (c,0)).bind fun d=>jh d
def zOf(c:SPr)(b:jo)(d:jn)(a:jo×Int):Option ((jo×Int)⊕jo):=cond (a.2<b.length) ((ixO b a.2).bind fun e=>(zIS c e d).bind fun f=>(yI a.1 [f]).bind fun g=>(rng (a.2+1)).bind fun h=>jh (.inl (g,h))) (jh (.inr a.1))
def zZ5(a:SPr)(b:jo)(c:jn):Option jo:=(zF (zOf a b c) ([],0)).bind fun d=>jh d
def zKe(d:SPr)(c e:jo)(a:SPr×jo×Bool×Int):Option ((SPr×jo×Bool×Int)⊕(SPr×jo×Bool)):=cond (a.2.2.2<c.length) ((ixO c a.2.2.2).bind fun f=>(zZ5 d e f).bind fun g=>(f_E (xD.mk a.1 a.2.1) g).bind fun b=>cond b.1 ((rng (a.2.2.2+1)).bind fun h=>jh (.inl (b.2.p,b.2.base,jj,h))) ((rng (a.2.2.2+1)).bind fun i=>jh (.inl (b.2.p,b.2.base,a.2.2.1,i)))) (jh (.inr (a.1,a.2.1,a.2.2.1)))
def zRJ(c:SPr)(d:jo)(a:SPr×jo×Bool):Option ((SPr×jo×Bool)⊕(SPr×jo)):=cond a.2.2 ((zTu (xD.mk a.1 a.2.1)).bind fun e=>(zF (zKe c d e) (a.1,a.2.1,jk,0)).bind fun b=>jh (.inl (b.1,b.2.1,b.2.2))) (jh (.inr (a.1,a.2.1)))
def zZ6(c:SPr)(e f:jo):Option jo:=(zX5 c).bind fun g=>(f_E g e).bind fun d=>(zF (zRJ c f) (d.2.p,d.2.base,jj)).bind fun a=>(zTu (xD.mk a.1 a.2)).bind fun b=>jh b
def zXI(c:SPr)(b:jo)(d:jn)(a:jo×Int):Option ((jo×Int)⊕jo):=cond (a.2<b.length) ((ixO b a.2).bind fun e=>(zOb c d e).bind fun f=>(yI a.1 [f]).bind fun g=>(rng (a.2+1)).bind fun h=>jh (.inl (g,h))) (jh (.inr a.1))
def zTx(c:SPr)(b d:jo)(a:jo×Int):Option ((jo×Int)⊕jo):=cond (a.2<b.length) ((ixO b a.2).bind fun e=>(zF (zXI c d e) (a.1,0)).bind fun f=>(rng (a.2+1)).bind fun g=>jh (.inl (f,g))) (jh (.inr a.1))
def f_W(b:SPr)(c d:jo):Option jo:=(zF (zTx b c d) ([],0)).bind fun e=>(zZ4 [c,d]).bind fun f=>(zZ6 b e f).bind fun a=>jh a
def zKf(b:jo)(c:SPr)(d:Int)(a:jo×Int):Option ((jo×Int)⊕jo):=cond (a.2<b.length) ((ixO b a.2).bind fun e=>(f_Y c e d).bind fun f=>(yI a.1 [f]).bind fun g=>(rng (a.2+1)).bind fun h=>jh (.inl (g,h))) (jh (.inr a.1))
def zXJ(b:jo)(a:SPr)(c:Int):Option jo:=(zXG a).bind fun d=>(f_W a b d).bind fun e=>(zF (zKf b a c) (e,0)).bind fun f=>(zX7 a f).bind fun g=>jh g
def zRK(b:SPr×Int)(a:(List jo)):Option ((List jo)⊕(List jo)):=(rng ((a.length:Int)-1)).bind fun d=>(ixO a d).bind fun e=>(zXJ e b.1 b.2).bind fun c=>(rng ((a.length:Int)-1)).bind fun f=>(ixO a f).bind fun g=>(zZd c g).bind fun h=>cond h (jh (.inr a)) ((yI a [c]).bind fun i=>jh (.inl i))
def zZ7(a:jo)(b:SPr×Int):Option (List jo):=(zF (zRK b) [a]).bind fun c=>jh c
def zOg(a:SPr)(b:Int):Option (List jo):=(zXG a).bind fun c=>(zZ7 c (a,b)).bind fun d=>jh d
def zKg(h:SPr)(f:jo)(a:jo×Int):Option ((jo×Int)⊕jo):=cond (a.2<f.length) ((ixO f a.2).bind fun g=>(zS g (h.zA.length:Int) g.length).bind fun b=>(f_B b).bind fun c=>(yI a.1 [c]).bind fun d=>(rng (a.2+1)).bind fun e=>jh (.inl (d,e))) (jh (.inr a.1))
def zZ8(a:SPr)(c:jo):Option zL:=(f_V a c).bind fun d=>(ixO a.zA 0).bind fun e=>(zOg a e).bind fun f=>(rng ((f.length:Int)-1)).bind fun g=>(ixO a.zA 0).bind fun h=>(ixO a.zA 0).bind fun i=>(zOg d i).bind fun j=>(ixO j g).bind fun k=>(zF (zKg a k) ([],0)).bind fun b=>jh (zL.mk h (c.length:Int) b)
def zXK(a:SPr):Option (zL×Int):=(zZv a).bind fun c=>cond (c != 0) (jh ((zL.mk 0 0 []),c)) ((zIY a).bind fun b=>cond ((b.length:Int)> 8) (jh ((zL.mk 0 0 []),3)) ((ixO a.zA 0).bind fun d=>(f_A a b).bind fun e=>(yC3 d (b.length:Int) e).bind fun f=>jh (f,0)))
def zTy(a:SPr):Option (zL×Int):=(zZy a).bind fun b=>cond (b != 0) (jh ((zL.mk 0 0 []),b)) ((zZz a).bind fun c=>cond ((c.length:Int)> 8) (jh ((zL.mk 0 0 []),3)) ((zZ8 a c).bind fun d=>jh (d,0)))
def zZ9(d:SPr):Option Bool:=(zYV d 1048576).bind fun l=>cond (l<0) (jh jj) ((zPF d).bind fun m=>(zXK m).bind fun c=>(zPF d).bind fun h=>(zTy h).bind fun a=>(zSV a.1 c.1).bind fun n=>cond (!n) (jh jk) (cond (a.2 != c.2) (jh jk) ((zPF d).bind fun o=>(zZf h o).bind fun p=>cond (!p) (jh jk) ((zZh h 1).bind fun q=>cond (q.1<0) (jh jk) ((zSV a.1 c.1).bind fun i=>cond (!i) (jh jk) (cond (a.2 != c.2) (jh jk) ((zZr a.1 1).bind fun b=>(zXk (zL.mk a.1.Prime a.1.vN b.2.Rows) 1).bind fun e=>cond (e<0) (jh jk) (cond (e != b.1) (jh jk) ((zPF d).bind fun j=>(zTy j).bind fun f=>(zSV f.1 c.1).bind fun k=>cond (!k) (jh jk) (cond (f.2 != c.2) (jh jk) ((zXk (zL.mk a.1.Prime a.1.vN b.2.Rows) 1).bind fun g=>cond (g<0) (jh jk) (cond (g != b.1) (jh jk) (jh jj)))))))))))))
end Go.Wk
