/- The program's IsTerminal returns what the reference's returns,for all arguments;no conditions. -/
import Derived.Test.YtfeijieociajaaaGreatAbC
open List renaming replicate→J1
open Int renaming fdiv->Gb
open Option renaming some->jd,none->je
open Bool renaming true->jf,false->jg
noncomputable section
namespace Go.Wk
open Go Go.Ab
abbrev jj:=List Int
abbrev jk:=List jj
structure SPr where
 zA:jj
 zP:jk
 zF:List jk
abbrev yW(x:SPr):T:=.agg [(L 1 I) x.zA,(L 1 (L 1 I)) x.zP,(L 1 (L 1 (L 1 I))) x.zF]
instance:Enc yW:=.of fun _=>zLV ⟨Enc.t (f:=(L 1 I)) inferInstance _,Enc.t (f:=(L 1 (L 1 I))) inferInstance _,Enc.t (f:=(L 1 (L 1 (L 1 I)))) inferInstance _,trivial⟩
structure zE where
 Prime:Int
 Dim:Int
 zL:List jk
abbrev xS(x:zE):T:=.agg [I x.Prime,I x.Dim,(L 1 (L 1 (L 1 I))) x.zL]
instance:Enc xS:=.of fun _=>zLV ⟨Enc.t (f:=I) inferInstance _,Enc.t (f:=I) inferInstance _,Enc.t (f:=(L 1 (L 1 (L 1 I)))) inferInstance _,trivial⟩
structure xE where
 Kind:Int
 yAg:Int
 yAh:Int
 zXp:Int
abbrev zGD(x:xE):T:=.agg [I x.Kind,I x.yAg,I x.yAh,I x.zXp]
instance:Enc zGD:=.of fun _=>zLV ⟨Enc.t (f:=I) inferInstance _,Enc.t (f:=I) inferInstance _,Enc.t (f:=I) inferInstance _,Enc.t (f:=I) inferInstance _,trivial⟩
structure zS where
 Prime:Int
 tC:Int
 Rows:jk
abbrev wB(x:zS):T:=.agg [I x.Prime,I x.tC,(L 1 (L 1 I)) x.Rows]
instance:Enc wB:=.of fun _=>zLV ⟨Enc.t (f:=I) inferInstance _,Enc.t (f:=I) inferInstance _,Enc.t (f:=(L 1 (L 1 I))) inferInstance _,trivial⟩
structure zO where
 p:SPr
 m:zE
 zNR:jk
structure zC where
 x:jj
 v:jj
abbrev wD(x:zC):T:=.agg [(L 1 I) x.x,(L 1 I) x.v]
instance:Enc wD:=.of fun _=>zLV ⟨Enc.t (f:=(L 1 I)) inferInstance _,Enc.t (f:=(L 1 I)) inferInstance _,trivial⟩
def zVB(b:jj)(c:Int):Option Int:=(rng (c-b.length)).bind fun a=>cond (a<0) (jd (-1)) (jd a)
def yAb(b:jk)(a:Int×Int):Option ((Int×Int)⊕(Int⊕Int)):=cond (a.2<b.length) ((ixO b a.2).bind fun d=>(zVB d a.1).bind fun c=>cond (c<0) (jd (.inr (.inr (-1)))) ((rng (a.2+1)).bind fun e=>jd (.inl (c,e)))) (jd (.inr (.inl a.1)))
def zYw(b:jk)(d:Int):Option Int:=(rng (d-b.length)).bind fun c=>cond (c<0) (jd (-1)) ((zG (yAb b) (c,0)).bind fun a=>match a with|(.inl a)=>jd a|(.inr a)=>jd a)
def yAc(b:List jk)(a:Int×Int):Option ((Int×Int)⊕(Int⊕Int)):=cond (a.2<b.length) ((ixO b a.2).bind fun d=>(zYw d a.1).bind fun c=>cond (c<0) (jd (.inr (.inr (-1)))) ((rng (a.2+1)).bind fun e=>jd (.inl (c,e)))) (jd (.inr (.inl a.1)))
def yBG(b:List jk)(d:Int):Option Int:=(rng (d-b.length)).bind fun c=>cond (c<0) (jd (-1)) ((zG (yAc b) (c,0)).bind fun a=>match a with|(.inl a)=>jd a|(.inr a)=>jd a)
def zYx(a:SPr)(e:Int):Option Int:=(zVB a.zA e).bind fun b=>cond (b<0) (jd (-1)) ((zYw a.zP b).bind fun c=>cond (c<0) (jd (-1)) ((yBG a.zF c).bind fun d=>cond (d<0) (jd (-1)) (jd d)))
def zVC(b:jj)(a:jj×Int):Option ((jj×Int)⊕jj):=cond (a.2<b.length) ((ixO b a.2).bind fun c=>(ixO a.1 a.2).bind fun _=>(rng (a.2+1)).bind fun d=>jd (.inl (a.1.set a.2.toNat c,d))) (jd (.inr a.1))
def zSm(a:jj):Option jj:=(yG (a.length:Int)).bind fun b=>(zG (zVC a) (J1 b (0:Int),0)).bind fun c=>jd c
def zVD(b:jk)(a:jk×Int):Option ((jk×Int)⊕jk):=cond (a.2<b.length) ((ixO b a.2).bind fun c=>(zSm c).bind fun d=>(ixO a.1 a.2).bind fun _=>(rng (a.2+1)).bind fun e=>jd (.inl (a.1.set a.2.toNat d,e))) (jd (.inr a.1))
def zSn(a:jk):Option jk:=(yG (a.length:Int)).bind fun b=>(zG (zVD a) (J1 b ([]:jj),0)).bind fun c=>jd c
def zVE(b:List jk)(a:(List jk)×Int):Option (((List jk)×Int)⊕(List jk)):=cond (a.2<b.length) ((ixO b a.2).bind fun c=>(zSn c).bind fun d=>(ixO a.1 a.2).bind fun _=>(rng (a.2+1)).bind fun e=>jd (.inl (a.1.set a.2.toNat d,e))) (jd (.inr a.1))
def zYy(a:List jk):Option (List jk):=(yG (a.length:Int)).bind fun b=>(zG (zVE a) (J1 b ([]:jk),0)).bind fun c=>jd c
def zSo(a:SPr):Option SPr:=(zSm a.zA).bind fun b=>(zSn a.zP).bind fun c=>(zYy a.zF).bind fun d=>jd (SPr.mk b c d)
def yBH(a:Int):Option Bool:=cond (a==2) (jd jf) (cond (a==3) (jd jf) (cond (a==5) (jd jf) (jd (a==7))))
def zNq(b:jj)(a:Int×Int):Option ((Int×Int)⊕Int):=cond (a.2<b.length) (cond (a.1<=729) ((ixO b a.2).bind fun c=>(rng (a.1*c)).bind fun d=>(rng (a.2+1)).bind fun e=>jd (.inl (d,e))) ((rng (a.2+1)).bind fun f=>jd (.inl (a.1,f)))) (jd (.inr a.1))
def zYz(a:jj):Option Int:=(zG (zNq a) (1,0)).bind fun b=>jd b
def yBI(a b c:Int):Option Bool:=cond (a>=b) (jd (a<=c)) (jd jg)
def zRp(d b:jj)(e a:Int):Option (Int⊕(Unit⊕Bool)):=cond (a<b.length) ((ixO b a).bind fun f=>(ixO d a).bind fun g=>(rng (g-1)).bind fun h=>(yBI f 0 h).bind fun i=>cond (!i) (jd (.inr (.inr jg))) (cond (a<=e) ((ixO b a).bind fun c=>cond (c != 0) (jd (.inr (.inr jg))) ((rng (a+1)).bind fun j=>jd (.inl j))) ((rng (a+1)).bind fun c=>jd (.inl c)))) (jd (.inr (.inl ())))
def zVF(b c:jj)(d:Int):Option Bool:=cond ((c.length:Int) != b.length) (jd jg) ((zG (zRp b c d) 0).bind fun a=>match a with|(.inl _a)=>jd jf|(.inr a)=>jd a)
def zVG(b:SPr)(a:Int):Option (Int⊕(Unit⊕Bool)):=cond (a<b.zA.length) ((ixO b.zA a).bind fun c=>(yBH c).bind fun d=>cond (!d) (jd (.inr (.inr jg))) ((rng (a+1)).bind fun e=>jd (.inl e))) (jd (.inr (.inl ())))
def zVH(a:SPr)(b c:Int):Option (Int⊕(Unit⊕Bool)):=(ixO a.zF b).bind fun d=>cond (c<d.length) ((ixO a.zF b).bind fun e=>(ixO e c).bind fun f=>(zVF a.zA f b).bind fun g=>cond (!g) (jd (.inr (.inr jg))) ((rng (c+1)).bind fun h=>jd (.inl h))) (jd (.inr (.inl ())))
def zPv(c:SPr)(b:Int):Option (Int⊕(Unit⊕Bool)):=cond (b<c.zA.length) ((ixO c.zP b).bind fun f=>(zVF c.zA f b).bind fun g=>cond (!g) (jd (.inr (.inr jg))) ((ixO c.zF b).bind fun h=>(rng ((c.zA.length:Int)-1)).bind fun i=>(rng (i-b)).bind fun d=>cond ((h.length:Int) != d) (jd (.inr (.inr jg))) ((zG (zVH c b) 0).bind fun a=>match a with|(.inl _a)=>(rng (b+1)).bind fun e=>jd (.inl e)|(.inr a)=>jd (.inr (.inr a))))) (jd (.inr (.inl ())))
def f_w(b:SPr):Option Bool:=cond ((b.zA.length:Int)> 6) (jd jg) (cond ((b.zP.length:Int) != b.zA.length) (jd jg) (cond ((b.zF.length:Int) != b.zA.length) (jd jg) ((zG (zVG b) 0).bind fun c=>match c with|(.inl _c)=>(zYz b.zA).bind fun d=>cond (d> 729) (jd jg) ((zG (zPv b) 0).bind fun a=>(match a with|(.inl _a)=>jd jf|(.inr a)=>jd a))|(.inr c)=>jd c)))
def f_y(a:jj):Option jj:=(yI [] a).bind fun b=>jd b
def zVI(g_a:SPr->Int->jj->jj->Option jj)(d:SPr)(b:Int)(f:jj)(e:jj×Int)(a:jj×Int):Option ((jj×Int)⊕jj):=(ixO f e.2).bind fun g=>cond (a.2<g) ((rng (b+1)).bind fun h=>(ixO d.zF b).bind fun i=>(rng (e.2-b)).bind fun j=>(rng (j-1)).bind fun k=>(ixO i k).bind fun l=>(g_a d h a.1 l).bind fun m=>(rng (a.2+1)).bind fun c=>jd (.inl (m,c))) (jd (.inr a.1))
def zVJ(g_a:SPr->Int->jj->jj->Option jj)(d:SPr)(e:Int)(f:jj)(a:jj×Int):Option ((jj×Int)⊕jj):=cond (a.2<d.zA.length) ((zG (zVI g_a d e f a) (a.1,0)).bind fun b=>(rng (a.2+1)).bind fun c=>jd (.inl (b,c))) (jd (.inr a.1))
def b_g(g_a:SPr->Int->jj->jj->Option jj)(b:SPr)(c:Int)(d:jj):Option jj:=(yG (b.zA.length:Int)).bind fun e=>(rng (c+1)).bind fun f=>(zG (zVJ g_a b c d) (J1 e (0:Int),f)).bind fun a=>jd a
def zY0(g_g:SPr->Int->jj->Option jj)(c:SPr)(b:Int)(d:jj)(a:jj×Int):Option ((jj×Int)⊕jj):=(ixO d b).bind fun e=>cond (a.2<e) ((g_g c b a.1).bind fun f=>(rng (a.2+1)).bind fun g=>jd (.inl (f,g))) (jd (.inr a.1))
def b_a(g_g:SPr->Int->jj->Option jj)(g_a:SPr->Int->jj->jj->Option jj)(b:SPr)(a:Int)(q g:jj):Option jj:=cond (a>=b.zA.length) ((yG (b.zA.length:Int)).bind fun t=>jd (J1 t (0:Int))) ((f_y q).bind fun r=>(f_y g).bind fun s=>(ixO r a).bind fun _=>(ixO s a).bind fun _=>(zG (zY0 g_g b a g) (r.set a.toNat 0,0)).bind fun u=>(rng (a+1)).bind fun h=>(g_a b h u (s.set a.toNat 0)).bind fun d=>(ixO q a).bind fun i=>(ixO g a).bind fun j=>(rng (i+j)).bind fun c=>(ixO b.zA a).bind fun k=>cond (c>=k) ((ixO b.zA a).bind fun l=>(rng (c-l)).bind fun m=>(rng (a+1)).bind fun n=>(ixO b.zP a).bind fun o=>(g_a b n o d).bind fun p=>(f_y p).bind fun e=>(ixO e a).bind fun _=>jd (e.set a.toNat m)) ((f_y d).bind fun f=>(ixO f a).bind fun _=>jd (f.set a.toNat c)))
mutual
def zPw:Nat->SPr->Int->jj->Option jj|0=>fun _ _ _=>je|n+1=>b_g (zPx n)
def zPx:Nat->SPr->Int->jj->jj->Option jj|0=>fun _ _ _ _=>je|n+1=>b_a (zPw n) (zPx n)
end
def f_g(a:SPr)(b:Int)(c:jj):Option jj:=zCj fun n=>zPw n a b c
def f_a(a:SPr)(b:Int)(c d:jj):Option jj:=zCj fun n=>zPx n a b c d
def zJK(b:SPr)(c:Int)(a:Int×jj×jj):Option ((Int×jj×jj)⊕jj):=cond (a.1> 0) ((vA a.1 2).bind fun d=>cond (d==1) ((f_a b c a.2.1 a.2.2).bind fun e=>(f_a b c a.2.2 a.2.2).bind fun f=>(vK a.1 2).bind fun g=>jd (.inl (g,e,f))) ((f_a b c a.2.2 a.2.2).bind fun h=>(vK a.1 2).bind fun i=>jd (.inl (i,a.2.1,h)))) (jd (.inr a.2.1))
def zNr(a:SPr)(b:Int)(c:jj)(d:Int):Option jj:=(yG (a.zA.length:Int)).bind fun e=>(zG (zJK a b) (d,J1 e (0:Int),c)).bind fun f=>jd f
def yAd(b c:jj)(a:Int):Option (Int⊕(Unit⊕Bool)):=cond (a<b.length) ((ixO b a).bind fun d=>(ixO c a).bind fun e=>cond (d != e) (jd (.inr (.inr jg))) ((rng (a+1)).bind fun f=>jd (.inl f))) (jd (.inr (.inl ())))
def zSp(b c:jj):Option Bool:=cond ((b.length:Int) != c.length) (jd jg) ((zG (yAd b c) 0).bind fun a=>match a with|(.inl _a)=>jd jf|(.inr a)=>jd a)
def zVK(c a:Int):Option jj:=(yG c).bind fun b=>(ixO (J1 b (0:Int)) a).bind fun _=>jd ((J1 b (0:Int)).set a.toNat 1)
def zVL(a:SPr)(c b:Int):Option (Int⊕(Unit⊕xE)):=cond (b<a.zA.length) ((rng (c+1)).bind fun g=>(ixO a.zF c).bind fun h=>(rng (b-c)).bind fun i=>(rng (i-1)).bind fun j=>(ixO h j).bind fun k=>(ixO a.zA b).bind fun l=>(zNr a g k l).bind fun m=>(ixO a.zP b).bind fun n=>(f_g a c n).bind fun d=>(zSp m d).bind fun e=>cond (!e) (jd (.inr (.inr (xE.mk 1 c b 0)))) ((rng (b+1)).bind fun f=>jd (.inl f))) (jd (.inr (.inl ())))
def zVM(b:SPr)(a e c:Int):Option (Int⊕(Unit⊕xE)):=cond (c<b.zA.length) ((ixO b.zF a).bind fun f=>(rng (e-a)).bind fun g=>(rng (g-1)).bind fun h=>(ixO f h).bind fun d=>(ixO b.zF a).bind fun i=>(rng (c-a)).bind fun j=>(rng (j-1)).bind fun k=>(ixO i k).bind fun l=>(ixO b.zF e).bind fun m=>(rng (c-e)).bind fun n=>(rng (n-1)).bind fun o=>(ixO m o).bind fun p=>(f_g b a p).bind fun q=>(rng (a+1)).bind fun r=>(f_a b r l d).bind fun s=>(rng (a+1)).bind fun t=>(f_a b t d q).bind fun u=>(zSp s u).bind fun v=>cond (!v) (jd (.inr (.inr (xE.mk 2 a e c)))) ((rng (c+1)).bind fun w=>jd (.inl w))) (jd (.inr (.inl ())))
def zVN(e:SPr)(f b:Int):Option (Int⊕(Unit⊕xE)):=cond (b<e.zA.length) ((rng (b+1)).bind fun c=>(zG (zVM e f b) c).bind fun a=>match a with|(.inl _a)=>(rng (b+1)).bind fun d=>jd (.inl d)|(.inr a)=>jd (.inr (.inr a))) (jd (.inr (.inl ())))
def zVO(e:SPr)(f:Int)(a:jj×Int):Option ((jj×Int)⊕jj):=(ixO e.zA f).bind fun b=>cond (a.2<b) ((f_g e f a.1).bind fun c=>(rng (a.2+1)).bind fun d=>jd (.inl (c,d))) (jd (.inr a.1))
def zVP(b:SPr)(e:Int)(c:jj)(a:Int):Option (Int⊕(Unit⊕xE)):=cond (a<b.zA.length) ((zVK (b.zA.length:Int) a).bind fun d=>(zG (zVO b e) (d,0)).bind fun f=>(rng (e+1)).bind fun g=>(f_a b g c f).bind fun h=>(rng (e+1)).bind fun i=>(f_a b i d c).bind fun j=>(zSp h j).bind fun k=>cond (!k) (jd (.inr (.inr (xE.mk 4 e a 0)))) ((rng (a+1)).bind fun l=>jd (.inl l))) (jd (.inr (.inl ())))
def f_p(f:SPr)(a:Int):Option xE:=(rng (a+1)).bind fun k=>(zG (zVL f a) k).bind fun b=>match b with|(.inl _b)=>(rng (a+1)).bind fun g=>(zG (zVN f a) g).bind fun c=>(match c with|(.inl _c)=>(ixO f.zP a).bind fun e=>(f_g f a e).bind fun h=>(zSp h e).bind fun i=>cond (!i) (jd (xE.mk 3 a 0 0)) ((rng (a+1)).bind fun j=>(zG (zVP f a e) j).bind fun d=>(match d with|(.inl _d)=>jd (xE.mk 0 0 0 0)|(.inr d)=>jd d))|(.inr c)=>jd c)|(.inr b)=>jd b
def zNs(c:SPr)(a:Int):Option (Int⊕(Unit⊕xE)):=cond (a>=0) ((f_p c a).bind fun b=>cond (b.Kind != 0) (jd (.inr (.inr b))) ((rng (a-1)).bind fun d=>jd (.inl d))) (jd (.inr (.inl ())))
def yBJ(b:SPr):Option xE:=(rng ((b.zA.length:Int)-1)).bind fun c=>(zG (zNs b) c).bind fun a=>match a with|(.inl _a)=>jd (xE.mk 0 0 0 0)|(.inr a)=>jd a
def yBK(a:SPr):Option Bool:=(yBJ a).bind fun b=>jd (b.Kind==0)
def zVQ(a:SPr):Option Bool:=(f_w a).bind fun b=>cond b ((yBK a).bind fun c=>jd c) (jd jg)
def zEX(b:Int)(a:jk×Int):Option ((jk×Int)⊕jk):=cond (a.2<b) ((yG b).bind fun c=>(ixO (J1 c (0:Int)) a.2).bind fun _=>(yI a.1 [(J1 c (0:Int)).set a.2.toNat 1]).bind fun d=>(rng (a.2+1)).bind fun e=>jd (.inl (d,e))) (jd (.inr a.1))
def f_v(a:Int):Option jk:=(zG (zEX a) ([],0)).bind fun b=>jd b
def zVR(e:Int)(f:jj)(d:jk)(b:jj×Int)(a:jj×Int):Option ((jj×Int)⊕jj):=cond (a.2<a.1.length) ((ixO d b.2).bind fun g=>cond (a.2<g.length) ((ixO a.1 a.2).bind fun h=>(ixO f b.2).bind fun i=>(ixO d b.2).bind fun j=>(ixO j a.2).bind fun k=>(rng (i*k)).bind fun l=>(rng (h+l)).bind fun m=>(vA m e).bind fun n=>(ixO a.1 a.2).bind fun _=>(rng (a.2+1)).bind fun c=>jd (.inl (a.1.set a.2.toNat n,c))) (jd (.inr a.1))) (jd (.inr a.1))
def zVS(f:Int)(d:jj)(e:jk)(a:jj×Int):Option ((jj×Int)⊕jj):=cond (a.2<d.length) (cond (a.2<e.length) ((zG (zVR f d e a) (a.1,0)).bind fun b=>(rng (a.2+1)).bind fun c=>jd (.inl (b,c))) (jd (.inr a.1))) (jd (.inr a.1))
def f_R(b:Int)(c:jj)(d:jk)(e:Int):Option jj:=(yG e).bind fun f=>(zG (zVS b c d) (J1 f (0:Int),0)).bind fun a=>jd a
def zY1(a:Int):Option Bool:=cond (a==2) (jd jf) (cond (a==3) (jd jf) (cond (a==5) (jd jf) (jd (a==7))))
def zY2(a b c:Int):Option Bool:=cond (a>=b) (jd (a<=c)) (jd jg)
def zRq(c:SPr)(b:jj)(a:Int):Option (Int⊕(Unit⊕Bool)):=cond (a<b.length) ((ixO b a).bind fun d=>(ixO c.zA a).bind fun e=>(rng (e-1)).bind fun f=>(zY2 d 0 f).bind fun g=>cond (!g) (jd (.inr (.inr jg))) ((rng (a+1)).bind fun h=>jd (.inl h))) (jd (.inr (.inl ())))
def zY3(b:SPr)(c:jj):Option Bool:=cond ((c.length:Int) != b.zA.length) (jd jg) ((zG (zRq b c) 0).bind fun a=>match a with|(.inl _a)=>jd jf|(.inr a)=>jd a)
def zJL(b:jj)(a:Int):Option (Int⊕(Unit⊕Bool)):=cond (a<b.length) ((ixO b a).bind fun c=>cond (c != 0) (jd (.inr (.inr jg))) ((rng (a+1)).bind fun d=>jd (.inl d))) (jd (.inr (.inl ())))
def zVT(b:jj):Option Bool:=(zG (zJL b) 0).bind fun a=>match a with|(.inl _a)=>jd jf|(.inr a)=>jd a
def zVU(b:SPr)(c:Int)(a:jj):Option Bool:=(zY3 b a).bind fun d=>cond d ((rng (c+1)).bind fun e=>(zR a 0 e).bind fun f=>(zVT f).bind fun g=>jd g) (jd jg)
def zPy(c:SPr)(a:Int×Int):Option ((Int×Int)⊕(Unit⊕Bool)):=cond (a.2<c.zA.length) ((ixO c.zA a.2).bind fun b=>(zY1 b).bind fun d=>cond (!d) (jd (.inr (.inr jg))) ((rng (a.1*b)).bind fun e=>cond (e> 729) (jd (.inr (.inr jg))) ((rng (a.1*b)).bind fun f=>(rng (a.2+1)).bind fun g=>jd (.inl (f,g))))) (jd (.inr (.inl ())))
def zVV(f:SPr)(g:Int)(a:jk)(b:Int):Option (Int⊕(Unit⊕Bool)):=cond (b<a.length) ((ixO a b).bind fun c=>(zVU f g c).bind fun d=>cond (!d) (jd (.inr (.inr jg))) ((rng (b+1)).bind fun e=>jd (.inl e))) (jd (.inr (.inl ())))
def zPz(c:SPr)(b:Int):Option (Int⊕(Unit⊕Bool)):=cond (b<c.zA.length) ((ixO c.zP b).bind fun h=>(zVU c b h).bind fun i=>cond (!i) (jd (.inr (.inr jg))) ((ixO c.zF b).bind fun j=>(rng ((c.zA.length:Int)-1)).bind fun d=>(rng (d-b)).bind fun e=>cond ((j.length:Int) != e) (jd (.inr (.inr jg))) ((ixO c.zF b).bind fun f=>(zG (zVV c b f) 0).bind fun a=>match a with|(.inl _a)=>(rng (b+1)).bind fun g=>jd (.inl g)|(.inr a)=>jd (.inr (.inr a))))) (jd (.inr (.inl ())))
def f_u(b:SPr):Option Bool:=cond ((b.zA.length:Int)> 6) (jd jg) (cond ((b.zP.length:Int) != b.zA.length) (jd jg) (cond ((b.zF.length:Int) != b.zA.length) (jd jg) ((zG (zPy b) (1,0)).bind fun c=>match c with|(.inl _c)=>(zG (zPz b) 0).bind fun a=>(match a with|(.inl _a)=>jd jf|(.inr a)=>jd a)|(.inr c)=>jd c)))
def f_B(a:jj):Option jj:=(yI [] a).bind fun b=>jd b
def zVW(c:Int)(d:jj)(a:jj×Int):Option ((jj×Int)⊕jj):=cond (a.2<d.length) ((rng (c+1)).bind fun e=>(rng (e+a.2)).bind fun b=>(ixO a.1 b).bind fun _=>(rng (a.2+1)).bind fun f=>jd (.inl (a.1.set b.toNat 0,f))) (jd (.inr a.1))
def yBL(g_c:SPr->jj->jj->Option jj)(g:SPr)(h:Int)(i:jj×Int)(b:Int)(a:jj×Int):Option ((jj×Int)⊕jj):=cond (a.2<b) ((ixO g.zF h).bind fun c=>(ixO c i.2).bind fun d=>(g_c g a.1 d).bind fun e=>(rng (a.2+1)).bind fun f=>jd (.inl (e,f))) (jd (.inr a.1))
def yBM(g_c:SPr->jj->jj->Option jj)(f:SPr)(g:Int)(e:jj)(a:jj×Int):Option ((jj×Int)⊕jj):=cond (a.2<e.length) ((ixO e a.2).bind fun b=>(zG (yBL g_c f g a b) (a.1,0)).bind fun c=>(rng (a.2+1)).bind fun d=>jd (.inl (c,d))) (jd (.inr a.1))
def yBN(g_c:SPr->jj->jj->Option jj)(h:SPr)(i:Int)(b:jj×Int)(c:Int)(a:jj×Int):Option ((jj×Int)⊕jj):=cond (a.2<c) ((ixO h.zF i).bind fun d=>(ixO d b.2).bind fun e=>(g_c h a.1 e).bind fun f=>(rng (a.2+1)).bind fun g=>jd (.inl (f,g))) (jd (.inr a.1))
def yBO(g_c:SPr->jj->jj->Option jj)(f:SPr)(g:Int)(e:jj)(a:jj×Int):Option ((jj×Int)⊕jj):=cond (a.2<e.length) ((ixO e a.2).bind fun b=>(zG (yBN g_c f g a b) (a.1,0)).bind fun c=>(rng (a.2+1)).bind fun d=>jd (.inl (c,d))) (jd (.inr a.1))
def b_d(g_c:SPr->jj->jj->Option jj)(d:SPr)(e:jj)(a:Int):Option jj:=(rng (a+1)).bind fun m=>(zR e m e.length).bind fun n=>(f_B n).bind fun f=>(zG (zVW a f) (e,0)).bind fun c=>(ixO c a).bind fun o=>(rng (o+1)).bind fun b=>(ixO c a).bind fun _=>(ixO (c.set a.toNat b) a).bind fun g=>(ixO d.zA a).bind fun h=>cond (g==h) ((ixO (c.set a.toNat b) a).bind fun _=>(ixO d.zP a).bind fun i=>(g_c d ((c.set a.toNat b).set a.toNat 0) i).bind fun j=>(zG (yBM g_c d a f) (j,0)).bind fun k=>jd k) ((zG (yBO g_c d a f) (c.set a.toNat b,0)).bind fun l=>jd l)
def zVX(g_d:SPr->jj->Int->Option jj)(b:SPr)(c:jj×Int)(d:Int)(a:jj×Int):Option ((jj×Int)⊕jj):=cond (a.2<d) ((g_d b a.1 c.2).bind fun e=>(rng (a.2+1)).bind fun f=>jd (.inl (e,f))) (jd (.inr a.1))
def zVY(g_d:SPr->jj->Int->Option jj)(c:SPr)(b:jj)(a:jj×Int):Option ((jj×Int)⊕jj):=cond (a.2<b.length) ((ixO b a.2).bind fun d=>(zG (zVX g_d c a d) (a.1,0)).bind fun e=>(rng (a.2+1)).bind fun f=>jd (.inl (e,f))) (jd (.inr a.1))
def b_c(g_d:SPr->jj->Int->Option jj)(a:SPr)(b c:jj):Option jj:=(zG (zVY g_d a c) (b,0)).bind fun d=>jd d
mutual
def zVZ:Nat->SPr->jj->Int->Option jj|0=>fun _ _ _=>je|n+1=>b_d (zSq n)
def zSq:Nat->SPr->jj->jj->Option jj|0=>fun _ _ _=>je|n+1=>b_c (zVZ n)
end
def f_d(a:SPr)(b:jj)(c:Int):Option jj:=zCj fun n=>zVZ n a b c
def f_c(a:SPr)(b c:jj):Option jj:=zCj fun n=>zSq n a b c
def zWa(b:SPr)(c:jj)(d:Int)(a:jj×Int):Option ((jj×Int)⊕jj):=cond (a.2<d) ((f_c b a.1 c).bind fun e=>(rng (a.2+1)).bind fun f=>jd (.inl (e,f))) (jd (.inr a.1))
def f_Y(b:SPr)(a:jj)(c:Int):Option jj:=(yG (a.length:Int)).bind fun d=>(zG (zWa b a c) (J1 d (0:Int),0)).bind fun e=>jd e
def zWb(b:SPr)(c:jj)(d:Int)(a:jj×Int):Option ((jj×Int)⊕jj):=cond (a.2<d) ((f_c b a.1 c).bind fun e=>(rng (a.2+1)).bind fun f=>jd (.inl (e,f))) (jd (.inr a.1))
def zWc(d:SPr)(e:Int)(f:jj)(c:jk)(a:jj×Int):Option ((jj×Int)⊕jj):=cond (a.2<c.length) ((ixO c a.2).bind fun g=>(rng (e+1)).bind fun h=>(rng (h+a.2)).bind fun i=>(ixO f i).bind fun j=>(zG (zWb d g j) (a.1,0)).bind fun k=>(rng (a.2+1)).bind fun b=>jd (.inl (k,b))) (jd (.inr a.1))
def f_K(b:SPr)(c:Int)(d:jj):Option jj:=(yG (d.length:Int)).bind fun e=>(ixO b.zF c).bind fun f=>(zG (zWc b c d f) (J1 e (0:Int),0)).bind fun a=>jd a
def zWd(b c:jj)(a:Int):Option (Int⊕(Unit⊕Bool)):=cond (a<b.length) ((ixO b a).bind fun d=>(ixO c a).bind fun e=>cond (d != e) (jd (.inr (.inr jg))) ((rng (a+1)).bind fun f=>jd (.inl f))) (jd (.inr (.inl ())))
def zLm(b c:jj):Option Bool:=cond ((b.length:Int) != c.length) (jd jg) ((zG (zWd b c) 0).bind fun a=>match a with|(.inl _a)=>jd jf|(.inr a)=>jd a)
def zSr(c:SPr)(b:jj×jj×Int)(a:jj×jj):Option ((jj×jj)⊕(jj×jj)):=(ixO a.1 b.2.2).bind fun d=>cond (d != 0) ((f_d c a.1 b.2.2).bind fun e=>(f_d c a.2 b.2.2).bind fun f=>jd (.inl (e,f))) (jd (.inr (a.1,a.2)))
def zWe(c:SPr)(d:jj)(a:jj×jj×Int):Option ((jj×jj×Int)⊕jj):=cond (a.2.2<d.length) ((zG (zSr c a) (a.1,a.2.1)).bind fun b=>(rng (a.2.2+1)).bind fun e=>jd (.inl (b.1,b.2,e))) (jd (.inr a.2.1))
def f_N(c:SPr)(a:jj):Option jj:=(f_B a).bind fun b=>(yG (a.length:Int)).bind fun d=>(zG (zWe c b) (b,J1 d (0:Int),0)).bind fun e=>jd e
def zLn(a:SPr)(b c:jj):Option jj:=(f_B b).bind fun d=>(f_c a d c).bind fun e=>jd e
def zIG(a:SPr)(c b:jj):Option jj:=(f_N a b).bind fun d=>(zLn a c b).bind fun e=>(zLn a d e).bind fun f=>jd f
def zIH(c a:Int):Option jj:=(yG c).bind fun b=>(ixO (J1 b (0:Int)) a).bind fun _=>jd ((J1 b (0:Int)).set a.toNat 1)
def zWf(a:SPr)(c b:Int):Option (Int⊕(Unit⊕xE)):=cond (b<a.zA.length) ((ixO a.zF c).bind fun f=>(rng (b-c)).bind fun g=>(rng (g-1)).bind fun h=>(ixO f h).bind fun i=>(ixO a.zA b).bind fun j=>(f_Y a i j).bind fun k=>(ixO a.zP b).bind fun l=>(f_K a c l).bind fun m=>(zLm k m).bind fun d=>cond (!d) (jd (.inr (.inr (xE.mk 1 c b 0)))) ((rng (b+1)).bind fun e=>jd (.inl e))) (jd (.inr (.inl ())))
def zWg(a:SPr)(b d c:Int):Option (Int⊕(Unit⊕xE)):=cond (c<a.zA.length) ((ixO a.zF b).bind fun e=>(rng (c-b)).bind fun f=>(rng (f-1)).bind fun g=>(ixO e g).bind fun h=>(ixO a.zF b).bind fun i=>(rng (d-b)).bind fun j=>(rng (j-1)).bind fun k=>(ixO i k).bind fun l=>(zIG a h l).bind fun m=>(ixO a.zF d).bind fun n=>(rng (c-d)).bind fun o=>(rng (o-1)).bind fun p=>(ixO n p).bind fun q=>(f_K a b q).bind fun r=>(zLm m r).bind fun s=>cond (!s) (jd (.inr (.inr (xE.mk 2 b d c)))) ((rng (c+1)).bind fun t=>jd (.inl t))) (jd (.inr (.inl ())))
def zWh(e:SPr)(f b:Int):Option (Int⊕(Unit⊕xE)):=cond (b<e.zA.length) ((rng (b+1)).bind fun c=>(zG (zWg e f b) c).bind fun a=>match a with|(.inl _a)=>(rng (b+1)).bind fun d=>jd (.inl d)|(.inr a)=>jd (.inr (.inr a))) (jd (.inr (.inl ())))
def zWi(e:SPr)(f b:Int)(a:jj×Int):Option ((jj×Int)⊕jj):=cond (a.2<b) ((f_K e f a.1).bind fun c=>(rng (a.2+1)).bind fun d=>jd (.inl (c,d))) (jd (.inr a.1))
def zWj(b:SPr)(c:Int)(d:jj)(a:Int):Option (Int⊕(Unit⊕xE)):=cond (a<b.zA.length) ((zIH (b.zA.length:Int) a).bind fun e=>(ixO b.zA c).bind fun f=>(zG (zWi b c f) (e,0)).bind fun g=>(zIH (b.zA.length:Int) a).bind fun h=>(zIG b h d).bind fun i=>(zLm g i).bind fun j=>cond (!j) (jd (.inr (.inr (xE.mk 4 c a 0)))) ((rng (a+1)).bind fun k=>jd (.inl k))) (jd (.inr (.inl ())))
def f_o(f:SPr)(a:Int):Option xE:=(rng (a+1)).bind fun k=>(zG (zWf f a) k).bind fun b=>match b with|(.inl _b)=>(rng (a+1)).bind fun g=>(zG (zWh f a) g).bind fun c=>(match c with|(.inl _c)=>(ixO f.zP a).bind fun e=>(f_K f a e).bind fun h=>(zLm h e).bind fun i=>cond (!i) (jd (xE.mk 3 a 0 0)) ((rng (a+1)).bind fun j=>(zG (zWj f a e) j).bind fun d=>(match d with|(.inl _d)=>jd (xE.mk 0 0 0 0)|(.inr d)=>jd d))|(.inr c)=>jd c)|(.inr b)=>jd b
def zNt(c:SPr)(a:Int):Option (Int⊕Int):=cond (a> 0) ((rng (a-1)).bind fun d=>(f_o c d).bind fun b=>cond (b.Kind==0&&(b.yAg==0&&(b.yAh==0&&b.zXp==0))) ((rng (a-1)).bind fun e=>jd (.inl e)) (jd (.inr a))) (jd (.inr a))
def yBP(a:SPr):Option Int:=(zG (zNt a) (a.zA.length:Int)).bind fun b=>jd b
def zWk(a:SPr):Option Bool:=(f_u a).bind fun b=>cond b ((yBP a).bind fun c=>jd (c==0)) (jd jg)
def zWl(a:zE)(b:Int):Option zS:=(ixO a.zL b).bind fun c=>jd (zS.mk a.Prime a.Dim c)
def yEs(a b:Int):Option (Int×Int):=jd ((IntKind.wrap .u64 ((IntKind.wrap .u64 ((IntKind.wrap .u64 ((Gb a (2 ^ (min (32:Int).toNat (IntKind.bits .u64))))*(Gb b (2 ^ (min (32:Int).toNat (IntKind.bits .u64))))))+(Gb (IntKind.wrap .u64 ((IntKind.wrap .u64 ((Gb a (2 ^ (min (32:Int).toNat (IntKind.bits .u64))))*(zGl .u64 b 4294967295)))+(Gb (IntKind.wrap .u64 ((zGl .u64 a 4294967295)*(zGl .u64 b 4294967295))) (2 ^ (min (32:Int).toNat (IntKind.bits .u64)))))) (2 ^ (min (32:Int).toNat (IntKind.bits .u64))))))+(Gb (IntKind.wrap .u64 ((zGl .u64 (IntKind.wrap .u64 ((IntKind.wrap .u64 ((Gb a (2 ^ (min (32:Int).toNat (IntKind.bits .u64))))*(zGl .u64 b 4294967295)))+(Gb (IntKind.wrap .u64 ((zGl .u64 a 4294967295)*(zGl .u64 b 4294967295))) (2 ^ (min (32:Int).toNat (IntKind.bits .u64)))))) 4294967295)+(IntKind.wrap .u64 ((zGl .u64 a 4294967295)*(Gb b (2 ^ (min (32:Int).toNat (IntKind.bits .u64)))))))) (2 ^ (min (32:Int).toNat (IntKind.bits .u64)))))),(IntKind.wrap .u64 (a*b)))
def zWm(b c:Int):Option (Int×Int):=(yEs b c).bind fun a=>jd (a.1,a.2)
def zBI(a:jj×Int):Option ((jj×Int)⊕jj):=cond (a.2<a.1.length) ((zR a.1 a.2 a.1.length).bind fun _=>(zR a.1 0 a.2).bind fun b=>(rng (a.2+((min b.length (((a.1.length:Int).toNat)-((a.2:Int).toNat)):Nat):Int))).bind fun c=>jd (.inl (wP a.1 ((a.2:Int).toNat) (b.take (((a.1.length:Int).toNat)-((a.2:Int).toNat))),c))) (jd (.inr a.1))
def f_k(a:jj)(d:Int):Option jj:=cond (d<0) (je) ((zWm (IntKind.wrap .u64 (a.length:Int)) (IntKind.wrap .u64 d)).bind fun b=>cond (b.1> 0) (je) (cond (b.2> 9223372036854775807) (je) ((yG (IntKind.wrap .i64 b.2)).bind fun c=>(zG zBI (wP (J1 c (0:Int)) 0 (a.take (((J1 c (0:Int)).length)-0)),((min a.length (((J1 c (0:Int)).length)-0):Nat):Int))).bind fun e=>jd e)))
def zWn(b:jj×Int)(c:Int)(a:jj×Int):Option ((jj×Int)⊕jj):=cond (a.2<c) ((rng (b.2+1)).bind fun d=>(yI a.1 [d]).bind fun e=>(rng (a.2+1)).bind fun f=>jd (.inl (e,f))) (jd (.inr a.1))
def zWo(b:jj)(a:jj×Int):Option ((jj×Int)⊕jj):=cond (a.2<b.length) ((ixO b a.2).bind fun c=>(zG (zWn a c) (a.1,0)).bind fun d=>(rng (a.2+1)).bind fun e=>jd (.inl (d,e))) (jd (.inr a.1))
def f_C(a:jj):Option jj:=(zG (zWo a) ([],0)).bind fun b=>jd b
def zWp(b:SPr)(a:(List (jj×jj))×Int):Option (((List (jj×jj))×Int)⊕(List (jj×jj))):=cond (a.2<b.zA.length) ((ixO b.zA a.2).bind fun c=>(rng (a.2+1)).bind fun d=>(f_k [d] c).bind fun e=>(ixO b.zP a.2).bind fun f=>(f_C f).bind fun g=>(yI a.1 [(e,g)]).bind fun h=>(rng (a.2+1)).bind fun i=>jd (.inl (h,i))) (jd (.inr a.1))
def zWq(j:(List (jj×jj))×Int)(k:jk)(a:(List (jj×jj))×Int):Option (((List (jj×jj))×Int)⊕(List (jj×jj))):=cond (a.2<k.length) ((ixO k a.2).bind fun c=>(rng (j.2+1)).bind fun b=>(rng (j.2+a.2)).bind fun d=>(rng (d+2)).bind fun e=>(f_C c).bind fun f=>(yI [b] f).bind fun g=>(yI a.1 [([e,b],g)]).bind fun h=>(rng (a.2+1)).bind fun i=>jd (.inl (h,i))) (jd (.inr a.1))
def zWr(d:SPr)(a:(List (jj×jj))×Int):Option (((List (jj×jj))×Int)⊕(List (jj×jj))):=cond (a.2<d.zA.length) ((ixO d.zF a.2).bind fun e=>(zG (zWq a e) (a.1,0)).bind fun b=>(rng (a.2+1)).bind fun c=>jd (.inl (b,c))) (jd (.inr a.1))
def f_D(b:SPr):Option (List (jj×jj)):=(zG (zWp b) ([],0)).bind fun c=>(zG (zWr b) (c,0)).bind fun a=>jd a
def zLo(b:Int)(a:jk×Int):Option ((jk×Int)⊕jk):=cond (a.2<b) ((yG b).bind fun c=>(ixO (J1 c (0:Int)) a.2).bind fun _=>(yI a.1 [(J1 c (0:Int)).set a.2.toNat 1]).bind fun d=>(rng (a.2+1)).bind fun e=>jd (.inl (d,e))) (jd (.inr a.1))
def f_O(b a:Int):Option zS:=(zG (zLo a) ([],0)).bind fun c=>jd (zS.mk b a c)
def zLp(b a:Int):Option Int:=(vA b a).bind fun c=>(rng (c+a)).bind fun d=>(vA d a).bind fun e=>jd e
def zNu(b c:jj)(d e:Int)(a:jj×Int):Option ((jj×Int)⊕jj):=cond (a.2<b.length) ((ixO a.1 a.2).bind fun f=>(ixO c a.2).bind fun g=>(rng (d*g)).bind fun h=>(rng (f+h)).bind fun i=>(zLp i e).bind fun j=>(ixO a.1 a.2).bind fun _=>(rng (a.2+1)).bind fun k=>jd (.inl (a.1.set a.2.toNat j,k))) (jd (.inr a.1))
def f_z(a b:jj)(c d:Int):Option jj:=(zG (zNu a b c d) (a,0)).bind fun e=>jd e
def zNv(b:jj)(c:zS)(a:jj×Int):Option ((jj×Int)⊕jj):=cond (a.2<b.length) ((ixO b a.2).bind fun d=>(ixO c.Rows a.2).bind fun e=>(f_z a.1 e d c.Prime).bind fun f=>(rng (a.2+1)).bind fun g=>jd (.inl (f,g))) (jd (.inr a.1))
def zWs(b:jj)(a:zS):Option jj:=(yG a.tC).bind fun c=>(zG (zNv b a) (J1 c (0:Int),0)).bind fun d=>jd d
def zNw(b c:zS)(a:jk×Int):Option ((jk×Int)⊕jk):=cond (a.2<b.Rows.length) ((ixO b.Rows a.2).bind fun d=>(zWs d c).bind fun e=>(yI a.1 [e]).bind fun f=>(rng (a.2+1)).bind fun g=>jd (.inl (f,g))) (jd (.inr a.1))
def zY4(a b:zS):Option zS:=(zG (zNw a b) ([],0)).bind fun c=>jd (zS.mk a.Prime b.tC c)
def zNx(d:zE)(c:jj)(a:Int×Int×jk×Int):Option ((Int×Int×jk×Int)⊕(Int×Int×jk)):=cond (a.2.2.2<c.length) ((ixO c a.2.2.2).bind fun e=>(rng (e-1)).bind fun f=>(zWl d f).bind fun g=>(zY4 (zS.mk a.1 a.2.1 a.2.2.1) g).bind fun b=>(rng (a.2.2.2+1)).bind fun h=>jd (.inl (b.Prime,b.tC,b.Rows,h))) (jd (.inr (a.1,a.2.1,a.2.2.1)))
def zP0(a:zE)(d:jj):Option zS:=(f_O a.Prime a.Dim).bind fun b=>(zG (zNx a d) (b.Prime,b.tC,b.Rows,0)).bind fun c=>jd (zS.mk c.1 c.2.1 c.2.2)
def zWt(b c:jk)(a:Int):Option (Int⊕(Unit⊕Bool)):=cond (a<b.length) ((ixO b a).bind fun d=>(ixO c a).bind fun e=>(zLm d e).bind fun f=>cond (!f) (jd (.inr (.inr jg))) ((rng (a+1)).bind fun g=>jd (.inl g))) (jd (.inr (.inl ())))
def yBQ(b c:jk):Option Bool:=cond ((b.length:Int) != c.length) (jd jg) ((zG (zWt b c) 0).bind fun a=>match a with|(.inl _a)=>jd jf|(.inr a)=>jd a)
def zY5(a b:jk):Option Bool:=(yBQ a b).bind fun c=>jd c
def zWu(a:Int):Option jj:=cond (a<0) (je) ((rng (0-0)).bind fun c=>(rng (a-c)).bind fun b=>cond (b> 0) ((wJ [] b (0:Int)).bind fun d=>(zR d 0 0).bind fun e=>jd e) (jd []))
def zWv(b:jk)(a:Int×Int):Option ((Int×Int)⊕Int):=cond (a.2<b.length) ((ixO b a.2).bind fun d=>(rng (a.1+d.length)).bind fun c=>cond (c<0) (je) ((rng (a.2+1)).bind fun e=>jd (.inl (c,e)))) (jd (.inr a.1))
def zWw(b:jk)(a:jj×Int):Option ((jj×Int)⊕jj):=cond (a.2<b.length) ((ixO b a.2).bind fun c=>(yI a.1 c).bind fun d=>(rng (a.2+1)).bind fun e=>jd (.inl (d,e))) (jd (.inr a.1))
def f_t(a:jk):Option jj:=(zG (zWv a) (0,0)).bind fun b=>(zWu b).bind fun c=>(zG (zWw a) (c,0)).bind fun d=>jd d
def zY6(a:jj)(b c:Int):Option jj:=(yG b).bind fun d=>(yG c).bind fun e=>(f_t [J1 d (0:Int),a,J1 e (0:Int)]).bind fun f=>jd f
def zWx(b c:jj)(a:Int):Option (Int⊕(Unit⊕Bool)):=cond (a<b.length) ((ixO b a).bind fun d=>(ixO c a).bind fun e=>cond (d != e) (jd (.inr (.inr jg))) ((rng (a+1)).bind fun f=>jd (.inl f))) (jd (.inr (.inl ())))
def zWy(b c:jj):Option Bool:=cond ((b.length:Int) != c.length) (jd jg) ((zG (zWx b c) 0).bind fun a=>match a with|(.inl _a)=>jd jf|(.inr a)=>jd a)
def zWz(b c:jk)(a:Int):Option (Int⊕(Unit⊕Bool)):=cond (a<b.length) ((ixO b a).bind fun d=>(ixO c a).bind fun e=>(zWy d e).bind fun f=>cond (!f) (jd (.inr (.inr jg))) ((rng (a+1)).bind fun g=>jd (.inl g))) (jd (.inr (.inl ())))
def zW0(b c:jk):Option Bool:=cond ((b.length:Int) != c.length) (jd jg) ((zG (zWz b c) 0).bind fun a=>match a with|(.inl _a)=>jd jf|(.inr a)=>jd a)
def zW1(b c:List jk)(a:Int):Option (Int⊕(Unit⊕Bool)):=cond (a<b.length) ((ixO b a).bind fun d=>(ixO c a).bind fun e=>(zW0 d e).bind fun f=>cond (!f) (jd (.inr (.inr jg))) ((rng (a+1)).bind fun g=>jd (.inl g))) (jd (.inr (.inl ())))
def yBR(b c:List jk):Option Bool:=cond ((b.length:Int) != c.length) (jd jg) ((zG (zW1 b c) 0).bind fun a=>match a with|(.inl _a)=>jd jf|(.inr a)=>jd a)
def zY7(a b:SPr):Option Bool:=(zWy a.zA b.zA).bind fun c=>cond (!c) (jd jg) ((zW0 a.zP b.zP).bind fun d=>cond (!d) (jd jg) ((yBR a.zF b.zF).bind fun e=>cond (!e) (jd jg) (jd jf)))
def b_j(g_j:SPr->Int->jj->Option jj)(b:SPr)(a:Int)(c:jj):Option jj:=cond (a>=b.zA.length) ((yG (b.zA.length:Int)).bind fun m=>jd (J1 m (0:Int))) ((f_y c).bind fun j=>(ixO j a).bind fun _=>(rng (a+1)).bind fun n=>(g_j b n (j.set a.toNat 0)).bind fun k=>(ixO c a).bind fun o=>cond (o==0) (jd k) ((yG (b.zA.length:Int)).bind fun l=>(ixO b.zA a).bind fun p=>(ixO c a).bind fun q=>(rng (p-q)).bind fun d=>(ixO (J1 l (0:Int)) a).bind fun _=>(f_a b a k ((J1 l (0:Int)).set a.toNat d)).bind fun e=>(rng (a+1)).bind fun f=>(ixO b.zP a).bind fun g=>(g_j b f g).bind fun h=>(f_a b a e h).bind fun i=>jd i))
def zP1:Nat->SPr->Int->jj->Option jj|0=>fun _ _ _=>je|n+1=>b_j (zP1 n)
def f_j(a:SPr)(b:Int)(c:jj):Option jj:=zCj fun n=>zP1 n a b c
def zSs(a:SPr)(b:jj):Option jj:=(f_j a 0 b).bind fun c=>jd c
def zNy(d:jk)(a:jk×Int):Option ((jk×Int)⊕jk):=cond (a.2<d.length) ((ixO d a.2).bind fun b=>(rng ((b.length:Int)+d.length)).bind fun f=>(yG f).bind fun c=>(rng ((b.length:Int)+a.2)).bind fun e=>(ixO (wP (J1 c (0:Int)) 0 (b.take (((J1 c (0:Int)).length)-0))) e).bind fun _=>(yI a.1 [(wP (J1 c (0:Int)) 0 (b.take (((J1 c (0:Int)).length)-0))).set e.toNat 1]).bind fun g=>(rng (a.2+1)).bind fun h=>jd (.inl (g,h))) (jd (.inr a.1))
def zY8(a:jk):Option jk:=(zG (zNy a) ([],0)).bind fun b=>jd b
def zNz(b:jk)(a:jk×Int):Option ((jk×Int)⊕jk):=cond (a.2<b.length) ((ixO b a.2).bind fun c=>(f_B c).bind fun d=>(yI a.1 [d]).bind fun e=>(rng (a.2+1)).bind fun f=>jd (.inl (e,f))) (jd (.inr a.1))
def zY9(a:jk):Option jk:=(zG (zNz a) ([],0)).bind fun b=>jd b
def zJM(a:Int×Int×Int×Int):Option ((Int×Int×Int×Int)⊕(Int×Int)):=cond (a.2.1 != 0) ((vK a.1 a.2.1).bind fun b=>(rng (b*a.2.1)).bind fun c=>(rng (a.1-c)).bind fun d=>(rng (b*a.2.2.2)).bind fun e=>(rng (a.2.2.1-e)).bind fun f=>jd (.inl (a.2.1,d,a.2.2.2,f))) (jd (.inr (a.1,a.2.2.1)))
def zN0(c a:Int):Option (Int×Bool):=(zG zJM (a,c,0,1)).bind fun b=>(zLp b.2 a).bind fun d=>jd (d,(b.1==1))
def zII(b:jk×Int×Int)(a:Int):Option (Int⊕Int):=cond (a<b.1.length) ((ixO b.1 a).bind fun c=>(ixO c b.2.2).bind fun d=>cond (d==0) ((rng (a+1)).bind fun e=>jd (.inl e)) (jd (.inr a))) (jd (.inr a))
def zN1(k:Int)(b:jk×Int×Int)(d:Int×Bool)(e:jj)(a:jk×Int):Option ((jk×Int)⊕jk):=cond (a.2<e.length) ((ixO a.1 b.2.1).bind fun c=>(ixO a.1 b.2.1).bind fun f=>(ixO f a.2).bind fun g=>(rng (g*d.1)).bind fun h=>(vA h k).bind fun i=>(ixO c a.2).bind fun _=>(rng (a.2+1)).bind fun j=>jd (.inl (a.1.set b.2.1.toNat (c.set a.2.toNat i),j))) (jd (.inr a.1))
def zP2(l:Int)(b:jk×Int×Int)(c:jk)(a:jk×Int):Option ((jk×Int)⊕jk):=cond (a.2<c.length) (cond (a.2 != b.2.1) ((ixO a.1 a.2).bind fun d=>(ixO a.1 b.2.1).bind fun e=>(ixO a.1 a.2).bind fun f=>(ixO f b.2.2).bind fun g=>(rng (0-g)).bind fun h=>(f_z d e h l).bind fun i=>(rng (a.2+1)).bind fun j=>jd (.inl (a.1.set a.2.toNat i,j))) ((rng (a.2+1)).bind fun k=>jd (.inl (a.1,k)))) (jd (.inr a.1))
def zP3(d:Int)(a:jk×Int×Int):Option ((jk×Int×Int)⊕(jk×Int)):=cond ((a.1.length:Int)> 0) ((ixO a.1 0).bind fun n=>cond (a.2.2<n.length) (cond (a.2.1<a.1.length) ((zG (zII a) a.2.1).bind fun b=>cond (b==a.1.length) ((rng (a.2.2+1)).bind fun o=>jd (.inl (a.1,a.2.1,o))) ((ixO a.1 b).bind fun e=>(ixO a.1 a.2.1).bind fun f=>(ixO (qY a.1 a.2.1 b e f) a.2.1).bind fun g=>(ixO g a.2.2).bind fun h=>(zN0 h d).bind fun i=>(ixO (qY a.1 a.2.1 b e f) a.2.1).bind fun j=>(zG (zN1 d a i j) (qY a.1 a.2.1 b e f,0)).bind fun c=>(zG (zP2 d a c) (c,0)).bind fun k=>(rng (a.2.1+1)).bind fun l=>(rng (a.2.2+1)).bind fun m=>jd (.inl (k,l,m)))) (jd (.inr (a.1,a.2.1)))) (jd (.inr (a.1,a.2.1)))) (jd (.inr (a.1,a.2.1)))
def f_i(c:Int)(d:jk):Option jk:=(zY9 d).bind fun e=>(zG (zP3 c) (e,0,0)).bind fun a=>(zR a.1 0 a.2).bind fun b=>jd b
def zW2(c b:Int):Option Int:=(vA c b).bind fun a=>cond (a<0) ((rng (a+b)).bind fun d=>jd d) (jd a)
def zIJ(b:jj)(a:Int):Option (Int⊕(Unit⊕Int)):=cond (a<b.length) ((ixO b a).bind fun c=>cond (c != 0) (jd (.inr (.inr a))) ((rng (a+1)).bind fun d=>jd (.inl d))) (jd (.inr (.inl ())))
def f_I(b:jj):Option Int:=(zG (zIJ b) 0).bind fun a=>match a with|(.inl _a)=>jd (b.length:Int)|(.inr a)=>jd a
def zW3(c d:Int)(b:jj)(a:jj×Int):Option ((jj×Int)⊕jj):=cond (a.2<a.1.length) (cond (a.2<b.length) ((ixO a.1 a.2).bind fun e=>(ixO b a.2).bind fun f=>(rng (d*f)).bind fun g=>(rng (e+g)).bind fun h=>(zW2 h c).bind fun i=>(ixO a.1 a.2).bind fun _=>(rng (a.2+1)).bind fun j=>jd (.inl (a.1.set a.2.toNat i,j))) (jd (.inr a.1))) (jd (.inr a.1))
def f_x(a:Int)(b:jj)(c:Int)(d:jj):Option jj:=(f_y b).bind fun e=>(zG (zW3 a c d) (e,0)).bind fun f=>jd f
def zN2(f:Int)(b:jk)(a:jj×Int):Option ((jj×Int)⊕jj):=cond (a.2<b.length) ((ixO b a.2).bind fun g=>(f_I g).bind fun c=>cond (c<a.1.length) ((ixO a.1 c).bind fun h=>cond (h != 0) ((ixO a.1 c).bind fun i=>(rng (f-i)).bind fun j=>(ixO b a.2).bind fun k=>(f_x f a.1 j k).bind fun l=>(rng (a.2+1)).bind fun m=>jd (.inl (l,m))) ((rng (a.2+1)).bind fun d=>jd (.inl (a.1,d)))) ((rng (a.2+1)).bind fun e=>jd (.inl (a.1,e)))) (jd (.inr a.1))
def zSt(b:Int)(c:jk)(d:jj):Option jj:=(f_y d).bind fun e=>(zG (zN2 b c) (e,0)).bind fun a=>jd a
def zN3(c b a:Int):Option (Int⊕(Unit⊕Int)):=cond (a<b) ((zW2 c b).bind fun d=>(rng (d*a)).bind fun e=>(vA e b).bind fun f=>cond (f==1) (jd (.inr (.inr a))) ((rng (a+1)).bind fun g=>jd (.inl g))) (jd (.inr (.inl ())))
def zW4(b c:Int):Option Int:=(zG (zN3 b c) 1).bind fun a=>match a with|(.inl _a)=>jd 0|(.inr a)=>jd a
def zYA(b c:Int)(a:jj):Option jj:=(yG (a.length:Int)).bind fun d=>(f_x b (J1 d (0:Int)) c a).bind fun e=>jd e
def zIK(c:Int)(b:jk×Int)(d:Int)(e:jj)(a:jk×Bool×Int):Option ((jk×Bool×Int)⊕(jk×Bool)):=cond (a.2.2<b.1.length) (cond (!a.2.1) ((ixO b.1 a.2.2).bind fun C=>(f_I C).bind fun D=>cond (D> d) ((yI a.1 [e]).bind fun f=>(ixO b.1 a.2.2).bind fun g=>(ixO b.1 a.2.2).bind fun h=>(ixO h d).bind fun i=>(rng (c-i)).bind fun j=>(f_x c g j e).bind fun k=>(yI f [k]).bind fun l=>(rng (a.2.2+1)).bind fun m=>jd (.inl (l,jf,m))) ((ixO b.1 a.2.2).bind fun n=>(ixO b.1 a.2.2).bind fun o=>(ixO o d).bind fun p=>(rng (c-p)).bind fun q=>(f_x c n q e).bind fun r=>(yI a.1 [r]).bind fun s=>(rng (a.2.2+1)).bind fun t=>jd (.inl (s,a.2.1,t)))) ((ixO b.1 a.2.2).bind fun u=>(ixO b.1 a.2.2).bind fun v=>(ixO v d).bind fun w=>(rng (c-w)).bind fun x=>(f_x c u x e).bind fun y=>(yI a.1 [y]).bind fun z=>(rng (a.2.2+1)).bind fun A=>jd (.inl (z,a.2.1,A)))) (jd (.inr (a.1,a.2.1)))
def zSu(c:Int)(i:jk)(a:jk×Int):Option ((jk×Int)⊕jk):=cond (a.2<i.length) ((ixO i a.2).bind fun k=>(zSt c a.1 k).bind fun d=>(f_I d).bind fun e=>cond (e==d.length) ((rng (a.2+1)).bind fun l=>jd (.inl (a.1,l))) ((ixO d e).bind fun m=>(zW4 m c).bind fun n=>(zYA c n d).bind fun j=>(zG (zIK c a e j) ([],jg,0)).bind fun b=>cond (!b.2) ((yI b.1 [j]).bind fun f=>(rng (a.2+1)).bind fun g=>jd (.inl (f,g))) ((rng (a.2+1)).bind fun h=>jd (.inl (b.1,h))))) (jd (.inr a.1))
def f_q(b:Int)(c:jk):Option jk:=(zG (zSu b c) ([],0)).bind fun a=>jd a
def zN4(b c:jk)(a:jk×Int):Option ((jk×Int)⊕jk):=cond (a.2<b.length) ((ixO b a.2).bind fun d=>(f_y d).bind fun e=>(ixO c a.2).bind fun f=>(yI e f).bind fun g=>(yI a.1 [g]).bind fun h=>(rng (a.2+1)).bind fun i=>jd (.inl (h,i))) (jd (.inr a.1))
def zYB(b:Int)(a:jk):Option jk:=(f_v (a.length:Int)).bind fun c=>(zG (zN4 a c) ([],0)).bind fun d=>(f_q b d).bind fun e=>jd e
def zJN(c:Int)(b:jk)(a:jk×Int):Option ((jk×Int)⊕jk):=cond (a.2<b.length) ((ixO b a.2).bind fun e=>(f_I e).bind fun f=>cond (f>=c) ((ixO b a.2).bind fun d=>(zR d c d.length).bind fun g=>(f_y g).bind fun h=>(yI a.1 [h]).bind fun i=>(rng (a.2+1)).bind fun j=>jd (.inl (i,j))) ((rng (a.2+1)).bind fun k=>jd (.inl (a.1,k)))) (jd (.inr a.1))
def zYC(b:Int)(c:jk)(d:Int):Option jk:=(zYB b c).bind fun e=>(zG (zJN d e) ([],0)).bind fun a=>jd a
def zW5(a:SPr):Option Int:=(rng ((a.zA.length:Int)-1)).bind fun b=>(rng ((a.zA.length:Int)*b)).bind fun c=>(vK c 2).bind fun d=>(rng ((a.zA.length:Int)+d)).bind fun e=>jd e
def yBS(b a c:Int):Option Int:=(rng (a*b)).bind fun d=>(rng (b+d)).bind fun e=>(rng (a+1)).bind fun f=>(rng (a*f)).bind fun g=>(vK g 2).bind fun h=>(rng (e-h)).bind fun i=>(rng (i+c)).bind fun j=>(rng (j-a)).bind fun k=>(rng (k-1)).bind fun l=>jd l
def zW6(a:SPr):Option Int:=(rng ((a.zA.length:Int)+1)).bind fun b=>(rng ((a.zA.length:Int)*b)).bind fun c=>(vK c 2).bind fun d=>jd d
def zN5(b:jj)(c:Int)(a:jk×Int):Option ((jk×Int)⊕jk):=cond (a.2<b.length) ((rng (a.2+c)).bind fun d=>(zR b a.2 d).bind fun e=>(f_B e).bind fun f=>(yI a.1 [f]).bind fun g=>(rng (a.2+c)).bind fun h=>jd (.inl (g,h))) (jd (.inr a.1))
def zSv(a:jj)(b:Int):Option jk:=(zG (zN5 a b) ([],0)).bind fun c=>jd c
def zSw(b:jj)(a:jk×Int):Option ((jk×Int)⊕jk):=cond (a.2<b.length) ((zIH (b.length:Int) a.2).bind fun c=>(yI a.1 [c]).bind fun d=>(rng (a.2+1)).bind fun e=>jd (.inl (d,e))) (jd (.inr a.1))
def zSx(b:jj)(a:jk×(List jk)×Int):Option ((jk×(List jk)×Int)⊕(jk×(List jk))):=cond (a.2.2<b.length) ((yG (b.length:Int)).bind fun d=>(yI a.1 [J1 d (0:Int)]).bind fun e=>(rng (a.2.2+1)).bind fun f=>(zG (zSw b) ([],f)).bind fun g=>(yI a.2.1 [g]).bind fun h=>(rng (a.2.2+1)).bind fun c=>jd (.inl (e,h,c))) (jd (.inr (a.1,a.2.1)))
def f_P(b:jj):Option SPr:=(f_B b).bind fun c=>(zG (zSx b) ([],[],0)).bind fun a=>jd (SPr.mk c a.1 a.2)
def zP4(c:SPr)(d:jk)(a:jk×Int×Int):Option ((jk×Int×Int)⊕(jk×Int)):=cond (a.2.2<c.zP.length) ((ixO c.zP a.2.2).bind fun e=>(ixO d a.2.1).bind fun f=>(f_t [e,f]).bind fun g=>(ixO a.1 a.2.2).bind fun _=>(rng (a.2.1+1)).bind fun h=>(rng (a.2.2+1)).bind fun b=>jd (.inl (a.1.set a.2.2.toNat g,h,b))) (jd (.inr (a.1,a.2.1)))
def zP5(j:jk)(b:(List jk)×Int×Int)(c:jk)(a:(List jk)×Int×Int):Option (((List jk)×Int×Int)⊕((List jk)×Int)):=cond (a.2.2<c.length) ((ixO c a.2.2).bind fun e=>(ixO a.1 b.2.2).bind fun d=>(ixO j a.2.1).bind fun f=>(f_t [e,f]).bind fun g=>(ixO d a.2.2).bind fun _=>(rng (a.2.1+1)).bind fun h=>(rng (a.2.2+1)).bind fun i=>jd (.inl (a.1.set b.2.2.toNat (d.set a.2.2.toNat g),h,i))) (jd (.inr (a.1,a.2.1)))
def zP6(k:SPr)(b:(List jk)×Int×Int)(c:jk)(a:(List jk)×Int):Option (((List jk)×Int)⊕(List jk)):=cond (a.2<c.length) ((ixO c a.2).bind fun f=>(ixO a.1 b.2.2).bind fun d=>(rng ((k.zA.length:Int)-1)).bind fun g=>(rng (g-b.2.2)).bind fun h=>(rng (h+a.2)).bind fun e=>(zY6 f (k.zA.length:Int) 0).bind fun i=>(ixO d e).bind fun _=>(rng (a.2+1)).bind fun j=>jd (.inl (a.1.set b.2.2.toNat (d.set e.toNat i),j))) (jd (.inr a.1))
def zP7(c:SPr)(h:zE)(i:jk)(a:(List jk)×Int×Int):Option (((List jk)×Int×Int)⊕(List jk)):=cond (a.2.2<c.zA.length) ((ixO c.zF a.2.2).bind fun d=>(zG (zP5 i a d) (a.1,a.2.1,0)).bind fun b=>(ixO h.zL a.2.2).bind fun e=>(zG (zP6 c a e) (b.1,0)).bind fun f=>(rng (a.2.2+1)).bind fun g=>jd (.inl (f,b.2,g))) (jd (.inr a.1))
def f_m(b:SPr)(c:zE)(f:jk):Option SPr:=(f_B b.zA).bind fun g=>(f_k [c.Prime] c.Dim).bind fun h=>(yI g h).bind fun i=>(f_P i).bind fun d=>(zG (zP4 b f) (d.zP,0,0)).bind fun a=>(zG (zP7 b c f) (d.zF,a.2,0)).bind fun e=>jd (SPr.mk d.zA a.1 e)
def zN6(a:zE)(c:jk)(d:jj)(b:Int):Option jj:=(ixO a.zL b).bind fun e=>(f_R a.Prime d e a.Dim).bind fun f=>(ixO c b).bind fun g=>(f_x a.Prime f 1 g).bind fun h=>jd h
def zW7(c:zE)(d:jk)(e:jj)(b:jj×Int)(a:jj×Int):Option ((jj×Int)⊕jj):=(ixO e b.2).bind fun f=>cond (a.2<f) ((zN6 c d a.1 b.2).bind fun g=>(rng (a.2+1)).bind fun h=>jd (.inl (g,h))) (jd (.inr a.1))
def zW8(c:zE)(d:jk)(b:jj)(a:jj×Int):Option ((jj×Int)⊕jj):=cond (a.2<b.length) ((zG (zW7 c d b a) (a.1,0)).bind fun e=>(rng (a.2+1)).bind fun f=>jd (.inl (e,f))) (jd (.inr a.1))
def f_S(a:zE)(b:jk)(c d:jj):Option jj:=(zG (zW8 a b d) (c,0)).bind fun e=>jd e
def zN7(b:zE)(e:jk)(c:jj)(a:jj×Int):Option ((jj×Int)⊕jj):=cond (a.2<c.length) ((ixO c a.2).bind fun d=>(rng (d-1)).bind fun f=>(zWl b f).bind fun g=>(zWs a.1 g).bind fun h=>(rng (d-1)).bind fun i=>(ixO e i).bind fun j=>(f_z h j 1 b.Prime).bind fun k=>(rng (a.2+1)).bind fun l=>jd (.inl (k,l))) (jd (.inr a.1))
def zW9(b:zE)(c:jk)(d:jj):Option jj:=(yG b.Dim).bind fun e=>(zG (zN7 b c d) (J1 e (0:Int),0)).bind fun a=>jd a
def zN8(b:zE)(c:jk)(d:(List (jj×jj)))(a:jk×Int):Option ((jk×Int)⊕jk):=cond (a.2<d.length) ((ixO d a.2).bind fun e=>(zW9 b c e.1).bind fun f=>(zW9 b c e.2).bind fun g=>(f_z f g (-1) b.Prime).bind fun h=>(yI a.1 [h]).bind fun i=>(rng (a.2+1)).bind fun j=>jd (.inl (i,j))) (jd (.inr a.1))
def zYD(a:SPr)(b:zE)(c:jk):Option jk:=(f_D a).bind fun d=>(zG (zN8 b c d) ([],0)).bind fun e=>jd e
def zIu(a:zO):Option zC:=cond ((a.zNR.length:Int)> 0) ((ixO a.zNR 0).bind fun b=>(yG (a.p.zA.length:Int)).bind fun c=>(yG (b.length:Int)).bind fun d=>jd (zC.mk (J1 c (0:Int)) (J1 d (0:Int)))) ((yG (a.p.zA.length:Int)).bind fun e=>(yG 0).bind fun f=>jd (zC.mk (J1 e (0:Int)) (J1 f (0:Int))))
def zLq(a:zO)(b c:Int):Option zC:=(ixO a.p.zF b).bind fun d=>(rng (c-b)).bind fun e=>(rng (e-1)).bind fun f=>(ixO d f).bind fun g=>(yBS (a.p.zA.length:Int) b c).bind fun h=>(ixO a.zNR h).bind fun i=>jd (zC.mk g i)
def zDx(b:zE)(c:jj)(d:Int)(a:jj×Int):Option ((jj×Int)⊕jj):=cond (a.2<c.length) ((rng (a.2+b.Dim)).bind fun e=>(zR c a.2 e).bind fun f=>(ixO b.zL d).bind fun g=>(f_R b.Prime f g b.Dim).bind fun h=>(yI a.1 h).bind fun i=>(rng (a.2+b.Dim)).bind fun j=>jd (.inl (i,j))) (jd (.inr a.1))
def zWA(a:zE)(b:jj)(c:Int):Option jj:=(zG (zDx a b c) ([],0)).bind fun d=>jd d
def zP8(a:zO)(b:Int):Option zC:=(ixO a.p.zP b).bind fun c=>(ixO a.zNR b).bind fun d=>jd (zC.mk c d)
def zYE(g_b:zO->Int->zC->zC->Option zC)(b:zO)(c:Int)(f:zC)(d:jj×jj×Int)(a:jj×jj×Int):Option ((jj×jj×Int)⊕(jj×jj)):=(ixO f.x d.2.2).bind fun g=>cond (a.2.2<g) ((rng (c+1)).bind fun h=>(zLq b c d.2.2).bind fun i=>(g_b b h (zC.mk a.1 a.2.1) i).bind fun e=>(rng (a.2.2+1)).bind fun j=>jd (.inl (e.x,e.v,j))) (jd (.inr (a.1,a.2.1)))
def zWB(g_b:zO->Int->zC->zC->Option zC)(d:zO)(e:Int)(b:zC)(a:jj×jj×Int):Option ((jj×jj×Int)⊕(jj×jj)):=cond (a.2.2<b.x.length) ((zG (zYE g_b d e b a) (a.1,a.2.1,0)).bind fun c=>(rng (a.2.2+1)).bind fun f=>jd (.inl (c.1,c.2,f))) (jd (.inr (a.1,a.2.1)))
def b_h(g_b:zO->Int->zC->zC->Option zC)(b:zO)(c:Int)(f:zC):Option zC:=(zIu b).bind fun g=>(rng (c+1)).bind fun h=>(zG (zWB g_b b c f) (g.x,g.v,h)).bind fun a=>(zWA b.m f.v c).bind fun d=>(f_x b.m.Prime a.2 1 d).bind fun e=>jd (zC.mk a.1 e)
def zSy(g_h:zO->Int->zC->Option zC)(d:zO)(b:Int)(e:zC)(a:jj×jj×Int):Option ((jj×jj×Int)⊕(jj×jj)):=(ixO e.x b).bind fun f=>cond (a.2.2<f) ((g_h d b (zC.mk a.1 a.2.1)).bind fun c=>(rng (a.2.2+1)).bind fun g=>jd (.inl (c.x,c.v,g))) (jd (.inr (a.1,a.2.1)))
def b_b(g_h:zO->Int->zC->Option zC)(g_b:zO->Int->zC->zC->Option zC)(b:zO)(a:Int)(j e:zC):Option zC:=cond (a>=b.p.zA.length) ((yG (b.p.zA.length:Int)).bind fun y=>(f_x b.m.Prime j.v 1 e.v).bind fun z=>jd (zC.mk (J1 y (0:Int)) z)) ((f_y j.x).bind fun u=>(f_y e.x).bind fun w=>(ixO u a).bind fun _=>(ixO w a).bind fun _=>(zG (zSy g_h b a e) (u.set a.toNat 0,j.v,0)).bind fun f=>(rng (a+1)).bind fun k=>(g_b b k (zC.mk f.1 f.2) (zC.mk (w.set a.toNat 0) e.v)).bind fun c=>(ixO j.x a).bind fun l=>(ixO e.x a).bind fun n=>(rng (l+n)).bind fun d=>(ixO b.p.zA a).bind fun o=>cond (d>=o) ((ixO b.p.zA a).bind fun q=>(rng (d-q)).bind fun r=>(rng (a+1)).bind fun s=>(zP8 b a).bind fun t=>(g_b b s t c).bind fun g=>(f_y g.x).bind fun h=>(ixO h a).bind fun _=>jd (zC.mk (h.set a.toNat r) g.v)) ((f_y c.x).bind fun i=>(ixO i a).bind fun _=>jd (zC.mk (i.set a.toNat d) c.v)))
mutual
def zP9:Nat->zO->Int->zC->Option zC|0=>fun _ _ _=>je|n+1=>b_h (zPA n)
def zPA:Nat->zO->Int->zC->zC->Option zC|0=>fun _ _ _ _=>je|n+1=>b_b (zP9 n) (zPA n)
end
def f_h(a:zO)(b:Int)(c:zC):Option zC:=zCj fun n=>zP9 n a b c
def f_b(a:zO)(b:Int)(c d:zC):Option zC:=zCj fun n=>zPA n a b c d
def zIv(a:zO)(b c:zC):Option jj:=(rng (a.m.Prime-1)).bind fun d=>(f_x a.m.Prime b.v d c.v).bind fun e=>jd e
def zSz(b:zO)(c:Int)(d:jk×Int)(a:jj×jj×Int):Option ((jj×jj×Int)⊕(jj×jj)):=(ixO b.p.zA d.2).bind fun f=>cond (a.2.2<f) ((rng (c+1)).bind fun g=>(zLq b c d.2).bind fun h=>(f_b b g (zC.mk a.1 a.2.1) h).bind fun e=>(rng (a.2.2+1)).bind fun i=>jd (.inl (e.x,e.v,i))) (jd (.inr (a.1,a.2.1)))
def zS0(b:zO)(c:Int)(o:jk×Int)(a:jk×Int):Option ((jk×Int)⊕jk):=cond (a.2<b.p.zA.length) ((zLq b c o.2).bind fun d=>(zLq b c a.2).bind fun e=>(zLq b o.2 a.2).bind fun f=>(f_h b c f).bind fun g=>(rng (c+1)).bind fun h=>(f_b b h e d).bind fun i=>(rng (c+1)).bind fun j=>(f_b b j d g).bind fun k=>(zIv b i k).bind fun l=>(yI a.1 [l]).bind fun m=>(rng (a.2+1)).bind fun n=>jd (.inl (m,n))) (jd (.inr a.1))
def zWC(b:zO)(c:Int)(a:jk×Int):Option ((jk×Int)⊕jk):=cond (a.2<b.p.zA.length) ((zIu b).bind fun j=>(zG (zSz b c a) (j.x,j.v,0)).bind fun k=>(zP8 b a.2).bind fun l=>(f_h b c l).bind fun d=>(zIv b (zC.mk k.1 k.2) d).bind fun e=>(yI a.1 [e]).bind fun f=>(rng (a.2+1)).bind fun g=>(zG (zS0 b c a) (f,g)).bind fun h=>(rng (a.2+1)).bind fun i=>jd (.inl (h,i))) (jd (.inr a.1))
def zWD(e:zO)(f:Int)(a:jj×jj×Int):Option ((jj×jj×Int)⊕(jj×jj)):=(ixO e.p.zA f).bind fun c=>cond (a.2.2<c) ((f_h e f (zC.mk a.1 a.2.1)).bind fun b=>(rng (a.2.2+1)).bind fun d=>jd (.inl (b.x,b.v,d))) (jd (.inr (a.1,a.2.1)))
def zS1(c:zO)(f:Int)(d:zC)(a:jk×Int):Option ((jk×Int)⊕jk):=cond (a.2<c.p.zA.length) ((zIu c).bind fun b=>(ixO b.x a.2).bind fun _=>(zG (zWD c f) (b.x.set a.2.toNat 1,b.v,0)).bind fun e=>(rng (f+1)).bind fun g=>(f_b c g d (zC.mk e.1 e.2)).bind fun h=>(rng (f+1)).bind fun i=>(f_b c i (zC.mk (b.x.set a.2.toNat 1) b.v) d).bind fun j=>(zIv c h j).bind fun k=>(yI a.1 [k]).bind fun l=>(rng (a.2+1)).bind fun m=>jd (.inl (l,m))) (jd (.inr a.1))
def f_l(c:zO)(b:Int):Option jk:=(rng (b+1)).bind fun j=>(zG (zWC c b) ([],j)).bind fun d=>(zP8 c b).bind fun a=>(f_h c b a).bind fun e=>(zIv c e a).bind fun f=>(yI d [f]).bind fun g=>(rng (b+1)).bind fun h=>(zG (zS1 c b a) (g,h)).bind fun i=>jd i
def zJO(b:zO)(a:jk×Int):Option ((jk×Int)⊕jk):=cond (a.2<b.p.zA.length) ((f_l b a.2).bind fun c=>(yI a.1 c).bind fun d=>(rng (a.2+1)).bind fun e=>jd (.inl (d,e))) (jd (.inr a.1))
def zLr(a:zO):Option jk:=(zG (zJO a) ([],0)).bind fun b=>jd b
def zN9(b:jk)(a:jk×Int):Option ((jk×Int)⊕jk):=cond (a.2<b.length) ((ixO b a.2).bind fun c=>(f_y c).bind fun d=>(yI a.1 [d]).bind fun e=>(rng (a.2+1)).bind fun f=>jd (.inl (e,f))) (jd (.inr a.1))
def zS2(a:jk):Option jk:=(zG (zN9 a) ([],0)).bind fun b=>jd b
def yBT(a b:Int)(c:jk):Option zS:=(f_i a c).bind fun d=>jd (zS.mk a b d)
def zS3(a:Int):Option Bool:=jd (a != 0)
def zGf(b:jj)(a:Int):Option (Int⊕(Unit⊕Int)):=cond (a<b.length) ((ixO b a).bind fun c=>(zS3 c).bind fun d=>cond d (jd (.inr (.inr a))) ((rng (a+1)).bind fun e=>jd (.inl e))) (jd (.inr (.inl ())))
def zS4(b:jj):Option Int:=(zG (zGf b) 0).bind fun a=>match a with|(.inl _a)=>jd (-1)|(.inr a)=>jd a
def zIL(b:jk)(a:jj×Int):Option ((jj×Int)⊕jj):=cond (a.2<b.length) ((ixO b a.2).bind fun c=>(zS4 c).bind fun d=>(yI a.1 [d]).bind fun e=>(rng (a.2+1)).bind fun f=>jd (.inl (e,f))) (jd (.inr a.1))
def f_Q(a:jk):Option jj:=(zG (zIL a) ([],0)).bind fun b=>jd b
def zJP(b:zS)(c:jj)(a:jj×Int):Option ((jj×Int)⊕jj):=cond (a.2<c.length) ((ixO c a.2).bind fun d=>(ixO b.Rows a.2).bind fun e=>(ixO a.1 d).bind fun f=>(rng (0-f)).bind fun g=>(f_z a.1 e g b.Prime).bind fun h=>(rng (a.2+1)).bind fun i=>jd (.inl (h,i))) (jd (.inr a.1))
def zYF(a:zS)(b:jj):Option jj:=(f_B b).bind fun c=>(f_Q a.Rows).bind fun d=>(zG (zJP a d) (c,0)).bind fun e=>jd e
def zNA(b:jk)(a:jj×Int):Option ((jj×Int)⊕jj):=cond (a.2<b.length) ((ixO b a.2).bind fun c=>(yI a.1 c).bind fun d=>(rng (a.2+1)).bind fun e=>jd (.inl (d,e))) (jd (.inr a.1))
def zYG(a:jk):Option jj:=(zG (zNA a) ([],0)).bind fun b=>jd b
def zS5(c:Int)(d:jk)(a:jk×Int):Option ((jk×Int)⊕jk):=cond (a.2<d.length) ((ixO d a.2).bind fun b=>(zR b 0 c).bind fun e=>(zVT e).bind fun f=>cond f ((zR b c b.length).bind fun g=>(yI a.1 [g]).bind fun h=>(rng (a.2+1)).bind fun i=>jd (.inl (h,i))) ((rng (a.2+1)).bind fun j=>jd (.inl (a.1,j)))) (jd (.inr a.1))
def f_Z(c:Int)(d:jk)(e:Int):Option jk:=(zY8 d).bind fun f=>(f_i c f).bind fun g=>(zG (zS5 e g) ([],0)).bind fun a=>(f_i c a).bind fun b=>jd b
def zNB(c:jj)(b:Int)(a:jk×Int):Option ((jk×Int)⊕jk):=(rng (a.2+b)).bind fun d=>cond (d<=c.length) ((rng (a.2+b)).bind fun e=>(zR c a.2 e).bind fun f=>(f_y f).bind fun g=>(yI a.1 [g]).bind fun h=>(rng (a.2+b)).bind fun i=>jd (.inl (h,i))) (jd (.inr a.1))
def zWE(a:jj)(b:Int):Option jk:=(zG (zNB a b) ([],0)).bind fun c=>jd c
def zWF(c:SPr)(d:zE)(e:jk)(b:jk×Int)(a:jj×Int):Option ((jj×Int)⊕jj):=(ixO c.zA b.2).bind fun f=>cond (a.2<f) ((zN6 d e a.1 b.2).bind fun g=>(rng (a.2+1)).bind fun h=>jd (.inl (g,h))) (jd (.inr a.1))
def zWG(c:SPr)(b:zE)(f:jk)(g:Nat)(a:jk×Int):Option ((jk×Int)⊕jk):=cond (a.2<c.zA.length) ((zG (zWF c b f a) (J1 g (0:Int),0)).bind fun h=>(rng (b.Prime-1)).bind fun i=>(ixO c.zP a.2).bind fun j=>(f_S b f (J1 g (0:Int)) j).bind fun k=>(f_x b.Prime h i k).bind fun l=>(yI a.1 [l]).bind fun d=>(rng (a.2+1)).bind fun e=>jd (.inl (d,e))) (jd (.inr a.1))
def zWH(q:SPr)(c:zE)(d:jk)(r:Nat)(b:jk×Int)(a:jk×Int):Option ((jk×Int)⊕jk):=cond (a.2<q.zA.length) ((zN6 c d (J1 r (0:Int)) a.2).bind fun e=>(zN6 c d e b.2).bind fun f=>(zN6 c d (J1 r (0:Int)) b.2).bind fun g=>(ixO q.zF b.2).bind fun h=>(rng (a.2-b.2)).bind fun i=>(rng (i-1)).bind fun j=>(ixO h j).bind fun k=>(f_S c d g k).bind fun l=>(rng (c.Prime-1)).bind fun m=>(f_x c.Prime f m l).bind fun n=>(yI a.1 [n]).bind fun o=>(rng (a.2+1)).bind fun p=>jd (.inl (o,p))) (jd (.inr a.1))
def zWI(e:SPr)(f:zE)(g:jk)(h:Nat)(a:jk×Int):Option ((jk×Int)⊕jk):=cond (a.2<e.zA.length) ((rng (a.2+1)).bind fun b=>(zG (zWH e f g h a) (a.1,b)).bind fun c=>(rng (a.2+1)).bind fun d=>jd (.inl (c,d))) (jd (.inr a.1))
def f_s(d:SPr)(a:zE)(e:jk):Option jk:=(yG a.Dim).bind fun f=>(zG (zWG d a e f) ([],0)).bind fun b=>(zG (zWI d a e f) (b,0)).bind fun c=>jd c
def zNC(e:SPr)(b:zE)(c:Int)(a:jk×Int):Option ((jk×Int)⊕jk):=cond (a.2<c) ((yG c).bind fun d=>(ixO (J1 d (0:Int)) a.2).bind fun _=>(zWE ((J1 d (0:Int)).set a.2.toNat 1) b.Dim).bind fun f=>(f_s e b f).bind fun g=>(zYG g).bind fun h=>(yI a.1 [h]).bind fun i=>(rng (a.2+1)).bind fun j=>jd (.inl (i,j))) (jd (.inr a.1))
def zYH(a:SPr)(b:zE):Option jk:=(rng ((a.zA.length:Int)*b.Dim)).bind fun c=>(zG (zNC a b c) ([],0)).bind fun d=>jd d
def zPB(b:SPr)(a:zE):Option jk:=(zYH b a).bind fun c=>(f_q a.Prime c).bind fun d=>jd d
def zND(d:SPr)(b:zE)(c:Int)(a:jk×Int):Option ((jk×Int)⊕jk):=cond (a.2<c) ((zIH c a.2).bind fun e=>(zSv e b.Dim).bind fun f=>(zYD d b f).bind fun g=>(f_t g).bind fun h=>(yI a.1 [h]).bind fun i=>(rng (a.2+1)).bind fun j=>jd (.inl (i,j))) (jd (.inr a.1))
def zWJ(a:SPr)(b:zE):Option jk:=(rng ((a.zA.length:Int)*b.Dim)).bind fun c=>(zG (zND a b c) ([],0)).bind fun d=>jd d
def zWK(b:SPr)(a:zE)(c:jj):Option jk:=(zWJ b a).bind fun d=>(yBT a.Prime a.Dim d).bind fun e=>(zYF e c).bind fun f=>(zSv f a.Dim).bind fun g=>jd g
structure zI where
 Word:jj
 Left:jj
 yEw:jj
abbrev zK(x:zI):T:=.agg [(L 1 I) x.Word,(L 1 I) x.Left,(L 1 I) x.yEw]
instance:Enc zK:=.of fun _=>zLV ⟨Enc.t (f:=(L 1 I)) inferInstance _,Enc.t (f:=(L 1 I)) inferInstance _,Enc.t (f:=(L 1 I)) inferInstance _,trivial⟩
structure yY where
 p:SPr
 m:zE
 sums:List zS
abbrev zJQ(x:yY):T:=.agg [(Pt yW) x.p,(Pt xS) x.m,(L 3 wB) x.sums]
instance:Enc zJQ:=.of fun _=>zLV ⟨Enc.t (f:=(Pt yW)) inferInstance _,Enc.t (f:=(Pt xS)) inferInstance _,Enc.t (f:=(L 3 wB)) inferInstance _,trivial⟩
def zS6(b:zE)(e:jk×Int)(a:jj×Int):Option ((jj×Int)⊕jj):=cond (a.2<b.Dim) ((rng (e.2*b.Dim)).bind fun f=>(rng (f+a.2)).bind fun g=>(rng (g*b.Dim)).bind fun h=>(rng (h+a.2)).bind fun d=>(ixO a.1 d).bind fun _=>(rng (a.2+1)).bind fun c=>jd (.inl (a.1.set d.toNat 1,c))) (jd (.inr a.1))
def zS7(e:zE)(f g:Int)(a:jk×Int):Option ((jk×Int)⊕jk):=cond (a.2<f) ((rng (g*e.Dim)).bind fun h=>(yG h).bind fun i=>(zG (zS6 e a) (J1 i (0:Int),0)).bind fun b=>(yI a.1 [b]).bind fun c=>(rng (a.2+1)).bind fun d=>jd (.inl (c,d))) (jd (.inr a.1))
def zS8(k:zE)(b:jk)(c:jk×Int)(a:jj×Int):Option ((jj×Int)⊕jj):=cond (a.2<b.length) ((ixO b a.2).bind fun d=>(rng (c.2*k.Dim)).bind fun e=>(rng (c.2+1)).bind fun f=>(rng (f*k.Dim)).bind fun g=>(zR d e g).bind fun h=>(yI a.1 h).bind fun i=>(rng (a.2+1)).bind fun j=>jd (.inl (i,j))) (jd (.inr a.1))
def zWL(f:zE)(g:Int)(b:jk)(a:jk×Int):Option ((jk×Int)⊕jk):=cond (a.2<g) ((zG (zS8 f b a) ([],0)).bind fun c=>(yI a.1 [c]).bind fun d=>(rng (a.2+1)).bind fun e=>jd (.inl (d,e))) (jd (.inr a.1))
def f_n(g:SPr)(a:zE):Option jk:=(zW5 g).bind fun h=>(rng (h*a.Dim)).bind fun i=>(zG (zS7 a h i) ([],0)).bind fun c=>(zLr (zO.mk g a c)).bind fun b=>(zG (zWL a i b) ([],0)).bind fun d=>(rng ((b.length:Int)*a.Dim)).bind fun e=>(zYC a.Prime d e).bind fun f=>jd f
def zS9(c:SPr)(a:jj)(b:Int):Option jj:=(rng (b+1)).bind fun F=>cond (F<a.length) ((ixO a b).bind fun g=>(rng (b+1)).bind fun f=>(ixO a f).bind fun h=>cond (g> h) ((ixO a b).bind fun i=>(rng (i-1)).bind fun G=>(rng (b+1)).bind fun j=>(ixO a j).bind fun k=>(rng (k-1)).bind fun d=>(zR a 0 b).bind fun l=>(rng (d+1)).bind fun m=>(ixO c.zF d).bind fun n=>(rng (G-d)).bind fun o=>(rng (o-1)).bind fun p=>(ixO n p).bind fun q=>(f_C q).bind fun r=>(rng (b+2)).bind fun s=>(zR a s a.length).bind fun t=>(f_t [l,[m],r,t]).bind fun u=>jd u) ((ixO a b).bind fun v=>(rng (v-1)).bind fun e=>(zR a 0 b).bind fun w=>(ixO c.zP e).bind fun x=>(f_C x).bind fun y=>(ixO c.zA e).bind fun z=>(rng (b+z)).bind fun A=>(zR a A a.length).bind fun C=>(f_t [w,y,C]).bind fun D=>jd D)) ((ixO a b).bind fun g=>(rng (g-1)).bind fun f=>(zR a 0 b).bind fun h=>(ixO c.zP f).bind fun i=>(f_C i).bind fun H=>(ixO c.zA f).bind fun j=>
 (rng (b+j)).bind fun k=>(zR a k a.length).bind fun d=>(f_t [h,H,d]).bind fun E=>jd E)
def zNE(a:jj)(c:Int)(d:List zI)(b:SPr):Option (List zI):=(zS9 b a 0).bind fun e=>(zS9 b a c).bind fun f=>(yI d [(zI.mk a e f)]).bind fun g=>jd g
def zNF(a b:Int):Option jj:=(f_k [a] b).bind fun c=>jd c
def zSA(d:SPr)(b:(List zI)×Int)(c:(List zI)×Int)(a:(List zI)×Int):Option (((List zI)×Int)⊕(List zI)):=cond (a.2<=d.zA.length) ((zNE [a.2,c.2,b.2] 1 a.1 d).bind fun e=>(rng (a.2+1)).bind fun f=>jd (.inl (e,f))) (jd (.inr a.1))
def zSB(c:SPr)(b:(List zI)×Int)(a:(List zI)×Int):Option (((List zI)×Int)⊕(List zI)):=cond (a.2<=c.zA.length) ((rng (a.2+1)).bind fun d=>(zG (zSA c b a) (a.1,d)).bind fun e=>(rng (a.2+1)).bind fun f=>jd (.inl (e,f))) (jd (.inr a.1))
def zSC(b:SPr)(a:(List zI)×Int):Option (((List zI)×Int)⊕(List zI)):=cond (a.2<=b.zA.length) ((rng (a.2+1)).bind fun c=>(zG (zSB b a) (a.1,c)).bind fun d=>(rng (a.2+1)).bind fun e=>jd (.inl (d,e))) (jd (.inr a.1))
def zSD(b:SPr)(c:(List zI)×Int)(a:(List zI)×Int):Option (((List zI)×Int)⊕(List zI)):=cond (a.2<=b.zA.length) ((rng (a.2-1)).bind fun d=>(ixO b.zA d).bind fun e=>(zNF a.2 e).bind fun f=>(yI f [c.2]).bind fun g=>(rng (a.2-1)).bind fun h=>(ixO b.zA h).bind fun i=>(rng (i-1)).bind fun j=>(zNE g j a.1 b).bind fun k=>(rng (a.2+1)).bind fun l=>jd (.inl (k,l))) (jd (.inr a.1))
def zSE(e:SPr)(a:(List zI)×Int):Option (((List zI)×Int)⊕(List zI)):=cond (a.2<=e.zA.length) ((rng (a.2+1)).bind fun b=>(zG (zSD e a) (a.1,b)).bind fun c=>(rng (a.2+1)).bind fun d=>jd (.inl (c,d))) (jd (.inr a.1))
def zSF(c:SPr)(b:(List zI)×Int)(a:(List zI)×Int):Option (((List zI)×Int)⊕(List zI)):=cond (a.2<=c.zA.length) ((rng (b.2-1)).bind fun d=>(ixO c.zA d).bind fun e=>(zNF b.2 e).bind fun f=>(yI [a.2] f).bind fun g=>(zNE g 1 a.1 c).bind fun h=>(rng (a.2+1)).bind fun i=>jd (.inl (h,i))) (jd (.inr a.1))
def zSG(e:SPr)(a:(List zI)×Int):Option (((List zI)×Int)⊕(List zI)):=cond (a.2<=e.zA.length) ((rng (a.2+1)).bind fun b=>(zG (zSF e a) (a.1,b)).bind fun c=>(rng (a.2+1)).bind fun d=>jd (.inl (c,d))) (jd (.inr a.1))
def zSH(b:SPr)(a:(List zI)×Int):Option (((List zI)×Int)⊕(List zI)):=cond (a.2<=b.zA.length) ((rng (a.2-1)).bind fun c=>(ixO b.zA c).bind fun d=>(rng (d+1)).bind fun e=>(zNF a.2 e).bind fun f=>(zNE f 1 a.1 b).bind fun g=>(rng (a.2+1)).bind fun h=>jd (.inl (g,h))) (jd (.inr a.1))
def f_e(a:SPr):Option (List zI):=(zG (zSC a) ([],1)).bind fun e=>(zG (zSE a) (e,1)).bind fun b=>(zG (zSG a) (b,1)).bind fun c=>(zG (zSH a) (c,1)).bind fun d=>jd d
def zYI(s:yY)(a:jj)(b:Int):Option Int:=(rng (b+1)).bind fun t=>cond (t<a.length) ((ixO a b).bind fun d=>(rng (b+1)).bind fun e=>(ixO a e).bind fun u=>cond (d> u) ((ixO a b).bind fun v=>(rng (v-1)).bind fun w=>(rng (b+1)).bind fun x=>(ixO a x).bind fun y=>(rng (y-1)).bind fun c=>(rng ((s.p.zA.length:Int)-1)).bind fun f=>(rng (c*f)).bind fun g=>(rng ((s.p.zA.length:Int)+g)).bind fun h=>(rng (c-1)).bind fun i=>(rng (c*i)).bind fun j=>(vK j 2).bind fun k=>(rng (h-k)).bind fun l=>(rng (l+w)).bind fun m=>(rng (m-c)).bind fun n=>(rng (n-1)).bind fun o=>jd o) ((ixO a b).bind fun q=>(rng (q-1)).bind fun r=>jd r)) ((ixO a b).bind fun d=>(rng (d-1)).bind fun e=>jd e)
def zWM(i:yY)(j g:Int)(h:zS)(b:(List zS)×Int):Option (((List zS)×Int)⊕(List zS)):=cond (b.2<h.Rows.length) ((ixO h.Rows b.2).bind fun c=>(ixO b.1 g).bind fun a=>(ixO a.Rows b.2).bind fun d=>(f_z d c j i.m.Prime).bind fun e=>(rng (b.2+1)).bind fun f=>jd (.inl (b.1.set g.toNat (zS.mk a.Prime a.tC (a.Rows.set b.2.toNat e)),f))) (jd (.inr b.1))
def zWN(i:yY)(j h:Int)(c:zS)(b:(List zS)×Int):Option (((List zS)×Int)⊕(List zS)):=cond (b.2<c.Rows.length) ((ixO c.Rows b.2).bind fun d=>(ixO b.1 h).bind fun a=>(ixO a.Rows b.2).bind fun e=>(f_z e d j i.m.Prime).bind fun f=>(rng (b.2+1)).bind fun g=>jd (.inl (b.1.set h.toNat (zS.mk a.Prime a.tC (a.Rows.set b.2.toNat f)),g))) (jd (.inr b.1))
def zWO(i:yY)(j h:Int)(c:zS)(b:(List zS)×Int):Option (((List zS)×Int)⊕(List zS)):=cond (b.2<c.Rows.length) ((ixO c.Rows b.2).bind fun d=>(ixO b.1 h).bind fun a=>(ixO a.Rows b.2).bind fun e=>(f_z e d j i.m.Prime).bind fun f=>(rng (b.2+1)).bind fun g=>jd (.inl (b.1.set h.toNat (zS.mk a.Prime a.tC (a.Rows.set b.2.toNat f)),g))) (jd (.inr b.1))
def f_r(a:yY)(b:jj)(c d:Int):Option (jj×yY):=(zYI a b c).bind fun e=>(zS9 a.p b c).bind fun f=>(rng (c+1)).bind fun w=>cond (w>=b.length) ((ixO b c).bind fun g=>(rng (g-1)).bind fun h=>(ixO a.p.zA h).bind fun i=>(rng (c+i)).bind fun j=>(zR b j b.length).bind fun k=>(zP0 a.m k).bind fun x=>(zG (zWM a d e x) (a.sums,0)).bind fun l=>jd (f,(yY.mk a.p a.m l))) ((ixO b c).bind fun g=>(rng (c+1)).bind fun h=>(ixO b h).bind fun i=>cond (g<=i) ((ixO b c).bind fun j=>(rng (j-1)).bind fun k=>(ixO a.p.zA k).bind fun y=>(rng (c+y)).bind fun n=>(zR b n b.length).bind fun o=>(zP0 a.m o).bind fun q=>(zG (zWN a d e q) (a.sums,0)).bind fun r=>jd (f,(yY.mk a.p a.m r))) ((rng (c+2)).bind fun s=>(zR b s b.length).bind fun t=>(zP0 a.m t).bind fun u=>(zG (zWO a d e u) (a.sums,0)).bind fun v=>jd (f,(yY.mk a.p a.m v))))
def zPC(f:jj)(g:Int)(a:jj)(b:Int):Option (Int⊕(Unit⊕Bool)):=cond (b<a.length) ((ixO a b).bind fun c=>(ixO f g).bind fun d=>cond (c != d) (jd (.inr (.inr jg))) ((rng (b+1)).bind fun e=>jd (.inl e))) (jd (.inr (.inl ())))
def zPD(d:jj)(e:Int)(c:jj)(a:Int):Option (Int⊕(Unit⊕Bool)):=cond (a<c.length) ((ixO c a).bind fun f=>(ixO d e).bind fun g=>cond (f != g) (jd (.inr (.inr jg))) ((rng (a+1)).bind fun b=>jd (.inl b))) (jd (.inr (.inl ())))
def f_J(l:SPr)(b:jj)(a:Int):Option Bool:=(rng (a+1)).bind fun m=>cond (m<b.length) ((ixO b a).bind fun g=>(rng (a+1)).bind fun h=>(ixO b h).bind fun e=>cond (g> e) (jd jf) ((ixO b a).bind fun i=>(rng (i-1)).bind fun j=>(ixO l.zA j).bind fun f=>(rng (a+f)).bind fun n=>cond (n> b.length) (jd jg) ((rng (a+f)).bind fun o=>(zR b a o).bind fun k=>(zG (zPC b a k) 0).bind fun c=>match c with|(.inl _c)=>jd jf|(.inr c)=>jd c))) ((ixO b a).bind fun g=>(rng (g-1)).bind fun h=>(ixO l.zA h).bind fun e=>(rng (a+e)).bind fun i=>cond (i> b.length) (jd jg) ((rng (a+e)).bind fun j=>(zR b a j).bind fun f=>(zG (zPD b a f) 0).bind fun d=>(match d with|(.inl _d)=>jd jf|(.inr d)=>jd d)))
def zNG(c:SPr)(b:jj)(a:Int):Option (Int⊕(Unit⊕Int)):=cond (a<b.length) ((f_J c b a).bind fun d=>cond d (jd (.inr (.inr a))) ((rng (a+1)).bind fun e=>jd (.inl e))) (jd (.inr (.inl ())))
def zSI(b:SPr)(c:jj):Option Int:=(zG (zNG b c) 0).bind fun a=>match a with|(.inl _a)=>jd (-1)|(.inr a)=>jd a
def zWP(c:Int)(a:SPr×zE×(List zS)×jj×Int):Option ((SPr×zE×(List zS)×jj×Int)⊕(SPr×zE×(List zS))):=cond (a.2.2.2.2>=0) ((f_r (yY.mk a.1 a.2.1 a.2.2.1) a.2.2.2.1 a.2.2.2.2 c).bind fun b=>(zSI b.2.p b.1).bind fun d=>jd (.inl (b.2.p,b.2.m,b.2.sums,b.1,d))) (jd (.inr (a.1,a.2.1,a.2.2.1)))
def f_L(a:yY)(c:jj)(d:Int):Option yY:=(zSI a.p c).bind fun e=>(zG (zWP d) (a.p,a.m,a.sums,c,e)).bind fun b=>jd (yY.mk b.1 b.2.1 b.2.2)
def zSJ(c:zS)(a:jk×Int):Option ((jk×Int)⊕jk):=cond (a.2<c.Rows.length) ((ixO a.1 a.2).bind fun b=>(ixO b a.2).bind fun _=>(rng (a.2+1)).bind fun d=>jd (.inl (a.1.set a.2.toNat (b.set a.2.toNat 0),d))) (jd (.inr a.1))
def zPE(f:zE)(g:Int)(a:(List zS)×Int):Option (((List zS)×Int)⊕(List zS)):=cond (a.2<g) ((f_O f.Prime f.Dim).bind fun b=>(zG (zSJ b) (b.Rows,0)).bind fun c=>(yI a.1 [(zS.mk b.Prime b.tC c)]).bind fun d=>(rng (a.2+1)).bind fun e=>jd (.inl (d,e))) (jd (.inr a.1))
def zSK(j:zE)(d:jk×Int)(b:zS)(a:jk×Int):Option ((jk×Int)⊕jk):=cond (a.2<b.Rows.length) ((ixO b.Rows a.2).bind fun e=>(rng (d.2*j.Dim)).bind fun f=>(rng (f+a.2)).bind fun c=>(ixO a.1 c).bind fun g=>(yI g e).bind fun h=>(rng (a.2+1)).bind fun i=>jd (.inl (a.1.set c.toNat h,i))) (jd (.inr a.1))
def zNH(f:zE)(b:yY)(a:jk×Int):Option ((jk×Int)⊕jk):=cond (a.2<b.sums.length) ((ixO b.sums a.2).bind fun c=>(zG (zSK f a c) (a.1,0)).bind fun d=>(rng (a.2+1)).bind fun e=>jd (.inl (d,e))) (jd (.inr a.1))
def yEt(j:zE)(d:jk×Int)(b:zS)(a:jk×Int):Option ((jk×Int)⊕jk):=cond (a.2<b.Rows.length) ((ixO b.Rows a.2).bind fun e=>(rng (d.2*j.Dim)).bind fun f=>(rng (f+a.2)).bind fun c=>(ixO a.1 c).bind fun g=>(yI g e).bind fun h=>(rng (a.2+1)).bind fun i=>jd (.inl (a.1.set c.toNat h,i))) (jd (.inr a.1))
def yBU(f:zE)(b:yY)(a:jk×Int):Option ((jk×Int)⊕jk):=cond (a.2<b.sums.length) ((ixO b.sums a.2).bind fun c=>(zG (yEt f a c) (a.1,0)).bind fun d=>(rng (a.2+1)).bind fun e=>jd (.inl (d,e))) (jd (.inr a.1))
def yEu(j:zE)(d:jk×Int)(b:zS)(a:jk×Int):Option ((jk×Int)⊕jk):=cond (a.2<b.Rows.length) ((ixO b.Rows a.2).bind fun e=>(rng (d.2*j.Dim)).bind fun f=>(rng (f+a.2)).bind fun c=>(ixO a.1 c).bind fun g=>(yI g e).bind fun h=>(rng (a.2+1)).bind fun i=>jd (.inl (a.1.set c.toNat h,i))) (jd (.inr a.1))
def yBV(f:zE)(b:yY)(a:jk×Int):Option ((jk×Int)⊕jk):=cond (a.2<b.sums.length) ((ixO b.sums a.2).bind fun c=>(zG (yEu f a c) (a.1,0)).bind fun d=>(rng (a.2+1)).bind fun e=>jd (.inl (d,e))) (jd (.inr a.1))
def zSL(l:SPr)(d:zE)(D:Int)(C:(List zI))(a:jk×Int):Option ((jk×Int)⊕jk):=cond (a.2<C.length) ((ixO C a.2).bind fun b=>(zG (zPE d D) ([],0)).bind fun e=>(ixO b.Word 0).bind fun f=>(ixO b.Word 1).bind fun m=>cond (f==m) ((rng ((b.Word.length:Int)-1)).bind fun n=>(ixO b.Word n).bind fun o=>cond (o != f) ((rng ((b.Word.length:Int)-2)).bind fun p=>(f_r (yY.mk l d e) b.Word 0 1).bind fun c=>(f_L c.2 c.1 1).bind fun q=>(f_r q b.Word p (-1)).bind fun g=>(f_L g.2 g.1 (-1)).bind fun r=>(zG (zNH d r) (a.1,0)).bind fun s=>(rng (a.2+1)).bind fun t=>jd (.inl (s,t))) ((f_r (yY.mk l d e) b.Word 0 1).bind fun h=>(f_L h.2 h.1 1).bind fun u=>(f_r u b.Word 1 (-1)).bind fun i=>(f_L i.2 i.1 (-1)).bind fun v=>(zG (yBU d v) (a.1,0)).bind fun w=>(rng (a.2+1)).bind fun x=>jd (.inl (w,x)))) ((f_r (yY.mk l d e) b.Word 0 1).bind fun j=>(f_L j.2 j.1 1).bind fun y=>(f_r y b.Word 1 (-1)).bind fun k=>(f_L k.2 k.1 (-1)).bind fun c=>
 (zG (yBV d c) (a.1,0)).bind fun z=>(rng (a.2+1)).bind fun A=>jd (.inl (z,A)))) (jd (.inr a.1))
def f_f(c:SPr)(b:zE):Option jk:=(zW6 c).bind fun g=>(rng (g*b.Dim)).bind fun h=>(yG h).bind fun i=>(f_e c).bind fun j=>(zG (zSL c b g j) (J1 i ([]:jj),0)).bind fun a=>cond ((a.length:Int)> 0) ((ixO a 0).bind fun d=>(f_Z b.Prime a (d.length:Int)).bind fun e=>jd e) ((f_Z b.Prime a 0).bind fun f=>jd f)
def yAe(a:SPr)(b:Int):Option (Int⊕(Unit⊕Bool)):=cond (b<a.zA.length) ((ixO a.zA b).bind fun c=>(ixO a.zA 0).bind fun d=>cond (c != d) (jd (.inr (.inr jg))) ((rng (b+1)).bind fun e=>jd (.inl e))) (jd (.inr (.inl ())))
def zYJ(b:SPr):Option Bool:=(zVQ b).bind fun c=>cond (!c) (jd jg) (cond ((b.zA.length:Int)==0) (jd jg) ((zG (yAe b) 0).bind fun a=>match a with|(.inl _a)=>jd jf|(.inr a)=>jd a))
def zWQ(b:SPr)(a:Int×Int):Option ((Int×Int)⊕Int):=cond (a.2<b.zA.length) ((ixO b.zA a.2).bind fun c=>(rng (a.1*c)).bind fun d=>(rng (a.2+1)).bind fun e=>jd (.inl (d,e))) (jd (.inr a.1))
def yBW(a:SPr):Option Int:=(zG (zWQ a) (1,0)).bind fun b=>jd b
def zYK(a:SPr):Option Int:=(zVQ a).bind fun b=>cond (!b) (jd 1) ((zYJ a).bind fun c=>cond (!c) (jd 5) ((yBW a).bind fun d=>cond (d> 81) (jd 3) (jd 0)))
def zLs(b:SPr)(c:Int)(a:(List jk)×Int):Option (((List jk)×Int)⊕(List jk)):=cond (a.2<b.zA.length) ((f_v c).bind fun d=>(yI a.1 [d]).bind fun e=>(rng (a.2+1)).bind fun f=>jd (.inl (e,f))) (jd (.inr a.1))
def f_T(b:SPr)(c a:Int):Option zE:=(zG (zLs b a) ([],0)).bind fun d=>jd (zE.mk c a d)
def zYL(a:SPr):Option zE:=(ixO a.zA 0).bind fun b=>(f_T a b 1).bind fun c=>jd c
def zGg(c:zE)(d b:jk)(a:jk×Int):Option ((jk×Int)⊕jk):=cond (a.2<b.length) ((ixO b a.2).bind fun e=>(zSt c.Prime d e).bind fun f=>(yI a.1 [f]).bind fun g=>(rng (a.2+1)).bind fun h=>jd (.inl (g,h))) (jd (.inr a.1))
def zWR(b:SPr)(a:zE):Option jk:=(zPB b a).bind fun c=>(f_n b a).bind fun d=>(zG (zGg a c d) ([],0)).bind fun e=>(f_q a.Prime e).bind fun f=>jd f
def zIw(a:SPr):Option jk:=(zYL a).bind fun b=>(zWR a b).bind fun c=>jd c
def yAf(a:SPr)(b:Int):Option (Int⊕(Unit⊕Bool)):=cond (b<a.zA.length) ((ixO a.zA b).bind fun c=>(ixO a.zA 0).bind fun d=>cond (c != d) (jd (.inr (.inr jg))) ((rng (b+1)).bind fun e=>jd (.inl e))) (jd (.inr (.inl ())))
def zYM(b:SPr):Option Bool:=(zWk b).bind fun c=>cond (!c) (jd jg) (cond ((b.zA.length:Int)==0) (jd jg) ((zG (yAf b) 0).bind fun a=>match a with|(.inl _a)=>jd jf|(.inr a)=>jd a))
def zWS(b:SPr)(a:Int×Int):Option ((Int×Int)⊕Int):=cond (a.2<b.zA.length) ((ixO b.zA a.2).bind fun c=>(rng (a.1*c)).bind fun d=>(rng (a.2+1)).bind fun e=>jd (.inl (d,e))) (jd (.inr a.1))
def yBX(a:SPr):Option Int:=(zG (zWS a) (1,0)).bind fun b=>jd b
def zYN(a:SPr):Option Int:=(zWk a).bind fun b=>cond (!b) (jd 1) ((zYM a).bind fun c=>cond (!c) (jd 5) ((yBX a).bind fun d=>cond (d> 81) (jd 3) (jd 0)))
def zGh(b:SPr)(c d:Int)(a:(List jk)×Int):Option (((List jk)×Int)⊕(List jk)):=cond (a.2<b.zA.length) ((f_O c d).bind fun e=>(yI a.1 [e.Rows]).bind fun f=>(rng (a.2+1)).bind fun g=>jd (.inl (f,g))) (jd (.inr a.1))
def zPF(c:SPr)(a b:Int):Option zE:=(zG (zGh c a b) ([],0)).bind fun d=>jd (zE.mk a b d)
def zWT(c:SPr)(d:zE)(b:jk)(a:jk×Int):Option ((jk×Int)⊕jk):=cond (a.2<b.length) ((ixO b a.2).bind fun e=>(zWK c d e).bind fun f=>(f_t f).bind fun g=>(yI a.1 [g]).bind fun h=>(rng (a.2+1)).bind fun i=>jd (.inl (h,i))) (jd (.inr a.1))
def zYO(a:SPr):Option jk:=(ixO a.zA 0).bind fun d=>(zPF a d 1).bind fun b=>(f_f a b).bind fun e=>(zG (zWT a b e) ([],0)).bind fun f=>(f_i b.Prime f).bind fun c=>jd c
def zNI(c:SPr)(d:zE)(b:jk)(a:jk×Int):Option ((jk×Int)⊕jk):=cond (a.2<b.length) ((ixO b a.2).bind fun e=>(zWK c d e).bind fun f=>(f_t f).bind fun g=>(yI a.1 [g]).bind fun h=>(rng (a.2+1)).bind fun i=>jd (.inl (h,i))) (jd (.inr a.1))
def zWU(b:jk)(c:jk×Int)(a:jj×Int):Option ((jj×Int)⊕jj):=cond (a.2<b.length) ((ixO b a.2).bind fun d=>(ixO d c.2).bind fun e=>(yI a.1 [e]).bind fun f=>(rng (a.2+1)).bind fun g=>jd (.inl (f,g))) (jd (.inr a.1))
def zWV(b:SPr)(c:jk)(a:jk×Int):Option ((jk×Int)⊕jk):=(zW5 b).bind fun d=>cond (a.2<d) ((zG (zWU c a) ([],0)).bind fun e=>(yI a.1 [e]).bind fun f=>(rng (a.2+1)).bind fun g=>jd (.inl (f,g))) (jd (.inr a.1))
def f_U(a:SPr)(b:jk):Option jk:=(zG (zWV a b) ([],0)).bind fun c=>jd c
def zWW(b:jk)(c:jk×Int)(a:jj×Int):Option ((jj×Int)⊕jj):=cond (a.2<b.length) ((ixO b a.2).bind fun d=>(ixO d c.2).bind fun e=>(yI a.1 [e]).bind fun f=>(rng (a.2+1)).bind fun g=>jd (.inl (f,g))) (jd (.inr a.1))
def zSM(b:jk)(c:Int)(a:jk×Int):Option ((jk×Int)⊕jk):=cond (a.2<c) ((zG (zWW b a) ([],0)).bind fun d=>(yI a.1 [d]).bind fun e=>(rng (a.2+1)).bind fun f=>jd (.inl (e,f))) (jd (.inr a.1))
def f_V(a:SPr)(e:jk):Option SPr:=(zW6 a).bind fun f=>(zG (zSM e f) ([],0)).bind fun g=>(ixO a.zA 0).bind fun b=>(zPF a b (e.length:Int)).bind fun c=>(f_m a c g).bind fun d=>jd d
structure xD where
 p:SPr
 base:jk
abbrev zIx(x:xD):T:=.agg [(Pt yW) x.p,(L 1 (Nz 1 I)) x.base]
instance:Enc zIx:=.of fun _=>zLV ⟨Enc.t (f:=(Pt yW)) inferInstance _,Enc.t (f:=(L 1 (Nz 1 I))) inferInstance _,trivial⟩
def zIy(a:SPr)(c:jj)(b:Int):Option jj:=cond (b<0) ((zSs a c).bind fun d=>(rng (0-b)).bind fun e=>(zNr a 0 d e).bind fun f=>jd f) ((zNr a 0 c b).bind fun g=>jd g)
def zIM(a:SPr)(b c:jj):Option jj:=(f_a a 0 b c).bind fun d=>jd d
def zNJ(d:SPr)(b:jk)(a:jj×Int):Option ((jj×Int)⊕(jj⊕(Int×jj))):=cond (a.2<b.length) ((ixO a.1 a.2).bind fun e=>cond (e==0) ((rng (a.2+1)).bind fun f=>jd (.inl (a.1,f))) ((ixO b a.2).bind fun g=>cond ((g.length:Int)==0) (jd (.inr (.inr (a.2,a.1)))) ((ixO b a.2).bind fun h=>(ixO a.1 a.2).bind fun i=>(rng (0-i)).bind fun j=>(zIy d h j).bind fun k=>(zIM d a.1 k).bind fun l=>(rng (a.2+1)).bind fun c=>jd (.inl (l,c))))) (jd (.inr (.inl a.1)))
def zYP(c:SPr)(b:jk)(d:jj):Option (Int×jj):=(f_y d).bind fun e=>(zG (zNJ c b) (e,0)).bind fun a=>match a with|(.inl a)=>jd ((b.length:Int),a)|(.inr a)=>jd a
def zPG(a:SPr)(b c:jj):Option jj:=(zIM a c b).bind fun d=>(zSs a d).bind fun e=>(zIM a b c).bind fun f=>(zIM a e f).bind fun g=>jd g
def zWX(i:SPr)(k:jk)(j:jk×Int)(a:jj×Int):Option ((jj×Int)⊕jj):=cond (a.2<k.length) ((ixO j.1 a.2).bind fun l=>cond ((l.length:Int)> 0) ((ixO a.1 a.2).bind fun m=>cond (m != 0) ((ixO j.1 a.2).bind fun n=>(ixO a.1 a.2).bind fun b=>(rng (0-b)).bind fun c=>(zIy i n c).bind fun d=>(zIM i a.1 d).bind fun e=>(rng (a.2+1)).bind fun f=>jd (.inl (e,f))) ((rng (a.2+1)).bind fun g=>jd (.inl (a.1,g)))) ((rng (a.2+1)).bind fun h=>jd (.inl (a.1,h)))) (jd (.inr a.1))
def zYQ(e:SPr)(b:jk)(a:jk×Int):Option ((jk×Int)⊕jk):=cond (a.2>=0) ((ixO b a.2).bind fun f=>cond ((f.length:Int)==0) ((rng (a.2-1)).bind fun g=>jd (.inl (a.1,g))) ((ixO b a.2).bind fun h=>(rng (a.2+1)).bind fun i=>(zG (zWX e b a) (h,i)).bind fun c=>(ixO a.1 a.2).bind fun _=>(rng (a.2-1)).bind fun d=>jd (.inl (a.1.set a.2.toNat c,d)))) (jd (.inr a.1))
def zSN(b:jk)(a:jk×Int):Option ((jk×Int)⊕jk):=cond (a.2<b.length) ((ixO b a.2).bind fun c=>cond ((c.length:Int)> 0) ((ixO b a.2).bind fun d=>(yI a.1 [d]).bind fun e=>(rng (a.2+1)).bind fun f=>jd (.inl (e,f))) ((rng (a.2+1)).bind fun g=>jd (.inl (a.1,g)))) (jd (.inr a.1))
def f_F(d:SPr)(a:jk):Option jk:=(yG (a.length:Int)).bind fun e=>(rng ((a.length:Int)-1)).bind fun f=>(zG (zYQ d a) (J1 e ([]:jj),f)).bind fun b=>(zG (zSN b) ([],0)).bind fun c=>jd c
def zSO(i:SPr)(k:jk×jk)(j:Int×jj)(b:jj)(a:jk×Int):Option ((jk×Int)⊕jk):=cond (a.2<i.zA.length) (cond (a.2 != j.1) ((ixO (k.1.set j.1.toNat b) a.2).bind fun c=>cond ((c.length:Int)> 0) ((zPG i b c).bind fun d=>(yI a.1 [d]).bind fun e=>(rng (a.2+1)).bind fun f=>jd (.inl (e,f))) ((rng (a.2+1)).bind fun g=>jd (.inl (a.1,g)))) ((rng (a.2+1)).bind fun h=>jd (.inl (a.1,h)))) (jd (.inr a.1))
def zSP(d:SPr)(a:jk×jk):Option ((jk×jk)⊕jk):=cond ((a.2.length:Int)> 0) ((rng ((a.2.length:Int)-1)).bind fun i=>(ixO a.2 i).bind fun l=>(zR a.2 0 i).bind fun j=>(zYP d a.1 l).bind fun b=>cond (b.1==d.zA.length) (jd (.inl (a.1,j))) ((ixO b.2 b.1).bind fun m=>(ixO d.zA b.1).bind fun k=>(zW4 m k).bind fun n=>(zIy d b.2 n).bind fun c=>(ixO a.1 b.1).bind fun _=>(yI j [b.2]).bind fun e=>(zIy d c k).bind fun f=>(yI e [f]).bind fun g=>(zG (zSO d a b c) (g,0)).bind fun h=>jd (.inl (a.1.set b.1.toNat c,h)))) (jd (.inr a.1))
def f_H(a:SPr)(d:jk):Option jk:=(yG (a.zA.length:Int)).bind fun e=>(zS2 d).bind fun f=>(zG (zSP a) (J1 e ([]:jj),f)).bind fun b=>(f_F a b).bind fun c=>jd c
def zWY(a:SPr):Option xD:=(yG (a.zA.length:Int)).bind fun b=>jd (xD.mk a (J1 b ([]:jj)))
def zWZ(a:jk):Option jk:=(yI [] a).bind fun b=>jd b
def zNK(b:jj)(a:Int):Option (Int⊕(Unit⊕Int)):=cond (a<b.length) ((ixO b a).bind fun c=>cond (c != 0) (jd (.inr (.inr a))) ((rng (a+1)).bind fun d=>jd (.inl d))) (jd (.inr (.inl ())))
def zPH(b:jj):Option Int:=(zG (zNK b) 0).bind fun a=>match a with|(.inl _a)=>jd (b.length:Int)|(.inr a)=>jd a
def zRr(b:xD)(a:jj×Int):Option ((jj×Int)⊕jj):=cond (a.2<a.1.length) ((ixO b.base a.2).bind fun l=>cond (!l.isEmpty) ((ixO b.base a.2).bind fun m=>(ixO b.p.zA a.2).bind fun n=>(ixO a.1 a.2).bind fun o=>(rng (n-o)).bind fun q=>(f_Y b.p m q).bind fun r=>(zLn b.p r a.1).bind fun c=>(ixO c a.2).bind fun s=>cond (s != 0) ((ixO b.base a.2).bind fun e=>(ixO b.p.zA a.2).bind fun f=>(ixO c a.2).bind fun g=>(rng (f-g)).bind fun h=>(f_Y b.p e h).bind fun i=>(zLn b.p i c).bind fun d=>(zPH d).bind fun j=>jd (.inl (d,j))) ((zPH c).bind fun k=>jd (.inl (c,k)))) (jd (.inr a.1))) (jd (.inr a.1))
def zYR(b:xD)(c:jj):Option (jj×xD):=(zPH c).bind fun d=>(zG (zRr b) (c,d)).bind fun a=>jd (a,b)
def zNL(a:SPr)(b c:jj):Option jj:=(f_N a b).bind fun d=>(zIG a b c).bind fun e=>(zLn a d e).bind fun f=>jd f
def zSQ(c:jj×xD)(d:jj)(a:jk×Int):Option ((jk×Int)⊕jk):=cond (a.2<c.2.base.length) ((ixO c.2.base a.2).bind fun b=>cond (!b.isEmpty) ((zNL c.2.p b d).bind fun e=>(yI a.1 [e]).bind fun f=>(rng (a.2+1)).bind fun g=>jd (.inl (f,g))) ((rng (a.2+1)).bind fun h=>jd (.inl (a.1,h)))) (jd (.inr a.1))
def zSR(b:SPr×jk×Bool×jk):Option ((SPr×jk×Bool×jk)⊕(SPr×jk×Bool)):=cond ((b.2.2.2.length:Int)> 0) ((ixO b.2.2.2 0).bind fun j=>(zYR (xD.mk b.1 b.2.1) j).bind fun a=>(zR b.2.2.2 1 b.2.2.2.length).bind fun i=>(zPH a.1).bind fun d=>cond (d==a.1.length) (jd (.inl (a.2.p,a.2.base,b.2.2.1,i))) ((ixO a.1 d).bind fun k=>(ixO a.2.p.zA d).bind fun l=>(zN0 k l).bind fun m=>(yI i [a.1]).bind fun n=>(f_Y a.2.p a.1 m.1).bind fun c=>(ixO a.2.p.zA d).bind fun e=>(f_Y a.2.p c e).bind fun f=>(yI n [f]).bind fun g=>(zG (zSQ a c) (g,0)).bind fun h=>(ixO a.2.base d).bind fun _=>(neO c).bind fun _=>jd (.inl (a.2.p,a.2.base.set d.toNat c,jf,h)))) (jd (.inr (b.1,b.2.1,b.2.2.1)))
def f_E(b:xD)(c:jk):Option (Bool×xD):=(zWZ c).bind fun d=>(zG zSR (b.p,b.base,jg,d)).bind fun a=>jd (a.2.2,(xD.mk a.1 a.2.1))
def zSS(b:SPr)(c:jk)(d:jj×Int)(e:Int)(a:jj):Option (jj⊕jj):=(ixO a e).bind fun f=>cond (f != 0) ((ixO c d.2).bind fun g=>(f_c b a g).bind fun h=>jd (.inl h)) (jd (.inr a))
def zPI(c:SPr)(d:jk)(b:jj)(a:jj×Int):Option ((jj×Int)⊕jj):=cond (a.2<b.length) ((ixO b a.2).bind fun e=>(zG (zSS c d a e) a.1).bind fun f=>(rng (a.2+1)).bind fun g=>jd (.inl (f,g))) (jd (.inr a.1))
def f_M(b:SPr)(a:jk)(c:jj):Option jj:=(f_B c).bind fun d=>(f_Q a).bind fun e=>(zG (zPI b a e) (d,0)).bind fun f=>jd f
def zRs(b:xD)(a:jk×Int):Option ((jk×Int)⊕jk):=cond (a.2>=0) ((ixO b.base a.2).bind fun c=>cond (!c.isEmpty) ((ixO b.base a.2).bind fun d=>(f_M b.p a.1 d).bind fun e=>(yI [e] a.1).bind fun f=>(rng (a.2-1)).bind fun g=>jd (.inl (f,g))) ((rng (a.2-1)).bind fun h=>jd (.inl (a.1,h)))) (jd (.inr a.1))
def zST(a:xD):Option jk:=(rng ((a.base.length:Int)-1)).bind fun b=>(zG (zRs a) ([],b)).bind fun c=>jd c
def zXa(a:SPr)(b:jk):Option jk:=(zWY a).bind fun c=>(f_E c b).bind fun d=>(zST d.2).bind fun e=>jd e
def zYS(a:SPr):Option (jk×Int):=(zYK a).bind fun b=>cond (b != 0) (jd ([],b)) ((zIw a).bind fun c=>cond ((c.length:Int)> 8) (jd ([],3)) (jd (c,0)))
def zXb(a:SPr):Option jk:=(f_v (a.zA.length:Int)).bind fun b=>jd b
def zXc(a:SPr)(c b:jj):Option jj:=(zSs a b).bind fun d=>(zIM a c b).bind fun e=>(zIM a d e).bind fun f=>jd f
def zXd(d:SPr)(e b:jk)(c:jk×Int)(a:jk×Int):Option ((jk×Int)⊕jk):=cond (a.2<b.length) ((ixO b a.2).bind fun f=>(ixO e c.2).bind fun g=>(zXc d f g).bind fun h=>(yI a.1 [h]).bind fun i=>(rng (a.2+1)).bind fun j=>jd (.inl (i,j))) (jd (.inr a.1))
def zSU(d:SPr)(c b:jk)(a:jk×Int):Option ((jk×Int)⊕jk):=cond (a.2<c.length) ((zG (zXd d c b a) (a.1,0)).bind fun e=>(rng (a.2+1)).bind fun f=>jd (.inl (e,f))) (jd (.inr a.1))
def zYT(c:SPr)(d a:jk):Option (jk⊕jk):=(zS2 a).bind fun e=>(zG (zSU c d a) (e,0)).bind fun f=>(f_H c f).bind fun b=>cond ((b.length:Int)==a.length) (jd (.inr b)) (jd (.inl b))
def f_G(b:SPr)(c d:jk):Option jk:=(zG (zYT b d) c).bind fun a=>jd a
def zXe(c:SPr)(d b:jk)(e:jk×Int)(a:jk×Int):Option ((jk×Int)⊕jk):=cond (a.2<b.length) ((ixO d e.2).bind fun f=>(ixO b a.2).bind fun g=>(zPG c f g).bind fun h=>(yI a.1 [h]).bind fun i=>(rng (a.2+1)).bind fun j=>jd (.inl (i,j))) (jd (.inr a.1))
def zSV(c:SPr)(b d:jk)(a:jk×Int):Option ((jk×Int)⊕jk):=cond (a.2<b.length) ((zG (zXe c b d a) (a.1,0)).bind fun e=>(rng (a.2+1)).bind fun f=>jd (.inl (e,f))) (jd (.inr a.1))
def f_X(a:SPr)(e f:jk):Option jk:=(zG (zSV a e f) ([],0)).bind fun g=>(f_H a g).bind fun h=>(zS2 e).bind fun b=>(yI b f).bind fun c=>(f_G a h c).bind fun d=>jd d
def zJR(c:SPr)(b:jk)(d:Int)(a:jk×Int):Option ((jk×Int)⊕jk):=cond (a.2<b.length) ((ixO b a.2).bind fun e=>(zIy c e d).bind fun f=>(yI a.1 [f]).bind fun g=>(rng (a.2+1)).bind fun h=>jd (.inl (g,h))) (jd (.inr a.1))
def zXf(a:SPr)(b:jk)(c:Int):Option jk:=(zXb a).bind fun d=>(f_X a b d).bind fun e=>(zG (zJR a b c) (e,0)).bind fun f=>(f_H a f).bind fun g=>jd g
def zIz(d:SPr)(e:Int)(a:(List jk)):Option ((List jk)⊕(List jk)):=(rng ((a.length:Int)-1)).bind fun f=>(ixO a f).bind fun b=>(zXf d b e).bind fun c=>cond ((c.length:Int)==b.length) (jd (.inr a)) ((yI a [c]).bind fun g=>jd (.inl g))
def zPJ(a:SPr)(b:Int):Option (List jk):=(zXb a).bind fun c=>(zG (zIz a b) [c]).bind fun d=>jd d
def zXg(d:SPr)(e:Int)(f:zE)(g:jk)(h:zC)(i:jj)(a:jj×jj×Int):Option ((jj×jj×Int)⊕(jj×jj)):=cond (a.2.2<e) ((f_b (zO.mk d f g) 0 (zC.mk a.1 a.2.1) (zC.mk i h.v)).bind fun c=>(rng (a.2.2+1)).bind fun b=>jd (.inl (c.x,c.v,b))) (jd (.inr (a.1,a.2.1)))
def zXh(b:SPr)(e:zE)(f:jk)(d:zC)(l:jj)(a:jk×Int):Option ((jk×Int)⊕jk):=cond (a.2<b.zA.length) ((zVK (b.zA.length:Int) a.2).bind fun c=>(f_b (zO.mk b e f) 0 (zC.mk l d.v) (zC.mk c d.v)).bind fun g=>(f_b (zO.mk b e f) 0 (zC.mk c d.v) (zC.mk l d.v)).bind fun h=>(zIv (zO.mk b e f) g h).bind fun i=>(yI a.1 [i]).bind fun j=>(rng (a.2+1)).bind fun k=>jd (.inl (j,k))) (jd (.inr a.1))
def zXi(g:SPr)(l:Int)(h:jk)(i:zE)(j:jk)(b:zC)(a:jk×Int):Option ((jk×Int)⊕jk):=cond (a.2<h.length) ((ixO h a.2).bind fun k=>(zG (zXg g l i j b k) (b.x,b.v,0)).bind fun c=>(yI a.1 [c.2]).bind fun d=>(zG (zXh g i j b k) (d,0)).bind fun e=>(rng (a.2+1)).bind fun f=>jd (.inl (e,f))) (jd (.inr a.1))
def f_A(a:SPr)(e:jk):Option jk:=(ixO a.zA 0).bind fun b=>(zPJ a b).bind fun f=>(rng ((f.length:Int)-2)).bind fun i=>(ixO f i).bind fun j=>(f_T a b (e.length:Int)).bind fun g=>(f_U a e).bind fun h=>(zIu (zO.mk a g h)).bind fun k=>(zG (zXi a b j g h k) ([],0)).bind fun c=>(f_q b c).bind fun d=>jd d
def zXj(b:SPr):Option (Bool×Int):=(zYS b).bind fun a=>cond (a.2 != 0) (jd (jg,a.2)) ((f_A b a.1).bind fun c=>jd (((c.length:Int)==0),0))
def zYU(a:SPr):Option (jk×Int):=(zYN a).bind fun b=>cond (b != 0) (jd ([],b)) ((zYO a).bind fun c=>cond ((c.length:Int)> 8) (jd ([],3)) (jd (c,0)))
def zNM(b:SPr)(a:jk×Int):Option ((jk×Int)⊕jk):=cond (a.2<b.zA.length) ((zIH (b.zA.length:Int) a.2).bind fun c=>(yI a.1 [c]).bind fun d=>(rng (a.2+1)).bind fun e=>jd (.inl (d,e))) (jd (.inr a.1))
def yBY(a:SPr):Option jk:=(zG (zNM a) ([],0)).bind fun b=>jd b
def zXk(a:SPr):Option jk:=(yBY a).bind fun b=>jd b
def zXl(a:Int):Option jk:=cond (a<0) (je) ((rng (0-0)).bind fun c=>(rng (a-c)).bind fun b=>cond (b> 0) ((wJ [] b ([]:jj)).bind fun d=>(zR d 0 0).bind fun e=>jd e) (jd []))
def zNN(b:List jk)(a:Int×Int):Option ((Int×Int)⊕Int):=cond (a.2<b.length) ((ixO b a.2).bind fun d=>(rng (a.1+d.length)).bind fun c=>cond (c<0) (je) ((rng (a.2+1)).bind fun e=>jd (.inl (c,e)))) (jd (.inr a.1))
def zNO(b:List jk)(a:jk×Int):Option ((jk×Int)⊕jk):=cond (a.2<b.length) ((ixO b a.2).bind fun c=>(yI a.1 c).bind fun d=>(rng (a.2+1)).bind fun e=>jd (.inl (d,e))) (jd (.inr a.1))
def zYV(a:List jk):Option jk:=(zG (zNN a) (0,0)).bind fun b=>(zXl b).bind fun c=>(zG (zNO a) (c,0)).bind fun d=>jd d
def zNP(c:SPr)(b:jk)(d:jj)(a:jk×Int):Option ((jk×Int)⊕jk):=cond (a.2<b.length) ((ixO b a.2).bind fun e=>(zIG c e d).bind fun f=>(yI a.1 [f]).bind fun g=>(rng (a.2+1)).bind fun h=>jd (.inl (g,h))) (jd (.inr a.1))
def zYW(a:SPr)(b:jk)(c:jj):Option jk:=(zG (zNP a b c) ([],0)).bind fun d=>jd d
def zJS(d:SPr)(c e:jk)(a:SPr×jk×Bool×Int):Option ((SPr×jk×Bool×Int)⊕(SPr×jk×Bool)):=cond (a.2.2.2<c.length) ((ixO c a.2.2.2).bind fun f=>(zYW d e f).bind fun g=>(f_E (xD.mk a.1 a.2.1) g).bind fun b=>cond b.1 ((rng (a.2.2.2+1)).bind fun h=>jd (.inl (b.2.p,b.2.base,jf,h))) ((rng (a.2.2.2+1)).bind fun i=>jd (.inl (b.2.p,b.2.base,a.2.2.1,i)))) (jd (.inr (a.1,a.2.1,a.2.2.1)))
def zRt(c:SPr)(d:jk)(a:SPr×jk×Bool):Option ((SPr×jk×Bool)⊕(SPr×jk)):=cond a.2.2 ((zST (xD.mk a.1 a.2.1)).bind fun e=>(zG (zJS c d e) (a.1,a.2.1,jg,0)).bind fun b=>jd (.inl (b.1,b.2.1,b.2.2))) (jd (.inr (a.1,a.2.1)))
def zYX(c:SPr)(e f:jk):Option jk:=(zWY c).bind fun g=>(f_E g e).bind fun d=>(zG (zRt c f) (d.2.p,d.2.base,jf)).bind fun a=>(zST (xD.mk a.1 a.2)).bind fun b=>jd b
def zXm(c:SPr)(b:jk)(d:jj)(a:jk×Int):Option ((jk×Int)⊕jk):=cond (a.2<b.length) ((ixO b a.2).bind fun e=>(zNL c d e).bind fun f=>(yI a.1 [f]).bind fun g=>(rng (a.2+1)).bind fun h=>jd (.inl (g,h))) (jd (.inr a.1))
def zSW(c:SPr)(b d:jk)(a:jk×Int):Option ((jk×Int)⊕jk):=cond (a.2<b.length) ((ixO b a.2).bind fun e=>(zG (zXm c d e) (a.1,0)).bind fun f=>(rng (a.2+1)).bind fun g=>jd (.inl (f,g))) (jd (.inr a.1))
def f_W(b:SPr)(c d:jk):Option jk:=(zG (zSW b c d) ([],0)).bind fun e=>(zYV [c,d]).bind fun f=>(zYX b e f).bind fun a=>jd a
def zJT(b:jk)(c:SPr)(d:Int)(a:jk×Int):Option ((jk×Int)⊕jk):=cond (a.2<b.length) ((ixO b a.2).bind fun e=>(f_Y c e d).bind fun f=>(yI a.1 [f]).bind fun g=>(rng (a.2+1)).bind fun h=>jd (.inl (g,h))) (jd (.inr a.1))
def zXn(b:jk)(a:SPr)(c:Int):Option jk:=(zXk a).bind fun d=>(f_W a b d).bind fun e=>(zG (zJT b a c) (e,0)).bind fun f=>(zXa a f).bind fun g=>jd g
def zRu(b:SPr×Int)(a:(List jk)):Option ((List jk)⊕(List jk)):=(rng ((a.length:Int)-1)).bind fun d=>(ixO a d).bind fun e=>(zXn e b.1 b.2).bind fun c=>(rng ((a.length:Int)-1)).bind fun f=>(ixO a f).bind fun g=>(zY5 c g).bind fun h=>cond h (jd (.inr a)) ((yI a [c]).bind fun i=>jd (.inl i))
def zYY(a:jk)(b:SPr×Int):Option (List jk):=(zG (zRu b) [a]).bind fun c=>jd c
def zNQ(a:SPr)(b:Int):Option (List jk):=(zXk a).bind fun c=>(zYY c (a,b)).bind fun d=>jd d
def zJU(h:SPr)(f:jk)(a:jk×Int):Option ((jk×Int)⊕jk):=cond (a.2<f.length) ((ixO f a.2).bind fun g=>(zR g (h.zA.length:Int) g.length).bind fun b=>(f_B b).bind fun c=>(yI a.1 [c]).bind fun d=>(rng (a.2+1)).bind fun e=>jd (.inl (d,e))) (jd (.inr a.1))
def zYZ(a:SPr)(c:jk):Option zS:=(f_V a c).bind fun d=>(ixO a.zA 0).bind fun e=>(zNQ a e).bind fun f=>(rng ((f.length:Int)-1)).bind fun g=>(ixO a.zA 0).bind fun h=>(ixO a.zA 0).bind fun i=>(zNQ d i).bind fun j=>(ixO j g).bind fun k=>(zG (zJU a k) ([],0)).bind fun b=>jd (zS.mk h (c.length:Int) b)
def zXo(b:SPr):Option (Bool×Int):=(zYU b).bind fun a=>cond (a.2 != 0) (jd (jg,a.2)) ((zYZ b a.1).bind fun c=>jd (((c.Rows.length:Int)==0),0))
def zZa(a:SPr):Option Bool:=(zYx a 1048576).bind fun e=>cond (e<0) (jd jf) ((zSo a).bind fun f=>(zXj f).bind fun b=>(zSo a).bind fun c=>(zXo c).bind fun d=>cond (d.1 != b.1) (jd jg) (cond (d.2 != b.2) (jd jg) ((zSo a).bind fun g=>(zY7 c g).bind fun h=>cond (!h) (jd jg) (jd jf))))
end Go.Wk
