/- The layer, part 3: Sp3d, Sp3e, Sp5e, Sp8p, Co12, Sp12, Sp18, Sp9c, Sp9m, Sp18m, Sp12w, Sp18n, Sp5f, Sp12s, Co02, Sp2, Sp2b, Sp2c, Sp2d, Sp2e, Sp2f, Sp2g, Co04, Sp4, Sp4b, Sp19, Sp19b, Co20, Sp19c, Sp19d, Sp19e, SpM, Sp19f, Sp19g, Sp19h. -/
import Derived.Test.YtkjehofblipcaaaGreatDoorA2
set_option linter.unusedVariables false
set_option linter.unusedSimpArgs false
namespace Go.Proofs.YtkjehofblipcaaaGreatDoor.Ab
open Go
section
theorem Cy{a n last c k b:Int}(h:jm a n last c=some (k,b))(hc:c=0\/1<=c/\c<=17):b=a/\1<=k/\k<=17:=by
 unfold jm at h;split at h
 ·rename_i h0;simp only[ai,aZ]at h;obtain⟨rfl,rfl⟩:=h;refine⟨rfl,?_⟩;have hi:vR n last=0\/1<=vR n last/\vR n last<=5:=by
   unfold vR;split
   ·omega
   ·split <;>omega
  unfold fM at h0⊢;split
  ·omega
  ·rename_i h1;rw[ar h1]at h0;omega
 ·simp at h
theorem iF{α:Type}{cu own:α->Int}(hc:∀x,own x=0\/1<=own x/\own x<=17):∀(l:List α) (last a:Int) c b,fS cu own last a l=some (c,b)->a<=b/\1<=c/\c<=17
 |[],last,a,c,b,h=>by simp[fS]at h
 |x::r,last,a,c,b,h=>by
  simp only[fS]at h;cases hl:jm a (cu x) last (own x)with
  |some q =>
   obtain⟨k,b'⟩:=q;rw[hl]at h;simp only[jN,ai,aZ]at h;obtain⟨rfl,rfl⟩:=h;obtain⟨rfl,h1⟩:=Cy hl (hc x);exact⟨J9 _,h1⟩
  |none =>
   rw[hl,mB]at h;obtain⟨h1,h2⟩:=iF hc r _ _ c b h;exact⟨by omega,h2⟩
theorem xd(n:Node):cY n=0\/1<=cY n/\cY n<=17:=by unfold cY;split <;>omega
theorem x5(n:fF):cX n=0\/1<=cX n/\cX n<=17:=by unfold cX;split <;>omega
theorem B2(s:bc)(p:dm):eh s p=0\/1<=eh s p/\eh s p<=17:=by
 unfold eh;split
 ·omega
 ·split <;>omega
def L8(o:Option (Int×Int)):Prop:=∀c a,o=some (c,a)->1<=c/\c<=17/\ -1<=a
theorem wI(s:bc):L8 (gp s):=by
 intro c a h;unfold gp at h;split at h
 ·cases h1:fS Node.id cY 0 0 s.nodes with
  |some q =>
   rw[h1]at h;simp only[jN,ai]at h;subst h;have:=iF xd _ _ _ _ _ h1;omega
  |none =>
   rw[h1,mB]at h;cases h2:fS fF.id cX 0 s.nodes.length s.aT with
   |some q =>
    rw[h2]at h;simp only[jN,ai]at h;subst h;have:=iF x5 _ _ _ _ _ h2;omega
   |none =>
    rw[h2,mB]at h;have:=iF (B2 s) _ _ _ _ _ h;omega
 ·simp only[ai,aZ]at h;omega
theorem EH{err:AV}{hp:Hl}{o:Option (Int×Int)}{kid nx:Nat}(h:sY err hp o kid nx)(wc:∀c a,o=some (c,a)->0<=a):dD (ah hp) err=some (mG o):=by
 cases o with
 |none =>
  have h':err=.pv .dI:=h;subst h';rfl
 |some q =>
  obtain⟨c,a⟩:=q;obtain⟨b,rfl,h1,h2,h3⟩:=h;have:=wc c a rfl;have hn:¬a<0:=by omega
  simp only[dD,h3,hZ,dH,mG,hn,aJ,ix]
section
variable{T:cK}
set_option maxRecDepth 100000 in
set_option maxHeartbeats 4000000 in
theorem Ey(S:zH T)(s:bc):ba T 76 [aF s] (mG (gp s)):=by
 refine gives S.Ua rfl ?_;by_cases hz:kI s=true
 ·have Br:=hz;simp only[kI,bj,bI]at Br;obtain⟨z1,z2,z3,z4⟩:=Br;have y1:¬(s.nodes.length:Int)<1:=by omega
  have y2:¬(8:Int)<(s.nodes.length:Int):=by omega
  have y3:¬(8:Int)<(s.aT.length:Int):=by omega
  have y4:¬(12:Int)<(s.pods.length:Int):=by omega
  have wc:∀c a,gp s=some (c,a)->0<=a:=by
   intro c a h;unfold gp at h;rw[aW hz]at h;cases h1:fS Node.id cY 0 0 s.nodes with
   |some q =>
    rw[h1]at h;simp only[jN,ai]at h;subst h;have:=iF xd _ _ _ _ _ h1;omega
   |none =>
    rw[h1,mB]at h;cases h2:fS fF.id cX 0 s.nodes.length s.aT with
    |some q =>
     rw[h2]at h;simp only[jN,ai]at h;subst h;have:=iF x5 _ _ _ _ _ h2;omega
    |none =>
     rw[h2,mB]at h;have:=iF (B2 s) _ _ _ _ _ h;omega
  simp only[f76,rL',aa,simprocAttr,aF,y1,y2,y3,y4];refine Jy S s (by omega) (by omega) (by omega) 0 (J9 _) (by omega) _ (fS Node.id cY 0 0 s.nodes) (fun fr hp nx last err ie g1 g3 b0 b1 hE=>?_) s.nodes 0 0 none (.pv .dI) rfl (aO _) rfl _ _ _ (ax _) rfl rfl rfl rfl rfl rfl rfl rfl;simp only[rL',aa,simprocAttr,g1,g3,b0,b1];refine check_1 S s (by omega) (by omega) (by omega) s.nodes.length (by omega) (by omega) _ ((fS Node.id cY 0 0 s.nodes).or (fS fF.id cX 0 s.nodes.length s.aT)) (fun fr hp nx last err ie g1 g3 b0 b1 hE=>?_) s.aT 0 0 (fS Node.id cY 0 0 s.nodes) err rfl (aO _) (by rw[show((s.nodes.length:Int)+((0:Nat):Int))=s.nodes.length by omega]) _ _ _ ie ?_ ?_ ?_ ?_ ?_ ?_ ?_ ?_
  ·simp only[rL',aa,simprocAttr,g1,g3,b0,b1];refine Jz S s (by omega) (by omega) (by omega) (s.nodes.length+s.aT.length) (by omega) (by omega) _ (gp s) (fun fr hp nx last err ie g1 g3 b0 b1 hE=>?_) s.pods 0 0 ((fS Node.id cY 0 0 s.nodes).or (fS fF.id cX 0 s.nodes.length s.aT)) err rfl (aO _) ?_ _ _ _ ie ?_ ?_ ?_ ?_ ?_ ?_ ?_ ?_
   ·have hs:=EH hE wc;simp only[rL',aa,simprocAttr,g1,g3,b0,b1,hs]
   ·rw[gp,aW hz,show((s.nodes.length:Int)+s.aT.length+((0:Nat):Int))=(s.nodes.length:Int)+s.aT.length by omega]
   all_goals try simp only[aj,Nat.reduceEqDiff,g1,g3,b0]
   ·rw[show((s.nodes.length:Int)+s.aT.length+((0:Nat):Int))=(s.nodes.length:Int)+s.aT.length by omega]
   ·exact hE.mono (fun j hj eA=>by simp only[aj,Nat.reduceEqDiff,show ¬1=j from fun h=>eA h.symm]) (ax _)
   ·rfl
  all_goals try simp only[aj,Nat.reduceEqDiff,g1,g3,b0]
  ·rw[show((s.nodes.length:Int)+((0:Nat):Int))=0+(s.nodes.length:Int) by omega]
  ·exact hE.mono (fun j hj eA=>by simp only[aj,Nat.reduceEqDiff,show ¬1=j from fun h=>eA h.symm]) (ax _)
  ·rfl
 ·have hc:mG (gp s)=.iface 0 (.int .i64 3):=by rw[gp,ar hz];rfl
  rw[hc];have Br:=hz;simp only[kI,bj,bI,not_and]at Br;by_cases c1:(s.nodes.length:Int)<1
  ·simp only[f76,rL',aa,simprocAttr,aF,c1]
  ·by_cases c2:(8:Int)<(s.nodes.length:Int)
   ·simp only[f76,rL',aa,simprocAttr,aF,c1,c2]
   ·by_cases c3:(8:Int)<(s.aT.length:Int)
    ·simp only[f76,rL',aa,simprocAttr,aF,c1,c2,c3]
    ·have c4:(12:Int)<(s.pods.length:Int):=by have:=Br (by omega) (by omega) (by omega);omega
     simp only[f76,rL',aa,simprocAttr,aF,c1,c2,c3,c4]
/-! ### NU -/
def ga(pods:List dm)(w:Want):Int:=if eS w.eP pods=none then 4 else if w.stay=false/\w.jU≠cE then 1 else 0
def ep(pods:List dm)(prev:Option Want)(w:Want):Int:=match prev with
 |some v=>if w.eP=v.eP then 5 else if w.eP<v.eP then 1 else ga pods w
 |none=>ga pods w
def eV(pods:List dm):Option Want->Int->List Want->Option (Int×Int)
 |_,_,[]=>none
 |prev,i,w::r=>if ep pods prev w≠0 then some (ep pods prev w,i)else eV pods (some w) (i+1) r
def gN(s:bc)(x:Spec):Option (Int×Int):=match gp s with
 |some e=>some e
 |none=>if 0<=x.pre/\x.pre<=40/\0<=x.fe/\x.fe<=40 then eV s.pods none 0 x.b9 else some (3,-1)
structure M4(T:cK):Prop where
 Rz:Std T 282 f282
 JJ:T.flat 282=true
 Hh:Std T 287 f287
 RH:Std T 91 f91
theorem ID(RH:Std T 91 f91)(p:dm)(w:Want):ba T 91 [.agg (aK p),.gX (cj w) 0] (.bool (decide (p.id=w.eP))):=by
 refine gives RH rfl ?_;simp only[f91,rL',aa,simprocAttr,aK,cj]
theorem xU(S:M4 T)(pods:List dm)(w:Want)(h:pods.length<=2^30):ba T 282 [.slice (pods.map aK),.func 91 [] [.gX (cj w) 0]] (.bool (decide (eS w.eP pods≠none))):=by
 refine gives S.Rz rfl ?_;have k:ba T 287 [.slice (pods.map aK),.func 91 [] [.gX (cj w) 0]] (.int .i64 (bw w.eP 0 pods)):=by
  rw[<-lb];exact AE _ S.Hh (pods.map aK) (by simpa using h) (fun e he=>by
   obtain⟨p,_,rfl⟩:=cw.1 he;rfl) (fun e he=>by
   obtain⟨p,_,rfl⟩:=cw.1 he;exact ID S.RH p w)
 rcases bZ w.eP pods 0 with⟨h1,h2⟩|⟨j,p,h1,h2,h3,h4⟩
 ·rw[h2]at k;simp only[f282,rL',aa,simprocAttr,k.call,h1]
 ·rw[h3]at k;have hj:(0:Int)<=((0+j:Nat):Int):=by omega
  have C9:(0:Int)<=(j:Int):=by omega
  simp only[f282,rL',aa,simprocAttr,k.call,h2,hj,C9,reduceCtorEq]
set_option maxRecDepth 100000 in
set_option maxHeartbeats 4000000 in
theorem IE(RG:Std T 90 f90)(S:M4 T)(s:bc)(hp:s.pods.length<=2^30)(l:List Want)(i:Nat)(w:Want)(prev:Option Want)(hi:i<2^30)(hg:l[i]? =some w)(Pc:(i=0/\prev=none)\/∃j v,i=j+1/\prev=some v/\l[j]? =some v) :
    ba T 90 [aF s,.slice (l.map cj),.int .i64 (i:Int)] (jH (ep s.pods prev w)):=by
 refine gives RG rfl ?_;have k:=xU S s.pods w hp;have kf:=k.sF S.JJ rfl;simp only[cj]at kf;have rest:∀(Q:Int->Prop),(eS w.eP s.pods=none->Q 4)->(eS w.eP s.pods≠none->w.stay=false->w.jU≠cE->Q 1)->(eS w.eP s.pods≠none->w.stay=false->w.jU=cE->Q 0)->(eS w.eP s.pods≠none->w.stay=true->Q 0)->Q (ga s.pods w):=by
  intro Q q4 q1 q0 Vc;unfold ga;by_cases h1:eS w.eP s.pods=none
  ·rw[aW h1];exact q4 h1
  ·rw[ar h1];cases h2:w.stay
   ·by_cases h3:w.jU=cE
    ·rw[ar (by simp[h3])];exact q0 h1 h2 h3
    ·rw[aW ⟨rfl,h3⟩];exact q1 h1 h2 h3
   ·rw[ar (by simp)];exact Vc h1 h2
 rcases Pc with⟨rfl,rfl⟩|⟨j,v,rfl,rfl,hv⟩
 ·have z0:((0:Nat):Int)=0:=rfl;simp only[ep];refine rest (fun c=>Wp T false f90.body ⟨fA 0 (dL [aF s,.slice (l.map cj),.int .i64 ((0:Nat):Int)]),[],0⟩ (kR f90.res (jH c))) (fun h1=>?_) (fun h1 h2 h3=>?_) (fun h1 h2 h3=>?_) (fun h1 h2=>?_)
  all_goals
   simp only[f90,rL',aa,simprocAttr,aF,hg,cj,z0];refine(cy rfl).2 ?_;simp only[rL',aa,simprocAttr];refine(cy rfl).2 ?_;simp only[rL',aa,simprocAttr,mkFun,mZ];rw[kf _ _ _ _ _ (eq_true (by simp only[rL',aa,simprocAttr])) (eq_true (by simp only[rL',aa,simprocAttr]))]
  ·simp only[rL',aa,simprocAttr,h1,jl]
  ·have hv:=pL w.jU cE;rw[TZ h3]at hv;simp only[cE]at hv;simp only[rL',aa,simprocAttr,h1,h2,hv,gY]
  ·have hv:=pL w.jU cE;rw[bJ h3]at hv;simp only[cE]at hv;simp only[rL',aa,simprocAttr,h1,h2,hv,gM]
  ·simp only[rL',aa,simprocAttr,h1,h2,gM]
 ·have w1:IntKind.i64.wrap (((j+1:Nat):Int)-1)=(j:Int):=by rw[dS] <;>omega
  have p0:(0:Int)<((j+1:Nat):Int):=by omega
  simp only[ep];by_cases h5:w.eP=v.eP
  ·have d5:=bJ h5;rw[aW h5];simp only[f90,rL',aa,simprocAttr,aF,hg,cj];refine(cy rfl).2 ?_;simp only[rL',aa,simprocAttr,hv,cj,w1,p0,d5,Lk]
  ·rw[ar h5];by_cases h6:w.eP<v.eP
   ·rw[aW h6];simp only[f90,rL',aa,simprocAttr,aF,hg,cj];refine(cy rfl).2 ?_;simp only[rL',aa,simprocAttr,hv,cj,w1,p0,h5];refine(cy rfl).2 ?_;simp only[rL',aa,simprocAttr,hv,cj,w1,p0,h6,gY]
   ·rw[ar h6];refine rest (fun c=>Wp T false f90.body ⟨fA 0 (dL [aF s,.slice (l.map cj),.int .i64 ((j+1:Nat):Int)]),[],0⟩ (kR f90.res (jH c))) (fun h1=>?_) (fun h1 h2 h3=>?_) (fun h1 h2 h3=>?_) (fun h1 h2=>?_)
    all_goals
     simp only[f90,rL',aa,simprocAttr,aF,hg,cj];refine(cy rfl).2 ?_;simp only[rL',aa,simprocAttr,hv,cj,w1,p0,h5];refine(cy rfl).2 ?_;simp only[rL',aa,simprocAttr,hv,cj,w1,p0,h6,mkFun,mZ];rw[kf _ _ _ _ _ (eq_true (by simp only[rL',aa,simprocAttr])) (eq_true (by simp only[rL',aa,simprocAttr]))]
    ·simp only[rL',aa,simprocAttr,h1,jl]
    ·have hv:=pL w.jU cE;rw[TZ h3]at hv;simp only[cE]at hv;simp only[rL',aa,simprocAttr,h1,h2,hv,gY]
    ·have hv:=pL w.jU cE;rw[bJ h3]at hv;simp only[cE]at hv;simp only[rL',aa,simprocAttr,h1,h2,hv,gM]
    ·simp only[rL',aa,simprocAttr,h1,h2,gM]
end
end
section
structure D3(T:cK):Prop where
 b:zH T
 Ub:Std T 80 f80
 RG:Std T 90 f90
 c:M4 T
theorem FX(pods:List dm)(p:Option Want)(w:Want):ep pods p w=0\/1<=ep pods p w/\ep pods p w<=17:=by
 have hr:ga pods w=0\/1<=ga pods w/\ga pods w<=17:=by
  unfold ga;split
  ·omega
  ·split <;>omega
 unfold ep;split
 ·split
  ·omega
  ·split
   ·omega
   ·exact hr
 ·exact hr
theorem nP(pods:List dm):∀(l:List Want) (p:Option Want) (i:Int) c a,eV pods p i l=some (c,a)->i<=a/\1<=c/\c<=17
 |[],p,i,c,a,h=>by simp[eV]at h
 |w::r,p,i,c,a,h=>by
  simp only[eV]at h;split at h
  ·rename_i h0;simp only[ai,aZ]at h;have:=FX pods p w;omega
  ·have:=nP pods r _ _ c a h;omega
theorem GZ(s:bc)(x:Spec):L8 (gN s x):=by
 intro c a h;unfold gN at h;cases hc:gp s with
 |some e =>
  rw[hc]at h;simp only[ai]at h;subst h;exact wI s c a hc
 |none =>
  rw[hc]at h;simp only at h;split at h
  ·have:=nP _ _ _ _ _ _ h;omega
  ·simp only[ai,aZ]at h;omega
section
variable{T:cK}
theorem EJ(S:D3 T)(s:bc)(x:Spec)(hp:s.pods.length<=2^30)(hx:x.b9.length<=2^29)(Q:Exit->St->Prop)(o:Option (Int×Int))
    (bS:o=none->∀fr hp nx,Q (.exit 0) ⟨fr,hp,nx⟩)
    (dK:∀fr hp nx,wo [.t 4] ⟨fr,hp,nx⟩=some (mG o)->Q .ret ⟨fr,hp,nx⟩) :
    ∀(rest:List Want) (i:Nat) (prev:Option Want),x.b9.drop i=rest->i<=x.b9.length->((i=0/\prev=none)\/∃j v,i=j+1/\prev=some v/\x.b9[j]? =some v)->eV s.pods prev i rest=o->∀(fr:List (Nat×AV)) (hp:Hl) (nx:Nat),2<=nx->look fr 2=.ptr 0 0 0->look fr 3=.ptr 1 0 0 ->
     ah hp 0=.var [.pv (.slice (s.nodes.map bC)),.pv (.slice (s.aT.map bO)),.pv (.slice (s.pods.map aK))]->ah hp 1=.var [.pv (.slice (x.b9.map cj)),.pv (.int .i64 x.pre),.pv (.int .i64 x.fe)] ->
     look fr 34=.pv (.int .i64 x.b9.length)->look fr 35=.pv (.int .i64 i)->Wp T false (.loop Dt) ⟨fr,hp,nx⟩ Q:=by
 intro rest;induction rest with
 |nil =>
  intro i prev hd hi DI ho fr hp nx ie g2 g3 b0 b1 OG Qb;have hlen:=drop_nil hd hi;rw[az,aY Dt.eq_1];simp only[rL',aa,simprocAttr,OG,Qb,hlen,aP];exact bS ho.symm _ _ _
 |cons w r ih =>
  intro i prev hd hi DI ho fr hp nx ie g2 g3 b0 b1 OG Qb;obtain⟨aN,hlt,hw,dh,cW,Bp⟩:=drop_cons hd (by omega);have n0:¬nx=0:=by omega
  have n1:¬nx=1:=by omega
  have k:=IE S.RG S.c s (by assumption) x.b9 i w prev Bp aN DI;simp only[aF]at k;simp only[eV]at ho;rw[az,aY Dt.eq_1];by_cases hc:ep s.pods prev w=0
  ·rw[ar (by simpa using hc)]at ho;rw[hc,gM]at k;simp only[rL',aa,simprocAttr,g2,g3,b0,b1,OG,Qb,hlt,n0,n1,k.call,tp S.b.hA,hw];refine ih (i+1) (some w) dh cW (.inr ⟨i,w,rfl,rfl,aN⟩) (by rw[<-ho];rfl) _ _ _ (by omega) ?_ ?_ ?_ ?_ ?_ ?_
   all_goals try simp only[aj,Nat.reduceEqDiff,g2,g3,n0,n1,b0,b1,OG]
  ·rw[aW hc]at ho;have wb:jH (ep s.pods prev w)=.iface 0 (.int .i64 (ep s.pods prev w)):=ar hc;rw[wb]at k;have Ur:¬(i:Int)<0:=by omega
   simp only[rL',aa,simprocAttr,g2,g3,b0,b1,OG,Qb,hlt,n0,n1,k.call];refine(o8 S.b.hA (o:=0) ?_).2 ?_
   ·simp only[rL',aa,simprocAttr]
   ·simp only[rL',aa,simprocAttr];refine dK _ _ _ ?_;simp only[rL',aa,simprocAttr,<-ho,mG,Ur,ix]
theorem GY(S:D3 T)(s:bc)(x:Spec)(hx:x.b9.length<=2^29):ba T 80 [aF s,bg x] (mG (gN s x)):=by
 refine gives S.Ub rfl ?_;have k:=Ey S.b s;simp only[aF]at k;unfold gN;cases hc:gp s with
 |some e =>
  obtain⟨c,a⟩:=e;rw[hc]at k;simp only[mG]at k⊢;by_cases ha:a<0
  ·rw[aW ha]at k⊢;simp only[ct]at k;simp only[f80,rL',aa,simprocAttr,aF,bg,k.call,ct]
  ·rw[ar ha]at k⊢;simp only[ix]at k;simp only[f80,rL',aa,simprocAttr,aF,bg,k.call,ix]
 |none =>
  have hs:s.pods.length<=2^30:=by
   unfold gp at hc;split at hc
   ·rename_i hz;simp only[kI,bj,bI]at hz;omega
   ·simp at hc
  rw[hc]at k;simp only[mG]at k;simp only;by_cases c1:x.pre<0
  ·rw[ar (by omega)];simp only[f80,rL',aa,simprocAttr,aF,bg,k.call,c1,mG,ct]
  ·by_cases c2:40<x.pre
   ·rw[ar (by omega)];simp only[f80,rL',aa,simprocAttr,aF,bg,k.call,c1,c2,mG,ct]
   ·by_cases c3:x.fe<0
    ·rw[ar (by omega)];simp only[f80,rL',aa,simprocAttr,aF,bg,k.call,c1,c2,c3,mG,ct]
    ·by_cases c4:40<x.fe
     ·rw[ar (by omega)];simp only[f80,rL',aa,simprocAttr,aF,bg,k.call,c1,c2,c3,c4,mG,ct]
     ·rw[aW (by omega)];simp only[f80,rL',aa,simprocAttr,aF,bg,k.call,c1,c2,c3,c4];refine EJ S s x hs hx _ (eV s.pods none 0 x.b9) (fun ho fr hp nx=>?_) (fun fr hp nx hr=>?_) x.b9 0 none rfl (aO _) (.inl ⟨rfl,rfl⟩) rfl _ _ _ (ax _) rfl rfl rfl rfl rfl rfl
      ·simp only[rL',aa,simprocAttr,ho,mG]
      ·simp only[tV,vw,kR,hr]
end
end
section
/-! ### SM -/
def fh(m:Move):Bool:=if m.kind=2 then decide (m.node=0)&&decide (m.over=0)else if m.kind=1\/m.kind=3 then decide (m.over=0)else decide (m.kind=4)
theorem JL{T:cK}(Mn:Std T 243 f243)(m:Move):ba T 243 [dG m] (.bool (fh m)):=by
 refine gives Mn rfl ?_;unfold fh;by_cases k2:m.kind=2
 ·by_cases n0:m.node=0 <;>by_cases o0:m.over=0 <;>simp only[f243,rM',aa,simprocAttr,dG,bK,k2,n0,o0,bB,dU,cA]
 ·by_cases k1:m.kind=1
  ·by_cases o0:m.over=0 <;>simp only[f243,rM',aa,simprocAttr,dG,bK,k1,o0,true_or]
  ·by_cases k3:m.kind=3
   ·by_cases o0:m.over=0 <;>simp only[f243,rM',aa,simprocAttr,dG,bK,k3,o0,or_true]
   ·by_cases k4:m.kind=4 <;>simp only[f243,rM',aa,simprocAttr,dG,bK,k1,k2,k3,k4,or_false]
def eJ(x:Spec)(p:dm)(node:Int):dm:=match jV p.id x.b9 with
 |some w=>if w.stay=true then{p with node:=node,jU:=w.jU}else{p with node:=node}
 |none=>{p with node:=node}
theorem JA{T:cK}(Ar:pS T 242 f242)(Mr:Std T 83 f83)(x:Spec)(hx:x.b9.length<=2^30)(pods:List dm)(i id:Nat)(p:dm)(hi:pods[i]? =some p)(node:Int)(hp:Hl)(nx:Nat)(dT:id<nx)(hb:ah hp id=.row 8 (pods.map aK)) :
    ∃v hp' cC,D T 242 [.pv (bg x),.ptr id i 0,.pv (.int .i64 node)] hp nx=some (v,hp',cC)/\nx<=cC/\ah hp' id=.row 8 ((pods.set i (eJ x p node)).map aK)/\∀j,j<nx->j≠id->ah hp' j=ah hp j:=by
 refine xB Ar rfl ?_;have k:=L3 Mr x p.id hx;have e1:¬id=nx:=by omega
 have e2:¬nx=id:=by omega
 have Ph:(pods.map aK)[i]? =some (aK p):=by rw[fm,hi];rfl
 simp only[f242,rM',aa,simprocAttr,bg,hb,e2,hi,aK];refine tl.2 ?_;have g1:∀v:List PV,((pods.map aK).set i v)[i]? =some v:=fun v=>by
  have:i<(pods.map aK).length:=(aA.1 Ph).1;rw[kL this]
 have g2:∀u v:List PV,(((pods.map aK).set i u).set i v)=(pods.map aK).set i v:=fun u v=>List.set_set ..
 have g3:∀q:dm,(pods.map aK).set i (aK q)=(pods.set i q).map aK:=fun q=>(List.map_set).symm;have e3:¬nx+1=id:=by omega
 have e4:¬id=nx+1:=by omega
 cases hw:jV p.id x.b9 with
 |none =>
  rw[hw]at k;simp only[rM',aa,simprocAttr,bg,hb,e1,e2,e3,e4,hi,aK,g1,k.iM,xx,cj,vK];refine⟨?_,?_⟩
  ·simp only[eC,kV,il,j0,mem,iG,En.reads,fq,im,gV,kU,mI,AO.tmps,fB,keys,kF,iJ,cu,cz,cF,aE,aI,bG,rM',aa,simprocAttr,e1,e2,e3,e4,bB,bq];rfl
  ·simp only[ks,jK,rM',aa,simprocAttr,aD,e1,e2,e3,e4];refine⟨by omega,?_,fun j hj eA=>?_⟩
   ·rw[<-g3];simp only[eJ,hw,aK]
   ·have:¬nx+1=j:=by omega
    have:¬nx=j:=by omega
    have:¬id=j:=fun h=>eA h.symm;simp only[aD, *,aJ]
 |some w =>
  rw[hw]at k;cases iX:w.stay
  ·simp only[rM',aa,simprocAttr,bg,hb,e1,e2,e3,e4,hi,aK,g1,k.iM,xx,cj,iX];refine⟨?_,?_⟩
   ·simp only[eC,kV,il,j0,mem,iG,En.reads,fq,im,gV,kU,mI,AO.tmps,fB,keys,kF,iJ,cu,cz,cF,aE,aI,bG,rM',aa,simprocAttr,e1,e2,e3,e4,bB,bq];rfl
   ·simp only[ks,jK,rM',aa,simprocAttr,aD,e1,e2,e3,e4];refine⟨by omega,?_,fun j hj eA=>?_⟩
    ·rw[<-g3];simp only[eJ,hw,aK,iX,bA,aJ]
    ·have:¬nx+1=j:=by omega
     have:¬nx=j:=by omega
     have:¬id=j:=fun h=>eA h.symm;simp only[aD, *,aJ]
  ·simp only[rM',aa,simprocAttr,bg,hb,e1,e2,e3,e4,hi,aK,g1,k.iM,xx,cj,iX];refine⟨?_,?_⟩
   ·simp only[eC,kV,il,j0,mem,iG,En.reads,fq,im,gV,kU,mI,AO.tmps,fB,keys,kF,iJ,cu,cz,cF,aE,aI,bG,rM',aa,simprocAttr,e1,e2,e3,e4,bB,bq];rfl
   ·simp only[ks,jK,rM',aa,simprocAttr,aD,e1,e2,e3,e4];refine⟨by omega,?_,fun j hj eA=>?_⟩
    ·rw[<-g3,g2];simp only[eJ,hw,aK,iX,bz]
    ·have:¬nx+1=j:=by omega
     have:¬nx=j:=by omega
     have:¬id=j:=fun h=>eA h.symm;simp only[aD, *,aJ]
theorem IM.oe{T:cK}{n sz:Nat}(S:IM T n sz){es:List (List PV)}(h:cn sz es=true)(hl:es.length<=2^30)(eA:es≠[])(d:Option Nat)(l:List aV)(st:St)(K:St->Prop) :
    iN T n [.pv (.slice es)] d l st K↔tP T l ⟨dt st d (.ms st.nx),(st.nx,.row sz es)::st.hp,st.nx+1⟩ K:=by
 rw[S.call h hl];cases es with
 |nil=>exact absurd rfl eA
 |cons e r=>exact pz
theorem rK{T:cK}(Ar:pS T 242 f242)(Mr:Std T 83 f83)(x:Spec)(hx:x.b9.length<=2^30)(pods:List dm)(i id:Nat)(p:dm)(hi:pods[i]? =some p)(node:Int){d:Option Nat}{l:List aV}{st:St}{K:St->Prop}
    (dT:id<st.nx) (hb:ah st.hp id=.row 8 (pods.map aK))
    (h:∀v hp' cC,st.nx<=cC->ah hp' id=.row 8 ((pods.set i (eJ x p node)).map aK)->(∀j,j<st.nx->j≠id->ah hp' j=ah st.hp j)->tP T l ⟨dt st d v,hp',cC⟩ K) :
    iN T 242 [.pv (bg x),.ptr id i 0,.pv (.int .i64 node)] d l st K:=by
 obtain⟨v,hp',cC,hD,h1,h2,h3⟩:=JA Ar Mr x hx pods i id p hi node st.hp st.nx dT hb;exact(dr Ar.raw hD).2 (h v hp' cC h1 h2 h3)
def bP(s:bc)(x:Spec)(t:State)(m:Move):Int ⊕ State :=
 if fh m=false then .inl 1 else
 if bw m.eP 0 t.pods<0 then .inl 4 else
 if m.kind≠2/\dv m.node s.nodes=none then .inl 4 else
 if m.kind=4/\bw m.over 0 t.pods<0 then .inl 4 else
 match t.pods[(bw m.eP 0 t.pods).toNat]? with
 |none=>.inl 0
 |some p =>
  if m.kind=2 then(if p.node=0 then .inl 7 else .inr ⟨t.pods.set (bw m.eP 0 t.pods).toNat {p with node:=0},t.pre,t.fe⟩)
  else if m.kind=3 then(if p.node=0 then .inl 7 else if p.node=m.node then .inl 7 else .inr ⟨t.pods.set (bw m.eP 0 t.pods).toNat (eJ x p m.node),t.pre,IntKind.i64.wrap (t.fe+1)⟩)
  else if m.kind=4 then
   match t.pods[(bw m.over 0 t.pods).toNat]? with
   |none=>.inl 0
   |some q=>if(bw m.eP 0 t.pods).toNat=(bw m.over 0 t.pods).toNat then .inl 7 else if q.node≠m.node then .inl 7 else if p.node≠0 then .inl 7
    else .inr ⟨(t.pods.set (bw m.over 0 t.pods).toNat {q with node:=0}).set (bw m.eP 0 t.pods).toNat (eJ x p m.node),IntKind.i64.wrap (t.pre+1),t.fe⟩
  else if p.node≠0 then .inl 7 else .inr ⟨t.pods.set (bw m.eP 0 t.pods).toNat (eJ x p m.node),t.pre,t.fe⟩
def gj:Int ⊕ State->PV
 | .inl c=>.tuple [aw ⟨[],0,0⟩,ct c]
 | .inr u=>.tuple [aw u,.dI]
structure NR(T:cK):Prop where
 s5:Gg T
 K5:Std T 82 f82
 Mr:Std T 83 f83
 Ru:Std T 239 f239
 Ar:pS T 242 f242
 Mn:Std T 243 f243
 rW:IM T 279 8
set_option maxRecDepth 100000 in
set_option maxHeartbeats 4000000 in
theorem Kv{T:cK}(S:NR T)(s:bc)(x:Spec)(t:State)(m:Move)(hs:s.nodes.length<=2^30)(hx:x.b9.length<=2^30)(ht:t.pods.length<=2^30) :
    ba T 239 [aF s,bg x,aw t,dG m] (gj (bP s x t m)):=by
 refine gives S.Ru rfl ?_;have kp:=si S.s5 t m.eP ht;have ko:=si S.s5 t m.over ht;have kn:=tA S.K5 s m.node hs;have kf:=JL S.Mn m;simp only[aw]at kp ko;simp only[aF]at kn;simp only[dG,bK]at kf;simp only[f239,rM',aa,simprocAttr,aF,bg,aw,dG,bK];refine(ef rfl).2 ?_;obtain⟨N,hN⟩:∃N:Node,jZ (dv m.node s.nodes)=.tuple [.agg (bC N),.bool (dv m.node s.nodes).isSome]:=by
  cases dv m.node s.nodes with
  |none=>exact⟨mN,rfl⟩
  |some n=>exact⟨n,rfl⟩
 rw[hN]at kn;simp only[bC]at kn;cases DG:fh m
 ·have hm:bP s x t m=.inl 1:=by unfold bP;rw[aW DG]
  rw[DG]at kf;simp only[rM',aa,simprocAttr,kp.cm,ko.cm,kn.call,kf.call,hm,gj,ct,aw,aC]
 ·rw[DG]at kf;have DH:¬(fh m=false):=by rw[DG];simp
  by_cases hi:bw m.eP 0 t.pods<0
  ·have hm:bP s x t m=.inl 4:=by unfold bP;rw[ar DH,aW hi]
   simp only[rM',aa,simprocAttr,kp.cm,ko.cm,kn.call,kf.call,hm,gj,ct,aw,aC,hi]
  ·obtain⟨j,p,aN,hP,hj⟩:∃(j:Nat) (p:dm),t.pods[j]? =some p/\bw m.eP 0 t.pods=(j:Int)/\j<t.pods.length:=by
    rcases bZ m.eP t.pods 0 with⟨_,h⟩|⟨j,p,h1,_,h3,h4⟩
    ·omega
    ·exact⟨j,p,h1,by rw[h3,aM],h4⟩
   have eA:t.pods.map aK≠[]:=by
    intro h;rw[List.map_eq_nil_iff]at h;rw[h]at hj;simp at hj
   have lP:¬((j:Int)<0):=by omega
   have Ph:(t.pods.map aK)[j]? =some (aK p):=by rw[fm,aN];rfl
   have hlen:(t.pods.map aK).length<=2^30:=by rw[al];exact ht
   have pk:j<t.pods.length:=hj;have g3:∀(i:Nat) (q:dm),(t.pods.map aK).set i (aK q)=(t.pods.set i q).map aK:=fun i q=>(List.map_set).symm;by_cases k2:m.kind=2
   ·by_cases c1:p.node=0
    ·have hm:bP s x t m=.inl 7:=by
      unfold bP;rw[ar DH,ar hi,ar (by simp[k2]),ar (by simp[k2]),hP];simp only[bY,aN,k2,bz,c1]
     simp only[rM',aa,simprocAttr,kp.cm,ko.cm,kn.call,kf.call,hP,lP,k2,aN,aK];rw[S.rW.oe (cT _) hlen eA];simp only[rM',aa,simprocAttr,aN,aK,hm,gj,ct,aw,aC,pk,k2,c1]
    ·have hm:bP s x t m=.inr ⟨t.pods.set j {p with node:=0},t.pre,t.fe⟩:=by
      unfold bP;rw[ar DH,ar hi,ar (by simp[k2]),ar (by simp[k2]),hP];simp only[bY,aN,k2,bz,c1,aJ]
     have e1:=g3 j {p with node:=0};simp only[aK]at e1;simp only[rM',aa,simprocAttr,kp.cm,ko.cm,kn.call,kf.call,hP,lP,k2,aN,aK];rw[S.rW.oe (cT _) hlen eA];simp only[rM',aa,simprocAttr,aN,aK,hm,gj,ct,aw,pk,k2,c1];rw[e1]
   ·cases qW:dv m.node s.nodes with
    |none =>
     have hm:bP s x t m=.inl 4:=by
      unfold bP;rw[ar DH,ar hi,aW ⟨k2,qW⟩]
     rw[qW]at kn;simp only[Option.isSome_none]at kn;simp only[rM',aa,simprocAttr,kp.cm,ko.cm,kn.call,kf.call,hP,lP,k2,hm,gj,ct,aw,aC]
    |some nn =>
     rw[qW]at kn;simp only[Option.isSome_some]at kn;have J5:¬(m.kind≠2/\dv m.node s.nodes=none):=by rw[qW];simp
     by_cases k4:m.kind=4
     ·by_cases P8:bw m.over 0 t.pods<0
      ·have hm:bP s x t m=.inl 4:=by
        unfold bP;rw[ar DH,ar hi,ar J5,aW ⟨k4,P8⟩]
       simp only[rM',aa,simprocAttr,kp.cm,ko.cm,kn.call,kf.call,hP,lP,k4,P8,hm,gj,ct,aw,aC]
      ·obtain⟨k,q,zC,hK,hk⟩:∃(k:Nat) (q:dm),t.pods[k]? =some q/\bw m.over 0 t.pods=(k:Int)/\k<t.pods.length:=by
        rcases bZ m.over t.pods 0 with⟨_,h⟩|⟨k,q,h1,_,h3,h4⟩
        ·omega
        ·exact⟨k,q,h1,by rw[h3,aM],h4⟩
       have K8:¬((k:Int)<0):=by omega
       have Ka:¬(m.kind=4/\bw m.over 0 t.pods<0):=fun h=>P8 h.2;by_cases c0:j=k
       ·have hm:bP s x t m=.inl 7:=by
         unfold bP;rw[ar DH,ar hi,ar J5,ar Ka,hP,hK];subst c0;simp[aN,k4]
        simp only[rM',aa,simprocAttr,kp.cm,ko.cm,kn.call,kf.call,hP,hK,lP,K8,k4,aN,aK];rw[S.rW.oe (cT _) hlen eA];simp only[rM',aa,simprocAttr,aN,aK,pk,k4];refine(ef rfl).2 ?_;simp only[rM',aa,simprocAttr,aN,aK,hm,gj,ct,aw,aC,pk,k4,c0]
       ·by_cases c1:q.node=m.node
        ·by_cases c2:p.node=0
         ·have hm:bP s x t m=.inr ⟨(t.pods.set k {q with node:=0}).set j (eJ x p m.node),IntKind.i64.wrap (t.pre+1),t.fe⟩:=by
           unfold bP;rw[ar DH,ar hi,ar J5,ar Ka,hP,hK];simp[aN,zC,k4,c0,c1,c2]
          have e1:=g3 k {q with node:=0};simp only[aK]at e1;have OT:(t.pods.set k {q with node:=0})[j]? =some p:=by rw[List.getElem?_set_ne (fun h=>c0 h.symm)];exact aN
          simp only[rM',aa,simprocAttr,kp.cm,ko.cm,kn.call,kf.call,hP,hK,lP,K8,k4,aN,aK];rw[S.rW.oe (cT _) hlen eA];simp only[rM',aa,simprocAttr,aN,aK,pk,k4];refine(ef rfl).2 ?_;simp only[rM',aa,simprocAttr,aN,zC,aK,pk,hk,k4,c0,c1,c2,e1];refine rK S.Ar S.Mr x hx (t.pods.set k {q with node:=0}) j _ p OT m.node ?_ ?_ (fun v hp' cC q1 q2 q3=>?_)
          ·show 6<7
           decide
          ·rfl
          ·have d2:=q3 2 (show 2<7 by decide) (by decide);have d4:=q3 4 (show 4<7 by decide) (by decide);simp only[aD,Nat.reduceEqDiff,bz,aJ]at d2 d4;simp only[rM',aa,simprocAttr,q2,d2,d4,hm,gj,aw]
         ·have hm:bP s x t m=.inl 7:=by
           unfold bP;rw[ar DH,ar hi,ar J5,ar Ka,hP,hK];simp[aN,zC,k4,c0,c1,c2]
          simp only[rM',aa,simprocAttr,kp.cm,ko.cm,kn.call,kf.call,hP,hK,lP,K8,k4,aN,aK];rw[S.rW.oe (cT _) hlen eA];simp only[rM',aa,simprocAttr,aN,aK,pk,k4];refine(ef rfl).2 ?_;simp only[rM',aa,simprocAttr,aN,zC,aK,hm,gj,ct,aw,aC,pk,hk,k4,c0,c1,c2]
        ·have hm:bP s x t m=.inl 7:=by
          unfold bP;rw[ar DH,ar hi,ar J5,ar Ka,hP,hK];simp[aN,zC,k4,c0,c1]
         simp only[rM',aa,simprocAttr,kp.cm,ko.cm,kn.call,kf.call,hP,hK,lP,K8,k4,aN,aK];rw[S.rW.oe (cT _) hlen eA];simp only[rM',aa,simprocAttr,aN,aK,pk,k4];refine(ef rfl).2 ?_;simp only[rM',aa,simprocAttr,aN,zC,aK,hm,gj,ct,aw,aC,pk,hk,k4,c0,c1]
     ·by_cases k3:m.kind=3
      ·by_cases c1:p.node=0
       ·have hm:bP s x t m=.inl 7:=by
         unfold bP;rw[ar DH,ar hi,ar J5,ar (by simp[k4]),hP];simp[aN,k3,c1]
        simp only[rM',aa,simprocAttr,kp.cm,ko.cm,kn.call,kf.call,hP,lP,k3,aN,aK];rw[S.rW.oe (cT _) hlen eA];simp only[rM',aa,simprocAttr,aN,aK,hm,gj,ct,aw,aC,pk,k3,c1]
       ·by_cases c2:p.node=m.node
        ·have hm:bP s x t m=.inl 7:=by
          unfold bP;rw[ar DH,ar hi,ar J5,ar (by simp[k4]),hP];simp[aN,k3,c2]
         rw[c2]at c1;simp only[rM',aa,simprocAttr,kp.cm,ko.cm,kn.call,kf.call,hP,lP,k3,aN,aK];rw[S.rW.oe (cT _) hlen eA];simp only[rM',aa,simprocAttr,aN,aK,hm,gj,ct,aw,aC,pk,k3,c1,c2]
        ·have hm:bP s x t m=.inr ⟨t.pods.set j (eJ x p m.node),t.pre,IntKind.i64.wrap (t.fe+1)⟩:=by
          unfold bP;rw[ar DH,ar hi,ar J5,ar (by simp[k4]),hP];simp[aN,k3,c1,c2]
         simp only[rM',aa,simprocAttr,kp.cm,ko.cm,kn.call,kf.call,hP,lP,k3,aN,aK];rw[S.rW.oe (cT _) hlen eA];simp only[rM',aa,simprocAttr,aN,aK,pk,k3,c1,c2];refine rK S.Ar S.Mr x hx t.pods j _ p aN m.node ?_ ?_ (fun v hp' cC q1 q2 q3=>?_)
         ·show 6<7
          decide
         ·rfl
         ·have d2:=q3 2 (show 2<7 by decide) (by decide);have d4:=q3 4 (show 4<7 by decide) (by decide);simp only[aD,Nat.reduceEqDiff,bz,aJ]at d2 d4;simp only[rM',aa,simprocAttr,q2,d2,d4,hm,gj,aw]
      ·by_cases c1:p.node=0
       ·have hm:bP s x t m=.inr ⟨t.pods.set j (eJ x p m.node),t.pre,t.fe⟩:=by
         unfold bP;rw[ar DH,ar hi,ar J5,ar (by simp[k4]),hP];simp[aN,k2,k3,k4,c1]
        simp only[rM',aa,simprocAttr,kp.cm,ko.cm,kn.call,kf.call,hP,lP,k2,k3,k4,aN,aK];rw[S.rW.oe (cT _) hlen eA];simp only[rM',aa,simprocAttr,aN,aK,pk,k2,k3,k4,c1];refine rK S.Ar S.Mr x hx t.pods j _ p aN m.node ?_ ?_ (fun v hp' cC q1 q2 q3=>?_)
        ·show 6<7
         decide
        ·rfl
        ·have d2:=q3 2 (show 2<7 by decide) (by decide);have d4:=q3 4 (show 4<7 by decide) (by decide);simp only[aD,Nat.reduceEqDiff,bz,aJ]at d2 d4;simp only[rM',aa,simprocAttr,q2,d2,d4,hm,gj,aw]
       ·have hm:bP s x t m=.inl 7:=by
         unfold bP;rw[ar DH,ar hi,ar J5,ar (by simp[k4]),hP];simp[aN,k2,k3,k4,c1]
        simp only[rM',aa,simprocAttr,kp.cm,ko.cm,kn.call,kf.call,hP,lP,k2,k3,k4,aN,aK];rw[S.rW.oe (cT _) hlen eA];simp only[rM',aa,simprocAttr,aN,aK,hm,gj,ct,aw,aC,pk,k2,k3,k4,c1]
end
def HT(k:Nat)(l l':List dm):Prop:=∀s load z,fN s load z l'<=fN s load z l+k/\fN s load z l<=fN s load z l'+k
theorem mM:∀(l:List dm) (i:Nat) (q:dm),HT 1 l (l.set i q)
 |[],i,q=>fun s load z=>by simp
 |a::r,0,q=>fun s load z=>by
  simp only[List.set_cons_zero,fN];split <;>split <;>omega
 |a::r,i+1,q=>fun s load z=>by
  have:=mM r i q s load z;simp only[List.set_cons_succ,fN];omega
theorem Fk(l:List dm)(i j:Nat)(p q:dm):HT 2 l ((l.set i p).set j q):=fun s load z=>by
 have h1:=mM l i p s load z;have h2:=mM (l.set i p) j q s load z;omega
theorem qi(s:bc)(x:Spec)(t u:State)(m:Move)(h:bP s x t m=.inr u):HT (if m.kind=4 then 2 else 1) t.pods u.pods/\u.pods.length=t.pods.length:=by
 unfold bP at h;split at h
 ·simp at h
 ·split at h
  ·simp at h
  ·split at h
   ·simp at h
   ·split at h
    ·simp at h
    ·split at h
     ·simp at h
     ·rename_i p hp;by_cases k2:m.kind=2
      ·rw[aW k2]at h;split at h
       ·simp at h
       ·simp only[eX]at h;subst h;have k4:¬m.kind=4:=by omega
        rw[ar k4];exact⟨mM _ _ _,by simp⟩
      ·rw[ar k2]at h;split at h
       ·rename_i k3;have k4:¬m.kind=4:=by omega
        rw[ar k4];split at h
        ·simp at h
        ·split at h
         ·simp at h
         ·simp only[eX]at h;subst h;exact⟨mM _ _ _,by simp⟩
       ·split at h
        ·rename_i k4;rw[aW k4];split at h
         ·simp at h
         ·split at h
          ·simp at h
          ·split at h
           ·simp at h
           ·split at h
            ·simp at h
            ·simp only[eX]at h;subst h;exact⟨Fk _ _ _ _ _,by simp⟩
        ·rename_i k4;rw[ar k4];split at h
         ·simp at h
         ·simp only[eX]at h;subst h;exact⟨mM _ _ _,by simp⟩
def f166:bf:=⟨188,[.cell 8 true 3,.t 9],
(.seq (.ops [
df 4 0 [],
df 5 1 [],
df 6 2 [],
df 7 3 [],
aR 8 (.alloc [.bu,.pv (.int .i64 0),.pv (.int .i64 0)]) [],
cR 9 0 []])
(.seq (.seq (.ops [
bQ 16 0 7 [],
bR 17 1 16 [0],
cM 18 .lss 17 1 [1],
aq 19 18 [2],
ew 20 19 false 0 7 [3],
ec 21 19 false 1 20 [4,3],
gD 22 19 false .gtr 21 4 [5,3],
jT 23 19 22 [3,6],
aq 24 23 [7,3],
ew 25 24 false 0 7 [8],
ec 26 24 false 1 25 [9,8],
gD 27 24 false .neq 26 4 [10,8],
fa 28 24 false 27 [11,8,8],
ew 29 28 true 3 7 [12],
ec 30 28 true 1 29 [13,12],
gD 31 28 true .neq 30 0 [14,12],
IZ 32 24 false 28 31 [12,15,8],
jT 33 24 32 [8,16],
aq 34 33 [17,12],
ew 35 34 false 0 7 [18],
ec 36 34 false 1 35 [19,18],
gD 37 34 false .eql 36 2 [20,18],
fa 38 34 false 37 [21,18,18],
ew 39 38 true 2 7 [22],
ec 40 38 true 1 39 [23,22],
gD 41 38 true .neq 40 0 [24,22],
IZ 42 34 false 38 41 [22,25,18],
jT 43 34 42 [18,26]])
(.cond (.t 43)
(.seq (.ops [
aR 44 (.build [.bu,.pv (.int .i64 0),.pv (.int .i64 0)] []) [],
dk 3 8 44 [0,0],
cR 9 1 [1,0,1]])
.ret)
.skip))
(.seq (.ops [
ck 45 3 6 [],
bQ 46 1 7 [],
bR 47 1 46 [1],
aR 48 (.call 167 [.t 45,.t 47]) [0,2],
aq 10 48 [3,3,0,1,2,3]])
(.seq (.ops [
ck 49 3 6 [],
bQ 50 3 7 [],
bR 51 1 50 [1],
aR 52 (.call 167 [.t 49,.t 51]) [0,2],
aq 11 52 [3,3,0,1,2,3]])
(.seq (.seq (.ops [
aq 53 10 [],
cM 54 .lss 53 0 [0],
aq 55 54 [1],
ew 56 55 false 0 7 [2],
ec 57 55 false 1 56 [3,2],
gD 58 55 false .neq 57 2 [4,2],
fa 59 55 false 58 [5,2,2],
ej 60 59 true (.load true 3 (.t 4)) [6],
ew 61 59 true 2 7 [6],
ec 62 59 true 1 61 [8,6],
ej 63 59 true (.call 155 [.t 60,.t 62]) [7,9,6,6],
gD 64 59 true .lss 63 0 [10,6],
IZ 65 55 false 59 64 [6,11,2],
jT 66 55 65 [2,12],
aq 67 66 [13,10],
ew 68 67 false 0 7 [14],
ec 69 67 false 1 68 [15,14],
gD 70 67 false .eql 69 4 [16,14],
fa 71 67 false 70 [17,14,14],
fa 72 71 true 11 [18],
gD 73 71 true .lss 72 0 [19,18],
IZ 74 67 false 71 73 [18,20,14],
jT 75 67 74 [14,21]])
(.cond (.t 75)
(.seq (.ops [
aR 76 (.build [.bu,.pv (.int .i64 0),.pv (.int .i64 0)] []) [],
dk 3 8 76 [0,0],
cR 9 4 [1,0,1]])
.ret)
.skip))
(.seq (.ops [
bQ 77 0 6 [],
bR 78 1 77 [0],
aq 79 10 [],
fw 80 8 78 79 [1,2],
ck 81 8 80 [3],
aR 12 (.alloc [.pv (.int .i64 0),.pv (.int .i64 0),.pv (.int .i64 0),.pv (.int .u64 0),.pv (.int .u64 0),.pv (.int .u64 0),.pv (.int .u64 0),.pv (.int .i64 0)]) [],
dk 8 12 81 [5,4,0,1,2,3,4,5]])
(.seq (.draw [
aR 82 (.cr 8 0 [] []) [],
bQ 83 0 6 [],
bR 84 1 83 [1],
aR 85 (.append 8 64 (.t 82) (.t 84)) [0,2],
bQ 86 1 6 [],
bR 87 1 86 [4],
bQ 88 2 6 [],
bR 89 1 88 [6],
aR 90 (.build [.bu,.pv (.int .i64 0),.pv (.int .i64 0)] [(0,1,(.t 85)),(1,1,(.t 87)),(2,1,(.t 89))]) [3,5,7],
aR 13 (.alloc [.bu,.pv (.int .i64 0),.pv (.int .i64 0)]) [],
dk 3 13 90 [9,8,3,0,1,2,3,4,5,6,7,8,9]])
(.seq (.ops [
fV 14 false []])
(.seq (.seq (.ops [
bQ 91 0 7 [],
bR 92 1 91 [0]])
(.block 0
(.seq (.ops [
cM 94 .eql 92 1 [],
aq 93 94 [0]])
(.cond (.t 93)
(.ops [
bQ 95 7 12 [],
bR 96 1 95 [0],
cM 97 .eql 96 0 [1],
aq 14 97 [2,0,1,2]])
(.seq (.ops [
cM 99 .eql 92 2 [],
aq 98 99 [0]])
(.cond (.t 98)
(.ops [
bQ 100 7 12 [],
bR 101 1 100 [0],
cM 102 .neq 101 0 [1],
aq 14 102 [2,0,1,2]])
(.seq (.ops [
cM 104 .eql 92 3 [],
aq 103 104 [0]])
(.cond (.t 103)
(.seq (.ops [
bQ 105 7 12 [],
bR 106 1 105 [0],
cM 107 .neq 106 0 [1],
aq 108 107 [2],
ew 109 108 true 7 12 [3],
ec 110 108 true 1 109 [4,3],
ew 111 108 true 2 7 [3],
ec 112 108 true 1 111 [6,3],
ej 113 108 true (.bin .neq none (.t 110) (.t 112)) [5,7,3],
iZ 114 108 113 [3,8],
aq 14 114 [9,3,0,1,2,3,4,5,6,7,8,9]])
(.ops [
bQ 115 2 13 [],
bR 116 1 115 [0],
cM 117 .add 116 1 [1],
bQ 118 2 13 [0,1,2],
dk 1 118 117 [3,2,0,1,2]]))
(.seq (.ops [
cM 120 .eql 92 4 [],
aq 119 120 [0]])
(.cond (.t 119)
(.seq (.draw [
bQ 121 7 12 [],
bR 122 1 121 [0],
cM 123 .eql 122 0 [1],
aq 124 123 [2],
fa 125 124 true 10 [3],
fa 126 124 true 11 [3],
ej 127 124 true (.bin .neq none (.t 125) (.t 126)) [4,5,3],
iZ 128 124 127 [3,6],
aq 129 128 [7,3],
ew 130 129 true 0 6 [8],
ec 131 129 true 1 130 [9,8],
fa 132 129 true 11 [8],
zB 133 129 true 8 131 132 [10,11,8],
ew 134 129 true 7 133 [12,8],
ec 135 129 true 1 134 [13,8],
ew 136 129 true 2 7 [8],
ec 137 129 true 1 136 [15,8],
ej 138 129 true (.bin .eql none (.t 135) (.t 137)) [14,16,8],
iZ 139 129 138 [8,17],
aq 14 139 [18,8,0,1,2,3,4,5,6,7,8,9,10,11,12,13,14,15,16,17,18]])
(.seq (.ops [
bQ 140 0 13 [],
bR 141 1 140 [0],
aq 142 11 [],
fw 143 8 141 142 [1,2,0,1,2],
bQ 144 7 143 [3,0,1,2],
N8 (.store 1 (.t 144) (.c (.pv (.int .i64 0)))) [4,0,1,2]])
(.ops [
bQ 145 1 13 [],
bR 146 1 145 [0],
cM 147 .add 146 1 [1],
bQ 148 1 13 [0,1,2],
dk 1 148 147 [3,2,0,1,2]])))
.skip))))))))))
(.seq (.seq (.ops [
aq 149 14 [],
aR 150 (.not (.t 149)) [0]])
(.cond (.t 150)
(.seq (.ops [
aR 151 (.build [.bu,.pv (.int .i64 0),.pv (.int .i64 0)] []) [],
dk 3 8 151 [0,0],
cR 9 7 [1,0,1]])
.ret)
.skip))
(.seq (.ops [
bQ 152 0 13 [],
bR 153 1 152 [0],
aq 154 10 [],
bQ 155 2 7 [],
bR 156 1 155 [3],
fw 157 8 153 154 [1,2,0,1,2,3,4],
bQ 158 7 157 [5,0,1,2,3,4],
dk 1 158 156 [6,4,0,1,2,3,4]])
(.seq (.ops [
ck 159 3 5 [],
bQ 160 1 7 [],
bR 161 1 160 [1],
aR 162 (.call 157 [.t 159,.t 161]) [0,2],
aq 15 162 [3,3,0,1,2,3]])
(.seq (.seq (.ops [
bQ 163 0 7 [],
bR 164 1 163 [0],
cM 165 .neq 164 2 [1],
aq 166 165 [2],
fa 167 166 true 15 [3],
gD 168 166 true .geq 167 0 [4,3],
iZ 169 166 168 [3,5]])
(.cond (.t 169)
(.seq (.ops [
bQ 170 0 5 [],
bR 171 1 170 [0],
aq 172 15 [],
fw 173 6 171 172 [1,2],
bQ 174 5 173 [3],
bR 175 1 174 [4]])
(.cond (.t 175)
(.draw [
bQ 176 0 13 [],
bR 177 1 176 [0],
aq 178 10 [],
bQ 179 0 5 [],
bR 180 1 179 [3],
aq 181 15 [],
fw 182 6 180 181 [4,5],
bQ 183 1 182 [6],
ck 184 4 183 [7],
fw 185 8 177 178 [1,2,0,1,2,3,4,5,6,7,8],
bQ 186 3 185 [9,0,1,2,3,4,5,6,7,8],
dk 4 186 184 [10,8,0,1,2,3,4,5,6,7,8]])
.skip))
.skip))
(.seq (.ops [
ck 187 3 13 [],
dk 3 8 187 [0,0],
cR 9 0 [1,0,1]])
.ret))))))))))))))⟩
def yb:bx :=
(.seq (.seq (.ops [
aq 15 6 [],
aq 16 5 [],
dX 17 .lss 15 16 [0,1]])
(.cond (.t 17)
.skip
(.exit 2)))
(.seq (.block 3
(.seq (.draw [
ck 20 3 2 [],
bQ 21 0 3 [],
bR 22 1 21 [1],
aq 23 5 [],
fw 24 8 22 23 [2,3],
ck 25 8 24 [4],
bQ 26 0 3 [],
bR 27 1 26 [6],
aq 28 6 [],
fw 29 8 27 28 [7,8],
ck 30 8 29 [9],
aR 31 (.call 180 [.t 20,.t 25,.t 30]) [0,5,10],
aq 7 31 [11,11,0,1,2,3,4,5,6,7,8,9,10,11]])
(.seq (.ops [
aq 32 7 []])
(.cond (.t 32)
(.seq (.ops [
aq 33 5 [],
aq 4 33 [0,0]])
.ret)
.skip))))
(.ops [
aq 18 6 [],
cM 19 .add 18 1 [0],
aq 6 19 [1,0,1]])))
def yc:bx :=
(.seq (.seq (.ops [
aq 8 5 [],
bQ 9 0 3 [],
bR 10 1 9 [1],
fT 11 10 [2],
dX 12 .lss 8 11 [0,3]])
(.cond (.t 12)
.skip
(.exit 0)))
(.seq (.block 1
(.seq (.ops [
cR 6 0 []])
(.block 2
(.loop yb))))
(.ops [
aq 13 5 [],
cM 14 .add 13 1 [0],
aq 5 14 [1,0,1]])))
def f172:bf:=⟨34,[.t 4],
(.seq (.ops [
df 2 0 [],
df 3 1 [],
cR 4 0 []])
(.seq (.seq (.ops [
cR 5 0 []])
(.block 0
(.loop yc)))
(.seq (.ops [
cR 4 (-1) []])
.ret)))⟩
def uw:bx :=
(.seq (.seq (.ops [
aq 13 10 [],
bQ 14 0 5 [],
bR 15 1 14 [1],
fT 16 15 [2],
dX 17 .lss 13 16 [0,3]])
(.cond (.t 17)
.skip
(.exit 0)))
(.seq (.block 1
(.seq (.ops [
bQ 20 0 5 [],
bR 21 1 20 [0],
aq 22 10 [],
fw 23 8 21 22 [1,2],
ck 24 8 23 [3],
aR 11 (.alloc [.pv (.int .i64 0),.pv (.int .i64 0),.pv (.int .i64 0),.pv (.int .u64 0),.pv (.int .u64 0),.pv (.int .u64 0),.pv (.int .u64 0),.pv (.int .i64 0)]) [],
dk 8 11 24 [5,4,0,1,2,3,4,5]])
(.seq (.ops [
ck 25 3 4 [],
bQ 26 7 11 [],
bR 27 1 26 [1],
aR 28 (.call 155 [.t 25,.t 27]) [0,2],
aq 12 28 [3,3,0,1,2,3]])
(.seq (.seq (.ops [
bQ 29 1 11 [],
bR 30 1 29 [0],
aq 31 2 [],
dX 32 .neq 30 31 [1,2],
aq 33 32 [3],
ew 34 33 false 7 11 [4],
ec 35 33 false 1 34 [5,4],
gD 36 33 false .eql 35 0 [6,4],
jT 37 33 36 [4,7],
aq 38 37 [8,4],
fa 39 38 false 12 [9],
gD 40 38 false .lss 39 0 [10,9],
jT 41 38 40 [9,11]])
(.cond (.t 41)
(.exit 1)
.skip))
(.seq (.ops [
bQ 42 0 4 [],
bR 43 1 42 [0],
aq 44 12 [],
fw 45 10 43 44 [1,2],
bQ 46 1 45 [3],
bR 47 1 46 [4],
aq 48 3 [],
dX 49 .eql 47 48 [5,6]])
(.cond (.t 49)
(.ops [
aq 50 9 [],
cM 51 .add 50 1 [0],
aq 9 51 [1,0,1]])
.skip))))))
(.ops [
aq 18 10 [],
cM 19 .add 18 1 [0],
aq 10 19 [1,0,1]])))
def f174:bf:=⟨53,[.t 8],
(.seq (.ops [
df 4 0 [],
df 5 1 [],
cR 8 0 []])
(.seq (.ops [
cR 9 0 []])
(.seq (.seq (.ops [
cR 10 0 []])
(.block 0
(.loop uw)))
(.seq (.ops [
aq 52 9 [],
aq 8 52 [0,0]])
.ret))))⟩
def f175:bf:=⟨34,[.t 6],
(.seq (.ops [
df 3 0 [],
fV 6 false []])
(.seq (.ops [
ck 9 3 3 [],
aq 10 1 [],
aR 11 (.call 167 [.t 9,.t 10]) [0,1],
aq 7 11 [2,2,0,1,2]])
(.seq (.ops [
ck 12 3 3 [],
aq 13 2 [],
aR 14 (.call 167 [.t 12,.t 13]) [0,1],
aq 8 14 [2,2,0,1,2]])
(.seq (.seq (.ops [
aq 15 7 [],
cM 16 .lss 15 0 [0],
aq 17 16 [1],
fa 18 17 false 8 [2],
gD 19 17 false .lss 18 0 [3,2],
jT 20 17 19 [2,4]])
(.cond (.t 20)
(.seq (.ops [
fV 6 false []])
.ret)
.skip))
(.seq (.draw [
bQ 21 0 3 [],
bR 22 1 21 [0],
aq 23 8 [],
fw 24 8 22 23 [1,2],
bQ 25 2 24 [3],
bR 26 1 25 [4],
bQ 27 0 3 [],
bR 28 1 27 [6],
aq 29 7 [],
fw 30 8 28 29 [7,8],
bQ 31 2 30 [9],
bR 32 1 31 [10],
dX 33 .lss 26 32 [5,11],
aq 6 33 [12,0,1,2,3,4,5,6,7,8,9,10,11,12]])
.ret)))))⟩
def yf:bx :=
(.seq (.seq (.ops [
aq 20 10 [],
aq 21 7 [],
fT 22 21 [1],
dX 23 .lss 20 22 [0,2]])
(.cond (.t 23)
.skip
(.exit 2)))
(.seq (.block 3
(.seq (.draw [
ck 26 3 3 [],
ck 27 3 4 [],
aq 28 2 [],
aq 29 7 [],
aq 30 9 [],
fw 31 1 29 30 [3,4],
bR 32 1 31 [5],
aR 33 (.call 174 [.t 26,.t 27,.t 28,.t 32]) [0,1,2,6],
ck 34 3 3 [],
ck 35 3 4 [],
aq 36 2 [],
aq 37 7 [],
aq 38 10 [],
fw 39 1 37 38 [11,12],
bR 40 1 39 [13],
aR 41 (.call 174 [.t 34,.t 35,.t 36,.t 40]) [8,9,10,14,7],
dX 42 .sub 33 41 [7,15],
aq 11 42 [16,15,0,1,2,3,4,5,6,7,8,9,10,11,12,13,14,15,16]])
(.seq (.ops [
aq 43 11 [],
aq 44 8 [],
dX 45 .gtr 43 44 [0,1]])
(.cond (.t 45)
(.ops [
aq 46 11 [],
aq 8 46 [0,0]])
.skip))))
(.ops [
aq 24 10 [],
cM 25 .add 24 1 [0],
aq 10 25 [1,0,1]])))
def yg:bx :=
(.seq (.seq (.ops [
aq 14 9 [],
aq 15 7 [],
fT 16 15 [1],
dX 17 .lss 14 16 [0,2]])
(.cond (.t 17)
.skip
(.exit 0)))
(.seq (.block 1
(.seq (.ops [
cR 10 0 []])
(.block 2
(.loop yf))))
(.ops [
aq 18 9 [],
cM 19 .add 18 1 [0],
aq 9 19 [1,0,1]])))
def f177:bf:=⟨48,[.t 6],
(.seq (.ops [
df 3 0 [],
df 4 1 [],
cR 6 0 []])
(.seq (.ops [
ck 12 3 3 [],
aR 13 (.call 158 [.t 12]) [0],
aq 7 13 [1,1,0,1]])
(.seq (.ops [
cR 8 0 []])
(.seq (.seq (.ops [
cR 9 0 []])
(.block 0
(.loop yg)))
(.seq (.ops [
aq 47 8 [],
aq 6 47 [0,0]])
.ret)))))⟩
def yh:bx :=
(.seq (.seq (.ops [
aq 6 5 [],
bQ 7 1 2 [],
bR 8 1 7 [1],
fT 9 8 [2],
dX 10 .lss 6 9 [0,3]])
(.cond (.t 10)
.skip
(.exit 0)))
(.seq (.block 1
(.seq (.draw [
bQ 13 1 2 [],
bR 14 1 13 [0],
aq 15 5 [],
fw 16 5 14 15 [1,2],
bQ 17 2 16 [3],
bR 18 1 17 [4],
cM 19 .gtr 18 0 [5],
aq 20 19 [6],
ej 21 20 true (.load true 3 (.t 2)) [7],
ej 22 20 true (.load true 3 (.t 3)) [7],
ew 23 20 true 1 2 [7],
ec 24 20 true 1 23 [10,7],
fa 25 20 true 5 [7],
zB 26 20 true 5 24 25 [11,12,7],
ew 27 20 true 0 26 [13,7],
ec 28 20 true 1 27 [14,7],
ej 29 20 true (.call 177 [.t 21,.t 22,.t 28]) [8,9,15,7,7],
ew 30 20 true 1 2 [7],
ec 31 20 true 1 30 [17,7],
fa 32 20 true 5 [7],
zB 33 20 true 5 31 32 [18,19,7],
ew 34 20 true 2 33 [20,7],
ec 35 20 true 1 34 [21,7],
ej 36 20 true (.bin .gtr none (.t 29) (.t 35)) [16,22,7],
iZ 37 20 36 [7,23]])
(.cond (.t 37)
(.seq (.ops [
aq 38 5 [],
aq 4 38 [0,0]])
.ret)
.skip)))
(.ops [
aq 11 5 [],
cM 12 .add 11 1 [0],
aq 5 12 [1,0,1]])))
def f178:bf:=⟨39,[.t 4],
(.seq (.ops [
df 2 0 [],
df 3 1 [],
cR 4 0 []])
(.seq (.seq (.ops [
cR 5 0 []])
(.block 0
(.loop yh)))
(.seq (.ops [
cR 4 (-1) []])
.ret)))⟩
def f180:bf:=⟨39,[.t 6],
(.seq (.ops [
df 3 0 [],
df 4 1 [],
df 5 2 [],
fV 6 false []])
(.seq (.ops [
ck 8 3 3 [],
bQ 9 1 4 [],
bR 10 1 9 [1],
aR 11 (.call 154 [.t 8,.t 10]) [0,2],
aq 7 11 [3,3,0,1,2,3]])
(.seq (.seq (.ops [
aq 12 7 [],
cM 13 .lss 12 0 [0],
aq 14 13 [1],
ew 15 14 false 1 4 [2],
ec 16 14 false 1 15 [3,2],
ew 17 14 false 1 5 [2],
ec 18 14 false 1 17 [5,2],
ej 19 14 false (.bin .neq none (.t 16) (.t 18)) [4,6,2],
jT 20 14 19 [2,7],
aq 21 20 [8,2],
ew 22 21 false 7 4 [9],
ec 23 21 false 1 22 [10,9],
gD 24 21 false .eql 23 0 [11,9],
jT 25 21 24 [9,12],
aq 26 25 [13,9],
ew 27 26 false 7 4 [14],
ec 28 26 false 1 27 [15,14],
ew 29 26 false 7 5 [14],
ec 30 26 false 1 29 [17,14],
ej 31 26 false (.bin .neq none (.t 28) (.t 30)) [16,18,14],
jT 32 26 31 [14,19]])
(.cond (.t 32)
(.seq (.ops [
fV 6 false []])
.ret)
.skip))
(.seq (.ops [
bQ 33 1 3 [],
bR 34 1 33 [0],
aq 35 7 [],
fw 36 5 34 35 [1,2],
bQ 37 1 36 [3],
bR 38 1 37 [4],
aq 6 38 [5,0,1,2,3,4,5]])
.ret))))⟩
def f181:bf:=⟨51,[.cell 8 true 3,.t 9],
(.seq (.ops [
df 4 0 [],
df 5 1 [],
df 6 2 [],
df 7 3 [],
aR 8 (.alloc [.bu,.pv (.int .i64 0),.pv (.int .i64 0)]) [],
cR 9 0 []])
(.seq (.ops [
ck 14 3 4 [],
ck 15 3 5 [],
ck 16 3 6 [],
ck 17 4 7 [],
aR 18 (.call 166 [.t 14,.t 15,.t 16,.t 17]) [0,1,2,3],
aq 13 18 [4],
fu 19 13 0 [5],
fu 20 13 1 [5],
aR 10 (.alloc [.bu,.pv (.int .i64 0),.pv (.int .i64 0)]) [],
dk 3 10 19 [8,6,4,0,1,2,3,4,5,6,8],
aq 11 20 [7,9,0,1,2,3,4,5,6,7,8,9]])
(.seq (.seq (.ops [
aq 21 11 [],
cM 22 .neq 21 0 [0]])
(.cond (.t 22)
(.seq (.ops [
aR 23 (.build [.bu,.pv (.int .i64 0),.pv (.int .i64 0)] []) [],
aq 24 11 [],
dk 3 8 23 [0,0],
aq 9 24 [1,2,0,1,2]])
.ret)
.skip))
(.seq (.ops [
ck 25 3 6 [],
bQ 26 1 7 [],
bR 27 1 26 [1],
bQ 28 3 7 [],
bR 29 1 28 [3],
aR 30 (.call 175 [.t 25,.t 27,.t 29]) [0,2,4],
aq 12 30 [5,5,0,1,2,3,4,5]])
(.seq (.seq (.ops [
bQ 31 0 7 [],
bR 32 1 31 [0],
cM 33 .eql 32 4 [1],
aq 34 33 [2],
fa 35 34 true 12 [3],
ej 36 34 true (.not (.t 35)) [4,3],
iZ 37 34 36 [3,5]])
(.cond (.t 37)
(.seq (.ops [
aR 38 (.build [.bu,.pv (.int .i64 0),.pv (.int .i64 0)] []) [],
dk 3 8 38 [0,0],
cR 9 14 [1,0,1]])
.ret)
.skip))
(.seq (.ops [
ck 40 3 4 [],
ck 41 3 5 [],
ck 42 3 10 [],
aR 43 (.call 184 [.t 40,.t 41,.t 42]) [0,1,2],
aq 39 43 [3],
fu 44 39 0 [4],
fu 45 39 1 [4],
aq 11 44 [5,3,0,1,2,3,4,5]])
(.seq (.seq (.ops [
aq 46 11 [],
cM 47 .neq 46 0 [0]])
(.cond (.t 47)
(.seq (.ops [
aR 48 (.build [.bu,.pv (.int .i64 0),.pv (.int .i64 0)] []) [],
aq 49 11 [],
dk 3 8 48 [0,0],
aq 9 49 [1,2,0,1,2]])
.ret)
.skip))
(.seq (.ops [
ck 50 3 10 [],
dk 3 8 50 [0,0],
cR 9 0 [1,0,1]])
.ret))))))))⟩
def f184:bf:=⟨47,[.t 6,.t 7],
(.seq (.ops [
df 3 0 [],
df 4 1 [],
df 5 2 [],
cR 6 0 [],
cR 7 0 [3]])
(.seq (.ops [
ck 12 3 3 [],
ck 13 3 5 [],
aR 14 (.call 169 [.t 12,.t 13]) [0,1],
aq 11 14 [2],
fu 15 11 0 [3],
fu 16 11 1 [3],
aq 8 15 [4,2,0,1,2,3,4],
aq 9 16 [5,6,0,1,2,3,4,5,6]])
(.seq (.seq (.ops [
aq 17 8 [],
cM 18 .neq 17 0 [0]])
(.cond (.t 18)
(.seq (.ops [
aq 19 8 [],
aq 20 9 [],
aq 6 19 [0,0],
aq 7 20 [1,2,0,1,2]])
.ret)
.skip))
(.seq (.ops [
ck 21 3 3 [],
ck 22 3 5 [],
aR 23 (.call 172 [.t 21,.t 22]) [0,1],
aq 9 23 [2,2,0,1,2]])
(.seq (.seq (.ops [
aq 24 9 [],
cM 25 .geq 24 0 [0]])
(.cond (.t 25)
(.seq (.ops [
aq 26 9 [],
cR 6 10 [],
aq 7 26 [0,1,0,1]])
.ret)
.skip))
(.seq (.ops [
ck 27 3 3 [],
ck 28 3 5 [],
aR 29 (.call 178 [.t 27,.t 28]) [0,1],
aq 9 29 [2,2,0,1,2]])
(.seq (.seq (.ops [
aq 30 9 [],
cM 31 .geq 30 0 [0]])
(.cond (.t 31)
(.seq (.ops [
aq 32 9 [],
cR 6 11 [],
aq 7 32 [0,1,0,1]])
.ret)
.skip))
(.seq (.ops [
ck 34 3 3 [],
ck 35 3 5 [],
aR 36 (.call 173 [.t 34,.t 35]) [0,1],
aq 33 36 [2],
fu 37 33 0 [3],
fu 38 33 1 [3],
aq 8 37 [4,2,0,1,2,3,4],
aq 9 38 [5,6,0,1,2,3,4,5,6]])
(.seq (.seq (.ops [
aq 39 8 [],
cM 40 .neq 39 0 [0]])
(.cond (.t 40)
(.seq (.ops [
aq 41 8 [],
aq 42 9 [],
aq 6 41 [0,0],
aq 7 42 [1,2,0,1,2]])
.ret)
.skip))
(.seq (.ops [
ck 43 3 4 [],
ck 44 3 5 [],
aR 45 (.call 179 [.t 43,.t 44]) [0,1],
aq 10 45 [2,2,0,1,2]])
(.seq (.seq (.ops [
aq 46 10 []])
(.cond (.t 46)
(.seq (.ops [
cR 6 15 [],
cR 7 (-1) [0,0]])
.ret)
.skip))
(.seq (.ops [
cR 6 0 [],
cR 7 (-1) [0,0]])
.ret))))))))))))⟩
def yw:bx :=
(.seq (.ops [
dX 16 .lss 15 14 []])
(.seq (.cond (.t 16)
.skip
(.exit 0))
(.seq (.block 1
(.seq (.ops [
fw 17 7 13 15 [],
ck 18 7 17 [0],
aR 9 (.alloc [.pv (.int .i64 0),.pv (.int .i64 0),.pv (.int .i64 0),.pv (.int .i64 0),.bu,.pv (.int .i64 0),.pv (.int .i64 0)]) [],
dk 7 9 18 [2,1,0,1,2]])
(.ops [
aq 19 7 [],
bQ 20 0 9 [],
ck 21 4 20 [1],
aR 22 (.cr 4 1 [.pv (.int .i64 0),.pv (.int .i64 0),.pv (.int .i64 0),.pv (.int .i64 0)] [(0,4,(.t 21))]) [2],
aR 23 (.append 4 32 (.t 19) (.t 22)) [0,3],
aq 7 23 [4,4,0,1,2,3,4]])))
(.ops [
cM 24 .add 15 1 [],
aq 15 24 [0]]))))
def f210:bf:=⟨26,[.t 6],
(.seq (.ops [
df 3 0 [],
df 4 1 [],
df 5 2 [],
aR 6 (.mv (.c .bu)) []])
(.seq (.ops [
aR 7 (.mv (.c .bu)) []])
(.seq (.seq (.ops [
ck 10 3 3 [],
ck 11 3 4 [],
ck 12 3 5 [],
aR 13 (.call 213 [.t 10,.t 11,.t 12]) [0,1,2],
fT 14 13 [3],
cR 15 0 []])
(.block 0
(.loop yw)))
(.seq (.ops [
aq 25 7 [],
aq 6 25 [0,0]])
.ret))))⟩
def yx:bx :=
(.seq (.ops [
dX 12 .lss 11 10 []])
(.seq (.cond (.t 12)
.skip
(.exit 0))
(.seq (.block 1
(.seq (.ops [
fw 13 6 9 11 [],
ck 14 6 13 [0],
aR 7 (.alloc [.pv (.int .i64 0),.pv (.int .u64 0),.pv (.int .u64 0),.pv (.int .u64 0),.pv (.int .u64 0),.pv (.bool false)]) [],
dk 6 7 14 [2,1,0,1,2]])
(.seq (.ops [
ck 15 6 7 [],
aR 16 (.cr 6 1 [.pv (.int .i64 0),.pv (.int .u64 0),.pv (.int .u64 0),.pv (.int .u64 0),.pv (.int .u64 0),.pv (.bool false)] [(0,6,(.t 15))]) [0],
aR 17 (.build [.bu,.pv (.int .i64 0),.pv (.int .i64 0)] [(0,1,(.t 16))]) [1],
ck 18 3 3 [],
aR 19 (.call 238 [.t 17,.t 18]) [2,3],
aR 20 (.not (.t 19)) [4]])
(.cond (.t 20)
(.ops [
aq 21 5 [],
cM 22 .add 21 1 [0],
aq 5 22 [1,0,1]])
.skip))))
(.ops [
cM 23 .add 11 1 [],
aq 11 23 [0]]))))
def f211:bf:=⟨27,[.t 4],
(.seq (.ops [
df 2 0 [],
df 3 1 [],
cR 4 0 []])
(.seq (.ops [
cR 5 0 []])
(.seq (.seq (.ops [
bQ 8 0 2 [],
bR 9 1 8 [0],
fT 10 9 [1],
cR 11 0 []])
(.block 0
(.loop yx)))
(.seq (.ops [
aq 24 5 [],
cM 25 .add 24 1 [0],
cM 26 .quo 25 2 [1],
aq 4 26 [2,0,1,2]])
.ret))))⟩
def f213:bf:=⟨13,[.t 6],
(.seq (.ops [
df 3 0 [],
df 4 1 [],
df 5 2 [],
aR 6 (.mv (.c .bu)) []])
(.seq (.ops [
aR 7 (.alloc [.bu]) []])
(.seq (.ops [
ck 8 3 3 [],
ck 9 3 5 [],
aR 10 (.xa 214 [] [.t 3,.t 4,.t 5,.t 7]) [],
aR 11 (.call 215 [.t 8,.t 9,.t 10]) [0,1,2]])
(.seq (.ops [
bR 12 1 7 [],
aq 6 12 [0,0]])
.ret))))⟩
def f214:bf:=⟨24,[],
(.seq (.ops [
df 5 0 []])
(.seq (.ops [
ck 9 3 1 [],
ck 10 3 2 [],
ck 11 3 3 [],
ck 12 4 5 [],
aR 13 (.call 246 [.t 9,.t 10,.t 11,.t 12]) [0,1,2,3],
aq 8 13 [4],
fu 14 8 0 [5],
fu 15 8 1 [5],
aR 6 (.alloc [.bu,.pv (.int .i64 0),.pv (.int .i64 0)]) [],
dk 3 6 14 [8,6,4,0,1,2,3,4,5,6,8],
aq 7 15 [7,9,0,1,2,3,4,5,6,7,8,9]])
(.seq (.ops [
aq 16 7 [],
aR 17 (.bin .eql (some (.iface true)) (.t 16) (.c (.pv .dI))) [0]])
(.cond (.t 17)
(.ops [
bR 18 1 4 [],
ck 19 4 5 [],
ck 20 3 6 [],
aR 21 (.build [.pv (.int .i64 0),.pv (.int .i64 0),.pv (.int .i64 0),.pv (.int .i64 0),.bu,.pv (.int .i64 0),.pv (.int .i64 0)] [(0,4,(.t 19)),(4,3,(.t 20))]) [1,2],
aR 22 (.cr 7 1 [.pv (.int .i64 0),.pv (.int .i64 0),.pv (.int .i64 0),.pv (.int .i64 0),.bu,.pv (.int .i64 0),.pv (.int .i64 0)] [(0,7,(.t 21))]) [3],
aR 23 (.append 7 72 (.t 18) (.t 22)) [0,4],
dk 1 4 23 [5,5,0,1,2,3,4,5]])
.skip))))⟩
def yz:bx :=
(.seq (.ops [
dX 23 .lss 22 21 []])
(.seq (.cond (.t 23)
.skip
(.exit 0))
(.seq (.block 1
(.seq (.ops [
fw 24 8 20 22 [],
ck 25 8 24 [0],
aR 9 (.alloc [.pv (.int .i64 0),.pv (.int .i64 0),.pv (.int .i64 0),.pv (.int .u64 0),.pv (.int .u64 0),.pv (.int .u64 0),.pv (.int .u64 0),.pv (.int .i64 0)]) [],
dk 8 9 25 [2,1,0,1,2]])
(.ops [
aq 26 6 [],
bQ 27 0 9 [],
bR 28 1 27 [1],
aR 29 (.cr 1 1 [.pv (.int .i64 0)] [(0,1,(.t 28))]) [2],
aR 30 (.append 1 8 (.t 26) (.t 29)) [0,3],
aq 6 30 [4,4,0,1,2,3,4]])))
(.ops [
cM 31 .add 22 1 [],
aq 22 31 [0]]))))
def yA:bx :=
(.seq (.ops [
dX 36 .lss 35 34 []])
(.seq (.cond (.t 36)
.skip
(.exit 2))
(.seq (.block 3
(.seq (.ops [
fw 37 10 33 35 [],
ck 38 10 37 [0],
aR 11 (.alloc [.pv (.int .i64 0),.pv (.int .i64 0),.pv (.int .u64 0),.pv (.int .u64 0),.pv (.int .u64 0),.pv (.int .u64 0),.pv (.int .u64 0),.pv (.int .u64 0),.pv (.int .u64 0),.pv (.int .u64 0)]) [],
dk 10 11 38 [2,1,0,1,2]])
(.ops [
aq 39 7 [],
bQ 40 0 11 [],
bR 41 1 40 [1],
aR 42 (.cr 1 1 [.pv (.int .i64 0)] [(0,1,(.t 41))]) [2],
aR 43 (.append 1 8 (.t 39) (.t 42)) [0,3],
aq 7 43 [4,4,0,1,2,3,4]])))
(.ops [
cM 44 .add 35 1 [],
aq 35 44 [0]]))))
def yB:bx :=
(.seq (.ops [
dX 83 .lss 82 81 []])
(.seq (.cond (.t 83)
.skip
(.exit 10))
(.seq (.block 11
(.seq (.ops [
fw 84 1 80 82 [],
bR 85 1 84 [0],
aq 18 85 [1,0,1]])
(.ops [
aq 86 2 [],
aq 87 12 [],
aq 88 14 [],
aq 89 16 [],
aq 90 18 [],
aR 91 (.build [.pv (.int .i64 0),.pv (.int .i64 0),.pv (.int .i64 0),.pv (.int .i64 0)] [(0,1,(.t 87)),(1,1,(.t 88)),(2,1,(.t 89)),(3,1,(.t 90))]) [1,2,3,4],
aR 92 (.fK (.t 86) [.t 91]) [0,5]])))
(.ops [
cM 93 .add 82 1 [],
aq 82 93 [0]]))))
def uA:bx :=
(.seq (.ops [
dX 69 .lss 68 67 []])
(.seq (.cond (.t 69)
.skip
(.exit 8))
(.seq (.block 9
(.seq (.ops [
fw 70 1 66 68 [],
bR 71 1 70 [0],
aq 16 71 [1,0,1]])
(.seq (.seq (.ops [
aq 72 12 [],
cM 73 .neq 72 4 [0]])
(.cond (.t 73)
(.seq (.ops [
aq 74 2 [],
aq 75 12 [],
aq 76 14 [],
aq 77 16 [],
aR 78 (.build [.pv (.int .i64 0),.pv (.int .i64 0),.pv (.int .i64 0),.pv (.int .i64 0)] [(0,1,(.t 75)),(1,1,(.t 76)),(2,1,(.t 77))]) [1,2,3],
aR 79 (.fK (.t 74) [.t 78]) [0,4]])
(.exit 9))
.skip))
(.seq (.ops [
aq 80 6 [],
fT 81 80 [0],
cR 82 0 []])
(.block 10
(.loop yB))))))
(.ops [
cM 94 .add 68 1 [],
aq 68 94 [0]]))))
def uB:bx :=
(.seq (.ops [
dX 56 .lss 55 54 []])
(.seq (.cond (.t 56)
.skip
(.exit 6))
(.seq (.block 7
(.seq (.ops [
fw 57 1 53 55 [],
bR 58 1 57 [0],
aq 14 58 [1,0,1]])
(.seq (.seq (.ops [
aq 59 12 [],
cM 60 .eql 59 2 [0]])
(.cond (.t 60)
(.seq (.ops [
aq 61 2 [],
aq 62 12 [],
aq 63 14 [],
aR 64 (.build [.pv (.int .i64 0),.pv (.int .i64 0),.pv (.int .i64 0),.pv (.int .i64 0)] [(0,1,(.t 62)),(1,1,(.t 63))]) [1,2],
aR 65 (.fK (.t 61) [.t 64]) [0,3]])
(.exit 7))
.skip))
(.seq (.ops [
aq 66 7 [],
fT 67 66 [0],
cR 68 0 []])
(.block 8
(.loop uA))))))
(.ops [
cM 95 .add 55 1 [],
aq 55 95 [0]]))))
def yC:bx :=
(.seq (.seq (.ops [
aq 49 12 [],
cM 50 .leq 49 4 [0]])
(.cond (.t 50)
.skip
(.exit 4)))
(.seq (.block 5
(.seq (.ops [
aq 53 6 [],
fT 54 53 [0],
cR 55 0 []])
(.block 6
(.loop uB))))
(.ops [
aq 51 12 [],
cM 52 .add 51 1 [0],
aq 12 52 [1,0,1]])))
def f215:bf:=⟨96,[],
(.seq (.ops [
df 3 0 [],
df 4 1 []])
(.seq (.ops [
aR 6 (.mv (.c .bu)) [],
aR 7 (.mv (.c .bu)) [0]])
(.seq (.seq (.ops [
bQ 19 0 4 [],
bR 20 1 19 [0],
fT 21 20 [1],
cR 22 0 []])
(.block 0
(.loop yz)))
(.seq (.seq (.ops [
bQ 32 0 3 [],
bR 33 1 32 [0],
fT 34 33 [1],
cR 35 0 []])
(.block 2
(.loop yA)))
(.seq (.ops [
aq 45 6 [],
aR 46 (.call 216 [.t 45]) [0],
aq 47 7 [],
aR 48 (.call 216 [.t 47]) [2,1],
aq 6 46 [1,3,0,1],
aq 7 48 [3,4,0,1,2,3,4]])
(.seq (.ops [
cR 12 1 []])
(.block 4
(.loop yC))))))))⟩
def f216:bf:=⟨7,[.t 2],
(.seq (.ops [
aR 2 (.mv (.c .bu)) []])
(.seq (.ops [
aq 3 0 [],
aR 4 (.call 293 [.t 3]) [0]])
(.seq (.ops [
aq 5 0 [],
aR 6 (.call 281 [.t 5]) [0],
aq 2 6 [1,1,0,1]])
.ret)))⟩
def f217:bf:=⟨18,[.t 4],
(.seq (.ops [
df 2 0 [],
df 3 1 [],
jo 4 []])
(.seq (.seq (.ops [
bQ 5 0 3 [],
bR 6 1 5 [0],
cM 7 .eql 6 4 [1],
aq 8 7 [2],
ej 9 8 true (.load true 3 (.t 2)) [3],
ew 10 8 true 1 3 [3],
ec 11 8 true 1 10 [5,3],
ew 12 8 true 3 3 [3],
ec 13 8 true 1 12 [7,3],
ej 14 8 true (.call 218 [.t 9,.t 11,.t 13]) [4,6,8,3,3],
ej 15 8 true (.not (.t 14)) [9,3],
iZ 16 8 15 [3,10]])
(.cond (.t 16)
(.seq (.ops [
aR 17 (.lr 0 (.c (.pv (.int .i64 14)))) [],
aq 4 17 [0,0]])
.ret)
.skip))
(.seq (.ops [
jo 4 []])
.ret)))⟩
def f218:bf:=⟨34,[.t 6],
(.seq (.ops [
df 3 0 [],
fV 6 false []])
(.seq (.ops [
ck 12 3 3 [],
aq 13 1 [],
aR 14 (.call 240 [.t 12,.t 13]) [0,1],
aq 11 14 [2],
fu 15 11 0 [3],
fu 16 11 1 [3],
aR 7 (.alloc [.pv (.int .i64 0),.pv (.int .i64 0),.pv (.int .i64 0),.pv (.int .u64 0),.pv (.int .u64 0),.pv (.int .u64 0),.pv (.int .u64 0),.pv (.int .i64 0)]) [],
dk 8 7 15 [6,4,2,0,1,2,3,4,6],
aq 8 16 [5,7,0,1,2,3,4,5,6,7]])
(.seq (.ops [
ck 18 3 3 [],
aq 19 2 [],
aR 20 (.call 240 [.t 18,.t 19]) [0,1],
aq 17 20 [2],
fu 21 17 0 [3],
fu 22 17 1 [3],
aR 9 (.alloc [.pv (.int .i64 0),.pv (.int .i64 0),.pv (.int .i64 0),.pv (.int .u64 0),.pv (.int .u64 0),.pv (.int .u64 0),.pv (.int .u64 0),.pv (.int .i64 0)]) [],
dk 8 9 21 [6,4,2,0,1,2,3,4,6],
aq 10 22 [5,7,0,1,2,3,4,5,6,7]])
(.seq (.ops [
aq 23 8 [],
aq 24 23 [0],
fa 25 24 true 10 [1],
iZ 26 24 25 [1,2],
aq 27 26 [3,1],
ew 28 27 true 2 9 [4],
ec 29 27 true 1 28 [5,4],
ew 30 27 true 2 7 [4],
ec 31 27 true 1 30 [7,4],
ej 32 27 true (.bin .lss none (.t 29) (.t 31)) [6,8,4],
iZ 33 27 32 [4,9],
aq 6 33 [10,4,0,1,2,3,4,5,6,7,8,9,10]])
.ret))))⟩
def f246:bf:=⟨43,[.cell 8 true 3,.t 9],
(.seq (.ops [
df 4 0 [],
df 5 1 [],
df 6 2 [],
df 7 3 [],
aR 8 (.alloc [.bu,.pv (.int .i64 0),.pv (.int .i64 0)]) [],
jo 9 []])
(.seq (.ops [
ck 15 3 4 [],
ck 16 3 5 [],
ck 17 3 6 [],
ck 18 4 7 [],
aR 19 (.call 239 [.t 15,.t 16,.t 17,.t 18]) [0,1,2,3],
aq 14 19 [4],
fu 20 14 0 [5],
fu 21 14 1 [5],
aR 10 (.alloc [.bu,.pv (.int .i64 0),.pv (.int .i64 0)]) [],
dk 3 10 20 [8,6,4,0,1,2,3,4,5,6,8],
aq 11 21 [7,9,0,1,2,3,4,5,6,7,8,9]])
(.seq (.seq (.ops [
aq 22 11 [],
aR 23 (.bin .neq (some (.iface true)) (.t 22) (.c (.pv .dI))) [0]])
(.cond (.t 23)
(.seq (.ops [
aR 24 (.build [.bu,.pv (.int .i64 0),.pv (.int .i64 0)] []) [],
aq 25 11 [],
dk 3 8 24 [0,0],
aq 9 25 [1,2,0,1,2]])
.ret)
.skip))
(.seq (.seq (.ops [
ck 26 3 6 [],
ck 27 4 7 [],
aR 28 (.call 217 [.t 26,.t 27]) [0,1],
aq 12 28 [2,2,0,1,2]])
(.seq (.ops [
aq 29 12 [],
aR 30 (.bin .neq (some (.iface true)) (.t 29) (.c (.pv .dI))) [0]])
(.cond (.t 30)
(.seq (.ops [
aR 31 (.build [.bu,.pv (.int .i64 0),.pv (.int .i64 0)] []) [],
aq 32 12 [],
dk 3 8 31 [0,0],
aq 9 32 [1,2,0,1,2]])
.ret)
.skip)))
(.seq (.seq (.ops [
ck 33 3 4 [],
ck 34 3 5 [],
ck 35 3 10 [],
aR 36 (.call 223 [.t 33,.t 34,.t 35]) [0,1,2],
aq 13 36 [3,3,0,1,2,3]])
(.seq (.ops [
aq 37 13 [],
aR 38 (.bin .neq (some (.iface true)) (.t 37) (.c (.pv .dI))) [0]])
(.cond (.t 38)
(.seq (.ops [
aR 39 (.build [.bu,.pv (.int .i64 0),.pv (.int .i64 0)] []) [],
aq 40 13 [],
aR 41 (.call 248 [.t 40]) [1],
dk 3 8 39 [0,2,0],
aq 9 41 [2,3,0,1,2,3]])
.ret)
.skip)))
(.seq (.ops [
ck 42 3 10 [],
dk 3 8 42 [0,0],
jo 9 [1,0,1]])
.ret))))))⟩
def f248:bf:=⟨9,[.t 2],
(.seq (.ops [
jo 2 []])
(.seq (.ops [
aR 3 (.alloc [.pv (.int .i64 0)]) []])
(.seq (.seq (.ops [
aq 4 0 [],
aR 5 (.lr 3 (.t 3)) [],
aR 6 (.call 266 [.t 4,.t 5]) [0,1]])
(.cond (.t 6)
(.seq (.ops [
bR 7 1 3 [],
aR 8 (.lr 0 (.t 7)) [0],
aq 2 8 [1,0,1]])
.ret)
.skip))
(.seq (.ops [
jo 2 []])
.ret))))⟩
section
/-! ### Code,of any -/
section
variable{T:cK}
/-! ### Vo,Check -/
def AR(t:State)(a b:Int):Bool:=match eS a t.pods,eS b t.pods with
 |some p,some q=>decide (q.prio<p.prio)
 |_,_=>false
def xf(t:State)(m:Move):Bool:=if m.kind=4 then AR t m.eP m.over else true
structure wB(T:cK):Prop where
 Qy:qy T
 m:NR T
 Ou:Std T 217 f217
 Ov:Std T 218 f218
 w8:Std T 240 f240
 OD:Std T 246 f246
 OE:Std T 248 f248
theorem N2(S:wB T)(t:State)(a b:Int)(hl:t.pods.length<=2^29):ba T 218 [aw t,.int .i64 a,.int .i64 b] (.bool (AR t a b)):=by
 have k1:=zf S.m.s5 S.w8 t a (by omega);have k2:=zf S.m.s5 S.w8 t b (by omega);simp only[aw]at k1 k2;refine gives S.Ov rfl ?_;unfold AR;cases h1:eS a t.pods with
 |none =>
  rw[h1]at k1;simp only[ql,nW,aK,Fy]at k1;cases h2:eS b t.pods with
  |none =>
   rw[h2]at k2;simp only[ql,nW,aK,Fy]at k2;simp only[f218,rL',aa,simprocAttr,aw,k1.call,k2.call]
  |some q =>
   rw[h2]at k2;simp only[ql,nW,aK]at k2;simp only[f218,rL',aa,simprocAttr,aw,k1.call,k2.call]
 |some p =>
  rw[h1]at k1;simp only[ql,nW,aK]at k1;cases h2:eS b t.pods with
  |none =>
   rw[h2]at k2;simp only[ql,nW,aK,Fy]at k2;simp only[f218,rL',aa,simprocAttr,aw,k1.call,k2.call]
  |some q =>
   rw[h2]at k2;simp only[ql,nW,aK]at k2;simp only[f218,rL',aa,simprocAttr,aw,k1.call,k2.call]
theorem I5(S:wB T)(t:State)(m:Move)(hl:t.pods.length<=2^29):ba T 217 [aw t,dG m] (cond (xf t m) .dI (ct 14)):=by
 have k:=N2 S t m.eP m.over hl;simp only[aw]at k;refine gives S.Ou rfl ?_;unfold xf;by_cases h:m.kind=4
 ·have d:=bJ h;rw[aW h];cases hm:AR t m.eP m.over <;>rw[hm]at k <;>
  simp only[f217,rL',aa,simprocAttr,aw,dG,bK,k.call,d,ct]
 ·rw[ar h];simp only[f217,rL',aa,simprocAttr,aw,dG,bK,h]
/-! ### alone -/
def rH(r:PV):PV:=if gG r=true then .dI else ct (ng r)
theorem Gs(S:wB T){r:PV}(hr:vT r):ba T 248 [r] (rH r):=by
 refine gives S.OE rfl ?_;have A:=S.Qy.At;rcases hr with rfl|⟨a,n,rfl⟩|⟨n,rfl⟩
 ·simp only[f248,rL',aa,simprocAttr,tp A,rH,gG]
 ·simp only[f248,rL',aa,simprocAttr,ix];rw[Gy A (o:=0) (by simp only[aD,bz])];simp only[rL',aa,simprocAttr,rH,gG,ct,ng,nh,TN,bA]
 ·simp only[f248,rL',aa,simprocAttr,ct];rw[o8 A (o:=0) (by simp only[aD,bz])];simp only[rL',aa,simprocAttr,rH,gG,ct,ng,nh,TN,bA]
/-! ### Do -/
def oq(s:bc)(x:Spec)(t:State)(m:Move):Int ⊕ State:=match bP s x t m with
 | .inl c=>.inl c
 | .inr u=>if xf t m=true then(if gG (qo s x u)=true then .inr u else .inl (ng (qo s x u)))else .inl 14
theorem lC{l:List dm}{i:Nat}{q:dm}(h:∀p∈l,p.wf)(hq:q.wf):∀p∈l.set i q,p.wf:=by
 intro p hp;rcases List.mem_or_eq_of_mem_set hp with h1|rfl
 ·exact h p h1
 ·exact hq
theorem xT{x:Spec}{p:dm}{n:Int}(hx:∀w∈x.b9,w.wf)(hp:p.wf)(hn:mq n):(eJ x p n).wf:=by
 unfold eJ;obtain⟨a,b,c,d,e⟩:=hp;split
 ·rename_i w hw;have hm:w∈x.b9:=List.mem_of_find?_eq_some hw;split
  ·exact⟨a,b,c,(hx w hm).2,hn⟩
  ·exact⟨a,b,c,d,hn⟩
 ·exact⟨a,b,c,d,hn⟩
theorem HX{p:dm}(hp:p.wf):({p with node:=0}:dm).wf:=by
 obtain⟨a,b,c,d,e⟩:=hp;refine⟨a,b,c,d,?_⟩;unfold mq;simp only;omega
theorem zb{s:bc}{x:Spec}{t u:State}{m:Move}(hx:∀w∈x.b9,w.wf)(ht:∀p∈t.pods,p.wf)(hm:m.wf)(h:bP s x t m=.inr u):∀p∈u.pods,p.wf:=by
 unfold bP at h;split at h
 ·simp at h
 ·split at h
  ·simp at h
  ·split at h
   ·simp at h
   ·split at h
    ·simp at h
    ·split at h
     ·simp at h
     ·rename_i p hp;have Qo:p∈t.pods:=dZ hp;by_cases k2:m.kind=2
      ·rw[aW k2]at h;split at h
       ·simp at h
       ·simp only[eX]at h;subst h;exact lC ht (HX (ht p Qo))
      ·rw[ar k2]at h;split at h
       ·split at h
        ·simp at h
        ·split at h
         ·simp at h
         ·simp only[eX]at h;subst h;exact lC ht (xT hx (ht p Qo) hm.2.2.1)
       ·split at h
        ·split at h
         ·simp at h
         ·rename_i q hq;have UH:q∈t.pods:=dZ hq;split at h
          ·simp at h
          ·split at h
           ·simp at h
           ·split at h
            ·simp at h
            ·simp only[eX]at h;subst h;exact lC (lC ht (HX (ht q UH))) (xT hx (ht p Qo) hm.2.2.1)
        ·split at h
         ·simp at h
         ·simp only[eX]at h;subst h;exact lC ht (xT hx (ht p Qo) hm.2.2.1)
theorem O6(S:wB T)(s:bc)(x:Spec)(t:State)(m:Move)(hn:s.nodes.length<=2^29)(nY:s.aT.length<=2^29)(wV:x.b9.length<=2^29)(hl:t.pods.length<=2^29)(hx:∀w∈x.b9,w.wf)(ht:∀p∈t.pods,p.wf)(hm:m.wf) :
    ba T 246 [aF s,bg x,aw t,dG m] (gj (oq s x t m)):=by
 have km:=Kv S.m s x t m (by omega) (by omega) (by omega);have kp:=I5 S t m hl;refine gives S.OD rfl ?_;unfold oq;cases J4:bP s x t m with
 |inl c =>
  rw[J4]at km;simp only[gj,ct,aF,bg,aw,dG,bK,aC]at km;simp only[f246,rL',aa,simprocAttr,aF,bg,aw,dG,bK,km.call,gj,ct,aC]
 |inr u =>
  rw[J4]at km;have UM:=(qi s x t u m J4).2;have kw:=IG S.Qy s x u hn (by omega) nY (zb hx ht hm J4);have hv:vT (qo s x u):=uH _ (GV s x u);have ka:=Gs S hv;simp only[gj,aF,bg,aw,dG,bK]at km kp kw;cases Tm:xf t m with
  |false =>
   rw[Tm]at kp;simp only[fp,ct]at kp;simp only[f246,rL',aa,simprocAttr,aF,bg,aw,dG,bK,km.call,kp.call,gj,ct,bA,aC]
  |true =>
   rw[Tm]at kp;simp only[gT]at kp;dsimp only;rcases hv with e|⟨a,n,e⟩|⟨n,e⟩
   ·rw[e]at kw ka⊢;simp only[f246,rL',aa,simprocAttr,aF,bg,aw,dG,bK,km.call,kp.call,kw.call,gj,gG]
   ·rw[e]at kw ka⊢;simp only[ix,rH,gG,ct,ng,nh,TN,bA,aJ]at kw ka;simp only[f246,rL',aa,simprocAttr,aF,bg,aw,dG,bK,km.call,kp.call,kw.call,ka.call,gj,gG,ix,ct,ng,nh,TN,bA,aC]
   ·rw[e]at kw ka⊢;simp only[ct,rH,gG,ng,nh,TN,bA,aJ]at kw ka;simp only[f246,rL',aa,simprocAttr,aF,bg,aw,dG,bK,km.call,kp.call,kw.call,ka.call,gj,gG,ct,ng,nh,TN,bA,aC]
end
end


section
/-! ### The plain law:how a move changes a Su size -/
theorem iA{id:Int}{l:List dm}{j:Nat}(h:bw id 0 l=(j:Int)):∃p,l[j]? =some p/\eS id l=some p/\j<l.length:=by
 rcases bZ id l 0 with⟨h1,h2⟩|⟨k,p,h1,h2,h3,h4⟩
 ·omega
 ·have:k=j:=by omega
  subst this;exact⟨p,h1,h2,h4⟩
/-! ### The walk -/
end
section
/-! ### Vl -/
def iy(l:List dm):List Want->Nat
 |[]=>0
 |w::r=>(if lk w l=true then 0 else 1)+iy l r
theorem vH(l:List dm):∀ws,iy l ws<=ws.length
 |[]=>ax _
 |w::r=>by
  have:=vH l r;simp only[iy,ay];split <;>omega
theorem Eo(a:Int):aa .quo (.pv (.int .i64 a)) (.pv (.int .i64 2))=some (.pv (.int .i64 (IntKind.i64.wrap (a.tdiv 2)))):=rfl
section
variable{T:cK}
structure Gf(T:cK):Prop where
 s5:Gg T
 w8:Std T 240 f240
 K3:Std T 238 f238
 Rp:Std T 211 f211
 Lm:T.flat 238=true
set_option maxRecDepth 100000 in
set_option maxHeartbeats 4000000 in
theorem H0(S:Gf T)(x:Spec)(t:State)(hx:x.b9.length<=2^29)(hl:t.pods.length<=2^29)(Q:Exit->St->Prop)
    (bS:∀fr hp nx,look fr 5=.pv (.int .i64 (iy t.pods x.b9:Nat))->Q (.exit 0) ⟨fr,hp,nx⟩) :
    ∀(rest:List Want) (i acc:Nat),x.b9.drop i=rest->i<=x.b9.length->acc+iy t.pods rest=iy t.pods x.b9->∀(fr:List (Nat×AV)) (hp:Hl) (nx:Nat),2<=nx->look fr 3=.ptr 1 0 0 ->
     ah hp 1=.var [.pv (.slice (t.pods.map aK)),.pv (.int .i64 t.pre),.pv (.int .i64 t.fe)]->look fr 5=.pv (.int .i64 (acc:Nat))->look fr 9=.pv (.slice (x.b9.map cj))->look fr 10=.pv (.int .i64 x.b9.length)->look fr 11=.pv (.int .i64 i)->Wp T false (.loop yx) ⟨fr,hp,nx⟩ Q:=by
 intro rest;induction rest with
 |nil =>
  intro i acc hd hi ho fr hp nx ie h3 b1 h5 h9 h10 h11;have hlen:=drop_nil hd hi;simp only[iy,fb]at ho;rw[az,aY yx.eq_1];simp only[ae,ag,aa,Nat.reduceEqDiff,Nat.reduceAdd,reduceCtorEq,Int.reduceToNat,Nat.reduceMul,Nat.reduceLT,Int.reduceNeg,Int.reduceLE,Int.reduceLT,Int.reduceEq,Nat.reduceLeDiff,List.drop,List.take,h9,h10,h11,hlen,aP];exact bS _ _ _ (by simp only[aj,Nat.reduceEqDiff];rw[h5,ho])
 |cons w r ih =>
  intro i acc hd hi ho fr hp nx ie h3 b1 h5 h9 h10 h11;obtain⟨aN,hlt,hw,dh,cW,hb⟩:=drop_cons hd (by omega);have n1:¬nx=1:=by omega
  have m1:¬nx+1=1:=by omega
  have C7:acc+1<=2^30:=by
   have h1:=vH t.pods x.b9;omega
  have UQ:IntKind.i64.wrap ((acc:Int)+1)=((acc+1:Nat):Int):=by rw[dS] <;>omega
  have k:=Am S.s5 S.w8 S.K3 ⟨[w],0,0⟩ t (by simp) (by omega);simp only[bg,aw,dg,aX,aC,bL,bV,bB]at k;simp only[iy]at ho;rw[az,aY yx.eq_1];cases hm:lk w t.pods with
  |true =>
   rw[hm]at k ho;simp only[cj]at k;simp only[ae,ag,aa,Nat.reduceEqDiff,Nat.reduceAdd,reduceCtorEq,Int.reduceToNat,Nat.reduceMul,Nat.reduceLT,Int.reduceNeg,Int.reduceLE,Int.reduceLT,Int.reduceEq,Nat.reduceLeDiff,List.drop,List.take,bt,dV,chunk,cn,bL,bV,h3,b1,h5,h9,h10,h11,hlt,aN,cj,n1,m1,k.sF S.Lm rfl,hw];refine ih (i+1) acc dh cW (by simpa using ho) _ _ _ (by omega) ?_ ?_ ?_ ?_ ?_ ?_
   all_goals try simp only[aj,Nat.reduceEqDiff,h3,b1,h5,h9,h10,n1,m1]
  |false =>
   rw[hm]at k ho;simp only[cj]at k;simp only[ae,ag,aa,Nat.reduceEqDiff,Nat.reduceAdd,reduceCtorEq,Int.reduceToNat,Nat.reduceMul,Nat.reduceLT,Int.reduceNeg,Int.reduceLE,Int.reduceLT,Int.reduceEq,Nat.reduceLeDiff,List.drop,List.take,bt,dV,chunk,cn,bL,bV,h3,b1,h5,h9,h10,h11,hlt,aN,cj,n1,m1,k.sF S.Lm rfl,hw,UQ];refine ih (i+1) (acc+1) dh cW (by simp only[bA,aJ]at ho;omega) _ _ _ (by omega) ?_ ?_ ?_ ?_ ?_ ?_
   all_goals try simp only[aj,Nat.reduceEqDiff,h3,b1,h5,h9,h10,n1,m1]
def la(x:Spec)(t:State):Nat:=(iy t.pods x.b9+1)/2
theorem Mf(S:Gf T)(x:Spec)(t:State)(hx:x.b9.length<=2^29)(hl:t.pods.length<=2^29):ba T 211 [bg x,aw t] (.int .i64 (la x t:Nat)):=by
 refine gives S.Rp rfl ?_;simp only[f211,ae,ag,aa,Nat.reduceEqDiff,Nat.reduceAdd,reduceCtorEq,Int.reduceToNat,Nat.reduceMul,Nat.reduceLT,Int.reduceNeg,Int.reduceLE,Int.reduceLT,Int.reduceEq,Nat.reduceLeDiff,List.drop,List.take,bg,aw];refine H0 S x t hx hl _ (fun fr hp nx h5=>?_) x.b9 0 0 rfl (aO _) (aM _) _ _ _ (ax _) rfl rfl rfl rfl rfl rfl;have hle:=vH t.pods x.b9;have hw:IntKind.i64.wrap (((iy t.pods x.b9:Nat):Int)+1)=((iy t.pods x.b9+1:Nat):Int):=by rw[dS] <;>omega
 have hq:((iy t.pods x.b9+1:Nat):Int).tdiv 2=((la x t:Nat):Int):=by
  unfold la;rw[Int.tdiv_eq_ediv_of_nonneg (by omega)];omega
 have Qp:((iy t.pods x.b9+1:Nat):Int).tdiv (Int.ofNat 2)=((la x t:Nat):Int):=hq;have MQ:IntKind.i64.wrap ((la x t:Nat):Int)=((la x t:Nat):Int):=by
  have:la x t<=2^30:=by unfold la;omega
  rw[dS] <;>omega
 simp only[ae,ag,aa,Nat.reduceEqDiff,Nat.reduceAdd,reduceCtorEq,Int.reduceToNat,Nat.reduceMul,Nat.reduceLT,Int.reduceNeg,Int.reduceLE,Int.reduceLT,Int.reduceEq,Nat.reduceLeDiff,List.drop,List.take,h5,hw,Eo,Qp,MQ]
end
end
section
def eB:State:=⟨[],0,0⟩
def dE(s:bc)(x:Spec):List Move->State->Nat->State×Nat×Option Int
 |[],t,i=>(t,i,none)
 |m::r,t,i=>match oq s x t m with
  | .inl c=>(t,i,some c)
  | .inr u=>dE s x r u (i+1)
theorem ug{s:bc}{x:Spec}{t u:State}{m:Move}(h:oq s x t m=.inr u):bP s x t m=.inr u/\gG (qo s x u)=true:=by
 unfold oq at h;split at h
 ·simp at h
 ·rename_i v hv;split at h
  ·split at h
   ·rename_i hw;simp only[eX]at h;subst h;exact⟨hv,hw⟩
   ·simp at h
  ·simp at h
section
variable{T:cK}
end
end
section
/-! ### What a move leaves as it Vk -/
theorem kN(id:Int):∀(l:List dm) (i:Nat) (p q:dm),l[i]? =some p->q.id=p.id->id≠p.id->eS id (l.set i q)=eS id l
 |[],i,p,q,h,_,_=>by simp at h
 |a::r,0,p,q,h,h1,h2=>by
  simp at h;subst h;have e1:¬q.id=id:=by rw[h1];exact fun h=>h2 h.symm
  have e2:¬a.id=id:=fun h=>h2 h.symm;simp[eS,e1,e2]
 |a::r,i+1,p,q,h,h1,h2=>by
  have:=kN id r i p q (by simpa using h) h1 h2;unfold eS at this⊢;rw[List.set_cons_succ,List.find?_cons,List.find?_cons,this]
theorem oL{id:Int}{l:List dm}{p:dm}(h:eS id l=some p):p.id=id:=by
 have:=List.find?_some h;simpa using this
theorem xS(x:Spec)(p:dm)(n:Int):(eJ x p n).id=p.id:=by
 unfold eJ;split
 ·split <;>rfl
 ·rfl
theorem Cz(s:bc)(x:Spec)(t u:State)(m:Move)(h:bP s x t m=.inr u)(id:Int)(h1:id≠m.eP)(h2:id≠m.over):eS id u.pods=eS id t.pods:=by
 unfold bP at h;split at h
 ·simp at h
 ·split at h
  ·simp at h
  ·split at h
   ·simp at h
   ·split at h
    ·simp at h
    ·rename_i hi qW ho;obtain⟨j,hj⟩:∃j:Nat,bw m.eP 0 t.pods=(j:Int):=⟨(bw m.eP 0 t.pods).toNat,by omega⟩;obtain⟨p,g1,g2,g3⟩:=iA hj;have pF:=oL g2;rw[hj]at h;simp only[bY,g1]at h;by_cases k2:m.kind=2
     ·rw[aW k2]at h;split at h
      ·simp at h
      ·simp only[eX]at h;subst h;exact kN id _ _ _ _ g1 rfl (by rw[pF];exact h1)
     ·rw[ar k2]at h;split at h
      ·split at h
       ·simp at h
       ·split at h
        ·simp at h
        ·simp only[eX]at h;subst h;exact kN id _ _ _ _ g1 (xS ..) (by rw[pF];exact h1)
      ·split at h
       ·rename_i k4;have P8:¬bw m.over 0 t.pods<0:=fun hh=>ho ⟨k4,hh⟩;obtain⟨k,hk⟩:∃k:Nat,bw m.over 0 t.pods=(k:Int):=⟨(bw m.over 0 t.pods).toNat,by omega⟩;obtain⟨q,f1,f2,f3⟩:=iA hk;have S6:=oL f2;rw[hk]at h;simp only[bY,f1]at h;split at h
        ·simp at h
        ·rename_i c0;split at h
         ·simp at h
         ·split at h
          ·simp at h
          ·simp only[eX]at h;subst h;rw[kN id _ j p _ (by rw[List.getElem?_set_ne (fun h=>c0 h.symm)];exact g1) (xS ..) (by rw[pF];exact h1)];exact kN id _ _ _ _ f1 rfl (by rw[S6];exact h2)
       ·split at h
        ·simp at h
        ·simp only[eX]at h;subst h;exact kN id _ _ _ _ g1 (xS ..) (by rw[pF];exact h1)
/-! ### M3 b9 -/
def lE:List Want->Prop
 |[]=>True
 |[_]=>True
 |a::b::r=>a.eP<b.eP/\lE (b::r)
theorem xi:∀(a:Want) (r:List Want),lE (a::r)->∀v∈r,a.eP<v.eP
 |a,[],_,v,hv=>by simp at hv
 |a,b::r,h,v,hv=>by
  rcases aQ.1 hv with rfl|hv
  ·exact h.1
  ·have:=xi b r h.2 v hv;have:=h.1;omega
theorem B9{a:Want}{r:List Want}(h:lE (a::r)):lE r:=by
 cases r with
 |nil=>trivial
 |cons b r=>exact h.2
def A3(a:Int):List Want->Nat
 |[]=>0
 |w::r=>(if w.eP=a then 1 else 0)+A3 a r
theorem wJ(a:Int):∀(r:List Want),(∀v∈r,a<v.eP)->A3 a r=0
 |[],_=>rfl
 |w::r,h=>by
  have h1:=h w (bN ..);have h2:=wJ a r fun v hv=>h v (bd _ hv);simp only[A3,h2];rw[ar (by omega)]
theorem xR(a:Int):∀(ws:List Want),lE ws->A3 a ws<=1
 |[],_=>aO _
 |w::r,h=>by
  have h1:=xR a r (B9 h);simp only[A3];split
  ·rename_i e;have:=wJ a r fun v hv=>by
    have:=xi w r h v hv;omega
   omega
  ·omega
theorem vI(l l':List dm)(a b:Int)(h:∀id,id≠a->id≠b->eS id l'=eS id l):∀(ws:List Want),iy l ws<=iy l' ws+(A3 a ws+A3 b ws)
 |[]=>ax _
 |w::r=>by
  have ih:=vI l l' a b h r;simp only[iy,A3];by_cases ha:w.eP=a
  ·rw[aW ha]
   repeat' split
   all_goals omega
  ·by_cases hb:w.eP=b
   ·rw[aW hb]
    repeat' split
    all_goals omega
   ·have:lk w l'=lk w l:=by simp only[lk,h w.eP ha hb]
    rw[this,ar ha,ar hb];omega
theorem vG(l:List dm):∀(ws:List Want),(iy l ws=0)=(dg ws l=true)
 |[]=>by simp[iy,dg]
 |w::r=>by
  have ih:=vG l r;simp only[dg]at ih;cases hm:lk w l with
  |true=>simp[iy,dg,hm,ih]
  |false=>simp[iy,dg,hm]
theorem Ag(x:Spec)(t:State):decide (la x t=0)=dg x.b9 t.pods:=by
 have h:=vG t.pods x.b9;have e:(la x t=0)=(iy t.pods x.b9=0):=by
  unfold la;apply propext;omega
 cases hg:dg x.b9 t.pods with
 |true=>rw[hg]at h;simp[e,h]
 |false=>rw[hg]at h;simp[e,h]
theorem H2(s:bc)(x:Spec)(t u:State)(m:Move)(hr:lE x.b9)(h:bP s x t m=.inr u):la x t<=la x u+1:=by
 have h1:=vI t.pods u.pods m.eP m.over (fun id a b=>Cz s x t u m h id a b) x.b9;have h2:=xR m.eP x.b9 hr;have h3:=xR m.over x.b9 hr;unfold la;omega
/-! ### The walk -/
section
variable{T:cK}
end
end
theorem xL(l:List Move):cn 4 (l.map bK)=true:=by
 induction l with
 |nil=>rfl
 |cons m r ih=>exact ih
section
/-! ### The plain law -/
theorem Md(q:Int×Int):vT (mG (some q))/\mG (some q)≠ .dI:=by
 obtain⟨c,a⟩:=q;unfold mG;by_cases h:a<0
 ·simp only[aW h];exact⟨.inr (.inr ⟨_,rfl⟩),by simp[ct]⟩
 ·simp only[ar h];exact⟨.inr (.inl ⟨_,_,rfl⟩),by simp[ix]⟩
/-! ### The walk -/
end
def xW:bx :=
(.seq (.seq (.ops [
aq 5 4 [],
aq 6 0 [],
fT 7 6 [1],
dX 8 .lss 5 7 [0,2]])
(.cond (.t 8)
.skip
(.exit 0)))
(.seq (.block 1
(.ops [
aq 11 3 [],
aq 12 0 [],
aq 13 4 [],
fw 14 1 12 13 [1,2],
bR 15 1 14 [3],
aR 16 (.call 150 [.t 15]) [4],
aR 17 (.append 1 1 (.t 11) (.t 16)) [0,5,5],
aq 3 17 [6,6,0,1,2,3,4,5,6]]))
(.ops [
aq 9 4 [],
cM 10 .add 9 1 [0],
aq 4 10 [1,0,1]])))
def f148:bf:=⟨19,[.t 2],
(.seq (.ops [
aR 2 (.mv (.c .bu)) []])
(.seq (.ops [
aR 3 (.mv (.c .bu)) []])
(.seq (.seq (.ops [
cR 4 0 []])
(.block 0
(.loop xW)))
(.seq (.ops [
aq 18 3 [],
aq 2 18 [0,0]])
.ret))))⟩
def BX:bx :=
(.seq (.seq (.ops [
aq 4 0 [],
aR 5 (.bin .gtr none (.t 4) (.c (.pv (.int .u64 127)))) [0]])
(.cond (.t 5)
.skip
(.exit 0)))
(.block 1
(.seq (.ops [
aq 6 3 [],
aq 7 0 [],
aR 8 (.bin .rem none (.t 7) (.c (.pv (.int .u64 128)))) [1],
aR 9 (.conv .u8 (.t 8)) [2],
aR 10 (.bin .add none (.t 9) (.c (.pv (.int .u8 128)))) [3],
aR 11 (.cr 1 1 [.pv (.int .u8 0)] [(0,1,(.t 10))]) [4],
aR 12 (.append 1 1 (.t 6) (.t 11)) [0,5],
aq 3 12 [6,6,0,1,2,3,4,5,6]])
(.ops [
aq 13 0 [],
aR 14 (.bin .quo none (.t 13) (.c (.pv (.int .u64 128)))) [0],
aq 0 14 [1,0,1]]))))
def f150:bf:=⟨20,[.t 2],
(.seq (.ops [
aR 2 (.mv (.c .bu)) []])
(.seq (.ops [
aR 3 (.mv (.c .bu)) []])
(.seq (.block 0
(.loop BX))
(.seq (.ops [
aq 15 3 [],
aq 16 0 [],
aR 17 (.conv .u8 (.t 16)) [1],
aR 18 (.cr 1 1 [.pv (.int .u8 0)] [(0,1,(.t 17))]) [2],
aR 19 (.append 1 1 (.t 15) (.t 18)) [0,3],
aq 2 19 [4,4,0,1,2,3,4]])
.ret))))⟩
def BZ:bx :=
(.seq (.seq (.ops [
aq 12 5 [],
aR 13 (.bin .geq none (.t 12) (.c (.pv (.int .u64 128)))) [0]])
(.cond (.t 13)
.skip
(.exit 2)))
(.seq (.block 3
(.ops [
aq 16 3 [],
aq 17 5 [],
aR 18 (.conv .u8 (.t 17)) [1],
aR 19 (.bin .or none (.t 18) (.c (.pv (.int .u8 128)))) [2],
aR 20 (.cr 1 1 [.pv (.int .u8 0)] [(0,1,(.t 19))]) [3],
aR 21 (.append 1 1 (.t 16) (.t 20)) [0,4],
aq 3 21 [5,5,0,1,2,3,4,5]]))
(.ops [
aq 14 5 [],
aR 15 (.bin .shr none (.t 14) (.c (.pv (.int .u64 7)))) [0],
aq 5 15 [1,0,1]])))
def yI:bx :=
(.seq (.ops [
dX 9 .lss 8 7 []])
(.seq (.cond (.t 9)
.skip
(.exit 0))
(.seq (.block 1
(.seq (.ops [
fw 10 1 6 8 [],
bR 11 1 10 [0],
aq 5 11 [1,0,1]])
(.seq (.block 2
(.loop BZ))
(.ops [
aq 22 3 [],
aq 23 5 [],
aR 24 (.conv .u8 (.t 23)) [1],
aR 25 (.cr 1 1 [.pv (.int .u8 0)] [(0,1,(.t 24))]) [2],
aR 26 (.append 1 1 (.t 22) (.t 25)) [0,3],
aq 3 26 [4,4,0,1,2,3,4]]))))
(.ops [
cM 27 .add 8 1 [],
aq 8 27 [0]]))))
def f264:bf:=⟨29,[.t 2],
(.seq (.ops [
aR 2 (.mv (.c .bu)) []])
(.seq (.ops [
aR 3 (.mv (.c .bu)) []])
(.seq (.seq (.ops [
aq 6 0 [],
fT 7 6 [0],
cR 8 0 []])
(.block 0
(.loop yI)))
(.seq (.ops [
aq 28 3 [],
aq 2 28 [0,0]])
.ret))))⟩
section
def pG(n:Nat):List PV:=[.int .u64 (n:Int)]
def sW(n:Nat):List PV:=[.int .u8 (n:Int)]
def wy(l:List Nat):PV:=.slice (l.map pG)
def nf(l:List Nat):PV:=.slice (l.map sW)
def Ji(l:List Nat):Prop:=∀n∈l,n<18446744073709551616
def U8(l:List Nat):Prop:=∀n∈l,n<256
/-! ### A PB bytes -/
def iQ(n:Nat):List Nat:=if n<128 then [n]else(n % 128+128)::iQ (n/128)
termination_by n
decreasing_by omega
theorem nB{n:Nat}(h:n<128):iQ n=[n]:=by rw[iQ,aW h]
theorem pn{n:Nat}(h:¬n<128):iQ n=(n % 128+128)::iQ (n/128):=by rw[iQ,ar h]
def jg:List Nat->List Nat
 |[]=>[]
 |n::r=>iQ n++jg r
theorem KK:∀n:Nat,U8 (iQ n):=by
 intro n;induction n using Nat.strongRecOn with
 |_ n ih =>
  by_cases h:n<128
  ·rw[nB h];intro m hm;simp at hm;omega
  ·rw[pn h];intro m hm;rcases aQ.1 hm with rfl|hm
   ·omega
   ·exact ih (n/128) (by omega) m hm
theorem tB:∀l:List Nat,U8 (jg l)
 |[]=>fun m hm=>by simp[jg]at hm
 |n::r=>fun m hm=>by
  simp only[jg,cq]at hm;rcases hm with hm|hm
  ·exact KK n m hm
  ·exact tB r m hm
theorem DZ(n:Nat):iQ n≠[]:=by
 by_cases h:n<128
 ·rw[nB h];simp
 ·rw[pn h];simp
theorem KJ:∀(k n:Nat),n<128^(k+1)->(iQ n).length<=k+1:=by
 intro k;induction k with
 |zero =>
  intro n h;rw[nB (by simpa using h)];exact ax _
 |succ k ih =>
  intro n h2;by_cases h3:n<128
  ·rw[nB h3];simp
  ·rw[pn h3,ay];have:=ih (n/128) (by
    rw[Nat.div_lt_iff_lt_mul (by omega)];rw[Nat.pow_succ]at h2;exact h2)
   omega
theorem vl{n:Nat}(h:n<18446744073709551616):(iQ n).length<=10:=KJ 9 n (by simp;omega)
theorem oM:∀l:List Nat,Ji l->(jg l).length<=10*l.length
 |[],_=>by simp[jg]
 |n::r,h=>by
  have h1:=vl (h n (bN ..));have h2:=oM r fun m hm=>h m (bd _ hm);simp only[jg,aG,ay];omega
/-! ### The uh -/
theorem O8(n:Nat):(n:Int).tmod (Int.ofNat 128)=((n % 128:Nat):Int):=by
 rw[Int.tmod_eq_emod_of_nonneg (by omega)];show(n:Int) % 128=_;omega
theorem O7(n:Nat):(n:Int).tdiv (Int.ofNat 128)=((n/128:Nat):Int):=by
 rw[Int.tdiv_eq_ediv_of_nonneg (by omega)];show(n:Int)/128=_;omega
section
variable{T:cK}
theorem CH(gU:List Nat)(MM:gU.length<=100)(Q:Exit->St->Prop)
    (bS:∀fr hp nx (n:Nat) acc,n<128->look fr 0=.pv (.int .u64 n)->fo (look fr 3) hp 1 (acc.map sW) 0 nx->acc++[n]=gU->Q (.exit 0) ⟨fr,hp,nx⟩) :
    ∀(n:Nat) (acc:List Nat),n<18446744073709551616->acc++iQ n=gU->∀(fr:List (Nat×AV)) (hp:Hl) (nx:Nat),look fr 0=.pv (.int .u64 n)->fo (look fr 3) hp 1 (acc.map sW) 0 nx->Wp T false (.loop BX) ⟨fr,hp,nx⟩ Q:=by
 intro n;induction n using Nat.strongRecOn with
 |_ n ih =>
  intro acc hn ho fr hp nx h0 h3;have hlen:acc.length+1<=100:=by
   have:=da List.length ho;have h2:0<(iQ n).length:=zF.2 (DZ n);rw[aG]at this;omega
  rw[az,aY BX.eq_1];by_cases hc:n<128
  ·have wb:¬(127:Int)<n:=by omega
   rw[nB hc]at ho;simp only[ae,ag,aa,Nat.reduceEqDiff,Nat.reduceAdd,reduceCtorEq,Int.reduceToNat,Nat.reduceMul,Nat.reduceLT,Int.reduceNeg,Int.reduceLE,Int.reduceLT,Int.reduceEq,Nat.reduceLeDiff,List.drop,List.take,h0,wb];refine bS _ _ _ n acc hc ?_ ?_ ho
   all_goals simp only[bH,Nat.reduceEqDiff,aJ,h0,h3]
  ·have wb:(127:Int)<n:=by omega
   rw[pn hc]at ho;have w1:IntKind.u8.wrap ((n % 128:Nat):Int)=((n % 128:Nat):Int):=E7 (by omega) (by omega);have w2:IntKind.u8.wrap (((n % 128:Nat):Int)+128)=((n % 128+128:Nat):Int):=by rw[E7 (by omega) (by omega)];omega
   have w3:IntKind.u64.wrap ((n/128:Nat):Int)=((n/128:Nat):Int):=zw (by omega) (by omega);have w0:IntKind.u64.wrap ((n % 128:Nat):Int)=((n % 128:Nat):Int):=zw (by omega) (by omega);obtain⟨v',W,k,a1,a2,a3⟩:=h3.mh (aO _) (sW (n % 128+128)) (by rw[al];omega);simp only[sW]at a1 a3;simp only[ae,ag,aa,Nat.reduceEqDiff,Nat.reduceAdd,reduceCtorEq,Int.reduceToNat,Nat.reduceMul,Nat.reduceLT,Int.reduceNeg,Int.reduceLE,Int.reduceLT,Int.reduceEq,Nat.reduceLeDiff,List.drop,List.take,h0,wb,O8,O7,w0,w1,w2,w3,bt,dV,chunk,cn,bL,bV,a1];refine ih (n/128) (by omega) (acc++[n % 128+128]) (by omega) (by rw[<-ho];simp) _ _ _ ?_ ?_
   ·simp only[aj,Nat.reduceEqDiff]
   ·simp only[aj,Nat.reduceEqDiff];simpa only[bh,aX,aC,sW]using a3
theorem I6(h:Std T 150 f150)(n:Nat)(hn:n<18446744073709551616):ba T 150 [.int .u64 n] (nf (iQ n)):=by
 refine gives h rfl ?_;simp only[f150,ae,ag,aa,Nat.reduceEqDiff,Nat.reduceAdd,reduceCtorEq,Int.reduceToNat,Nat.reduceMul,Nat.reduceLT,Int.reduceNeg,Int.reduceLE,Int.reduceLT,Int.reduceEq,Nat.reduceLeDiff,List.drop,List.take];refine CH (iQ n) (cG (vl hn) (by omega)) _ (fun fr hp nx m acc hm h0 h3 ho=>?_) n [] hn rfl _ _ _ rfl fo.nil;have w:IntKind.u8.wrap (m:Int)=m:=E7 (by omega) (by omega);have hlen:acc.length+1<=10:=by
  have:=da List.length ho;have h2:=vl hn;rw[aG]at this;simp at this;omega
 obtain⟨v',W,k,a1,a2,a3⟩:=h3.mh (aO _) (sW m) (by rw[al];omega);have a4:=a3.snap;simp only[sW]at a1 a4;simp only[ae,ag,aa,Nat.reduceEqDiff,Nat.reduceAdd,reduceCtorEq,Int.reduceToNat,Nat.reduceMul,Nat.reduceLT,Int.reduceNeg,Int.reduceLE,Int.reduceLT,Int.reduceEq,Nat.reduceLeDiff,List.drop,List.take,h0,w,bt,dV,chunk,cn,bL,bV,a1,a4];rw[<-ho];simp only[nf,bh,aX,aC,sW]
end
end
section
section
variable{T:cK}
theorem FC(Ha:Std T 150 f150)(l:List Nat)(hu:Ji l)(hl:l.length<=1000000)(Q:Exit->St->Prop)
    (bS:∀fr hp nx,fo (look fr 3) hp 1 ((jg l).map sW) 0 nx->Q (.exit 0) ⟨fr,hp,nx⟩) :
    ∀(rest:List Nat) (i:Nat) (acc:List Nat),l.drop i=rest->i<=l.length->acc++jg rest=jg l->∀(fr:List (Nat×AV)) (hp:Hl) (nx:Nat),look fr 0=.pv (wy l)->look fr 4=.pv (.int .i64 i) ->
     fo (look fr 3) hp 1 (acc.map sW) 0 nx->Wp T false (.loop xW) ⟨fr,hp,nx⟩ Q:=by
 intro rest;induction rest with
 |nil =>
  intro i acc hd hi ho fr hp nx h0 h4 h3;have hlen:=drop_nil hd hi;simp only[jg,bG]at ho;subst ho;rw[az,aY xW.eq_1];simp only[rL',aa,simprocAttr,h0,h4,wy,hlen,aP];exact bS _ _ _ (by simp only[aj,Nat.reduceEqDiff];exact h3)
 |cons n r ih =>
  intro i acc hd hi ho fr hp nx h0 h4 h3;obtain⟨aN,hlt,hw,dh,cW,hb⟩:=drop_cons hd (by omega);have hn:n<18446744073709551616:=hu n (M1.2 ⟨i,aN⟩);have k:=I6 Ha n hn;have hlen:acc.length+(iQ n).length<=2^30:=by
   have h1:=da List.length ho;have h2:=oM l hu;simp only[jg,aG]at h1;omega
  obtain⟨v',W,m,a1,a2,a3⟩:=h3.app (aO _) ((iQ n).map sW) (by rw[al,al];exact hlen);have hall:cn 1 ((iQ n).map sW)=true:=by simp[cn,sW]
  rw[az,aY xW.eq_1];simp only[rL',aa,simprocAttr,h0,h4,wy,hlt,aN,pG,k.call,nf,dV,hall,a1,hw];refine ih (i+1) (acc++iQ n) dh cW (by rw[<-ho];simp[jg]) _ _ _ ?_ ?_ ?_
  ·simp only[aj,Nat.reduceEqDiff,h0]
  ·simp only[aj,Nat.reduceEqDiff]
  ·simp only[aj,Nat.reduceEqDiff,bh];exact a3
theorem KL(Ha:Std T 150 f150)(Mh:Std T 148 f148)(l:List Nat)(hu:Ji l)(hl:l.length<=1000000):ba T 148 [wy l] (nf (jg l)):=by
 refine gives Mh rfl ?_;simp only[f148,rL',aa,simprocAttr];refine FC Ha l hu hl _ (fun fr hp nx h3=>?_) l 0 [] rfl (aO _) rfl _ _ _ rfl rfl fo.nil;simp only[rL',aa,simprocAttr,h3.snap,nf]
theorem QR:∀m:Fin 256,IntKind.u8.wrap ((BitVec.ofInt IntKind.u8.bits ((m.val:Nat):Int) ||| BitVec.ofInt IntKind.u8.bits 128).toNat:Int)=((m.val % 128+128:Nat):Int):=by decide +kernel
theorem O9(n:Nat):IntKind.u8.wrap ((BitVec.ofInt IntKind.u8.bits (IntKind.u8.wrap (n:Int)) ||| BitVec.ofInt IntKind.u8.bits 128).toNat:Int)=((n % 128+128:Nat):Int):=by
 have:=QR ⟨n % 256,by omega⟩;simp only at this;rw[FZ (n:Int),show(n:Int) % 256=((n % 256:Nat):Int) by omega,this];omega
theorem Oa(n:Nat):(n:Int).fdiv (2^(min 7 IntKind.u64.bits))=((n/128:Nat):Int):=by
 show(n:Int).fdiv (2^7)=_;rw[Int.fdiv_eq_ediv_of_nonneg _ (by decide)];show(n:Int)/128=_;omega
theorem FB(gU:List Nat)(MM:gU.length<=20000000)(Q:Exit->St->Prop)(fr0:List (Nat×AV))
    (bS:∀fr hp nx (n:Nat) acc,n<128->look fr 5=.pv (.int .u64 n)->look fr 6=look fr0 6->look fr 7=look fr0 7->look fr 8=look fr0 8->fo (look fr 3) hp 1 (acc.map sW) 0 nx->acc++[n]=gU->Q (.exit 2) ⟨fr,hp,nx⟩) :
    ∀(n:Nat) (acc:List Nat),n<18446744073709551616->acc++iQ n=gU->∀(fr:List (Nat×AV)) (hp:Hl) (nx:Nat),look fr 5=.pv (.int .u64 n)->look fr 6=look fr0 6->look fr 7=look fr0 7->look fr 8=look fr0 8->fo (look fr 3) hp 1 (acc.map sW) 0 nx ->
     Wp T false (.loop BZ) ⟨fr,hp,nx⟩ Q:=by
 intro n;induction n using Nat.strongRecOn with
 |_ n ih =>
  intro acc hn ho fr hp nx h5 h6 h7 h8 h3;have hlen:acc.length+1<=20000000:=by
   have:=da List.length ho;have h2:0<(iQ n).length:=zF.2 (DZ n);rw[aG]at this;omega
  rw[az,aY BZ.eq_1];by_cases hc:n<128
  ·have wb:¬(128:Int)<=n:=by omega
   rw[nB hc]at ho;simp only[rL',aa,simprocAttr,h5,wb];refine bS _ _ _ n acc hc ?_ ?_ ?_ ?_ ?_ ho
   all_goals try simp only[aj,Nat.reduceEqDiff,h5,h6,h7,h8,h3]
  ·have wb:(128:Int)<=n:=by omega
   rw[pn hc]at ho;have w3:IntKind.u64.wrap ((n/128:Nat):Int)=((n/128:Nat):Int):=zw (by omega) (by omega);obtain⟨v',W,k,a1,a2,a3⟩:=h3.mh (aO _) (sW (n % 128+128)) (by rw[al];omega);simp only[sW]at a1 a3;simp only[rL',aa,simprocAttr,h5,wb,O9,Oa,w3,bt,dV,chunk,cn,bL,bV,a1];refine ih (n/128) (by omega) (acc++[n % 128+128]) (by omega) (by rw[<-ho];simp) _ _ _ ?_ ?_ ?_ ?_ ?_
   all_goals try simp only[aj,Nat.reduceEqDiff,h6,h7,h8]
   simpa only[bh,aX,aC,sW]using a3
theorem I9(l:List Nat)(hu:Ji l)(hl:l.length<=1000000)(Q:Exit->St->Prop)
    (bS:∀fr hp nx,fo (look fr 3) hp 1 ((jg l).map sW) 0 nx->Q (.exit 0) ⟨fr,hp,nx⟩) :
    ∀(rest:List Nat) (i:Nat) (acc:List Nat),l.drop i=rest->i<=l.length->acc++jg rest=jg l->∀(fr:List (Nat×AV)) (hp:Hl) (nx:Nat),look fr 6=.pv (wy l)->look fr 7=.pv (.int .i64 l.length)->look fr 8=.pv (.int .i64 i) ->
     fo (look fr 3) hp 1 (acc.map sW) 0 nx->Wp T false (.loop yI) ⟨fr,hp,nx⟩ Q:=by
 intro rest;induction rest with
 |nil =>
  intro i acc hd hi ho fr hp nx h6 h7 h8 h3;have hlen:=drop_nil hd hi;simp only[jg,bG]at ho;subst ho;rw[az,aY yI.eq_1];simp only[rL',aa,simprocAttr,h6,h7,h8,hlen,aP];exact bS _ _ _ (by simp only[aj,Nat.reduceEqDiff];exact h3)
 |cons n r ih =>
  intro i acc hd hi ho fr hp nx h6 h7 h8 h3;obtain⟨aN,hlt,hw,dh,cW,hb⟩:=drop_cons hd (by omega);have hn:n<18446744073709551616:=hu n (M1.2 ⟨i,aN⟩);have hlen:(acc++iQ n).length<=10000000:=by
   have h1:=da List.length ho;have h2:=oM l hu;simp only[jg,aG]at h1⊢;omega
  rw[az,aY yI.eq_1];simp only[rL',aa,simprocAttr,h6,h7,h8,wy,hlt,aN,pG];refine FB (acc++iQ n) (by omega) _ fr (fun fG hp' cC m QM hm g5 g6 g7 g8 g3 go=>?_) n acc hn rfl _ _ _ ?_ ?_ ?_ ?_ ?_
  ·have w:IntKind.u8.wrap (m:Int)=m:=E7 (by omega) (by omega);have Tk:QM.length+1<=10000000:=by
    have:=da List.length go;simp only[aG,ay,bM]at this hlen;omega
   obtain⟨v',W,k,a1,a2,a3⟩:=g3.mh (aO _) (sW m) (by rw[al];omega);simp only[sW]at a1 a3;rw[h6]at g6;rw[h7]at g7;rw[h8]at g8;simp only[rL',aa,simprocAttr,g5,g8,w,bt,dV,chunk,cn,bL,bV,a1,hw];refine ih (i+1) (acc++iQ n) dh cW (by rw[<-ho];simp[jg]) _ _ _ ?_ ?_ ?_ ?_
   all_goals try simp only[aj,Nat.reduceEqDiff,g6,g7]
   rw[<-go];simpa only[bh,aX,aC,sW]using a3
  all_goals try simp only[aj,Nat.reduceEqDiff,h6,h7,h8,h3]
theorem N6(F0:Std T 264 f264)(l:List Nat)(hu:Ji l)(hl:l.length<=1000000):ba T 264 [wy l] (nf (jg l)):=by
 refine gives F0 rfl ?_;simp only[f264,rL',aa,simprocAttr,wy];refine I9 l hu hl _ (fun fr hp nx h3=>?_) l 0 [] rfl (aO _) rfl _ _ _ ?_ ?_ ?_ ?_
 ·simp only[rL',aa,simprocAttr,h3.snap,nf]
 ·rfl
 ·rfl
 ·rfl
 ·exact fo.nil
end
end
section
def rd:Nat->Nat->List Nat->Option (Nat×Nat)
 |_,_,[]=>none
 |k,n,x::r=>if 10<=k\/(k=9/\1<x)\/(0<k/\x=0)then none else if x<128 then some (n+x*128^k,k+1)else rd (k+1) (n+x % 128*128^k) r
def PQ(l:List Nat):Option (Nat×Nat):=rd 0 0 l
theorem vj(k:Nat):128^(k+1)=128^k*128:=Nat.pow_succ ..
theorem LR:∀(l:List Nat) (k n v c:Nat),U8 l->n<128^k->rd k n l=some (v,c)->v<18446744073709551616/\k<c/\c<=k+l.length/\c<=10
 |[],k,n,v,c,_,_,h=>by simp[rd]at h
 |x::r,k,n,v,c,hu,hn,h=>by
  have hx:x<256:=hu x (bN ..);simp only[rd]at h;split at h
  ·simp at h
  ·rename_i hc;simp only[not_or,not_and,Nat.not_lt,Nat.not_le]at hc;obtain⟨c1,c2,c3⟩:=hc;split at h
   ·rename_i h1;simp only[ai,aZ]at h;obtain⟨rfl,rfl⟩:=h;refine⟨?_,by omega,by simp,by omega⟩;by_cases h9:k=9
    ·subst h9;have:=c2 rfl;have:x*128^9<=1*128^9:=cQ _ this;omega
    ·have h3:x*128^k<=127*128^k:=cQ _ (by omega);have h4:128^k<=128^8:=Nat.pow_le_pow_right (by omega) (by omega);omega
   ·have h3:x % 128*128^k<=127*128^k:=cQ _ (by omega);have:=LR r (k+1) _ v c (fun y hy=>hu y (bd _ hy)) (by rw[vj];omega) h;simp only[ay];omega
section
variable{T:cK}
end
end
section
theorem N9{l:List Nat}{v c:Nat}(hu:U8 l)(h:PQ l=some (v,c)):v<18446744073709551616/\0<c/\c<=l.length/\c<=10:=by
 obtain⟨h1,h2,h3,h4⟩:=LR l 0 0 v c hu (by simp) h;exact⟨h1,h2,by omega,h4⟩
def zQ(l:List Nat):Sum Nat (List Nat) :=
 if h:l=[]then .inr []else match PQ l with
  |none=>.inl 0
  |some (v,c)=>match zQ (l.drop (c-1+1))with
   | .inl e=>.inl (c+e)
   | .inr r=>.inr (v::r)
termination_by l.length
decreasing_by
 have:0<l.length:=zF.2 h;simp;omega
def Pt(a:Nat)(acc:List Nat):Sum Nat (List Nat)->Sum Nat (List Nat)
 | .inl e=>.inl (a+e)
 | .inr r=>.inr (acc++r)
theorem Gq:zQ []=.inr []:=by rw[zQ,dif_pos rfl]
theorem Ei{l:List Nat}(hu:U8 l){v c:Nat}(hr:PQ l=some (v,c)):zQ l=Pt c [v] (zQ (l.drop c)):=by
 obtain⟨h1,h2,h3,h4⟩:=N9 hu hr;have eA:l≠[]:=by
  intro h;subst h;simp at h3;omega
 rw[zQ,dif_neg eA,hr];have e:c-1+1=c:=by omega
 simp only[e];cases zQ (l.drop c) <;>rfl
theorem U8.drop{l:List Nat}(h:U8 l)(n:Nat):U8 (l.drop n):=fun m hm=>h m (List.mem_of_mem_drop hm)
section
variable{T:cK}
end
end
section
section
variable{T:cK}
end
end
section
section
variable{T:cK}
end
end
section
/-! ### Plain -/
theorem Na(r:List Nat):∀(m k n:Nat),(0<k->0<m)->n<128^k->n+m*128^k<18446744073709551616->rd k n (iQ m++r)=some (n+m*128^k,k+(iQ m).length):=by
 intro m;induction m using Nat.strongRecOn with
 |_ m ih =>
  intro k n hk hn ht;have Tj:¬10<=k:=by
   intro h;have h1:128^10<=128^k:=Nat.pow_le_pow_right (by omega) h;have h2:1*128^k<=m*128^k:=cQ _ (hk (by omega));omega
  have h9:k=9->m<=1:=by
   intro h;subst h;by_cases h:m<=1
   ·exact h
   ·have h2:2*128^9<=m*128^9:=cQ _ (by omega);omega
  by_cases hm:m<128
  ·rw[nB hm];simp only[aI,aE,rd,hm,bz,ay,bM,aM];rw[ar];intro h;rcases h with h|h|h
   ·exact Tj h
   ·have:=h9 h.1;omega
   ·have:=hk h.1;omega
  ·rw[pn hm];have e1:¬(m % 128+128<128):=by omega
   have e2:(m % 128+128) % 128=m % 128:=by omega
   have e3:n+m % 128*128^k+m/128*128^(k+1)=n+m*128^k:=by
    have:m*128^k=(128*(m/128)+m % 128)*128^k:=by rw[Nat.div_add_mod]
    rw[this,vj,dq];have:m/128*(128^k*128)=128*(m/128)*128^k:=by
     rw[Nat.mul_comm (128^k) 128,<-Nat.mul_assoc,Nat.mul_comm (m/128) 128]
    omega
   simp only[aI,rd,e1,aJ,e2];rw[ar,ih (m/128) (by omega) (k+1) _ (fun _=>by omega) ?_ (by rw[e3];exact ht),e3]
   ·simp only[ay,ai,aZ,true_and];omega
   ·have:m % 128*128^k<=127*128^k:=cQ _ (by omega);rw[vj];omega
   ·intro h;rcases h with h|h|h
    ·exact Tj h
    ·have:=h9 h.1;omega
    ·omega
theorem KT(n:Nat)(r:List Nat)(hn:n<18446744073709551616):PQ (iQ n++r)=some (n,(iQ n).length):=by
 have:=Na r n 0 0 (fun h=>by omega) (by simp) (by simpa using hn);unfold PQ;simpa using this
theorem GU(n:Nat)(r:List Nat):(iQ n++r).drop (iQ n).length=r:=by simp
theorem tS:∀l:List Nat,Ji l->zQ (jg l)=.inr l
 |[],_=>Gq
 |n::r,h=>by
  rw[jg,Ei ?_ (KT n (jg r) (h n (bN ..))),GU,tS r fun m hm=>h m (bd _ hm)]
  ·rfl
  ·exact fun m hm=>tB (n::r) m (by simpa[jg]using hm)
/-! ### The Pu -/
end

section
def tk(n:Int):Nat:=(IntKind.u64.wrap n).toNat
theorem vD(n:Int):tk n<18446744073709551616:=by
 unfold tk;rw[xy];omega
theorem mQ(n:Int):((tk n:Nat):Int)=IntKind.u64.wrap n:=by
 unfold tk;rw[xy,Int.toNat_of_nonneg (by omega)]
theorem fo.QO{v:AV}{hp:Hl}{sz lo nx:Nat}{es:List (List PV)}(h:fo v hp sz es lo nx)(Ho:lo<=nx)(es':List (List PV))(hl:es.length+es'.length<=2^30) :
    ∃v' W n,fR (ah hp) nx sz v es'=some (v',W,n)/\(∀k,k<nx->v≠ .ms k->ah (W++hp) k=ah hp k)/\fo v' (W++hp) sz (es++es') lo (nx+n)/\(es'≠[]->v'=.ms nx)/\n<=1:=by
 rcases h with⟨rfl,rfl⟩|⟨id,rfl,b,c,d⟩
 ·cases es' with
  |nil=>exact⟨.bu,[],0,rfl,fun k _ _=>rfl,.inl ⟨rfl,rfl⟩,fun h=>absurd rfl h,by omega⟩
  |cons e r =>
   have OZ:(e::r).length<=2^30:=by simpa using hl
   refine⟨.ms nx,[(nx,.row sz (e::r))],1,by simp only[fR,OZ,bz],fun k hk _=>?_,.inr ⟨nx,rfl,Ho,by omega,?_⟩,fun _=>rfl,by omega⟩
   ·have:¬nx=k:=by omega
    simp only[aI,aE,aD,this,aJ]
   ·simp only[aI,aE,aD,bz]
 ·refine⟨.ms nx,[(id,.dead),(nx,.row sz (es++es'))],1,?_,fun k hk eA=>?_,.inr ⟨nx,rfl,Ho,by omega,?_⟩,fun _=>rfl,by omega⟩
  ·simp only[fR,eQ,d,cg,hl,bz]
  ·have h1:¬nx=k:=by omega
   have h2:¬id=k:=fun h=>eA (by rw[h]);simp only[aI,aE,aD,h1,h2,aJ]
  ·have h2:¬id=nx:=by omega
   simp only[aI,aE,aD,h2,bz,aJ]
theorem fo.ne{v:AV}{hp:Hl}{sz lo m:Nat}{es:List (List PV)}(h:fo v hp sz es lo m){k:Nat}(hk:k<lo\/m<=k):v≠ .ms k:=by
 rcases h with⟨rfl,rfl⟩|⟨id,rfl,b,c,d⟩
 ·simp
 ·intro h;simp only[AV.ms.injEq]at h;omega
def Wr(wid:Nat)(hp:Hl)(acc:List Nat)(lo m:Nat):Prop:=∃v,ah hp wid=.var [v]/\fo v hp 1 (acc.map pG) lo m
theorem Wr.mono{wid:Nat}{hp hp':Hl}{acc:List Nat}{lo m m':Nat}(h:Wr wid hp acc lo m)(h0:ah hp' wid=ah hp wid)(h1:∀k,lo<=k->k<m->ah hp' k=ah hp k)(h2:m<=m'):Wr wid hp' acc lo m':=by
 obtain⟨v,g1,g2⟩:=h;exact⟨v,h0.trans g1,g2.mono h1 h2⟩
section
variable{T:cK}
end
end
section
theorem xq{n:Int}(h:Cf n):((tk n:Nat):Int)=n:=by
 rw[mQ,zw] <;>(unfold Cf at h;omega)
theorem fo.id{v:AV}{hp:Hl}{sz lo nx:Nat}{es:List (List PV)}(h:fo v hp sz es lo nx)(eA:es≠[]):∃id,v=.ms id/\lo<=id/\id<nx/\ah hp id=.row sz es:=by
 rcases h with⟨h,_⟩|h
 ·exact absurd h eA
 ·exact h
def Bi(v:jD):List Nat:=[tk v.a,tk v.b,tk v.c,tk v.d]
section
variable{T:cK}
end
end
section
/-! ### A QA key -/
def jv(p:dm):List Nat:=[p.id,p.load,p.prio].map tk++Bi p.jU++[p.node].map tk
def rf(t:State):List Nat:=tk t.pods.length::(t.pods.flatMap jv++[t.pre,t.fe].map tk)
def fO(t:State):ByteArray:=tY ((jg (rf t)).map fun n:Nat=>(n:Int))
theorem mR{a b:Int}(ha:mq a)(hb:mq b)(h:tk a=tk b):a=b:=by
 have h1:=mQ a;have h2:=mQ b;rw[h,h2]at h1;unfold mq at ha hb;simp only[IntKind.wrap,IntKind.bits,IntKind.signed]at h1;omega
theorem rB{a b:Int}(ha:Cf a)(hb:Cf b)(h:tk a=tk b):a=b:=by
 have h1:=xq ha;have h2:=xq hb;rw[h,h2]at h1;exact h1.symm
theorem I4{p q:dm}(hp:p.wf)(hq:q.wf)(h:jv p=jv q):p=q:=by
 simp only[jv,Bi,aX,aC,aI,aE,E9]at h;obtain⟨a1,a2,a3,a4,a5,a6,a7,a8,_⟩:=h;obtain⟨b1,b2,b3,⟨b4,b5,b6,b7⟩,b8⟩:=hp;obtain⟨c1,c2,c3,⟨c4,c5,c6,c7⟩,c8⟩:=hq;have d1:=mR b1 c1 a1;have d2:=mR b2 c2 a2;have d3:=mR b3 c3 a3;have d4:=rB b4 c4 a4;have d5:=rB b5 c5 a5;have d6:=rB b6 c6 a6;have d7:=rB b7 c7 a7;have d8:=mR b8 c8 a8;obtain⟨p1,p2,p3,⟨p4,p5,p6,p7⟩,p8⟩:=p;obtain⟨q1,q2,q3,⟨q4,q5,q6,q7⟩,q8⟩:=q;simp only at d1 d2 d3 d4 d5 d6 d7 d8;subst d1 d2 d3 d4 d5 d6 d7 d8;rfl
theorem B3:∀{a b:List dm} {ra rb:List Nat},(∀p∈a,p.wf)->(∀p∈b,p.wf)->a.length=b.length->a.flatMap jv++ra=b.flatMap jv++rb->a=b/\ra=rb
 |[],[],ra,rb,_,_,_,h=>⟨rfl,by simpa using h⟩
 |[],_::_,_,_,_,_,hl,_=>by simp at hl
 |_::_,[],_,_,_,_,hl,_=>by simp at hl
 |p::a,q::b,ra,rb,ha,hb,hl,h=>by
  simp only[eN,gm]at h;have h1:=List.append_inj h (by rfl);have e:=I4 (ha p (bN ..)) (hb q (bN ..)) h1.1;obtain⟨e2,e3⟩:=B3 (fun p h=>ha p (bd _ h)) (fun p h=>hb p (bd _ h)) (by simpa using hl) h1.2;exact⟨by rw[e,e2],e3⟩
theorem yY(t:State):Ji (rf t):=by
 intro n hn;simp only[rf,jv,Bi,aQ,cq,zx,cw,List.not_mem_nil,or_false]at hn;rcases hn with rfl|⟨p,_,hn⟩|⟨a,_,rfl⟩
 ·exact vD _
 ·rcases hn with(⟨a,_,rfl⟩|hn)|⟨a,_,rfl⟩
  ·exact vD _
  ·rcases hn with rfl|rfl|rfl|rfl <;>exact vD _
  ·exact vD _
 ·exact vD _
theorem HH{t u:State}(ht:t.wf)(hu:u.wf)(h:rf t=rf u)(hl:t.pods.length=u.pods.length):t=u:=by
 simp only[rf,E9]at h;obtain⟨e1,e2⟩:=B3 ht.1 hu.1 hl h.2;simp only[aX,aC,E9]at e2;have e3:=mR ht.2.1 hu.2.1 e2.1;have e4:=mR ht.2.2 hu.2.2 e2.2.1;obtain⟨a,b,c⟩:=t;obtain⟨a',b',c'⟩:=u;simp only at e1 e3 e4;subst e1 e3 e4;rfl
theorem I7{a b:List Nat}(ha:Ji a)(hb:Ji b)(h:jg a=jg b):a=b:=by
 have h1:=tS a ha;rw[h,tS b hb]at h1;simpa using h1.symm
theorem tZ(ns:List Int):∀(r:ByteArray),(ns.foldl (fun r n=>r.push (UInt8.ofNat n.toNat)) r).data.toList=r.data.toList++ns.map (fun n=>UInt8.ofNat n.toNat):=by
 induction ns with
 |nil=>intro r;simp
 |cons a l ih =>
  intro r;rw[gP,ih];simp[ByteArray.push]
theorem Ep{a b:List Nat}(ha:U8 a)(hb:U8 b)(h:tY (a.map fun n:Nat=>(n:Int))=tY (b.map fun n:Nat=>(n:Int))):a=b:=by
 have h1:=tZ (a.map fun n:Nat=>(n:Int)) ByteArray.empty;have h2:=tZ (b.map fun n:Nat=>(n:Int)) ByteArray.empty;unfold tY at h;rw[h,h2]at h1;have h3:=List.append_cancel_left h1;simp only[List.map_map]at h3;clear h h1 h2;induction a generalizing b with
 |nil=>cases b with
  |nil=>rfl
  |cons c r=>simp at h3
 |cons c r ih=>cases b with
  |nil=>simp at h3
  |cons d q =>
   simp only[aX,E9,Function.comp]at h3;have e1:=da UInt8.toNat h3.1;have c1:=ha c (bN ..);have d1:=hb d (bN ..);simp only[bY,UInt8.toNat_ofNat']at e1;rw[ih (fun n hn=>ha n (bd _ hn)) (fun n hn=>hb n (bd _ hn)) h3.2]
   congr 1
   omega
theorem uW{t u:State}(ht:t.wf)(hu:u.wf)(hl:t.pods.length=u.pods.length)(h:fO t=fO u):t=u :=
 HH ht hu (I7 (yY t) (yY u) (Ep (tB _) (tB _) h)) hl
/-! ### What Vk met -/
def AK(k:ByteArray):List (ByteArray×Int)->Option Int
 |[]=>none
 |(a,n)::r=>if k=a then some n else AK k r
def CR(k:ByteArray)(v:Int):List (ByteArray×Int)->List (ByteArray×Int)
 |[]=>[(k,v)]
 |(a,n)::r=>if k=a then(k,v)::r else(a,n)::CR k v r
theorem rh(k:ByteArray)(v:Int):∀l,AK k (CR k v l)=some v
 |[]=>by simp[CR,AK]
 |(a,n)::r=>by
  by_cases h:k=a
  ·simp[CR,AK,h]
  ·simp[CR,AK,h,rh k v r]
theorem s9{j k:ByteArray}(v:Int)(h:¬j=k):∀l,AK j (CR k v l)=AK j l
 |[]=>by simp[CR,AK,h]
 |(a,n)::r=>by
  by_cases h1:k=a
  ·subst h1;simp[CR,AK,h]
  ·simp[CR,h1,AK,s9 v h r]
/-! ### TM TH -/
def jW(pods nodes:List Int):List Move :=
 (pods.flatMap fun p=>nodes.map fun n=>⟨1,p,n,0⟩)++((pods.map fun p=>⟨2,p,0,0⟩)++((pods.flatMap fun p=>nodes.map fun n=>⟨3,p,n,0⟩)++(pods.flatMap fun p=>nodes.flatMap fun n=>pods.map fun q=>⟨4,p,n,q⟩)))
def qD(s:bc)(t:State):List Move:=jW (eo (t.pods.map dm.id)) (eo (s.nodes.map Node.id))
def rC(s:bc)(x:Spec)(t:State)(m:Move):Option (Move×State):=match oq s x t m with
 | .inr u=>some (m,u)
 | .inl _=>none
def pC(s:bc)(x:Spec)(t:State):List (Move×State):=(qD s t).filterMap (rC s x t)
theorem pq{s:bc}{x:Spec}{t:State}{m:Move}{p:Move×State}:rC s x t m=some p↔m=p.1/\oq s x t p.1=.inr p.2:=by
 unfold rC;constructor
 ·intro h;cases hd:oq s x t m with
  |inl c=>rw[hd]at h;simp at h
  |inr u =>
   rw[hd]at h;simp only[ai]at h;subst h;exact⟨rfl,hd⟩
 ·rintro⟨rfl,h⟩
  rw[h]
theorem lA{id:Int}:∀{l:List dm} {i:Nat},¬bw id i l<0->id∈l.map dm.id
 |[],i,h=>by simp[bw]at h
 |p::r,i,h=>by
  unfold bw at h;by_cases hp:p.id=id
  ·simp[hp]
  ·rw[ar hp]at h;exact bd _ (lA h)
theorem sS{id:Int}:∀{l:List Node},¬dv id l=none->id∈l.map Node.id
 |[],h=>by simp[dv]at h
 |p::r,h=>by
  by_cases hp:p.id=id
  ·simp[hp]
  ·have:dv id (p::r)=dv id r:=by simp[dv,hp]
   rw[this]at h;exact bd _ (sS h)
theorem uc{s:bc}{x:Spec}{t u:State}{m:Move}(h:oq s x t m=.inr u):m∈qD s t:=by
 have h:=(ug h).1;obtain⟨k,p,n,o⟩:=m;by_cases hf:fh ⟨k,p,n,o⟩=false
 ·unfold bP at h;rw[aW hf]at h;simp at h
 ·by_cases hp:bw p 0 t.pods<0
  ·unfold bP at h;rw[ar hf,aW hp]at h;simp at h
  ·by_cases hn:k≠2/\dv n s.nodes=none
   ·unfold bP at h;rw[ar hf,ar hp,aW hn]at h;simp at h
   ·by_cases ho:k=4/\bw o 0 t.pods<0
    ·unfold bP at h;rw[ar hf,ar hp,ar hn,aW ho]at h;simp at h
    ·clear h;have hp:=lA hp;simp only[fh]at hf;simp only[qD,jW,cq,zx,cw,jy,Move.mk.injEq];by_cases k2:k=2
     ·rw[aW k2]at hf;simp only[Bool.not_eq_false,bj,bI]at hf;exact .inr (.inl ⟨p,cw.1 hp,k2.symm,rfl,hf.1.symm,hf.2.symm⟩)
     ·have hn:¬dv n s.nodes=none:=fun hh=>hn ⟨k2,hh⟩;have hn:=cw.1 (sS hn);rw[ar k2]at hf;by_cases k13:k=1\/k=3
      ·rw[aW k13]at hf;simp only[Bool.not_eq_false,bI]at hf;rcases k13 with k1|k3
       ·exact .inl ⟨p,cw.1 hp,n,hn,k1.symm,rfl,rfl,hf.symm⟩
       ·exact .inr (.inr (.inl ⟨p,cw.1 hp,n,hn,k3.symm,rfl,rfl,hf.symm⟩))
      ·rw[ar k13]at hf;simp only[Bool.not_eq_false,bI]at hf;have ho:¬bw o 0 t.pods<0:=fun hh=>ho ⟨hf,hh⟩;exact .inr (.inr (.inr ⟨p,cw.1 hp,n,hn,o,cw.1 (lA ho),hf.symm,rfl,rfl,rfl⟩))
theorem xM{s:bc}{x:Spec}{t u:State}{m:Move}:(m,u)∈pC s x t↔oq s x t m=.inr u:=by
 unfold pC;rw[List.mem_filterMap];constructor
 ·rintro⟨m',_,h⟩
  exact(pq.1 h).2
 ·intro h;exact⟨m,uc h,pq.2 ⟨rfl,h⟩⟩
/-! ### The search -/
structure Sk where
 met:List (ByteArray×Int)
 spent:Nat
 gK:List Move
 stack:List (List (Move×State))
inductive tJ where
 |done
 |over
 |go (k:Sk)
def zc(k:ByteArray)(l:List (ByteArray×Int)):Int:=(AK k l).getD 0
def gF(s:bc)(x:Spec)(depth:Int)(steps:Nat)(k:Sk)(t:State):tJ :=
 if dg x.b9 t.pods=true then .done
 else if depth-k.gK.length<la x t\/depth-k.gK.length<zc (fO t) k.met then .go ⟨k.met,k.spent,k.gK,[]::k.stack⟩
 else if k.spent=steps then .over
 else .go ⟨CR (fO t) (depth-k.gK.length+1) k.met,k.spent+1,k.gK,pC s x t::k.stack⟩
def eY:List (List (Move×State))->List Move->Option (State×List Move×List (List (Move×State)))
 |[],_=>none
 |[]::r,w=>eY r w.dropLast
 |((m,u)::f)::r,w=>some (u,w++[m],f::r)
inductive Rn(s:bc)(x:Spec)(depth:Int)(steps:Nat):Sk->State->Prop
 |init:Rn s x depth steps ⟨[],0,[],[]⟩ (cv s)
 |step {k k':Sk} {t u:State} {w:List Move} {st:List (List (Move×State))}:Rn s x depth steps k t->gF s x depth steps k t=.go k'->eY k'.stack k'.gK=some (u,w,st)->Rn s x depth steps ⟨k'.met,k'.spent,w,st⟩ u
inductive Vd(s:bc)(x:Spec)(depth:Int)(steps:Nat):Int->List Move->Nat->Prop
 |found {k:Sk} {t:State}:Rn s x depth steps k t->gF s x depth steps k t=.done->Vd s x depth steps 1 k.gK k.spent
 |spent {k:Sk} {t:State}:Rn s x depth steps k t->gF s x depth steps k t=.over->Vd s x depth steps 3 [] k.spent
 |none {k k':Sk} {t:State}:Rn s x depth steps k t->gF s x depth steps k t=.go k'->eY k'.stack k'.gK=Option.none->Vd s x depth steps 2 [] k'.spent
/-! ### What is found is a Vb -/
def Wk(s:bc)(x:Spec)(w:List Move)(t:State):Prop:=dE s x w (cv s) 0=(t,w.length,none)
theorem xw{s:bc}{x:Spec}{m:Move}{b u:State}(hd:oq s x b m=.inr u):∀{w:List Move} {t:State} {i:Nat},dE s x w t i=(b,i+w.length,none)->dE s x (w++[m]) t i=(u,i+(w++[m]).length,none)
 |[],t,i,h=>by
  simp only[dE,aZ]at h;obtain⟨rfl,_⟩:=h;simp only[aE,dE,hd,ay,bM]
 |a::r,t,i,h=>by
  simp only[aI,dE]at h⊢;cases ha:oq s x t a with
  |inl c=>rw[ha]at h;simp at h
  |inr v =>
   rw[ha]at h;dsimp only at h;have:=xw hd (w:=r) (t:=v) (i:=i+1) (by rw[h];simp only[ay];congr 2;omega);simp only[this,ay]
   congr 2
   omega
theorem Wk.snoc{s:bc}{x:Spec}{w:List Move}{m:Move}{b u:State}(h:Wk s x w b)(hd:oq s x b m=.inr u):Wk s x (w++[m]) u:=by
 have:=xw hd (w:=w) (t:=cv s) (i:=0) (by rw[aM];exact h);rw[aM]at this;exact this
def Gb(s:bc)(x:Spec)(depth:Int):List (List (Move×State))->List Move->Prop
 |[],_=>True
 |f::r,w=>(∃b,Wk s x w b/\(∀p∈f,oq s x b p.1=.inr p.2)/\(f≠[]->(w.length:Int)<depth))/\Gb s x depth r w.dropLast
theorem DS{s:bc}{x:Spec}{depth:Int}:∀{st:List (List (Move×State))} {w:List Move} {u:State} {w':List Move} {bT:List (List (Move×State))},Gb s x depth st w->st.length=w.length+1->eY st w=some (u,w',bT) ->
    ∃w0 m,w'=w0++[m]/\bT.length=w0.length+1/\Gb s x depth bT w0/\Wk s x w' u/\(w0.length:Int)<depth
 |[],w,_,_,_,_,_,h=>by simp[eY]at h
 |[]::r,w,u,w',bT,hf,hl,h=>by
  simp only[eY]at h;simp only[ay]at hl;have hw:w≠[]:=fun h0=>by
   subst h0;have:r=[]:=bX (by simpa using hl);subst this;simp[eY]at h
  have h1:0<w.length:=zF.2 hw;exact DS hf.2 (by rw[PX];omega) h
 |((m,v)::f)::r,w,u,w',bT,hf,hl,h=>by
  simp only[eY,ai,aZ]at h;obtain⟨rfl,rfl,rfl⟩:=h;obtain⟨⟨b,h1,h2,h3⟩,h4⟩:=hf;exact⟨w,m,rfl,hl,⟨⟨b,h1,fun p hp=>h2 p (bd _ hp),fun _=>h3 (by simp)⟩,h4⟩,h1.snoc (h2 (m,v) (bN ..)),h3 (by simp)⟩
structure Iv(s:bc)(x:Spec)(depth:Int)(steps:Nat)(k:Sk)(t:State):Prop where
 wk:Wk s x k.gK t
 len:k.stack.length=k.gK.length
 fr:Gb s x depth k.stack k.gK.dropLast
 dep:(k.gK.length:Int)<=depth
 sp:k.spent<=steps
theorem yK{x:Spec}{t:State}(h:¬dg x.b9 t.pods=true):0<la x t:=by
 have:=Ag x t;have h2:dg x.b9 t.pods=false:=by simpa using h
 rw[h2,decide_eq_false_iff_not]at this;omega
theorem Iv.enter{s:bc}{x:Spec}{depth:Int}{steps:Nat}{k k':Sk}{t:State}(I:Iv s x depth steps k t)(h:gF s x depth steps k t=.go k'):k'.gK=k.gK/\k'.stack.length=k'.gK.length+1/\Gb s x depth k'.stack k'.gK/\k'.spent<=steps:=by
 unfold gF at h;split at h
 ·simp at h
 ·rename_i hg;split at h
  ·simp only[tJ.go.injEq]at h;subst h;exact⟨rfl,by simp[I.len],⟨⟨t,I.wk,by simp,by simp⟩,I.fr⟩,I.sp⟩
  ·rename_i hc;split at h
   ·simp at h
   ·rename_i hs;simp only[tJ.go.injEq]at h;subst h;have:=yK hg;have:=I.sp;refine⟨rfl,by simp[I.len],⟨⟨t,I.wk,fun p hp=>xM.1 hp,fun _=>?_⟩,I.fr⟩,?_⟩
    ·have:¬depth-k.gK.length<la x t:=fun hh=>hc (.inl hh);dsimp only;omega
    ·dsimp only;omega
theorem Rn.inv{s:bc}{x:Spec}{depth:Int}{steps:Nat}(h0:0<=depth):∀{k:Sk} {t:State},Rn s x depth steps k t->Iv s x depth steps k t:=by
 intro k t h;induction h with
 |init=>exact⟨rfl,rfl,trivial,by simpa using h0,aO _⟩
 |step h he hn ih =>
  obtain⟨e1,e2,e3,e4⟩:=ih.enter he;obtain⟨w0,m,rfl,a2,a3,a4,a5⟩:=DS e3 e2 hn;refine⟨a4,by simp[a2],by simpa using a3,by simp;omega,e4⟩
theorem C4{s:bc}{x:Spec}{depth:Int}{steps:Nat}(h0:0<=depth){l:List Move}{n:Nat}(h:Vd s x depth steps 1 l n):∃t,dE s x l (cv s) 0=(t,l.length,none)/\dg x.b9 t.pods=true/\(l.length:Int)<=depth/\n<=steps:=by
 cases h with
 | @found k t h he =>
  have I:=h.inv h0;refine⟨t,I.wk,?_,I.dep,I.sp⟩;unfold gF at he;split at he
  ·assumption
  ·repeat' split at he
   all_goals simp at he
end
section
theorem Bk(n:Int):mq (IntKind.i64.wrap n):=by
 unfold mq;simp only[IntKind.wrap,IntKind.bits,IntKind.signed];simp only[bq,bI,show(2:Int)^(64-1)=9223372036854775808 by decide,show(2:Int)^64=18446744073709551616 by decide];constructor <;>(split <;>omega)
theorem HM{s:bc}{x:Spec}{t u:State}{m:Move}(h:bP s x t m=.inr u)(h1:mq t.pre)(h2:mq t.fe):mq u.pre/\mq u.fe:=by
 unfold bP at h;split at h
 ·simp at h
 ·split at h
  ·simp at h
  ·split at h
   ·simp at h
   ·split at h
    ·simp at h
    ·split at h
     ·simp at h
     ·by_cases k2:m.kind=2
      ·rw[aW k2]at h;split at h
       ·simp at h
       ·simp only[eX]at h;subst h;exact⟨h1,h2⟩
      ·rw[ar k2]at h;split at h
       ·split at h
        ·simp at h
        ·split at h
         ·simp at h
         ·simp only[eX]at h;subst h;exact⟨h1,Bk _⟩
       ·split at h
        ·split at h
         ·simp at h
         ·split at h
          ·simp at h
          ·split at h
           ·simp at h
           ·split at h
            ·simp at h
            ·simp only[eX]at h;subst h;exact⟨Bk _,h2⟩
        ·split at h
         ·simp at h
         ·simp only[eX]at h;subst h;exact⟨h1,h2⟩
theorem xP{s:bc}{t:State}{m:Move}(hs:s.wf)(ht:∀p∈t.pods,p.wf)(h:m∈qD s t):m.wf:=by
 have hp:∀a,a∈eo (t.pods.map dm.id)->mq a:=fun a ha=>by
  rw[jy]at ha;obtain⟨p,hp,rfl⟩:=cw.1 ha;exact(ht p hp).1
 have hn:∀a,a∈eo (s.nodes.map Node.id)->mq a:=fun a ha=>by
  rw[jy]at ha;obtain⟨p,hp,rfl⟩:=cw.1 ha;exact(hs.1 p hp).1
 have i0:mq 0:=⟨by decide,by decide⟩;have i1:mq 1:=⟨by decide,by decide⟩;have i2:mq 2:=⟨by decide,by decide⟩;have i3:mq 3:=⟨by decide,by decide⟩;have i4:mq 4:=⟨by decide,by decide⟩;simp only[qD,jW,cq,zx,cw]at h;rcases h with⟨p,h1,n,h2,rfl⟩|⟨p,h1,rfl⟩|⟨p,h1,n,h2,rfl⟩|⟨p,h1,n,h2,q,h3,rfl⟩
 ·exact⟨i1,hp p h1,hn n h2,i0⟩
 ·exact⟨i2,hp p h1,i0,i0⟩
 ·exact⟨i3,hp p h1,hn n h2,i0⟩
 ·exact⟨i4,hp p h1,hn n h2,hp q h3⟩
def Rs(s:bc)(t:State):Prop:=t.wf/\t.pods.length=s.pods.length
theorem Rs.first{s:bc}(hs:s.wf):Rs s (cv s):=⟨⟨hs.2.2,(show mq 0 from⟨by decide,by decide⟩),(show mq 0 from⟨by decide,by decide⟩)⟩,rfl⟩
theorem Rs.step{s:bc}{x:Spec}{t u:State}{m:Move}(hs:s.wf)(hx:∀w∈x.b9,w.wf)(R:Rs s t)(h:oq s x t m=.inr u):Rs s u:=by
 have hm:=(ug h).1;obtain⟨a,b⟩:=HM hm R.1.2.1 R.1.2.2;exact⟨⟨zb hx R.1.1 (xP hs R.1.1 (uc h)) hm,a,b⟩,by rw[(qi s x t u m hm).2];exact R.2⟩
/-! ### TO -/
def L9(x:Spec)(met:List (ByteArray×Int))(u:State)(l:Int):Prop:=l<la x u\/∃v,AK (fO u) met=some v/\l<v
def t6(depth:Int):List (List (Move×State))->Nat->State->Int->Prop
 |[],_,_,_=>False
 |f::r,n,u,l=>(l=depth-n-1/\∃m,(m,u)∈f)\/t6 depth r (n-1) u l
structure CI(s:bc)(x:Spec)(depth:Int)(G:List (State×Int))(met:List (ByteArray×Int))(Pd:State->Int->Prop):Prop where
 g0:∀q∈G,Rs s q.1
 g1:∀q∈G,¬dg x.b9 q.1.pods=true
 g2:∀key v,AK key met=some v->∃q∈G,fO q.1=key/\v=q.2+1
 g3:∀q∈G,∀p∈pC s x q.1,L9 x met p.2 (q.2-1)\/Pd p.2 (q.2-1)
 g4:L9 x met (cv s) depth\/Pd (cv s) depth
theorem CI.imp{s:bc}{x:Spec}{depth:Int}{G:List (State×Int)}{met:List (ByteArray×Int)}{Pd SP:State->Int->Prop}(C:CI s x depth G met Pd)(h:∀u l,Pd u l->L9 x met u l\/SP u l):CI s x depth G met SP :=
 ⟨C.g0,C.g1,C.g2,fun q hq p hp=>(C.g3 q hq p hp).elim .inl (h _ _),C.g4.elim .inl (h _ _)⟩
theorem L9.met{x:Spec}{met:List (ByteArray×Int)}{u t:State}{l left:Int}(h:L9 x met u l)(hl:zc (fO t) met<=left):L9 x (CR (fO t) (left+1) met) u l:=by
 rcases h with h|⟨v,h1,h2⟩
 ·exact .inl h
 ·by_cases e:fO u=fO t
  ·rw[e]at h1;simp only[zc,h1,ic]at hl;exact .inr ⟨left+1,by rw[e];exact rh _ _ _,by omega⟩
  ·exact .inr ⟨v,by rw[s9 _ e];exact h1,h2⟩
theorem xc{depth:Int}{t u:State}{l:Int}:∀{st:List (List (Move×State))} {w w':List Move} {bT:List (List (Move×State))},st.length=w.length+1->eY st w=some (t,w',bT)->t6 depth st w.length u l->(u=t/\l=depth-w'.length)\/t6 depth bT (w'.length-1) u l
 |[],_,_,_,_,h,_=>by simp[eY]at h
 |[]::r,w,w',bT,hl,h,hp=>by
  simp only[eY]at h;simp only[ay]at hl;have hw:w≠[]:=fun h0=>by
   subst h0;have:r=[]:=bX (by simpa using hl);subst this;simp[eY]at h
  have h1:0<w.length:=zF.2 hw;refine xc (by rw[PX];omega) h ?_;rw[PX];simpa[t6]using hp
 |((m,v)::f)::r,w,w',bT,hl,h,hp=>by
  simp only[eY,ai,aZ]at h;obtain⟨rfl,rfl,rfl⟩:=h;simp only[aG,ay,bM,Nat.add_sub_cancel,aM];simp only[t6,aQ,aZ]at hp;rcases hp with⟨rfl,m',h1|h1⟩|h1
  ·exact .inl ⟨h1.2,by omega⟩
  ·exact .inr (.inl ⟨rfl,m',h1⟩)
  ·exact .inr (.inr h1)
theorem xb{depth:Int}{u:State}{l:Int}:∀{st:List (List (Move×State))} {w:List Move} {n:Nat},eY st w=none->¬t6 depth st n u l
 |[],_,_,_,hp=>hp
 |[]::r,w,n,h,hp=>by
  simp only[eY]at h;simp only[t6,List.not_mem_nil,exists_false,and_false,false_or]at hp;exact xb h hp
 |((m,v)::f)::r,w,n,h,hp=>by simp[eY]at h
theorem A7{s:bc}{x:Spec}{depth:Int}{steps:Nat}{k k':Sk}{t:State}{G:List (State×Int)}(R:Rs s t)(hw:k.stack.length=k.gK.length)(he:gF s x depth steps k t=.go k')
    (C:CI s x depth G k.met fun u l=>(u=t/\l=depth-k.gK.length)\/t6 depth k.stack (k.gK.length-1) u l):∃G',CI s x depth G' k'.met (t6 depth k'.stack k'.gK.length):=by
 unfold gF at he;split at he
 ·simp at he
 ·rename_i hg;split at he
  ·rename_i hc;simp only[tJ.go.injEq]at he;subst he;refine⟨G,C.imp fun u l h=>?_⟩;rcases h with⟨rfl,rfl⟩|h
   ·rcases hc with hc|hc
    ·exact .inl (.inl hc)
    ·unfold zc at hc;cases hl:AK (fO u) k.met with
     |none =>
      rw[hl]at hc;have:(0:Int)<=la x u:=by omega
      exact .inl (.inl (by simp at hc;omega))
     |some v=>rw[hl]at hc;exact .inl (.inr ⟨v,hl,hc⟩)
   ·exact .inr (.inr h)
  ·rename_i hc;split at he
   ·simp at he
   ·simp only[tJ.go.injEq]at he;subst he;have hm:zc (fO t) k.met<=depth-k.gK.length:=by
     have:¬depth-k.gK.length<zc (fO t) k.met:=fun hh=>hc (.inr hh);omega
    have tr:∀u l,(L9 x k.met u l\/(u=t/\l=depth-k.gK.length)\/t6 depth k.stack (k.gK.length-1) u l)->(L9 x (CR (fO t) (depth-k.gK.length+1) k.met) u l\/t6 depth (pC s x t::k.stack) k.gK.length u l):=fun u l h=>by
     rcases h with h|⟨rfl,rfl⟩|h
     ·exact .inl (h.met hm)
     ·exact .inl (.inr ⟨_,rh _ _ _,by omega⟩)
     ·exact .inr (.inr h)
    refine⟨(t,depth-k.gK.length)::G,?_,?_,?_,?_,tr _ _ C.g4⟩
    ·intro q hq;rcases aQ.1 hq with rfl|hq
     ·exact R
     ·exact C.g0 q hq
    ·intro q hq;rcases aQ.1 hq with rfl|hq
     ·exact hg
     ·exact C.g1 q hq
    ·intro key v hv;dsimp only at hv;by_cases e:key=fO t
     ·subst e;rw[rh]at hv;simp only[ai]at hv;exact⟨_,bN ..,rfl,hv.symm⟩
     ·rw[s9 _ e]at hv;obtain⟨q,hq,h1⟩:=C.g2 key v hv;exact⟨q,bd _ hq,h1⟩
    ·intro q hq p hp;rcases aQ.1 hq with rfl|hq
     ·exact .inr (.inl ⟨rfl,p.1,hp⟩)
     ·exact tr _ _ (C.g3 q hq p hp)
theorem Rn.rs{s:bc}{x:Spec}{depth:Int}{steps:Nat}(hs:s.wf)(hx:∀w∈x.b9,w.wf):∀{k:Sk} {t:State},Rn s x depth steps k t->Rs s t/\∀f∈k.stack,∀p∈f,Rs s p.2:=by
 intro k t h;induction h with
 |init=>exact⟨Rs.first hs,by simp⟩
 | @step k k' t u w st h he hn ih =>
  obtain⟨R,hF⟩:=ih;have Ue:∀f∈k'.stack,∀p∈f,Rs s p.2:=by
   unfold gF at he
   repeat' split at he
   all_goals first|(simp at he;done)|skip
   ·simp only[tJ.go.injEq]at he;subst he;intro f hf p hp;rcases aQ.1 hf with rfl|hf
    ·simp at hp
    ·exact hF f hf p hp
   ·simp only[tJ.go.injEq]at he;subst he;intro f hf p hp;rcases aQ.1 hf with rfl|hf
    ·exact R.step hs hx (xM.1 hp)
    ·exact hF f hf p hp
  have ie:∀{Qz:List (List (Move×State))} {w0:List Move},(∀f∈Qz,∀p∈f,Rs s p.2)->eY Qz w0=some (u,w,st)->Rs s u/\∀f∈st,∀p∈f,Rs s p.2:=by
   intro Qz;induction Qz with
   |nil=>intro w0 _ h;simp[eY]at h
   |cons f r UY =>
    intro w0 Qf h;cases f with
    |nil=>exact UY (fun f hf=>Qf f (bd _ hf)) h
    |cons p f =>
     obtain⟨m,v⟩:=p;simp only[eY,ai,aZ]at h;obtain⟨rfl,rfl,rfl⟩:=h;refine⟨Qf _ (bN ..) (m,v) (bN ..),fun g hg p hp=>?_⟩;rcases aQ.1 hg with rfl|hg
     ·exact Qf _ (bN ..) p (bd _ hp)
     ·exact Qf g (bd _ hg) p hp
  exact ie Ue hn
theorem Rn.ci{s:bc}{x:Spec}{depth:Int}{steps:Nat}(hs:s.wf)(hx:∀w∈x.b9,w.wf)(h0:0<=depth):∀{k:Sk} {t:State},Rn s x depth steps k t->∃G,CI s x depth G k.met fun u l=>(u=t/\l=depth-k.gK.length)\/t6 depth k.stack (k.gK.length-1) u l:=by
 intro k t h;induction h with
 |init=>exact⟨[],by simp,by simp,fun key v h=>by simp[AK]at h,by simp,.inr (.inl ⟨rfl,by simp⟩)⟩
 | @step k k' t u w st h he hn ih =>
  have I:=h.inv h0;obtain⟨e1,e2,e3,e4⟩:=I.enter he;obtain⟨G,C⟩:=ih;obtain⟨G',C'⟩:=A7 (h.rs hs hx).1 I.len he C;exact⟨G',C'.imp fun u' l hp=>.inr (xc e2 hn hp)⟩
theorem uF{s:bc}{x:Spec}(hr:lE x.b9):∀(ms:List Move) (t:State) (i:Nat),(dE s x ms t i).2.2=none->dg x.b9 (dE s x ms t i).1.pods=true->la x t<=ms.length
 |[],t,i,_,h=>by
  have:=Ag x t;simp only[dE]at h;rw[h,bI]at this;simp only[bM];omega
 |m::r,t,i,h1,h2=>by
  unfold dE at h1 h2;cases hd:oq s x t m with
  |inl c=>rw[hd]at h1;simp at h1
  |inr u =>
   rw[hd]at h1 h2;have:=uF hr r u (i+1) h1 h2;have:=H2 s x t u m hr (ug hd).1;simp only[ay];omega
theorem DT{s:bc}{x:Spec}{depth:Int}{G:List (State×Int)}{met:List (ByteArray×Int)}(hs:s.wf)(hx:∀w∈x.b9,w.wf)(hr:lE x.b9)(C:CI s x depth G met fun _ _=>False):∀(ms:List Move) (q:State×Int) (i:Nat),q∈G->(ms.length:Int)<=q.2->(dE s x ms q.1 i).2.2=none->¬dg x.b9 (dE s x ms q.1 i).1.pods=true
 |[],q,i,hq,_,_,h=>C.g1 q hq (by simpa only[dE]using h)
 |m::r,q,i,hq,hl,h1,h2=>by
  unfold dE at h1 h2;cases hd:oq s x q.1 m with
  |inl c=>rw[hd]at h1;simp at h1
  |inr u =>
   rw[hd]at h1 h2;dsimp only at h1 h2;simp only[ay]at hl;rcases C.g3 q hq (m,u) (xM.2 hd)with(h3|⟨v,h3,h4⟩)|h3
   ·have:=uF hr r u (i+1) h1 h2;dsimp only at h3;omega
   ·obtain⟨q',Qp,e1,e2⟩:=C.g2 _ _ h3;dsimp only at e1 h4;have R:=(C.g0 q hq).step hs hx hd;have R':=C.g0 q' Qp;have e:=uW R'.1 R.1 (by rw[R'.2,R.2]) e1;rw[<-e]at h1 h2;exact DT hs hx hr C r q' (i+1) Qp (by omega) h1 h2
   ·exact h3
theorem Fo{s:bc}{x:Spec}{depth:Int}{steps:Nat}(hs:s.wf)(hx:∀w∈x.b9,w.wf)(hr:lE x.b9)(h0:0<=depth){l:List Move}{n:Nat}(h:Vd s x depth steps 2 l n)(ms:List Move)(hl:(ms.length:Int)<=depth)(h1:(dE s x ms (cv s) 0).2.2=none):¬dg x.b9 (dE s x ms (cv s) 0).1.pods=true:=by
 intro h2;cases h with
 | @none k k' t h he hn =>
  obtain⟨G,C⟩:=h.ci hs hx h0;obtain⟨G',C'⟩:=A7 (h.rs hs hx).1 (h.inv h0).len he C;have C2:CI s x depth G' k'.met fun _ _=>False:=C'.imp fun u l hp=>.inr (xb hn hp);rcases C2.g4 with(h3|⟨v,h3,h4⟩)|h3
  ·have:=uF hr ms (cv s) 0 h1 h2;omega
  ·obtain⟨q,hq,e1,e2⟩:=C2.g2 _ _ h3;have R':=C2.g0 q hq;have e:=uW R'.1 (Rs.first hs).1 (by rw[R'.2];rfl) e1;rw[<-e]at h1 h2;exact DT hs hx hr C2 ms q 0 hq (by omega) h1 h2
  ·exact h3
/-! ### NU that SD -/
theorem vL{pods:List dm}:∀{ws:List Want} {v:Want} {i:Int},eV pods (some v) i ws=none->lE (v::ws)
 |[],v,i,_=>trivial
 |w::r,v,i,h=>by
  unfold eV at h;split at h
  ·simp at h
  ·rename_i hb;refine⟨?_,vL h⟩;simp only[ne_eq,Decidable.not_not]at hb;unfold ep at hb;dsimp only at hb;split at hb
   ·simp at hb
   ·split at hb
    ·simp at hb
    ·omega
theorem EK{s:bc}{x:Spec}(h:gN s x=none):lE x.b9:=by
 unfold gN at h;split at h
 ·simp at h
 ·split at h
  ·cases hw:x.b9 with
   |nil=>trivial
   |cons w r =>
    rw[hw]at h;unfold eV at h;split at h
    ·simp at h
    ·exact vL h
  ·simp at h
end
def f54:bf:=⟨110,[.t 4,.t 5],
(.seq (.ops [
df 3 1 [],
fV 4 false [],
fV 5 false [1]])
(.seq (.draw [
aq 8 0 [],
jE 9 8 [0],
bQ 10 6 9 [1],
bR 11 1 10 [2],
aq 12 0 [],
jE 13 12 [4],
bQ 14 10 13 [5],
bR 15 1 14 [6],
fT 16 15 [7],
dX 17 .sub 11 16 [3,8],
aq 6 17 [9,0,1,2,3,4,5,6,7,8,9]])
(.seq (.ops [
ck 18 3 3 [],
aR 19 (.call 209 [.t 18]) [0],
aq 7 19 [1,1,0,1]])
(.seq (.block 0
(.seq (.draw [
aq 21 0 [],
jE 22 21 [0],
bQ 23 3 22 [1],
ck 24 3 23 [2],
ck 25 3 3 [],
aR 26 (.call 238 [.t 24,.t 25]) [3,4],
aq 20 26 [5,5]])
(.cond (.t 20)
(.seq (.ops [
fV 4 true [],
fV 5 false [0,0]])
.ret)
(.seq (.draw [
aq 28 0 [],
jE 29 28 [0],
bQ 30 3 29 [1],
ck 31 3 30 [2],
ck 32 3 3 [],
aR 33 (.call 211 [.t 31,.t 32]) [3,4],
aq 34 6 [],
dX 35 .gtr 33 34 [5,6],
aq 36 35 [7,5],
fa 37 36 false 0 [8],
ej 38 36 false (.jS (.t 37)) [9,8],
ew 39 36 false 9 38 [10,8],
ec 40 36 false 1 39 [11,8],
fa 41 36 false 7 [8],
ej 42 36 false (.jR true false (.int .i64 0) (.t 40) (.t 41)) [12,13,8],
fa 43 36 false 6 [8],
ej 44 36 false (.bin .gtr none (.t 42) (.t 43)) [14,15,8],
jT 45 36 44 [8,16],
aq 27 45 [17,8]])
(.cond (.t 27)
(.seq (.ops [
aq 46 0 [],
aq 47 0 [],
jE 48 47 [1],
bQ 49 11 48 [2],
bR 50 1 49 [3],
aR 51 (.build [.bu,.bu] []) [],
aR 52 (.cr 2 1 [.bu,.bu] [(0,2,(.t 51))]) [5],
aR 53 (.append 2 48 (.t 50) (.t 52)) [4,6],
jE 54 46 [0,0,1,2,3,4,5,6,7],
bQ 55 11 54 [8,0,1,2,3,4,5,6,7],
dk 1 55 53 [9,7,7,0,1,2,3,4,5,6,7]])
(.seq (.ops [
fV 4 false [],
fV 5 false [0,0]])
.ret))
(.seq (.draw [
aq 57 0 [],
jE 58 57 [0],
bQ 59 8 58 [1],
bR 60 1 59 [2],
aq 61 0 [],
jE 62 61 [4],
bQ 63 7 62 [5],
bR 64 1 63 [6],
dX 65 .eql 60 64 [3,7],
aq 56 65 [8]])
(.cond (.t 56)
(.seq (.ops [
fV 4 false [],
fV 5 true [0,0]])
.ret)
.skip)))))))
(.seq (.ops [
aq 66 0 [],
jE 67 66 [0],
bQ 68 8 67 [1],
bR 69 1 68 [2],
cM 70 .add 69 1 [3],
jE 71 66 [0,0,1,2,3,4],
bQ 72 8 71 [5,0,1,2,3,4],
dk 1 72 70 [6,4,0,1,2,3,4]])
(.seq (.ops [
aq 73 0 [],
jE 74 73 [0],
bQ 75 9 74 [1],
bR 76 1 75 [2],
aq 77 7 [],
aq 78 6 [],
cM 79 .add 78 1 [5],
N8 (.lj true (.t 76) (.t 77) (.t 79)) [3,4,6,0,1,2,3,4,5,6]])
(.seq (.draw [
aq 80 0 [],
aq 81 0 [],
jE 82 81 [1],
bQ 83 11 82 [2],
bR 84 1 83 [3],
aq 85 0 [],
jE 86 85 [5],
bQ 87 0 86 [6],
ck 88 3 87 [7],
aq 89 0 [],
jE 90 89 [9],
bQ 91 3 90 [10],
ck 92 3 91 [11],
ck 93 3 3 [],
aR 94 (.call 210 [.t 88,.t 92,.t 93]) [8,12,13],
aq 95 0 [],
jE 96 95 [15],
bQ 97 0 96 [16],
ck 98 3 97 [17],
aq 99 0 [],
jE 100 99 [19],
bQ 101 3 100 [20],
ck 102 3 101 [21],
ck 103 3 3 [],
aR 104 (.call 212 [.t 98,.t 102,.t 103]) [18,22,23,14],
aR 105 (.build [.bu,.bu] [(0,1,(.t 94)),(1,1,(.t 104))]) [14,24],
aR 106 (.cr 2 1 [.bu,.bu] [(0,2,(.t 105))]) [25],
aR 107 (.append 2 48 (.t 84) (.t 106)) [4,26,24],
jE 108 80 [0,0,1,2,3,4,5,6,7,8,9,10,11,12,13,14,15,16,17,18,19,20,21,22,23,24,25,26,27],
bQ 109 11 108 [28,0,1,2,3,4,5,6,7,8,9,10,11,12,13,14,15,16,17,18,19,20,21,22,23,24,25,26,27],
dk 1 109 107 [29,27,27,0,1,2,3,4,5,6,7,8,9,10,11,12,13,14,15,16,17,18,19,20,21,22,23,24,25,26,27]])
(.seq (.ops [
fV 4 false [],
fV 5 false [0,0]])
.ret))))))))⟩
def Af:bx :=
(.seq (.seq (.ops [
aq 6 0 [],
jE 7 6 [0],
bQ 8 11 7 [1],
bR 9 1 8 [2],
fT 10 9 [3],
cM 11 .gtr 10 0 [4]])
(.cond (.t 11)
.skip
(.exit 0)))
(.block 1
(.seq (.draw [
aq 12 0 [],
jE 13 12 [0],
bQ 14 11 13 [1],
bR 15 1 14 [2],
aq 16 0 [],
jE 17 16 [4],
bQ 18 11 17 [5],
bR 19 1 18 [6],
fT 20 19 [7],
cM 21 .sub 20 1 [8],
fw 22 2 15 21 [3,9],
aq 4 22 [10,0,1,2,3,4,5,6,7,8,9,10]])
(.seq (.seq (.ops [
aq 23 4 [],
jE 24 23 [0],
bQ 25 0 24 [1],
bR 26 1 25 [2],
fT 27 26 [3],
cM 28 .gtr 27 0 [4]])
(.cond (.t 28)
(.seq (.ops [
aq 29 4 [],
jE 30 29 [0],
bQ 31 1 30 [1],
bR 32 1 31 [2],
aR 33 (.fC 3 (.t 32) (.c (.pv (.int .i64 0)))) [3],
ck 34 3 33 [4],
aR 5 (.alloc [.bu,.pv (.int .i64 0),.pv (.int .i64 0)]) [],
dk 3 5 34 [6,5,0,1,2,3,4,5,6]])
(.seq (.draw [
aq 35 0 [],
aq 36 0 [],
jE 37 36 [1],
bQ 38 10 37 [2],
bR 39 1 38 [3],
aq 40 4 [],
jE 41 40 [5],
bQ 42 0 41 [6],
bR 43 1 42 [7],
aR 44 (.fC 4 (.t 43) (.c (.pv (.int .i64 0)))) [8],
ck 45 4 44 [9],
aR 46 (.cr 4 1 [.pv (.int .i64 0),.pv (.int .i64 0),.pv (.int .i64 0),.pv (.int .i64 0)] [(0,4,(.t 45))]) [10],
aR 47 (.append 4 32 (.t 39) (.t 46)) [4,11],
jE 48 35 [0,0,1,2,3,4,5,6,7,8,9,10,11,12],
bQ 49 10 48 [13,0,1,2,3,4,5,6,7,8,9,10,11,12],
dk 1 49 47 [14,12,12,0,1,2,3,4,5,6,7,8,9,10,11,12]])
(.seq (.draw [
aq 50 4 [],
aq 51 4 [],
aq 52 4 [],
jE 53 52 [2],
bQ 54 0 53 [3],
bR 55 1 54 [4],
aR 56 (.slice 4 (.t 55) (some (.c (.pv (.int .i64 1)))) none) [5],
aq 57 4 [],
jE 58 57 [7],
bQ 59 1 58 [8],
bR 60 1 59 [9],
aR 61 (.slice 3 (.t 60) (some (.c (.pv (.int .i64 1)))) none) [10],
jE 62 50 [0,0,2,3,4,5,6,10],
bQ 63 0 62 [12,0,2,3,4,5,6,10],
dk 1 63 56 [13,6,0,2,3,4,5,6,10],
jE 64 51 [1,0,1,2,3,4,5,6,7,8,9,10,11,12,13,14],
bQ 65 1 64 [15,0,1,2,3,4,5,6,7,8,9,10,11,12,13,14],
dk 1 65 61 [16,11,14,0,1,2,3,4,5,6,7,8,9,10,11,12,13,14]])
(.seq (.ops [
ck 66 3 5 [],
dk 3 2 66 [0,0],
fV 3 true [1,0,1]])
.ret))))
.skip))
(.seq (.draw [
aq 67 0 [],
aq 68 0 [],
jE 69 68 [1],
bQ 70 11 69 [2],
bR 71 1 70 [3],
aq 72 0 [],
jE 73 72 [5],
bQ 74 11 73 [6],
bR 75 1 74 [7],
fT 76 75 [8],
cM 77 .sub 76 1 [9],
aR 78 (.slice 2 (.t 71) none (some (.t 77))) [4,10],
jE 79 67 [0,0,1,2,3,4,5,6,7,8,9,10,11],
bQ 80 11 79 [12,0,1,2,3,4,5,6,7,8,9,10,11],
dk 1 80 78 [13,11,0,1,2,3,4,5,6,7,8,9,10,11]])
(.seq (.ops [
aq 81 0 [],
jE 82 81 [0],
bQ 83 10 82 [1],
bR 84 1 83 [2],
fT 85 84 [3],
cM 86 .gtr 85 0 [4]])
(.cond (.t 86)
(.draw [
aq 87 0 [],
aq 88 0 [],
jE 89 88 [1],
bQ 90 10 89 [2],
bR 91 1 90 [3],
aq 92 0 [],
jE 93 92 [5],
bQ 94 10 93 [6],
bR 95 1 94 [7],
fT 96 95 [8],
cM 97 .sub 96 1 [9],
aR 98 (.slice 4 (.t 91) none (some (.t 97))) [4,10],
jE 99 87 [0,0,1,2,3,4,5,6,7,8,9,10,11],
bQ 100 10 99 [12,0,1,2,3,4,5,6,7,8,9,10,11],
dk 1 100 98 [13,11,0,1,2,3,4,5,6,7,8,9,10,11]])
.skip)))))))
def f55:bf:=⟨102,[.cell 2 true 3,.t 3],
(.seq (.ops [
aR 2 (.alloc [.bu,.pv (.int .i64 0),.pv (.int .i64 0)]) [],
fV 3 false []])
(.seq (.block 0
(.loop Af))
(.seq (.ops [
aR 101 (.build [.bu,.pv (.int .i64 0),.pv (.int .i64 0)] []) [],
dk 3 2 101 [0,0],
fV 3 false [1,0,1]])
.ret)))⟩
def yv:bx :=
(.seq (.ops [
dX 15 .lss 14 13 []])
(.seq (.cond (.t 15)
.skip
(.exit 0))
(.seq (.block 1
(.seq (.ops [
fw 16 8 12 14 [],
ck 17 8 16 [0],
aR 5 (.alloc [.pv (.int .i64 0),.pv (.int .i64 0),.pv (.int .i64 0),.pv (.int .u64 0),.pv (.int .u64 0),.pv (.int .u64 0),.pv (.int .u64 0),.pv (.int .i64 0)]) [],
dk 8 5 17 [2,1,0,1,2]])
(.seq (.ops [
aq 18 3 [],
bQ 19 0 5 [],
bR 20 1 19 [1],
aR 21 (.conv .u64 (.t 20)) [2],
bQ 22 1 5 [],
bR 23 1 22 [4],
aR 24 (.conv .u64 (.t 23)) [5],
bQ 25 2 5 [],
bR 26 1 25 [7],
aR 27 (.conv .u64 (.t 26)) [8],
aR 28 (.cr 1 3 [.pv (.int .u64 0),.pv (.int .u64 0),.pv (.int .u64 0)] [(0,1,(.t 21)),(1,1,(.t 24)),(2,1,(.t 27))]) [3,6,9],
aR 29 (.append 1 8 (.t 18) (.t 28)) [0,10],
aq 3 29 [11,11,0,1,2,3,4,5,6,7,8,9,10,11]])
(.draw [
aq 30 3 [],
bQ 31 3 5 [],
aR 32 (.hY 4 1 (.t 31) none none) [1],
aR 33 (.append 1 8 (.t 30) (.t 32)) [0,2],
bQ 34 7 5 [],
bR 35 1 34 [4],
aR 36 (.conv .u64 (.t 35)) [5],
aR 37 (.cr 1 1 [.pv (.int .u64 0)] [(0,1,(.t 36))]) [6],
aR 38 (.append 1 8 (.t 33) (.t 37)) [3,7,3],
aq 3 38 [8,8,0,1,2,3,4,5,6,7,8]]))))
(.ops [
cM 39 .add 14 1 [],
aq 14 39 [0]]))))
def f209:bf:=⟨51,[.t 2],
(.seq (.ops [
df 1 0 [],
aR 2 (.mv (.c (.pv (.str ⟨#[]⟩)))) []])
(.seq (.ops [
bQ 6 0 1 [],
bR 7 1 6 [0],
fT 8 7 [1],
aR 9 (.conv .u64 (.t 8)) [2],
aR 10 (.cr 1 1 [.pv (.int .u64 0)] [(0,1,(.t 9))]) [3],
aq 3 10 [4,0,1,2,3,4]])
(.seq (.seq (.ops [
bQ 11 0 1 [],
bR 12 1 11 [0],
fT 13 12 [1],
cR 14 0 []])
(.block 0
(.loop yv)))
(.seq (.ops [
aq 40 3 [],
bQ 41 1 1 [],
bR 42 1 41 [1],
aR 43 (.conv .u64 (.t 42)) [2],
bQ 44 2 1 [],
bR 45 1 44 [4],
aR 46 (.conv .u64 (.t 45)) [5],
aR 47 (.cr 1 2 [.pv (.int .u64 0),.pv (.int .u64 0)] [(0,1,(.t 43)),(1,1,(.t 46))]) [3,6],
aR 48 (.append 1 8 (.t 40) (.t 47)) [0,7],
aR 49 (.call 264 [.t 48]) [8,8],
aR 50 (.G2 (.t 49)) [9],
aq 2 50 [10,9,0,1,2,3,4,5,6,7,8,9,10]])
.ret))))⟩
def yy:bx :=
(.seq (.ops [
dX 16 .lss 15 14 []])
(.seq (.cond (.t 16)
.skip
(.exit 0))
(.seq (.block 1
(.seq (.ops [
fw 17 7 13 15 [],
ck 18 7 17 [0],
aR 9 (.alloc [.pv (.int .i64 0),.pv (.int .i64 0),.pv (.int .i64 0),.pv (.int .i64 0),.bu,.pv (.int .i64 0),.pv (.int .i64 0)]) [],
dk 7 9 18 [2,1,0,1,2]])
(.ops [
aq 19 7 [],
bQ 20 4 9 [],
ck 21 3 20 [1],
aR 22 (.cr 3 1 [.bu,.pv (.int .i64 0),.pv (.int .i64 0)] [(0,3,(.t 21))]) [2],
aR 23 (.append 3 40 (.t 19) (.t 22)) [0,3],
aq 7 23 [4,4,0,1,2,3,4]])))
(.ops [
cM 24 .add 15 1 [],
aq 15 24 [0]]))))
def f212:bf:=⟨26,[.t 6],
(.seq (.ops [
df 3 0 [],
df 4 1 [],
df 5 2 [],
aR 6 (.mv (.c .bu)) []])
(.seq (.ops [
aR 7 (.mv (.c .bu)) []])
(.seq (.seq (.ops [
ck 10 3 3 [],
ck 11 3 4 [],
ck 12 3 5 [],
aR 13 (.call 213 [.t 10,.t 11,.t 12]) [0,1,2],
fT 14 13 [3],
cR 15 0 []])
(.block 0
(.loop yy)))
(.seq (.ops [
aq 25 7 [],
aq 6 25 [0,0]])
.ret))))⟩
def rS:bx :=
(.seq (.seq (.ops [
aq 54 13 []])
(.cond (.t 54)
.skip
(.exit 0)))
(.seq (.block 1
(.seq (.ops [
aq 61 12 [],
ck 62 3 11 [],
aR 63 (.call 54 [.t 61,.t 62]) [0,1],
aq 60 63 [2],
fu 64 60 0 [3],
fu 65 60 1 [3],
aq 14 64 [4,2,0,1,2,3,4],
aq 15 65 [5,6,0,1,2,3,4,5,6]])
(.block 2
(.seq (.ops [
aq 67 14 [],
aq 66 67 [0]])
(.cond (.t 66)
(.seq (.draw [
aq 68 12 [],
jE 69 68 [0],
bQ 70 10 69 [1],
bR 71 1 70 [2],
aR 72 (.call 277 [.t 71]) [3],
aq 73 12 [],
jE 74 73 [5],
bQ 75 8 74 [6],
bR 76 1 75 [7],
aR 77 (.build [.pv (.int .i64 0),.bu,.pv (.int .i64 0)] [(0,1,(.c (.pv (.int .i64 1)))),(1,1,(.t 72)),(2,1,(.t 76))]) [4,8],
dk 3 8 77 [9,4,0,1,2,3,4,5,6,7,8,9],
jo 9 [10,0,1,2,3,4,5,6,7,8,9,10]])
.ret)
(.seq (.ops [
aq 79 15 [],
aq 78 79 [0]])
(.cond (.t 78)
(.seq (.ops [
aq 80 12 [],
jE 81 80 [0],
bQ 82 8 81 [1],
bR 83 1 82 [2],
aR 84 (.build [.pv (.int .i64 0),.bu,.pv (.int .i64 0)] [(0,1,(.c (.pv (.int .i64 3)))),(2,1,(.t 83))]) [3],
dk 3 8 84 [4,0,1,2,3,4],
jo 9 [5,0,1,2,3,4,5]])
.ret)
.skip)))))))
(.ops [
aq 56 12 [],
aR 57 (.call 55 [.t 56]) [0],
aq 55 57 [1],
fu 58 55 0 [2],
fu 59 55 1 [2],
dk 3 11 58 [3,1,0,1,2,3],
aq 13 59 [4,5,0,1,2,3,4,5]])))
def f233:bf:=⟨90,[.cell 8 true 3,.t 9],
(.seq (.ops [
df 4 0 [],
df 5 1 [],
aR 8 (.alloc [.pv (.int .i64 0),.bu,.pv (.int .i64 0)]) [],
jo 9 []])
(.seq (.seq (.ops [
ck 16 3 4 [],
ck 17 3 5 [],
aR 18 (.call 80 [.t 16,.t 17]) [0,1],
aq 10 18 [2,2,0,1,2]])
(.seq (.ops [
aq 19 10 [],
aR 20 (.bin .neq (some (.iface true)) (.t 19) (.c (.pv .dI))) [0]])
(.cond (.t 20)
(.seq (.ops [
aR 21 (.build [.pv (.int .i64 0),.bu,.pv (.int .i64 0)] []) [],
aq 22 10 [],
dk 3 8 21 [0,0],
aq 9 22 [1,2,0,1,2]])
.ret)
.skip)))
(.seq (.seq (.ops [
aq 23 2 [],
cM 24 .lss 23 0 [0],
aq 25 24 [1],
fa 26 25 false 2 [2],
gD 27 25 false .gtr 26 40 [3,2],
jT 28 25 27 [2,4],
aq 29 28 [5,2],
fa 30 29 false 3 [6],
gD 31 29 false .lss 30 0 [7,6],
jT 32 29 31 [6,8],
aq 33 32 [9,6],
fa 34 33 false 3 [10],
gD 35 33 false .gtr 34 200000 [11,10],
jT 36 33 35 [10,12]])
(.cond (.t 36)
(.seq (.ops [
aR 37 (.build [.pv (.int .i64 0),.bu,.pv (.int .i64 0)] []) [],
aR 38 (.lr 0 (.c (.pv (.int .i64 3)))) [],
dk 3 8 37 [0,0],
aq 9 38 [1,2,0,1,2]])
.ret)
.skip))
(.seq (.ops [
ck 39 3 4 [],
aR 40 (.call 237 [.t 39]) [0],
aR 11 (.alloc [.bu,.pv (.int .i64 0),.pv (.int .i64 0)]) [],
dk 3 11 40 [2,1,1,0,1,2]])
(.seq (.seq (.ops [
ck 41 3 4 [],
ck 42 3 5 [],
ck 43 3 11 [],
aR 44 (.call 222 [.t 41,.t 42,.t 43]) [0,1,2],
aR 45 (.not (.t 44)) [3]])
(.cond (.t 45)
(.seq (.ops [
aR 46 (.build [.pv (.int .i64 0),.bu,.pv (.int .i64 0)] [(0,1,(.c (.pv (.int .i64 2))))]) [],
dk 3 8 46 [0,0],
jo 9 [1,0,1]])
.ret)
.skip))
(.seq (.ops [
ck 47 3 4 [],
ck 48 3 5 [],
aq 49 2 [],
aq 50 3 [],
aR 51 (.mkMap) [],
aR 52 (.build [.bu,.bu,.bu,.bu,.pv (.int .i64 0),.pv (.int .i64 0),.pv (.int .i64 0),.pv (.int .i64 0),.pv (.int .i64 0),.bot,.bu,.bu] [(0,3,(.t 47)),(3,3,(.t 48)),(6,1,(.t 49)),(7,1,(.t 50)),(9,1,(.t 51))]) [0,1,2,3,4],
df 53 52 [5],
aq 12 53 [6,0,1,2,3,4,5,6]])
(.seq (.seq (.ops [
fV 13 true []])
(.block 0
(.loop rS)))
(.seq (.ops [
aq 85 12 [],
jE 86 85 [0],
bQ 87 8 86 [1],
bR 88 1 87 [2],
aR 89 (.build [.pv (.int .i64 0),.bu,.pv (.int .i64 0)] [(0,1,(.c (.pv (.int .i64 2)))),(2,1,(.t 88))]) [3],
dk 3 8 89 [4,0,1,2,3,4],
jo 9 [5,0,1,2,3,4,5]])
.ret))))))))⟩
section
theorem I3{p:dm}(h:p.wf):(jv p).map pG=[[.int .u64 (IntKind.u64.wrap p.id)],[.int .u64 (IntKind.u64.wrap p.load)],[.int .u64 (IntKind.u64.wrap p.prio)],[.int .u64 p.jU.a],[.int .u64 p.jU.b],[.int .u64 p.jU.c],[.int .u64 p.jU.d],[.int .u64 (IntKind.u64.wrap p.node)]]:=by
 obtain⟨_,_,_,⟨h1,h2,h3,h4⟩,_⟩:=h;simp only[jv,Bi,aX,aC,aI,aE,pG,xq h1,xq h2,xq h3,xq h4,mQ]
theorem pV:∀l:List Nat,o9 (l.map sW)=some (l.map fun n:Nat=>(n:Int))
 |[]=>rfl
 |n::r=>by simp only[aX,o9,sW,pV r]
section
variable{T:cK}
set_option maxRecDepth 100000 in
set_option maxHeartbeats 16000000 in
theorem HI(t:State)(hl:t.pods.length<=1000)(ht:∀p∈t.pods,p.wf)(Q:Exit->St->Prop)
    (bS:∀fr hp nx lJ,lJ<nx->1<=lJ->look fr 1=.ptr 0 0 0->look fr 3=.ms lJ->ah hp lJ=.row 1 ((tk t.pods.length::t.pods.flatMap jv).map pG)->ah hp 0=.var [.pv (.slice (t.pods.map aK)),.pv (.int .i64 t.pre),.pv (.int .i64 t.fe)]->Q (.exit 0) ⟨fr,hp,nx⟩) :
    ∀(rest:List dm) (i:Nat) (acc:List Nat),t.pods.drop i=rest->i<=t.pods.length->acc++rest.flatMap jv=tk t.pods.length::t.pods.flatMap jv->acc.length<=8*i+1->∀(fr:List (Nat×AV)) (hp:Hl) (nx lJ:Nat),1<=lJ->lJ<nx ->
     look fr 1=.ptr 0 0 0->look fr 3=.ms lJ->look fr 12=.pv (.slice (t.pods.map aK))->look fr 13=.pv (.int .i64 t.pods.length)->look fr 14=.pv (.int .i64 i) ->
     ah hp lJ=.row 1 (acc.map pG)->ah hp 0=.var [.pv (.slice (t.pods.map aK)),.pv (.int .i64 t.pre),.pv (.int .i64 t.fe)]->Wp T false (.loop yv) ⟨fr,hp,nx⟩ Q:=by
 intro rest;induction rest with
 |nil =>
  intro i acc hd hi ho ha fr hp nx lJ h1 hlt g1 g3 nS pg ph bl b0;have hlen:=drop_nil hd hi;simp only[NN,bG]at ho;subst ho;rw[az,aY yv.eq_1];simp only[rL',aa,simprocAttr,pg,ph,hlen,aP];refine bS _ _ _ lJ hlt h1 ?_ ?_ bl b0
  all_goals try simp only[aj,Nat.reduceEqDiff,g1,g3]
 |cons p r ih =>
  intro i acc hd hi ho ha fr hp nx lJ h1 hlt g1 g3 nS pg ph bl b0;obtain⟨aN,MF,hw,dh,cW,hb⟩:=drop_cons hd (by omega);have tx:=ht p (dZ aN);have n0:¬nx=lJ:=by omega
  have n1:¬nx+1=lJ:=by omega
  have n3:¬nx=0:=by omega
  have n4:¬nx+1=0:=by omega
  have n5:¬lJ=0:=by omega
  have n6:¬nx+1+1=nx:=by omega
  have n7:¬lJ=nx:=by omega
  have m1:¬lJ=nx+1+1:=by omega
  have m2:¬lJ=nx+3:=by omega
  have m3:¬nx+1+1=0:=by omega
  have m4:¬nx+3=nx:=by omega
  have m5:¬nx+1=nx:=by omega
  have m6:¬nx+1+1=nx+3:=by omega
  have m7:¬nx+4=nx+3:=by omega
  have m8:¬nx+3=nx+5:=by omega
  have m9:¬lJ=nx+5:=by omega
  have OJ:acc.length+3<=2^30:=by omega
  have RL:acc.length+3+4<=2^30:=by omega
  have Uh:acc.length+3+4+1<=2^30:=by omega
  rw[az,aY yv.eq_1];simp only[rL',aa,simprocAttr,g1,g3,nS,pg,ph,MF,aN,aK,bl,chunk,cn,bL,bV,bt,dV,fR,eQ,al,ay,bM,n0,n1,OJ];refine iv (ps:=[(1,7),(2,4),(2,5),(2,7),(3,4),(3,5),(3,7)]) rfl ?_;simp only[rL',aa,simprocAttr,AZ,zT,dV,ca,eZ,n6,n7,n0,n1,m1,m2,m4,m5,m6,m7,RL,Uh,ph,hw,List.drop_succ_cons,gL,kj,List.take_zero,aX,aC,fR,eQ,cn,bL,bV,chunk,bt,aG,al,ay,bM];refine⟨by simp only[iU,uj,mF,fB,mem,keys,iJ,cu,cz,cF,aE,aI,rL',aa,simprocAttr,n6,n7,n0,n1,m1,m2,m4,m5,m6,m7,bB,bq],?_⟩;refine ih (i+1) (acc++jv p) dh cW (by rw[<-ho,eN,gm]) (by rw[aG];simp only[jv,Bi,aX,aC,aI,aE,ay,bM];omega) _ _ _ (nx+4+1) (by omega) (by omega) ?_ ?_ ?_ ?_ ?_ ?_ ?_
  ·all_goals try simp only[aj,Nat.reduceEqDiff,g1]
  ·all_goals try simp only[aj,Nat.reduceEqDiff,]
  ·all_goals try simp only[aj,Nat.reduceEqDiff,nS]
  ·all_goals try simp only[aj,Nat.reduceEqDiff,pg]
  ·all_goals try simp only[aj,Nat.reduceEqDiff,]
  ·simp only[aj,Nat.reduceEqDiff,m8,n6];rw[bh,I3 tx];simp only[gm,aI,aE]
  ·simp only[aj,Nat.reduceEqDiff,m3,n3,n4,n5];simp only[b0]
set_option maxRecDepth 100000 in
set_option maxHeartbeats 16000000 in
theorem MV(JY:Std T 209 f209)(F0:Std T 264 f264)(hf:T.flat 264=false)(t:State)(hl:t.pods.length<=1000)(ht:∀p∈t.pods,p.wf):ba T 209 [aw t] (.str (fO t)):=by
 refine gives JY rfl ?_;simp only[f209,rL',aa,simprocAttr,aw,bt,chunk];refine HI t hl ht _ (fun fr hp nx lJ i1 i2 g1 g3 bl b0=>?_) t.pods 0 [tk t.pods.length] rfl (aO _) rfl (by simp) _ _ _ 1 (ax _) ?_ ?_ ?_ ?_ ?_ ?_ ?_ ?_
 ·have n0:¬nx=0:=by omega
  have n1:¬nx=lJ:=by omega
  have n2:¬nx+1=lJ:=by omega
  have n3:¬lJ=nx+1:=by omega
  have wQ:∀l:List dm,(l.flatMap jv).length=8*l.length:=fun l=>by
   induction l with
   |nil=>rfl
   |cons p r ih =>
    rw[eN,aG,ih];simp only[jv,Bi,aX,aC,aI,aE,ay,bM];omega
  have wQ:=wQ t.pods;have hc:(t.pods.flatMap jv).length+1+2<=2^30:=by omega
  have k:=N6 F0 (rf t) (yY t) (by simp only[rf,ay,aG,wQ,al,bM];omega);have hk:(rf t).map pG=((tk t.pods.length::t.pods.flatMap jv).map pG)++[[.int .u64 (IntKind.u64.wrap t.pre)],[.int .u64 (IntKind.u64.wrap t.fe)]]:=by
   simp only[rf,aX,bh,aC,pG,mQ,aI]
  simp only[wy,nf]at k;rw[hk]at k;simp only[rL',aa,simprocAttr,g1,g3,b0,bl,n0,n1,n2,bt,chunk,cn,bL,bV,dV,fR,eQ,al,ay,bM,hc];refine k.Li hf rfl ?_ ?_
  ·simp only[lf,iB,gi,nR,uI,pE,nm,gZ,iV,mkFun,ah,gT,fp,cg,rL',aa,simprocAttr,fD,sn,qM,n3]
  ·simp only[lf,iB,gi,nR,uI,pE,nm,gZ,iV,mkFun,ah,gT,fp,cg,rL',aa,simprocAttr,fD,sn,qM,n3,dV,pV,fO]
 ·decide
 ·rfl
 ·rfl
 ·rfl
 ·rfl
 ·rfl
 ·simp only[aj,Nat.reduceEqDiff];rfl
 ·simp only[aj,Nat.reduceEqDiff]
end
end
section
def iR(p:Move×State):List PV:=bK p.1++[.slice (p.2.pods.map aK),.int .i64 p.2.pre,.int .i64 p.2.fe]
def outs(s:bc)(x:Spec)(t:State)(l:List Move):List (Move×State):=l.filterMap (rC s x t)
def Iw(s:bc):AV:=.pv (.agg [.slice (s.nodes.map bC),.slice (s.aT.map bO),.slice (s.pods.map aK)])
def sr(t:State):AV:=.pv (.agg [.slice (t.pods.map aK),.int .i64 t.pre,.int .i64 t.fe])
structure nZ(T:cK):Prop where
 s:wB T
 He:pS T 214 f214
 Ml:pS T 215 f215
 Hf:pS T 216 f216
 Fs:T.fW 293=some oU
 FE:T.raw 293=true
 Fq:T.fW 281=some oj
 FD:T.raw 281=true
 Ot:Std T 213 f213
 Oo:Std T 210 f210
 Oq:Std T 212 f212
section
variable{T:cK}
structure xE(s:bc)(x:Spec)(t:State)(a b c o lo:Nat)(hp:Hl)(nx:Nat)(acc:List (Move×State)):Prop where
 ha:ah hp a=.var [.pv (.slice (s.nodes.map bC)),.pv (.slice (s.aT.map bO)),.pv (.slice (s.pods.map aK))]
 hb:ah hp b=.var [.pv (.slice (x.b9.map cj)),.pv (.int .i64 x.pre),.pv (.int .i64 x.fe)]
 hc:ah hp c=.var [.pv (.slice (t.pods.map aK)),.pv (.int .i64 t.pre),.pv (.int .i64 t.fe)]
 ho:∃v,ah hp o=.var [v]/\fo v hp 7 (acc.map iR) lo nx
 l1:a<lo
 l2:b<lo
 l3:c<lo
 l4:o<lo
 l5:lo<=nx
 d1:a≠o
 d2:b≠o
 d3:c≠o
theorem xE.mono{s:bc}{x:Spec}{t:State}{a b c o lo nx cC:Nat}{hp hp':Hl}{acc:List (Move×State)}(h:xE s x t a b c o lo hp nx acc)(k:∀i,i<nx->ah hp' i=ah hp i)(hn:nx<=cC):xE s x t a b c o lo hp' cC acc:=by
 obtain⟨ha,hb,hc,⟨v,ho,hO⟩,l1,l2,l3,l4,l5,d1,d2,d3⟩:=h;exact⟨by rw[k _ (by omega)];exact ha,by rw[k _ (by omega)];exact hb,by rw[k _ (by omega)];exact hc,⟨v,by rw[k _ (by omega)];exact ho,hO.mono (fun i _ hi=>k i hi) hn⟩,l1,l2,l3,l4,by omega,d1,d2,d3⟩
set_option maxRecDepth 100000 in
set_option maxHeartbeats 16000000 in
theorem CX(S:nZ T)(s:bc)(x:Spec)(t:State)(m:Move)(hn:s.nodes.length<=2^29)(nY:s.aT.length<=2^29)(wV:x.b9.length<=2^29)(hl:t.pods.length<=2^29)(hx:∀w∈x.b9,w.wf)(ht:∀p∈t.pods,p.wf)(hm:m.wf)
    {a b c o lo nx:Nat} {hp:Hl} {acc:List (Move×State)} (R:xE s x t a b c o lo hp nx acc) (C7:acc.length<=2^29) :
    ∃hp' cC,D T 214 [.pv (.agg (bK m)),.ptr a 0 0,.ptr b 0 0,.ptr c 0 0,.ptr o 0 0] hp nx=some (.tuple [],hp',cC)/\xE s x t a b c o lo hp' cC (acc++(rC s x t m).toList)/\nx<=cC/\∀k,k<lo->k≠o->ah hp' k=ah hp k:=by
 have hD:∃v1 qd KA,D T 214 [.pv (.agg (bK m)),.ptr a 0 0,.ptr b 0 0,.ptr c 0 0,.ptr o 0 0] hp nx=some (v1,qd,KA)/\(v1=.tuple []/\(xE s x t a b c o lo qd KA (acc++(rC s x t m).toList)/\nx<=KA/\∀k,k<lo->k≠o->ah qd k=ah hp k)):=by
  refine xB S.He rfl ?_;have kd:=O6 S.s s x t m hn nY wV hl hx ht hm;obtain⟨ha,hb,hc,⟨v,ho,hO⟩,l1,l2,l3,l4,l5,d1,d2,d3⟩:=R;have na:¬nx=a:=by omega
  have nb:¬nx=b:=by omega
  have nc:¬nx=c:=by omega
  have no:¬nx=o:=by omega
  have ma:¬nx+1=a:=by omega
  have mb:¬nx+1=b:=by omega
  have mc:¬nx+1=c:=by omega
  have mo:¬nx+1=o:=by omega
  have oa:¬o=a:=fun h=>d1 h.symm;have ob:¬o=b:=fun h=>d2 h.symm;have oc:¬o=c:=fun h=>d3 h.symm;simp only[aF,bg,aw,dG,bK]at kd;simp only[f214,rL',aa,simprocAttr,bK,ha,hb,hc,na,nb,nc];cases hd:oq s x t m with
  |inl e =>
   rw[hd]at kd;have e0:rC s x t m=none:=by unfold rC;rw[hd]
   simp only[gj,aw,ct,aC]at kd;simp only[rL',aa,simprocAttr,kd.call,ks,jK];rw[e0];simp only[Option.toList_none,bG];refine⟨?_,by omega,fun k F1 Ny=>?_⟩
   ·refine(xE.mk ha hb hc ⟨v,ho,hO⟩ l1 l2 l3 l4 l5 d1 d2 d3).mono (fun i hi=>?_) (by omega);have k1:¬nx=i:=by omega
    have k2:¬nx+1=i:=by omega
    simp only[aj,Nat.reduceEqDiff,k1,k2]
   ·have k1:¬nx=k:=by omega
    have k2:¬nx+1=k:=by omega
    simp only[aj,Nat.reduceEqDiff,k1,k2]
  |inr u =>
   rw[hd]at kd;have e0:rC s x t m=some (m,u):=by unfold rC;rw[hd]
   simp only[gj,aw]at kd;have UU:fo v ((nx+1,dx.var [.pv (.slice (u.pods.map aK)),.pv (.int .i64 u.pre),.pv (.int .i64 u.fe)])::(nx+1,dx.var [.bu,.pv (.int .i64 0),.pv (.int .i64 0)])::(nx,dx.var [.pv (.int .i64 m.kind),.pv (.int .i64 m.eP),.pv (.int .i64 m.node),.pv (.int .i64 m.over)])::hp) 7 (acc.map iR) lo (nx+2):=(((hO.over (.inr (ax _))).over (.inr (by omega))).over (.inr (by omega))).up (by omega);obtain⟨v',W,n,a1,a2,a3,a4,a5⟩:=(UU.push (.row 7 [iR (m,u)])).QO (by omega) [iR (m,u)] (by rw[al];simp;omega);obtain rfl:v'=.ms (nx+2+1):=a4 (by simp);have pa:¬nx+2=a:=by omega
   have pb:¬nx+2=b:=by omega
   have pc:¬nx+2=c:=by omega
   have po:¬nx+2=o:=by omega
   have QL:=a2 o (by omega) (hO.ne (.inl l4));have SS:=a2 a (by omega) (hO.ne (.inl l1));have SU:=a2 b (by omega) (hO.ne (.inl l2));have SV:=a2 c (by omega) (hO.ne (.inl l3));simp only[aj,Nat.reduceEqDiff,na,nb,nc,no,ma,mb,mc,mo,pa,pb,pc,po,ha,hb,hc,ho]at QL SS SU SV;have a6:=a1;simp only[iR,bK,aI,aE]at a1 QL;simp only[rL',aa,simprocAttr,kd.call,chunk,cn,bL,bV,bt,dV,ho,no,mo,a1,QL,ks,jK];rw[e0];refine⟨⟨?_,?_,?_,⟨.ms (nx+2+1),?_,?_⟩,l1,l2,l3,l4,by omega,d1,d2,d3⟩,by omega,fun j RS Uv=>?_⟩
   ·simp only[aj,Nat.reduceEqDiff,oa];exact SS
   ·simp only[aj,Nat.reduceEqDiff,ob];exact SU
   ·simp only[aj,Nat.reduceEqDiff,oc];exact SV
   ·simp only[aj,Nat.reduceEqDiff]
   ·simp only[Ed,bh,aX,aC];exact a3.low l4 _
   ·have k1:¬nx=j:=by omega
    have k2:¬nx+1=j:=by omega
    have k3:¬o=j:=fun h=>Uv h.symm;have k4:¬nx+2=j:=by omega
    have:=a2 j (by omega) (hO.ne (.inl RS));simp only[aj,Nat.reduceEqDiff,k1,k2,k4]at this;simp only[aj,Nat.reduceEqDiff,k3];exact this
 obtain⟨v1,qd,KA,e,rfl,h1⟩:=hD;exact⟨qd,KA,e,h1⟩
/-! ### The loops over kinds,pods and nodes -/
def Kp(L:List Nat)(fr0 fr:List (Nat×AV)):Prop:=∀i,i∈L->look fr i=look fr0 i
theorem Kp.put{L:List Nat}{fr0 fr:List (Nat×AV)}{k:Nat}{v:AV}(hk:¬k∈L)(h:Kp L fr0 fr):Kp L fr0 ((k,v)::fr):=fun i hi=>by
 have:¬k=i:=fun e=>hk (e▸hi);rw[bH,ar this];exact h i hi
def pA(v:AV)(hp:Hl)(lo o:Nat)(l:List Int):Prop:=(l=[]/\v=.bu)\/∃id es,v=.gd id 0 l.length/\id<lo/\id≠o/\ah hp id=.row 1 es/\es.take l.length=l.map cD
theorem pA.get{v:AV}{hp:Hl}{lo o:Nat}{l:List Int}{i:Nat}{q:Int}(h:pA v hp lo o l)(hq:l[i]? =some q):∃id es,v=.gd id 0 l.length/\id<lo/\id≠o/\ah hp id=.row 1 es/\es[i]? =some [.int .i64 q]/\i<l.length:=by
 rcases h with⟨rfl,_⟩|⟨id,es,h1,h2,h3,h4,h5⟩
 ·simp at hq
 ·have hi:=(aA.1 hq).1;refine⟨id,es,h1,h2,h3,h4,?_,hi⟩;have:=da (·[i]?) h5;simp only[md,hi,bz,fm,hq,Ec]at this;exact this
theorem pA.len{v:AV}{hp:Hl}{lo o:Nat}{l:List Int}(h:pA v hp lo o l):aS (ah hp) v=some (l.length:Nat):=by
 rcases h with⟨rfl,rfl⟩|⟨id,es,rfl,h2,h3,h4,h5⟩
 ·rfl
 ·have:=da List.length h5;rw[ib,al]at this;simp only[aS,h4]
structure IP(s:bc)(x:Spec)(t:State):Prop where
 hn:s.nodes.length<=2^29
 nY:s.aT.length<=2^29
 wV:x.b9.length<=2^29
 hl:t.pods.length<=2^29
 hx:∀w∈x.b9,w.wf
 ht:∀p∈t.pods,p.wf
theorem mO(s:bc)(x:Spec)(t:State)(l:List Move)(m:Move):outs s x t (l++[m])=outs s x t l++(rC s x t m).toList:=by
 unfold outs;rw[List.filterMap_append];cases h:rC s x t m <;>simp[h]
theorem rk(s:bc)(x:Spec)(t:State)(l:List Move):(outs s x t l).length<=l.length:=List.length_filterMap_le _ _
def oV(a b c o:Nat):AV:=.func 214 [] [.ptr a 0 0,.ptr b 0 0,.ptr c 0 0,.ptr o 0 0]
section
variable{s:bc}{x:Spec}{t:State}{a b c o lo:Nat}{hpS:Hl}{pods nodes:List Int}{fin:List Move}{Q:Exit->St->Prop}
set_option maxRecDepth 100000 in
set_option maxHeartbeats 16000000 in
theorem Ko(S:nZ T)(Z:IP s x t){kind p n:Int}(MA:∀m∈fin,m.wf)(mJ:pods.length<=2^29)(qa:fin.length<=2^29){v6:AV}(h6:pA v6 hpS lo o pods){fr0:List (Nat×AV)}(g2:look fr0 2=oV a b c o)(nS:look fr0 12=.pv (.int .i64 kind))(ph:look fr0 14=.pv (.int .i64 p))(tv:look fr0 16=.pv (.int .i64 n))
    (bS:∀fr hp nx,Kp [2,6,7,12,14,16,53,54,55,66,67,68] fr0 fr->xE s x t a b c o lo hp nx (outs s x t fin)->(∀k,k<lo->k≠o->ah hp k=ah hpS k)->Q (.exit 10) ⟨fr,hp,nx⟩) :
    ∀(rest:List Int) (i:Nat) (pre:List Move),pods.drop i=rest->i<=pods.length->pre++rest.map (fun q=>(⟨kind,p,n,q⟩:Move))=fin->∀(fr:List (Nat×AV)) (hp:Hl) (nx:Nat),Kp [2,6,7,12,14,16,53,54,55,66,67,68] fr0 fr ->
     look fr 80=v6->look fr 81=.pv (.int .i64 pods.length)->look fr 82=.pv (.int .i64 i)->xE s x t a b c o lo hp nx (outs s x t pre)->(∀k,k<lo->k≠o->ah hp k=ah hpS k)->Wp T false (.loop yB) ⟨fr,hp,nx⟩ Q:=by
 intro rest;induction rest with
 |nil =>
  intro i pre hd hi ho fr hp nx hK QX Q8 Q9 R hs;have hlen:=drop_nil hd hi;simp only[aC,bG]at ho;subst ho;rw[az,aY yB.eq_1];simp only[rL',aa,simprocAttr,Q8,Q9,hlen,aP];refine bS _ _ _ ?_ R hs;exact Kp.put (by decide) hK
 |cons q r ih =>
  intro i pre hd hi ho fr hp nx hK QX Q8 Q9 R hs;obtain⟨aN,hlt,hw,dh,cW,hb⟩:=drop_cons hd (by omega);obtain⟨id,es,rfl,e1,e2,e3,e4,e5⟩:=h6.get aN;have IX:=(hs id e1 e2).trans e3;have c2:=(hK 2 (by decide)).trans g2;have vO:=(hK 12 (by decide)).trans nS;have BJ:=(hK 14 (by decide)).trans ph;have TV:=(hK 16 (by decide)).trans tv;have lh:pre.length<=2^29:=by have:=da List.length ho;rw[aG]at this;omega
  obtain⟨hp',cC,eD,R',n1,n2⟩:=CX S s x t ⟨kind,p,n,q⟩ Z.hn Z.nY Z.wV Z.hl Z.hx Z.ht (MA _ (by rw[<-ho];simp)) R (cG (rk ..) lh);simp only[bK]at eD;rw[az,aY yB.eq_1];simp only[rL',aa,simprocAttr,c2,vO,BJ,TV,QX,Q8,Q9,hlt,IX,e4,e5,oV,aU,Ak];refine(dr S.He.raw eD).2 ?_;simp only[rL',aa,simprocAttr,hw,Q9];refine ih (i+1) (pre++[⟨kind,p,n,q⟩]) dh cW (by rw[<-ho];simp) _ _ _ ?_ ?_ ?_ ?_ ?_ ?_
  ·repeat (refine Kp.put (by decide) ?_)
   exact hK
  ·all_goals try simp only[aj,Nat.reduceEqDiff,QX]
  ·all_goals try simp only[aj,Nat.reduceEqDiff,Q8]
  ·all_goals try simp only[aj,Nat.reduceEqDiff,hw]
  ·rw[mO];exact R'
  ·exact fun k h1 h2=>(n2 k h1 h2).trans (hs k h1 h2)
theorem Kp.trans{L L':List Nat}{f0 f1 f2:List (Nat×AV)}(h1:Kp L f0 f1)(h2:Kp L' f1 f2)(hs:∀i,i∈L->i∈L'):Kp L f0 f2:=fun i hi=>(h2 i (hs i hi)).trans (h1 i hi)
theorem pA.same{v:AV}{hp hp':Hl}{lo o:Nat}{l:List Int}(h:pA v hp lo o l)(hs:∀k,k<lo->k≠o->ah hp' k=ah hp k):pA v hp' lo o l:=by
 rcases h with h|⟨id,es,h1,h2,h3,h4,h5⟩
 ·exact .inl h
 ·exact .inr ⟨id,es,h1,h2,h3,(hs id h2 h3).trans h4,h5⟩
def gu(kind p n:Int)(pods:List Int):List Move:=if kind=4 then pods.map fun q=>⟨kind,p,n,q⟩else [⟨kind,p,n,0⟩]
def oR(kind p:Int)(pods nodes:List Int):List Move:=if kind=2 then [⟨kind,p,0,0⟩]else nodes.flatMap fun n=>gu kind p n pods
set_option maxRecDepth 100000 in
set_option maxHeartbeats 16000000 in
theorem Kq(S:nZ T)(Z:IP s x t){kind p:Int}(MA:∀m∈fin,m.wf)(mJ:pods.length<=2^29)(nr:nodes.length<=2^29)(qa:fin.length<=2^29){v6 v7:AV}(h6:pA v6 hpS lo o pods)(h7:pA v7 hpS lo o nodes){fr0:List (Nat×AV)}(g2:look fr0 2=oV a b c o)(g6:look fr0 6=v6)(nS:look fr0 12=.pv (.int .i64 kind))(ph:look fr0 14=.pv (.int .i64 p))
    (bS:∀fr hp nx,Kp [2,6,7,12,14,53,54,55] fr0 fr->xE s x t a b c o lo hp nx (outs s x t fin)->(∀k,k<lo->k≠o->ah hp k=ah hpS k)->Q (.exit 8) ⟨fr,hp,nx⟩) :
    ∀(rest:List Int) (i:Nat) (pre:List Move),nodes.drop i=rest->i<=nodes.length->pre++rest.flatMap (fun n=>gu kind p n pods)=fin->∀(fr:List (Nat×AV)) (hp:Hl) (nx:Nat),Kp [2,6,7,12,14,53,54,55] fr0 fr ->
     look fr 66=v7->look fr 67=.pv (.int .i64 nodes.length)->look fr 68=.pv (.int .i64 i)->xE s x t a b c o lo hp nx (outs s x t pre)->(∀k,k<lo->k≠o->ah hp k=ah hpS k)->Wp T false (.loop uA) ⟨fr,hp,nx⟩ Q:=by
 intro rest;induction rest with
 |nil =>
  intro i pre hd hi ho fr hp nx hK Oi Ns Nt R hs;have hlen:=drop_nil hd hi;simp only[NN,bG]at ho;subst ho;rw[az,aY uA.eq_1];simp only[rL',aa,simprocAttr,Ns,Nt,hlen,aP];refine bS _ _ _ ?_ R hs;exact Kp.put (by decide) hK
 |cons n r ih =>
  intro i pre hd hi ho fr hp nx hK Oi Ns Nt R hs;obtain⟨aN,hlt,hw,dh,cW,hb⟩:=drop_cons hd (by omega);obtain⟨id,es,rfl,e1,e2,e3,e4,e5⟩:=h7.get aN;have IX:=(hs id e1 e2).trans e3;have c2:=(hK 2 (by decide)).trans g2;have c6:=(hK 6 (by decide)).trans g6;have vO:=(hK 12 (by decide)).trans nS;have BJ:=(hK 14 (by decide)).trans ph;rw[eN,<-gm]at ho;have lh:(pre++gu kind p n pods).length<=2^29:=by have:=da List.length ho;rw[aG]at this;omega
  have tx:∀m∈pre++gu kind p n pods,m.wf:=fun m hm=>MA m (by rw[<-ho];exact jq _ hm);by_cases h4:kind=4
  ·have C8:gu kind p n pods=pods.map fun q=>(⟨kind,p,n,q⟩:Move):=by unfold gu;rw[aW h4]
   have k6:=(h6.same hs).len;rw[az,aY uA.eq_1];simp only[rL',aa,simprocAttr,c2,c6,vO,BJ,Oi,Ns,Nt,hlt,IX,e4,e5,h4,k6];refine Ko (hpS:=hpS) (pods:=pods) (fin:=pre++gu kind p n pods) S Z tx mJ lh h6 (fr0:=_) ?_ ?_ ?_ ?_ (fun fG hp' cC k1 R1 s1=>?_) pods 0 pre rfl (aO _) (by rw[C8]) _ _ _ (fun _ _=>rfl) ?_ ?_ ?_ R hs
   ·all_goals try simp only[aj,Nat.reduceEqDiff,c2]
   ·all_goals try simp only[aj,Nat.reduceEqDiff,vO,h4]
   ·all_goals try simp only[aj,Nat.reduceEqDiff,BJ]
   ·all_goals try simp only[aj,Nat.reduceEqDiff,]
   ·have TC:=k1 66 (by decide);have TD:=k1 67 (by decide);have TE:=k1 68 (by decide);simp only[aj,Nat.reduceEqDiff,Oi,Ns,Nt]at TC TD TE;simp only[rL',aa,simprocAttr,TE,hw];refine ih (i+1) _ dh cW ho _ _ _ ?_ ?_ ?_ ?_ R1 s1
    ·refine Kp.put (by decide) (Kp.put (by decide) (Kp.trans ?_ k1 (by decide)))
     repeat (refine Kp.put (by decide) ?_)
     exact hK
    ·all_goals try simp only[aj,Nat.reduceEqDiff,TC]
    ·all_goals try simp only[aj,Nat.reduceEqDiff,TD]
    ·all_goals try simp only[aj,Nat.reduceEqDiff,hw]
   ·all_goals try simp only[aj,Nat.reduceEqDiff,]
   ·all_goals try simp only[aj,Nat.reduceEqDiff,]
   ·all_goals try simp only[aj,Nat.reduceEqDiff,]
    rfl
  ·have C8:gu kind p n pods=[⟨kind,p,n,0⟩]:=by unfold gu;rw[ar h4]
   rw[C8]at ho lh tx;have uQ:pre.length<=2^29:=by rw[aG]at lh;omega
   obtain⟨hp',cC,eD,R',n1,n2⟩:=CX S s x t ⟨kind,p,n,0⟩ Z.hn Z.nY Z.wV Z.hl Z.hx Z.ht (tx _ (by simp)) R (cG (rk ..) uQ);simp only[bK]at eD;rw[az,aY uA.eq_1];simp only[rL',aa,simprocAttr,c2,c6,vO,BJ,Oi,Ns,Nt,hlt,IX,e4,e5,h4,oV,aU,Ak];refine(dr S.He.raw eD).2 ?_;simp only[rL',aa,simprocAttr,hw,Nt];refine ih (i+1) (pre++[⟨kind,p,n,0⟩]) dh cW ho _ _ _ ?_ ?_ ?_ ?_ ?_ ?_
   ·repeat (refine Kp.put (by decide) ?_)
    exact hK
   ·all_goals try simp only[aj,Nat.reduceEqDiff,Oi]
   ·all_goals try simp only[aj,Nat.reduceEqDiff,Ns]
   ·all_goals try simp only[aj,Nat.reduceEqDiff,hw]
   ·rw[mO];exact R'
   ·exact fun k h1 h2=>(n2 k h1 h2).trans (hs k h1 h2)
set_option maxRecDepth 100000 in
set_option maxHeartbeats 16000000 in
theorem Kr(S:nZ T)(Z:IP s x t){kind:Int}(MA:∀m∈fin,m.wf)(mJ:pods.length<=2^29)(nr:nodes.length<=2^29)(qa:fin.length<=2^29){v6 v7:AV}(h6:pA v6 hpS lo o pods)(h7:pA v7 hpS lo o nodes){fr0:List (Nat×AV)}(g2:look fr0 2=oV a b c o)(g6:look fr0 6=v6)(g7:look fr0 7=v7)(nS:look fr0 12=.pv (.int .i64 kind))
    (bS:∀fr hp nx,Kp [2,6,7,12] fr0 fr->xE s x t a b c o lo hp nx (outs s x t fin)->(∀k,k<lo->k≠o->ah hp k=ah hpS k)->Q (.exit 6) ⟨fr,hp,nx⟩) :
    ∀(rest:List Int) (i:Nat) (pre:List Move),pods.drop i=rest->i<=pods.length->pre++rest.flatMap (fun p=>oR kind p pods nodes)=fin->∀(fr:List (Nat×AV)) (hp:Hl) (nx:Nat),Kp [2,6,7,12] fr0 fr ->
     look fr 53=v6->look fr 54=.pv (.int .i64 pods.length)->look fr 55=.pv (.int .i64 i)->xE s x t a b c o lo hp nx (outs s x t pre)->(∀k,k<lo->k≠o->ah hp k=ah hpS k)->Wp T false (.loop uB) ⟨fr,hp,nx⟩ Q:=by
 intro rest;induction rest with
 |nil =>
  intro i pre hd hi ho fr hp nx hK Og Nq Nr R hs;have hlen:=drop_nil hd hi;simp only[NN,bG]at ho;subst ho;rw[az,aY uB.eq_1];simp only[rL',aa,simprocAttr,Nq,Nr,hlen,aP];refine bS _ _ _ ?_ R hs;exact Kp.put (by decide) hK
 |cons p r ih =>
  intro i pre hd hi ho fr hp nx hK Og Nq Nr R hs;obtain⟨aN,hlt,hw,dh,cW,hb⟩:=drop_cons hd (by omega);obtain⟨id,es,UO,e1,e2,e3,e4,e5⟩:=h6.get aN;have IX:=(hs id e1 e2).trans e3;have Oh:=Og;rw[UO]at Og;have c2:=(hK 2 (by decide)).trans g2;have c6:=(hK 6 (by decide)).trans g6;have c7:=(hK 7 (by decide)).trans g7;have vO:=(hK 12 (by decide)).trans nS;rw[eN,<-gm]at ho;have lh:(pre++oR kind p pods nodes).length<=2^29:=by have:=da List.length ho;rw[aG]at this;omega
  have tx:∀m∈pre++oR kind p pods nodes,m.wf:=fun m hm=>MA m (by rw[<-ho];exact jq _ hm);by_cases k2:kind=2
  ·have C8:oR kind p pods nodes=[⟨kind,p,0,0⟩]:=by unfold oR;rw[aW k2]
   rw[C8]at ho lh tx;have uQ:pre.length<=2^29:=by rw[aG]at lh;omega
   obtain⟨hp',cC,eD,R',n1,n2⟩:=CX S s x t ⟨kind,p,0,0⟩ Z.hn Z.nY Z.wV Z.hl Z.hx Z.ht (tx _ (by simp)) R (cG (rk ..) uQ);simp only[bK]at eD;rw[az,aY uB.eq_1];simp only[rL',aa,simprocAttr,c2,vO,Og,Nq,Nr,hlt,IX,e4,e5,k2,oV,aU,Ak];rw[k2]at eD;refine(dr S.He.raw eD).2 ?_;simp only[rL',aa,simprocAttr,hw,Nr];refine ih (i+1) (pre++[⟨kind,p,0,0⟩]) dh cW ho _ _ _ ?_ ?_ ?_ ?_ ?_ ?_
   ·repeat (refine Kp.put (by decide) ?_)
    exact hK
   ·all_goals try simp only[aj,Nat.reduceEqDiff,Oh]
   ·all_goals try simp only[aj,Nat.reduceEqDiff,Nq]
   ·all_goals try simp only[aj,Nat.reduceEqDiff,hw]
   ·rw[mO];exact R'
   ·exact fun k h1 h2=>(n2 k h1 h2).trans (hs k h1 h2)
  ·have C8:oR kind p pods nodes=nodes.flatMap fun n=>gu kind p n pods:=by unfold oR;rw[ar k2]
   have k7:=(h7.same hs).len;rw[az,aY uB.eq_1];simp only[rL',aa,simprocAttr,c2,c7,vO,Og,Nq,Nr,hlt,IX,e4,e5,k2,k7];refine Kq (hpS:=hpS) (pods:=pods) (nodes:=nodes) (fin:=pre++oR kind p pods nodes) S Z (kind:=kind) (p:=p) tx mJ nr lh h6 h7 (fr0:=_) ?_ ?_ ?_ ?_ (fun fG hp' cC k1 R1 s1=>?_) nodes 0 pre rfl (aO _) (by rw[C8]) _ _ _ (fun _ _=>rfl) ?_ ?_ ?_ R hs
   ·all_goals try simp only[aj,Nat.reduceEqDiff,c2]
   ·all_goals try simp only[aj,Nat.reduceEqDiff,c6]
   ·all_goals try simp only[aj,Nat.reduceEqDiff,vO]
   ·all_goals try simp only[aj,Nat.reduceEqDiff,]
   ·have Tz:=k1 53 (by decide);have TA:=k1 54 (by decide);have TB:=k1 55 (by decide);simp only[aj,Nat.reduceEqDiff,Oh,Nq,Nr]at Tz TA TB;simp only[rL',aa,simprocAttr,TB,hw];refine ih (i+1) _ dh cW ho _ _ _ ?_ ?_ ?_ ?_ R1 s1
    ·refine Kp.put (by decide) (Kp.put (by decide) (Kp.trans ?_ k1 (by decide)))
     repeat (refine Kp.put (by decide) ?_)
     exact hK
    ·all_goals try simp only[aj,Nat.reduceEqDiff,Tz]
    ·all_goals try simp only[aj,Nat.reduceEqDiff,TA]
    ·all_goals try simp only[aj,Nat.reduceEqDiff,hw]
   ·all_goals try simp only[aj,Nat.reduceEqDiff,]
   ·all_goals try simp only[aj,Nat.reduceEqDiff,]
   ·all_goals try simp only[aj,Nat.reduceEqDiff,]
    rfl
def CL(pods nodes:List Int)(kind:Int):List Move:=pods.flatMap fun p=>oR kind p pods nodes
def nv(pods nodes:List Int):Nat->Int->List Move
 |0,_=>[]
 |n+1,k=>CL pods nodes k++nv pods nodes n (k+1)
theorem uX(pods nodes:List Int):nv pods nodes 4 1=jW pods nodes:=by
 simp[nv,CL,oR,gu,jW,List.map_eq_flatMap]
set_option maxRecDepth 100000 in
set_option maxHeartbeats 16000000 in
theorem Ks(S:nZ T)(Z:IP s x t)(MA:∀m∈fin,m.wf)(mJ:pods.length<=2^29)(nr:nodes.length<=2^29)(qa:fin.length<=2^29){v6 v7:AV}(h6:pA v6 hpS lo o pods)(h7:pA v7 hpS lo o nodes){fr0:List (Nat×AV)}(g2:look fr0 2=oV a b c o)(g6:look fr0 6=v6)(g7:look fr0 7=v7)
    (bS:∀fr hp nx,xE s x t a b c o lo hp nx (outs s x t fin)->Q (.exit 4) ⟨fr,hp,nx⟩) :
    ∀(n:Nat) (k:Int) (pre:List Move),1<=k->k+n=5->pre++nv pods nodes n k=fin->∀(fr:List (Nat×AV)) (hp:Hl) (nx:Nat),Kp [2,6,7] fr0 fr ->
     look fr 12=.pv (.int .i64 k)->xE s x t a b c o lo hp nx (outs s x t pre)->(∀k,k<lo->k≠o->ah hp k=ah hpS k)->Wp T false (.loop yC) ⟨fr,hp,nx⟩ Q:=by
 intro n;induction n with
 |zero =>
  intro k pre F1 hk ho fr hp nx hK nS R hs;simp only[nv,bG]at ho;subst ho;have hc:¬k<=4:=by omega
  rw[az,aY yC.eq_1];simp only[rL',aa,simprocAttr,nS,hc];exact bS _ _ _ R
 |succ n ih =>
  intro k pre F1 hk ho fr hp nx hK nS R hs;have c2:=(hK 2 (by decide)).trans g2;have c6:=(hK 6 (by decide)).trans g6;have c7:=(hK 7 (by decide)).trans g7;have hc:k<=4:=by omega
  have hw:IntKind.i64.wrap (k+1)=k+1:=by rw[dS] <;>omega
  simp only[nv]at ho;rw[<-gm]at ho;have lh:(pre++CL pods nodes k).length<=2^29:=by have:=da List.length ho;rw[aG]at this;omega
  have tx:∀m∈pre++CL pods nodes k,m.wf:=fun m hm=>MA m (by rw[<-ho];exact jq _ hm);have k6:=(h6.same hs).len;rw[az,aY yC.eq_1];simp only[rL',aa,simprocAttr,c6,nS,hc,k6];refine Kr (hpS:=hpS) (pods:=pods) (nodes:=nodes) (fin:=pre++CL pods nodes k) S Z (kind:=k) tx mJ nr lh h6 h7 (fr0:=_) ?_ ?_ ?_ ?_ (fun fG hp' cC k1 R1 s1=>?_) pods 0 pre rfl (aO _) rfl _ _ _ (fun _ _=>rfl) ?_ ?_ ?_ R hs
  ·all_goals try simp only[aj,Nat.reduceEqDiff,c2]
  ·all_goals try simp only[aj,Nat.reduceEqDiff,c6]
  ·all_goals try simp only[aj,Nat.reduceEqDiff,c7]
  ·all_goals try simp only[aj,Nat.reduceEqDiff,nS]
  ·have Tx:=k1 12 (by decide);simp only[aj,Nat.reduceEqDiff,nS]at Tx;simp only[rL',aa,simprocAttr,Tx,hw];refine ih (k+1) _ (by omega) (by omega) ho _ _ _ ?_ ?_ R1 s1
   ·refine Kp.put (by decide) (Kp.put (by decide) (Kp.put (by decide) (Kp.trans ?_ k1 (by decide))))
    repeat (refine Kp.put (by decide) ?_)
    exact hK
   ·all_goals try simp only[aj,Nat.reduceEqDiff,]
  ·all_goals try simp only[aj,Nat.reduceEqDiff,]
  ·all_goals try simp only[aj,Nat.reduceEqDiff,]
  ·all_goals try simp only[aj,Nat.reduceEqDiff,]
   rfl
end
set_option maxRecDepth 100000 in
set_option maxHeartbeats 16000000 in
theorem JD(t:State)(hl:t.pods.length<=2^29){nx0:Nat}{hp0:Hl}{fr0:List (Nat×AV)}(Q:Exit->St->Prop)
    (bS:∀fr hp nx,Kp [2,3,4,7] fr0 fr->nx0<=nx->fo (look fr 6) hp 1 ((t.pods.map dm.id).map cD) nx0 nx->(∀k,k<nx0->ah hp k=ah hp0 k)->Q (.exit 0) ⟨fr,hp,nx⟩) :
    ∀(rest:List dm) (i:Nat) (acc:List Int),t.pods.drop i=rest->i<=t.pods.length->acc++rest.map dm.id=t.pods.map dm.id->∀(fr:List (Nat×AV)) (hp:Hl) (nx:Nat),Kp [2,3,4,7] fr0 fr->nx0<=nx->look fr 20=.pv (.slice (t.pods.map aK))->look fr 21=.pv (.int .i64 t.pods.length)->look fr 22=.pv (.int .i64 i) ->
     fo (look fr 6) hp 1 (acc.map cD) nx0 nx->(∀k,k<nx0->ah hp k=ah hp0 k)->Wp T false (.loop yz) ⟨fr,hp,nx⟩ Q:=by
 intro rest;induction rest with
 |nil =>
  intro i acc hd hi ho fr hp nx hK ie h7 h8 h9 h3 hs;have hlen:=drop_nil hd hi;simp only[aC,bG]at ho;subst ho;rw[az,aY yz.eq_1];simp only[rL',aa,simprocAttr,h7,h8,h9,hlen,aP];exact bS _ _ _ (Kp.put (by decide) hK) ie (by simp only[aj,Nat.reduceEqDiff];exact h3) hs
 |cons n r ih =>
  intro i acc hd hi ho fr hp nx hK ie h7 h8 h9 h3 hs;obtain⟨aN,hlt,hw,dh,cW,hb⟩:=drop_cons hd (by omega);have hlen:acc.length+1<=2^30:=by
   have:=da List.length ho;simp at this;omega
  have qd:=((h3.over (i:=nx) (b:=.var [.pv (.int .i64 0),.pv (.int .i64 0),.pv (.int .i64 0),.pv (.int .u64 0),.pv (.int .u64 0),.pv (.int .u64 0),.pv (.int .u64 0),.pv (.int .i64 0)]) (.inr (ax _))).over (i:=nx) (b:=.var (dL (aK n))) (.inr (ax _))).up (Nat.le_succ nx);obtain⟨v',W,k,a1,a2,a3⟩:=qd.mh (by omega) (cD n.id) (by rw[al];omega);simp only[cD,aK,dL]at a1 a2 a3;rw[az,aY yz.eq_1];simp only[rL',aa,simprocAttr,h7,h8,h9,hlt,aN,aK,bt,dV,chunk,cn,bL,bV,a1,hw];refine ih (i+1) (acc++[n.id]) dh cW (by rw[<-ho];simp) _ _ _ ?_ (by omega) ?_ ?_ ?_ ?_ (fun j hj=>?_)
  ·repeat (refine Kp.put (by decide) ?_)
   exact hK
  ·all_goals try simp only[aj,Nat.reduceEqDiff,h7]
  ·all_goals try simp only[aj,Nat.reduceEqDiff,h8]
  ·all_goals try simp only[aj,Nat.reduceEqDiff,]
  ·simp only[aj,Nat.reduceEqDiff];simpa only[bh,aX,aC,cD]using a3
  ·rw[a2 j hj];have:¬nx=j:=by omega
   simp only[aD,this,aJ];exact hs j hj
set_option maxRecDepth 100000 in
set_option maxHeartbeats 16000000 in
theorem JE(s:bc)(hl:s.nodes.length<=2^29){nx0:Nat}{hp0:Hl}{fr0:List (Nat×AV)}(Q:Exit->St->Prop)
    (bS:∀fr hp nx,Kp [2,3,4,6] fr0 fr->nx0<=nx->fo (look fr 7) hp 1 ((s.nodes.map Node.id).map cD) nx0 nx->(∀k,k<nx0->ah hp k=ah hp0 k)->Q (.exit 2) ⟨fr,hp,nx⟩) :
    ∀(rest:List Node) (i:Nat) (acc:List Int),s.nodes.drop i=rest->i<=s.nodes.length->acc++rest.map Node.id=s.nodes.map Node.id->∀(fr:List (Nat×AV)) (hp:Hl) (nx:Nat),Kp [2,3,4,6] fr0 fr->nx0<=nx->look fr 33=.pv (.slice (s.nodes.map bC))->look fr 34=.pv (.int .i64 s.nodes.length)->look fr 35=.pv (.int .i64 i) ->
     fo (look fr 7) hp 1 (acc.map cD) nx0 nx->(∀k,k<nx0->ah hp k=ah hp0 k)->Wp T false (.loop yA) ⟨fr,hp,nx⟩ Q:=by
 intro rest;induction rest with
 |nil =>
  intro i acc hd hi ho fr hp nx hK ie h7 h8 h9 h3 hs;have hlen:=drop_nil hd hi;simp only[aC,bG]at ho;subst ho;rw[az,aY yA.eq_1];simp only[rL',aa,simprocAttr,h7,h8,h9,hlen,aP];exact bS _ _ _ (Kp.put (by decide) hK) ie (by simp only[aj,Nat.reduceEqDiff];exact h3) hs
 |cons n r ih =>
  intro i acc hd hi ho fr hp nx hK ie h7 h8 h9 h3 hs;obtain⟨aN,hlt,hw,dh,cW,hb⟩:=drop_cons hd (by omega);have hlen:acc.length+1<=2^30:=by
   have:=da List.length ho;simp at this;omega
  have qd:=((h3.over (i:=nx) (b:=.var [.pv (.int .i64 0),.pv (.int .i64 0),.pv (.int .u64 0),.pv (.int .u64 0),.pv (.int .u64 0),.pv (.int .u64 0),.pv (.int .u64 0),.pv (.int .u64 0),.pv (.int .u64 0),.pv (.int .u64 0)]) (.inr (ax _))).over (i:=nx) (b:=.var (dL (bC n))) (.inr (ax _))).up (Nat.le_succ nx);obtain⟨v',W,k,a1,a2,a3⟩:=qd.mh (by omega) (cD n.id) (by rw[al];omega);simp only[cD,bC,dL]at a1 a2 a3;rw[az,aY yA.eq_1];simp only[rL',aa,simprocAttr,h7,h8,h9,hlt,aN,bC,bt,dV,chunk,cn,bL,bV,a1,hw];refine ih (i+1) (acc++[n.id]) dh cW (by rw[<-ho];simp) _ _ _ ?_ (by omega) ?_ ?_ ?_ ?_ (fun j hj=>?_)
  ·repeat (refine Kp.put (by decide) ?_)
   exact hK
  ·all_goals try simp only[aj,Nat.reduceEqDiff,h7]
  ·all_goals try simp only[aj,Nat.reduceEqDiff,h8]
  ·all_goals try simp only[aj,Nat.reduceEqDiff,]
  ·simp only[aj,Nat.reduceEqDiff];simpa only[bh,aX,aC,cD]using a3
  ·rw[a2 j hj];have:¬nx=j:=by omega
   simp only[aD,this,aJ];exact hs j hj
set_option maxRecDepth 100000 in
theorem LF(S:nZ T){v:AV}{hp:Hl}{nx lo m:Nat}{l:List Int}(h:fo v hp 1 (l.map cD) lo m)(hl:l.length<=2^30) :
    ∃v' hp' cC,D T 216 [v] hp nx=some (v',hp',cC)/\(cC=nx/\((eo l=[]/\v'=.bu)\/∃id es,v'=.gd id 0 (eo l).length/\lo<=id/\id<m/\ah hp' id=.row 1 es/\es.take (eo l).length=(eo l).map cD)/\∀k,(k<lo\/m<=k)->ah hp' k=ah hp k):=by
 rcases h with⟨he,rfl⟩|⟨id,rfl,i1,i2,i3⟩
 ·have hz:l=[]:=by simpa using he
  subst hz;refine xB S.Hf rfl ?_;simp only[f216,rL',aa,simprocAttr];rw[dr S.FE (iD S.Fs (show oU [.bu] hp nx=some (.pv (.tuple []),hp,nx)from rfl))];simp only[rL',aa,simprocAttr];rw[dr S.FD (iD S.Fq (show oj [.bu] hp nx=some (.bu,hp,nx)from rfl))];have hn:eo []=[]:=bX (by have:=eU [];simpa using this);simp only[rL',aa,simprocAttr,ks,jK];refine⟨.inl ?_,fun _ _=>?_⟩
  ·first|exact hn|exact⟨hn,rfl⟩
  ·first|trivial|rfl
 ·refine xB S.Hf rfl ?_;have e1:oU [.ms id] hp nx=some (.pv (.tuple []),(id,.row 1 ((fZ l).map cD))::hp,nx):=by
   simp only[oU,i3,mK,hl,bz]
  have Hm:(fZ l).length<=2^30:=by rw[kJ];exact hl
  have e2:oj [.ms id] ((id,.row 1 ((fZ l).map cD))::hp) nx=some (.gd id 0 (eo l).length,(id,.row 1 ((eo l++List.replicate ((fZ l).length-(eo l).length) 0).map cD))::(id,.row 1 ((fZ l).map cD))::hp,nx):=by
   simp only[oj,aD,bz,mK,Hm];rfl
  simp only[f216,rL',aa,simprocAttr];rw[dr S.FE (iD S.Fs e1)];simp only[rL',aa,simprocAttr];rw[dr S.FD (iD S.Fq e2)];simp only[rL',aa,simprocAttr,ks,jK];refine⟨.inr ⟨id,(eo l++List.replicate ((fZ l).length-(eo l).length) 0).map cD,rfl,i1,i2,?_,?_⟩,fun k hk=>?_⟩
  ·simp only[aj,Nat.reduceEqDiff]
  ·rw[bh,List.take_append_of_le_length (by rw[al];exact ax _),qx (by rw[al];exact ax _)]
  ·have:¬id=k:=by omega
   simp only[aD,this,aJ]
end
end
section
def nM(t:State):List PV:=[.slice (t.pods.map aK),.int .i64 t.pre,.int .i64 t.fe]
theorem oG{α β:Type}{f:α->List β}{k:Nat}:∀(l:List α),(∀a,(f a).length<=k)->(l.flatMap f).length<=l.length*k
 |[],_=>by simp
 |a::r,h=>by
  have h1:=h a;have h2:=oG r h;rw[eN,aG,ay,dq];omega
theorem og(pods nodes:List Int)(h1:pods.length<=500)(h2:nodes.length<=500):(jW pods nodes).length<=2^29:=by
 have a1:=oG (f:=fun p=>nodes.map fun n=>(⟨1,p,n,0⟩:Move)) (k:=nodes.length) pods (fun p=>by simp);have a2:=oG (f:=fun p=>nodes.map fun n=>(⟨3,p,n,0⟩:Move)) (k:=nodes.length) pods (fun p=>by simp);have a3:=oG (f:=fun p=>nodes.flatMap fun n=>pods.map fun q=>(⟨4,p,n,q⟩:Move)) (k:=nodes.length*pods.length) pods (fun p=>oG nodes (fun n=>by simp));have b1:pods.length*nodes.length<=500*500:=jM h1 h2;have b2:pods.length*(nodes.length*pods.length)<=500*(500*500):=jM h1 (jM h2 h1);simp only[jW,aG,al];omega
section
variable{T:cK}
set_option maxRecDepth 100000 in
set_option maxHeartbeats 16000000 in
theorem Mb(S:nZ T){s:bc}{x:Spec}{t:State}(Z:IP s x t)(hs:s.wf)(hn:s.nodes.length<=500)(Ax:t.pods.length<=500){a b c o nx:Nat}{hp:Hl}(R:xE s x t a b c o nx hp nx [])(ho:ah hp o=.var [.bu]) :
    ∃v1 hp' cC,D T 215 [Iw s,sr t,oV a b c o] hp nx=some (v1,hp',cC)/\(v1=.tuple []/\∃lo,o<lo/\xE s x t a b c o lo hp' cC (pC s x t)):=by
 refine xB S.Ml rfl ?_;have l5:=R.l5;have l1:=R.l1;have l2:=R.l2;have l3:=R.l3;have l4:=R.l4;simp only[f215,rL',aa,simprocAttr,Iw,sr,oV];refine JD t Z.hl (nx0:=nx+2) (hp0:=_) (fr0:=_) _ (fun JM qd KA k1 m1 o1 s1=>?_) t.pods 0 [] rfl (aO _) rfl _ _ _ (fun _ _=>rfl) (ax _) ?_ ?_ ?_ ?_ (fun _ _=>rfl)
 ·have j2:=k1 2 (by decide);have j3:=k1 3 (by decide);have j7:=k1 7 (by decide);have b3:=s1 nx (by omega);have nn:¬nx+1=nx:=by omega
  simp only[aj,Nat.reduceEqDiff,nn]at j2 j3 j7 b3;simp only[rL',aa,simprocAttr,j3,b3];refine JE s Z.hn (nx0:=KA) (hp0:=qd) (fr0:=_) _ (fun Nn qt LI k2 m2 o2 s2=>?_) s.nodes 0 [] rfl (aO _) rfl _ _ _ (fun _ _=>rfl) (ax _) ?_ ?_ ?_ ?_ (fun _ _=>rfl)
  ·have i2:=k2 2 (by decide);have i6:=k2 6 (by decide);simp only[aj,Nat.reduceEqDiff,j2]at i2 i6;rw[<-i6]at o1;generalize h6:look Nn 6=v6 at *;generalize h7:look Nn 7=v7 at *;obtain⟨u6,S4,TI,e6,rfl,c6,y6⟩:=LF S (nx:=LI) (o1.mono (hp':=qt) (fun k _ h2=>s2 k h2) (ax _)) (by rw[al];have:=Z.hl;omega);obtain⟨u7,P9,PC,e7,rfl,c7,y7⟩:=LF S (nx:=TI) (o2.mono (hp':=S4) (fun k h1 _=>y6 k (.inr h1)) (ax _)) (by rw[al];have:=Z.hn;omega);simp only[rL',aa,simprocAttr,h6];refine(dr S.Hf.raw e6).2 ?_;simp only[rL',aa,simprocAttr,h7];refine(dr S.Hf.raw e7).2 ?_;simp only[rL',aa,simprocAttr];have ch:∀k,k<nx->ah P9 k=ah hp k:=fun k hk=>by
    rw[y7 k (.inl (by omega)),y6 k (.inl (by omega)),s2 k (by omega),s1 k (by omega)];have q1:¬nx+1=k:=by omega
    have q2:¬nx=k:=by omega
    simp only[aj,Nat.reduceEqDiff,q1,q2]
   have L6:pA u6 P9 PC o (eo (t.pods.map dm.id)):=by
    rcases c6 with h|⟨id,es,a1,a2,a3,a4,a5⟩
    ·exact .inl h
    ·exact .inr ⟨id,es,a1,by omega,by omega,by rw[y7 id (.inl a3)];exact a4,a5⟩
   have L7:pA u7 P9 PC o (eo (s.nodes.map Node.id)):=by
    rcases c7 with h|⟨id,es,a1,a2,a3,a4,a5⟩
    ·exact .inl h
    ·exact .inr ⟨id,es,a1,by omega,by omega,a4,a5⟩
   have p1:(eo (t.pods.map dm.id)).length<=500:=by have:=eU (t.pods.map dm.id);rw[al]at this;omega
   have p2:(eo (s.nodes.map Node.id)).length<=500:=by have:=eU (s.nodes.map Node.id);rw[al]at this;omega
   have R4:xE s x t a b c o PC P9 PC (outs s x t []):=⟨(ch a l1).trans R.ha,(ch b l2).trans R.hb,(ch c l3).trans R.hc,⟨.bu,(ch o l4).trans ho,fo.nil⟩,by omega,by omega,by omega,by omega,ax _,R.d1,R.d2,R.d3⟩;refine Ks S Z (fin:=qD s t) (hpS:=P9) (fun m hm=>xP hs Z.ht hm) (by omega) (by omega) (og _ _ p1 p2) L6 L7 (fr0:=_) ?_ ?_ ?_ (fun fr hp nx R5=>?_) 4 1 [] (by decide) (by decide) (by rw[aE,uX];rfl) _ _ _ (fun _ _=>rfl) ?_ R4 (fun _ _ _=>rfl)
   ·all_goals try simp only[aj,Nat.reduceEqDiff,i2,oV]
   ·all_goals try simp only[aj,Nat.reduceEqDiff,]
   ·all_goals try simp only[aj,Nat.reduceEqDiff,]
   ·simp only[rL',aa,simprocAttr,ks,jK];exact⟨PC,by omega,R5⟩
   ·all_goals try simp only[aj,Nat.reduceEqDiff,]
  ·all_goals try simp only[aj,Nat.reduceEqDiff,]
  ·all_goals try simp only[aj,Nat.reduceEqDiff,]
  ·all_goals try simp only[aj,Nat.reduceEqDiff,]
   rfl
  ·simp only[aj,Nat.reduceEqDiff,j7];exact fo.nil
 ·all_goals try simp only[aj,Nat.reduceEqDiff,]
 ·all_goals try simp only[aj,Nat.reduceEqDiff,]
 ·all_goals try simp only[aj,Nat.reduceEqDiff,]
  rfl
 ·simp only[aj,Nat.reduceEqDiff];exact fo.nil
set_option maxRecDepth 100000 in
set_option maxHeartbeats 16000000 in
theorem zN(S:nZ T){s:bc}{x:Spec}{t:State}(Z:IP s x t)(hs:s.wf)(hn:s.nodes.length<=500)(Ax:t.pods.length<=500):ba T 213 [aF s,bg x,aw t] (.slice ((pC s x t).map iR)):=by
 refine gives S.Ot rfl ?_;have R:xE s x t 0 1 2 3 4 [(3,.var [.bu]),(2,.var [.pv (.slice (t.pods.map aK)),.pv (.int .i64 t.pre),.pv (.int .i64 t.fe)]),(1,.var [.pv (.slice (x.b9.map cj)),.pv (.int .i64 x.pre),.pv (.int .i64 x.fe)]),(0,.var [.pv (.slice (s.nodes.map bC)),.pv (.slice (s.aT.map bO)),.pv (.slice (s.pods.map aK))])] 4 []:=⟨rfl,rfl,rfl,⟨.bu,rfl,fo.nil⟩,by decide,by decide,by decide,by decide,by decide,by decide,by decide,by decide⟩;obtain⟨v1,hp',cC,e,rfl,lo,h1,R2⟩:=Mb S Z hs hn Ax R rfl;obtain⟨v,g1,g2⟩:=R2.ho;simp only[Iw,sr,oV]at e;simp only[f213,rL',aa,simprocAttr,aF,bg,aw];refine(dr S.Ml.raw e).2 ?_;simp only[rL',aa,simprocAttr,g1,g2.snap]
set_option maxRecDepth 100000 in
set_option maxHeartbeats 16000000 in
theorem G7(l:List (Move×State))(hl:l.length<=2^29)(Q:Exit->St->Prop)
    (bS:∀fr hp nx,fo (look fr 7) hp 4 (l.map fun p=>bK p.1) 3 nx->Q (.exit 0) ⟨fr,hp,nx⟩) :
    ∀(rest:List (Move×State)) (i:Nat) (acc:List (Move×State)),l.drop i=rest->i<=l.length->acc++rest=l->∀(fr:List (Nat×AV)) (hp:Hl) (nx:Nat),3<=nx->look fr 13=.pv (.slice (l.map iR))->look fr 14=.pv (.int .i64 l.length)->look fr 15=.pv (.int .i64 i) ->
     fo (look fr 7) hp 4 (acc.map fun p=>bK p.1) 3 nx->Wp T false (.loop yw) ⟨fr,hp,nx⟩ Q:=by
 intro rest;induction rest with
 |nil =>
  intro i acc hd hi ho fr hp nx ie h7 h8 h9 h3;have hlen:=drop_nil hd hi;simp only[bG]at ho;subst ho;rw[az,aY yw.eq_1];simp only[rL',aa,simprocAttr,h7,h8,h9,hlen,aP];exact bS _ _ _ (by simp only[aj,Nat.reduceEqDiff];exact h3)
 |cons n r ih =>
  intro i acc hd hi ho fr hp nx ie h7 h8 h9 h3;obtain⟨aN,hlt,hw,dh,cW,hb⟩:=drop_cons hd (by omega);have hlen:acc.length+1<=2^30:=by
   have:=da List.length ho;simp at this;omega
  obtain⟨m,u⟩:=n;have qd:=((h3.over (i:=nx) (b:=.var [.pv (.int .i64 0),.pv (.int .i64 0),.pv (.int .i64 0),.pv (.int .i64 0),.bu,.pv (.int .i64 0),.pv (.int .i64 0)]) (.inr (ax _))).over (i:=nx) (b:=.var (dL (iR (m,u)))) (.inr (ax _))).up (Nat.le_succ nx);obtain⟨v',W,k,a1,a2,a3⟩:=qd.mh (by omega) (bK m) (by rw[al];omega);simp only[iR,bK,dL,aI,aE]at a1 a3;rw[az,aY yw.eq_1];simp only[rL',aa,simprocAttr,h7,h8,h9,hlt,aN,iR,bK,aI,aE,bt,dV,chunk,cn,bL,bV,a1,hw];refine ih (i+1) (acc++[(m,u)]) dh cW (by rw[<-ho];simp) _ _ _ (by omega) ?_ ?_ ?_ ?_
  ·all_goals try simp only[aj,Nat.reduceEqDiff,h7]
  ·all_goals try simp only[aj,Nat.reduceEqDiff,h8]
  ·all_goals try simp only[aj,Nat.reduceEqDiff,]
  ·simp only[aj,Nat.reduceEqDiff];simpa only[bh,aX,aC,bK]using a3
set_option maxRecDepth 100000 in
set_option maxHeartbeats 16000000 in
theorem LZ(S:nZ T){s:bc}{x:Spec}{t:State}(Z:IP s x t)(hs:s.wf)(hn:s.nodes.length<=500)(Ax:t.pods.length<=500):ba T 210 [aF s,bg x,aw t] (.slice ((pC s x t).map fun p=>bK p.1)):=by
 have k:=zN S Z hs hn Ax;have hle:(pC s x t).length<=2^29:=by
  have p1:(eo (t.pods.map dm.id)).length<=500:=by have:=eU (t.pods.map dm.id);rw[al]at this;omega
  have p2:(eo (s.nodes.map Node.id)).length<=500:=by have:=eU (s.nodes.map Node.id);rw[al]at this;omega
  exact cG (List.length_filterMap_le _ _) (og _ _ p1 p2)
 refine gives S.Oo rfl ?_;simp only[aF,bg,aw]at k⊢;simp only[f210,rL',aa,simprocAttr,k.call];refine G7 _ hle _ (fun fr hp nx h=>?_) (pC s x t) 0 [] rfl (aO _) rfl _ _ _ (ax _) ?_ ?_ ?_ ?_
 ·simp only[rL',aa,simprocAttr,h.snap]
 ·all_goals try simp only[aj,Nat.reduceEqDiff,]
 ·all_goals try simp only[aj,Nat.reduceEqDiff,]
 ·all_goals try simp only[aj,Nat.reduceEqDiff,]
  rfl
 ·simp only[aj,Nat.reduceEqDiff];exact fo.nil
set_option maxRecDepth 100000 in
set_option maxHeartbeats 16000000 in
theorem Ea(l:List (Move×State))(hl:l.length<=2^29)(Q:Exit->St->Prop)
    (bS:∀fr hp nx,fo (look fr 7) hp 3 (l.map fun p=>nM p.2) 3 nx->Q (.exit 0) ⟨fr,hp,nx⟩) :
    ∀(rest:List (Move×State)) (i:Nat) (acc:List (Move×State)),l.drop i=rest->i<=l.length->acc++rest=l->∀(fr:List (Nat×AV)) (hp:Hl) (nx:Nat),3<=nx->look fr 13=.pv (.slice (l.map iR))->look fr 14=.pv (.int .i64 l.length)->look fr 15=.pv (.int .i64 i) ->
     fo (look fr 7) hp 3 (acc.map fun p=>nM p.2) 3 nx->Wp T false (.loop yy) ⟨fr,hp,nx⟩ Q:=by
 intro rest;induction rest with
 |nil =>
  intro i acc hd hi ho fr hp nx ie h7 h8 h9 h3;have hlen:=drop_nil hd hi;simp only[bG]at ho;subst ho;rw[az,aY yy.eq_1];simp only[rL',aa,simprocAttr,h7,h8,h9,hlen,aP];exact bS _ _ _ (by simp only[aj,Nat.reduceEqDiff];exact h3)
 |cons n r ih =>
  intro i acc hd hi ho fr hp nx ie h7 h8 h9 h3;obtain⟨aN,hlt,hw,dh,cW,hb⟩:=drop_cons hd (by omega);have hlen:acc.length+1<=2^30:=by
   have:=da List.length ho;simp at this;omega
  obtain⟨m,u⟩:=n;have qd:=((h3.over (i:=nx) (b:=.var [.pv (.int .i64 0),.pv (.int .i64 0),.pv (.int .i64 0),.pv (.int .i64 0),.bu,.pv (.int .i64 0),.pv (.int .i64 0)]) (.inr (ax _))).over (i:=nx) (b:=.var (dL (iR (m,u)))) (.inr (ax _))).up (Nat.le_succ nx);obtain⟨v',W,k,a1,a2,a3⟩:=qd.mh (by omega) (nM u) (by rw[al];omega);simp only[iR,bK,nM,dL,aI,aE]at a1 a3;rw[az,aY yy.eq_1];simp only[rL',aa,simprocAttr,h7,h8,h9,hlt,aN,iR,bK,nM,aI,aE,bt,dV,chunk,cn,bL,bV,a1,hw];refine ih (i+1) (acc++[(m,u)]) dh cW (by rw[<-ho];simp) _ _ _ (by omega) ?_ ?_ ?_ ?_
  ·all_goals try simp only[aj,Nat.reduceEqDiff,h7]
  ·all_goals try simp only[aj,Nat.reduceEqDiff,h8]
  ·all_goals try simp only[aj,Nat.reduceEqDiff,]
  ·simp only[aj,Nat.reduceEqDiff];simpa only[bh,aX,aC,bK,nM]using a3
set_option maxRecDepth 100000 in
set_option maxHeartbeats 16000000 in
theorem Jc(S:nZ T){s:bc}{x:Spec}{t:State}(Z:IP s x t)(hs:s.wf)(hn:s.nodes.length<=500)(Ax:t.pods.length<=500):ba T 212 [aF s,bg x,aw t] (.slice ((pC s x t).map fun p=>nM p.2)):=by
 have k:=zN S Z hs hn Ax;have hle:(pC s x t).length<=2^29:=by
  have p1:(eo (t.pods.map dm.id)).length<=500:=by have:=eU (t.pods.map dm.id);rw[al]at this;omega
  have p2:(eo (s.nodes.map Node.id)).length<=500:=by have:=eU (s.nodes.map Node.id);rw[al]at this;omega
  exact cG (List.length_filterMap_le _ _) (og _ _ p1 p2)
 refine gives S.Oq rfl ?_;simp only[aF,bg,aw]at k⊢;simp only[f212,rL',aa,simprocAttr,k.call];refine Ea _ hle _ (fun fr hp nx h=>?_) (pC s x t) 0 [] rfl (aO _) rfl _ _ _ (ax _) ?_ ?_ ?_ ?_
 ·simp only[rL',aa,simprocAttr,h.snap]
 ·all_goals try simp only[aj,Nat.reduceEqDiff,]
 ·all_goals try simp only[aj,Nat.reduceEqDiff,]
 ·all_goals try simp only[aj,Nat.reduceEqDiff,]
  rfl
 ·simp only[aj,Nat.reduceEqDiff];exact fo.nil
end
end
theorem Al(o:Option Int):(Option.map (PV.int .i64) o).getD (PV.int .i64 0)=PV.int .i64 (o.getD 0):=by cases o <;>rfl
section
def Aj(f:List (Move×State)):List PV:=[.slice (f.map fun p=>bK p.1),.slice (f.map fun p=>nM p.2)]
def vd(l:List (ByteArray×Int)):List (PV×PV):=l.map fun q=>(.str q.1,.int .i64 q.2)
theorem DM(a b:ByteArray):NC true (.str a) (.str b)=some (decide (a=b)):=by
 simp only[NC,BE]
theorem sb(k:ByteArray):∀l:List (ByteArray×Int),lV true (.str k) (vd l)=some ((AK k l).map (.int .i64))
 |[]=>rfl
 |(a,n)::r=>by
  have ih:=sb k r;simp only[vd]at ih;simp only[vd,aX,lV,DM,AK];by_cases h:k=a
  ·simp[h]
  ·simp[h,ih]
theorem AQ(k:ByteArray)(v:Int):∀l:List (ByteArray×Int),oI true (.str k) (.int .i64 v) (vd l)=some (vd (CR k v l))
 |[]=>rfl
 |(a,n)::r=>by
  have ih:=AQ k v r;simp only[vd]at ih;simp only[vd,aX,oI,DM,CR];by_cases h:k=a
  ·simp[h]
  ·simp[h,ih]
/-! ### Rows that grow and shrink -/
def fy(v:AV)(hp:Hl)(sz:Nat)(es:List (List PV))(lo nx:Nat):Prop:=(es=[]/\v=.bu)\/∃id lH,lo<=id/\id<nx/\(v=.ms id/\lH=es\/v=.gd id 0 es.length/\lH.take es.length=es)/\ah hp id=.row sz lH
section
variable{v:AV}{hp hp':Hl}{sz lo nx cC:Nat}{es:List (List PV)}
theorem fy.of(h:fo v hp sz es lo nx):fy v hp sz es lo nx:=by
 rcases h with h|⟨id,rfl,a,b,c⟩
 ·exact .inl h
 ·exact .inr ⟨id,es,a,b,.inl ⟨rfl,rfl⟩,c⟩
theorem fy.len(h:fy v hp sz es lo nx):aS (ah hp) v=some es.length:=by
 rcases h with⟨rfl,rfl⟩|⟨id,lH,a,b,⟨rfl,rfl⟩|⟨rfl,c⟩,d⟩
 ·rfl
 ·simp only[aS,d]
 ·simp only[aS,d]
theorem fy.mono(h:fy v hp sz es lo nx)(h1:∀k,lo<=k->k<nx->k∈cu v->ah hp' k=ah hp k)(h2:nx<=cC):fy v hp' sz es lo cC:=by
 rcases h with h|⟨id,lH,a,b,c,d⟩
 ·exact .inl h
 ·refine .inr ⟨id,lH,a,by omega,c,?_⟩;rw[h1 id a b (by rcases c with⟨rfl,_⟩|⟨rfl,_⟩ <;>simp[cu])];exact d
theorem fy.mh(h:fy v hp sz es lo nx)(Ho:lo<=nx)(e:List PV)(hl:es.length+1<=2^30) :
    ∃W,fR (ah ((nx,.row sz [e])::hp)) (nx+1) sz v [e]=some (.ms (nx+1),W,1)/\(∀k,k<nx->¬k∈cu v->ah (W++(nx,.row sz [e])::hp) k=ah hp k)/\ah (W++(nx,.row sz [e])::hp) (nx+1)=.row sz (es++[e]):=by
 rcases h with⟨rfl,rfl⟩|⟨id,lH,a,b,c,d⟩
 ·refine⟨[(nx+1,.row sz [e])],?_,fun k hk _=>?_,?_⟩
  ·have:[e].length<=2^30:=by simp
   simp only[fR,this,bz]
  ·have h1:¬nx+1=k:=by omega
   have h2:¬nx=k:=by omega
   simp only[aI,aE,aD,h1,h2,aJ]
  ·simp only[aI,aE,aD,bz]
 ·have q:¬nx=id:=by omega
  have d':ah ((nx,dx.row sz [e])::hp) id=.row sz lH:=by simp only[aD,q,aJ,d]
  have Lp:eQ (ah ((nx,dx.row sz [e])::hp)) sz v=some (id,es)/\v≠ .bu/\cu v=[id]:=by
   rcases c with⟨rfl,rfl⟩|⟨rfl,c⟩
   ·exact⟨by simp only[eQ,d',cg],by simp,rfl⟩
   ·have hle:es.length<=lH.length:=by have:=da List.length c;rw[ib]at this;omega
    have:Nat.ble es.length lH.length=true:=by rw[Nat.ble_eq];exact hle
    exact⟨by simp only[eQ,d',cg,this,c],by simp,rfl⟩
  refine⟨[(id,.dead),(nx+1,.row sz (es++[e]))],?_,fun k hk eA=>?_,?_⟩
  ·have OZ:es.length+[e].length<=2^30:=hl;rcases c with⟨rfl,_⟩|⟨rfl,_⟩ <;>simp only[fR,Lp.1,OZ,bz]
  ·have h1:¬nx+1=k:=by omega
   have h2:¬nx=k:=by omega
   have h3:¬id=k:=fun h=>eA (by rw[Lp.2.2,h];simp);simp only[aI,aE,aD,h1,h2,h3,aJ]
  ·have h3:¬id=nx+1:=by omega
   simp only[aI,aE,aD,h3,bz,aJ]
theorem fy.low(h:fy v hp sz es lo nx):∀i,i∈cu v->lo<=i/\i<nx:=by
 rcases h with⟨_,rfl⟩|⟨id,lH,a,b,⟨rfl,_⟩|⟨rfl,_⟩,d⟩ <;>intro i hi <;>simp[cu]at hi
 ·subst hi;exact⟨a,b⟩
 ·subst hi;exact⟨a,b⟩
theorem fo.Pz(h:fo v hp sz es lo nx)(h1:∀k,lo<=k->k<nx->k∈cu v->ah hp' k=ah hp k)(h2:nx<=cC):fo v hp' sz es lo cC:=by
 rcases h with h|⟨id,rfl,b,c,d⟩
 ·exact .inl h
 ·exact .inr ⟨id,rfl,b,by omega,by rw[h1 id b c (by simp[cu]),d]⟩
end
/-! ### The SE -/
def kB(s:bc)(x:Spec)(depth:Int)(steps spent:Nat)(mid:Nat)(wv sv:AV):dx:=.var [.pv (.slice (s.nodes.map bC)),.pv (.slice (s.aT.map bO)),.pv (.slice (s.pods.map aK)),.pv (.slice (x.b9.map cj)),.pv (.int .i64 x.pre),.pv (.int .i64 x.fe),.pv (.int .i64 depth),.pv (.int .i64 (steps:Nat)),.pv (.int .i64 (spent:Nat)),.map mid,wv,sv]
structure Sv(s:bc)(x:Spec)(depth:Int)(steps:Nat)(k:Sk)(kid mid:Nat)(hp:Hl)(nx:Nat):Prop where
 b:∃wv sv,ah hp kid=kB s x depth steps k.spent mid wv sv/\fo wv hp 4 (k.gK.map bK) (kid+1) nx/\fy sv hp 2 (k.stack.reverse.map Aj) (kid+1) nx/\∀i,i∈cu wv->i∈cu sv->False
 m:ah hp mid=.map (vd k.met)
 l1:mid<kid
 l2:kid<nx
theorem Sv.grow{s:bc}{x:Spec}{depth:Int}{steps:Nat}{k:Sk}{kid mid nx LI id2 Ix:Nat}{hp qt:Hl}{wv sv:AV}{Py:List (ByteArray×Int)}{f:List (Move×State)}
    (hw:fo wv hp 4 (k.gK.map bK) (kid+1) nx) (wP:∀i,i∈cu wv->i∈cu sv->False) (l1:mid<kid)
    (e1:ah qt kid=kB s x depth steps Ix mid wv (.ms id2)) (e2:ah qt id2=.row 2 (k.stack.reverse.map Aj++[Aj f])) (e3:nx<=id2) (e4:id2<LI) (e0:kid<nx) (e5:∀i,kid<i->i<nx->¬i∈cu sv->ah qt i=ah hp i) (e6:ah qt mid=.map (vd Py)) :
    Sv s x depth steps ⟨Py,Ix,k.gK,f::k.stack⟩ kid mid qt LI:=by
 refine⟨⟨wv,.ms id2,e1,hw.Pz (fun i h1 h2 h3=>e5 i h1 h2 (wP i h3)) (by omega),.inr ⟨id2,_,by omega,e4,.inl ⟨rfl,rfl⟩,?_⟩,fun i h1 h2=>?_⟩,e6,l1,by omega⟩
 ·rw[e2,cz,bh];rfl
 ·have:=(fy.of hw).low i h1;simp[cu]at h2;omega
structure Bt(T:cK):Prop where
 s:nZ T
 f:Gf T
 JY:Std T 209 f209
 F0:Std T 264 f264
 Ln:T.flat 264=false
 RA:pS T 54 f54
 RB:pS T 55 f55
def QS(s:bc)(x:Spec)(depth:Int)(steps:Nat)(k:Sk)(t:State)(kid mid:Nat)(v:AV)(hp:Hl)(nx:Nat):Prop:=match gF s x depth steps k t with
 | .done=>v=.tuple [.pv (.bool true),.pv (.bool false)]/\Sv s x depth steps k kid mid hp nx
 | .over=>v=.tuple [.pv (.bool false),.pv (.bool true)]/\Sv s x depth steps k kid mid hp nx
 | .go k'=>v=.tuple [.pv (.bool false),.pv (.bool false)]/\Sv s x depth steps k' kid mid hp nx
section
variable{T:cK}
set_option maxRecDepth 100000 in
set_option maxHeartbeats 16000000 in
theorem JF(S:Bt T){s:bc}{x:Spec}{t:State}{depth:Int}{steps:Nat}{k:Sk}(Z:IP s x t)(hs:s.wf)(hn:s.nodes.length<=500)(Ax:t.pods.length<=500)(My:depth<=1000)(Vw:(k.gK.length:Int)<=depth)(iX:steps<=1000000)(Hu:k.spent<=steps)(VH:k.stack.length<=100000)
    {kid mid nx:Nat} {hp:Hl} (V:Sv s x depth steps k kid mid hp nx) :
    ∃v hp' cC,D T 54 [.ptr kid 0 0,sr t] hp nx=some (v,hp',cC)/\(nx<=cC/\(∀i,i<mid->ah hp' i=ah hp i)/\QS s x depth steps k t kid mid v hp' cC):=by
 refine xB S.RA rfl ?_;obtain⟨⟨wv,sv,hb,hw,hv,wP⟩,hm,l1,l2⟩:=V;have kk:=MV S.JY S.F0 S.Ln t (by omega) Z.ht;have kg:=Am S.f.s5 S.f.w8 S.f.K3 x t (by have:=Z.wV;omega) (by omega);have kf:=Mf S.f x t Z.wV (by omega);simp only[aw,bg]at kk kg kf;have n1:¬nx=kid:=by omega
 have n2:¬nx=mid:=by omega
 have Pp:=hw.over (i:=nx) (b:=.var [.pv (.slice (t.pods.map aK)),.pv (.int .i64 t.pre),.pv (.int .i64 t.fe)]) (.inr (ax _));have MD:=Pp.len;rw[al]at MD;have Qq:IntKind.i64.wrap (depth-(k.gK.length:Int))=depth-k.gK.length:=by rw[dS] <;>omega
 have Av:=hb;simp only[kB]at hb;simp only[f54,rL',aa,simprocAttr,sr];refine(cy rfl).2 ?_;simp only[rL',aa,simprocAttr,hb,n1,MD,Qq,kk.call];refine(cy rfl).2 ?_;unfold QS gF;have fin:∀(hp':Hl),(∀i,i<nx->ah hp' i=ah hp i)->Sv s x depth steps k kid mid hp' (nx+1):=fun hp' h=>⟨⟨wv,sv,(h kid l2).trans Av,hw.mono (fun i _ hi=>h i hi) (by omega),hv.mono (fun i _ hi _=>h i hi) (by omega),wP⟩,(h mid (by omega)).trans hm,l1,by omega⟩;cases hg:dg x.b9 t.pods with
 |true =>
  rw[hg]at kg;simp only[rL',aa,simprocAttr,hb,n1,kg.cm,ks,jK,bz];refine⟨by omega,fun i hi=>?_,?_⟩
  ·have:¬nx=i:=by omega
   simp only[this,aJ]
  ·refine fin _ (fun i hi=>?_);have:¬nx=i:=by omega
   simp only[aD,this,aJ]
 |false =>
  rw[hg]at kg;simp only[bA,aJ];simp only[rL',aa,simprocAttr,hb,n1,kg.cm];refine(cy rfl).2 ?_;have n3:¬kid=mid:=by omega
  have n4:¬kid=nx:=by omega
  have n5:¬mid=kid:=by omega
  have n6:¬mid=nx:=by omega
  have n7:¬nx+1=kid:=by omega
  have n8:¬kid=nx+1:=by omega
  have nl:∀i,i<=kid->¬i∈cu sv:=fun i hi h=>by have:=(hv.low i h).1;omega
  have Se:fy sv ((nx,.var [.pv (.slice (t.pods.map aK)),.pv (.int .i64 t.pre),.pv (.int .i64 t.fe)])::hp) 2 (k.stack.reverse.map Aj) (kid+1) (nx+1):=hv.mono (fun i _ hi _=>by
   have:¬nx=i:=by omega
   simp only[aD,this,aJ]) (by omega)
  obtain⟨W,a1,a2,a3⟩:=Se.mh (by omega) (Aj []) (by rw[al,List.length_reverse];omega);have Q1:∀i,i<nx->¬i∈cu sv->ah (W++(nx+1,.row 2 [Aj []])::(nx,.var [.pv (.slice (t.pods.map aK)),.pv (.int .i64 t.pre),.pv (.int .i64 t.fe)])::hp) i=ah hp i:=fun i hi h2=>by
   have q2:¬nx=i:=by omega
   rw[a2 i (by omega) h2,aD,ar q2]
  have Q2:=Q1 kid l2 (nl kid (ax _));rw[hb]at Q2;have prune:(∀i,i<mid->ah ((kid,kB s x depth steps k.spent mid wv (.ms (nx+1+1)))::(W++(nx+1,.row 2 [Aj []])::(nx,.var [.pv (.slice (t.pods.map aK)),.pv (.int .i64 t.pre),.pv (.int .i64 t.fe)])::hp)) i=ah hp i)/\Sv s x depth steps ⟨k.met,k.spent,k.gK,[]::k.stack⟩ kid mid ((kid,kB s x depth steps k.spent mid wv (.ms (nx+1+1)))::(W++(nx+1,.row 2 [Aj []])::(nx,.var [.pv (.slice (t.pods.map aK)),.pv (.int .i64 t.pre),.pv (.int .i64 t.fe)])::hp)) (nx+3):=by
   refine⟨fun i hi=>?_,Sv.grow hw wP l1 ?_ (id2:=nx+1+1) ?_ (by omega) (by omega) l2 (fun i h1 h2 h3=>?_) ?_⟩
   ·rw[aD,ar (by omega)];exact Q1 i (by omega) (nl i (by omega))
   ·rw[aD,aW rfl]
   ·rw[aD,ar (by omega)];exact a3
   ·rw[aD,ar (by omega)];exact Q1 i h2 h3
   ·rw[aD,ar n3];exact(Q1 mid (by omega) (nl mid (by omega))).trans hm
  simp only[kB,Aj,aC]at a1 Q2 prune;by_cases c1:depth-(k.gK.length:Int)<(la x t:Int)
  ·rw[aW (.inl c1)];simp only[rL',aa,simprocAttr,hb,n1,kf.cm,c1,bt,chunk,cn,bL,bV,dV,a1,Q2,ks,jK];exact⟨by omega,fun i hi=>by have:=prune.1 i hi;rwa [aD]at this,prune.2⟩
  ·by_cases c2:depth-(k.gK.length:Int)<zc (fO t) k.met
   ·have pW:=c2;unfold zc at pW;rw[aW (.inr c2)];simp only[rL',aa,simprocAttr,hb,hm,n1,n2,kf.cm,c1,mapOf,mu,sb,rV,Al,pW,bt,chunk,cn,bL,bV,dV,a1,Q2,ks,jK];exact⟨by omega,fun i hi=>by have:=prune.1 i hi;rwa [aD]at this,prune.2⟩
   ·have pW:=c2;unfold zc at pW;rw[ar (by rintro(h|h);exact c1 h;exact c2 h)];simp only[rL',aa,simprocAttr,hb,hm,n1,n2,kf.cm,c1,mapOf,mu,sb,rV,Al,pW];refine(cy rfl).2 ?_;by_cases c3:k.spent=steps
    ·have Er:((k.spent:Nat):Int)=((steps:Nat):Int):=by omega
     rw[aW c3];simp only[rL',aa,simprocAttr,hb,n1,Er,ks,jK];refine⟨by omega,fun i hi=>by rw[ar (by omega)],fin _ fun i hi=>?_⟩;have:¬nx=i:=by omega
     simp only[aD,this,aJ]
    ·have Er:¬((k.spent:Nat):Int)=((steps:Nat):Int):=by omega
     rw[ar c3];have UR:IntKind.i64.wrap (depth-(k.gK.length:Int)+1)=depth-k.gK.length+1:=by rw[dS] <;>omega
     have Tu:IntKind.i64.wrap ((k.spent:Int)+1)=((k.spent+1:Nat):Int):=by rw[dS] <;>omega
     have ka:=LZ S.s Z hs hn Ax;have kn:=Jc S.s Z hs hn Ax;simp only[aF,bg,aw]at ka kn;have MN:fy sv ((mid,.map (vd (CR (fO t) (depth-(k.gK.length:Int)+1) k.met)))::(kid,kB s x depth steps (k.spent+1) mid wv sv)::(nx,.var [.pv (.slice (t.pods.map aK)),.pv (.int .i64 t.pre),.pv (.int .i64 t.fe)])::hp) 2 (k.stack.reverse.map Aj) (kid+1) (nx+1):=hv.mono (fun i h1 hi _=>by
      have q1:¬nx=i:=by omega
      have q2:¬kid=i:=by omega
      have q3:¬mid=i:=by omega
      simp only[aD,q1,q2,q3,aJ]) (by omega)
     obtain⟨W',b1,b2,b3⟩:=MN.mh (by omega) (Aj (pC s x t)) (by rw[al,List.length_reverse];omega);simp only[kB,Aj]at b1 b2 b3;have SX:=b2 kid (by omega) (nl kid (ax _));simp only[aj,Nat.reduceEqDiff,n3,n5]at SX;simp only[rL',aa,simprocAttr,hb,hm,n1,n2,n3,n4,n5,Er,UR,Tu,mapOf,mu,AQ];refine iv (ps:=[(2,26),(3,26),(4,26)]) rfl ?_;simp only[rL',aa,simprocAttr,n1,n2,n3,n4,n5,n6,hb,ka.iM,kn.iM,bt,chunk,cn,bL,bV,dV,b1,SX];refine⟨by simp only[iU,uj,mF,fB,mem,keys,iJ,cu,cz,cF,aE,aI,rL',aa,simprocAttr,n1,n2,n3,n4,n5,n6,n7,n8,bB,bq],?_⟩;simp only[rL',aa,simprocAttr,ks,jK];refine⟨by omega,fun i hi=>?_,Sv.grow hw wP l1 ?_ (id2:=nx+1+1) ?_ (by omega) (by omega) l2 (fun i h1 h2 h3=>?_) ?_⟩
     ·have q1:¬nx=i:=by omega
      have q2:¬kid=i:=by omega
      have q3:¬mid=i:=by omega
      rw[ar q2,b2 i (by omega) (nl i (by omega))];simp only[aD,q1,q2,q3,aJ]
     ·rw[aD,aW rfl];rfl
     ·rw[aD,ar (by omega)];exact b3
     ·have q1:¬nx=i:=by omega
      have q2:¬kid=i:=by omega
      have q3:¬mid=i:=by omega
      rw[aD,ar q2,b2 i (by omega) h3];simp only[aD,q1,q2,q3,aJ]
     ·rw[aD,ar n3,b2 mid (by omega) (nl mid (by omega))];simp only[aD,bz]
end
end
section
theorem xo{H:Hp}{sz:Nat}{e:List PV}{r:List (List PV)}(h:cn sz (e::r)=true):nX H sz 1 none (.pv (.slice (e::r)))=some (.pv (.slice r)):=by
 simp[nX,h]
theorem CP{α:Type}(l:List α):l=[]\/∃a b,l=a++[b]:=by
 rcases List.eq_nil_or_concat l with h|⟨a,b,h⟩
 ·exact .inl h
 ·exact .inr ⟨a,b,by rw[h,List.concat_eq_append]⟩
theorem Bx(l:List (Move×State)):cn 3 (l.map fun p=>nM p.2)=true:=by
 induction l with
 |nil=>rfl
 |cons m r ih=>exact ih
theorem Eh(l:List (Move×State)):cn 4 (l.map fun p=>bK p.1)=true:=by
 induction l with
 |nil=>rfl
 |cons m r ih=>exact ih
theorem fy.snoc{v:AV}{hp:Hl}{sz lo nx:Nat}{rN:List (List PV)}{e:List PV}(h:fy v hp sz (rN++[e]) lo nx):∃id lH,lo<=id/\id<nx/\cu v=[id]/\ah hp id=.row sz lH/\lH[rN.length]? =some e/\rN.length<lH.length/\lH.take rN.length=rN /\
    (∀hp',ah hp' id=.row sz lH->aS (ah hp') v=some (rN.length+1)/\kD (ah hp') sz (rN.length:Nat) v=some (.ptr id rN.length 0)/\nX (ah hp') sz 0 (some rN.length) v=some (.gd id 0 rN.length)) /\
    ∀hp' e' cC,ah hp' id=.row sz (lH.set rN.length e')->nx<=cC->fy v hp' sz (rN++[e']) lo cC:=by
 rcases h with⟨h,_⟩|⟨id,lH,a,b,⟨rfl,rfl⟩|⟨rfl,c⟩,d⟩
 ·simp at h
 ·refine⟨id,rN++[e],a,b,rfl,d,by simp,by simp,by simp,fun hp' hd=>⟨?_,?_,?_⟩,fun hp' e' cC hd hn=>.inr ⟨id,rN++[e'],a,by omega,.inl ⟨rfl,rfl⟩,?_⟩⟩
  ·simp[aS,hd]
  ·simp[kD,hd]
  ·simp[nX,hd]
  ·rw[hd];simp
 ·have hlen:rN.length+1<=lH.length:=by have:=da List.length c;simp at this;omega
  have ht:lH.take rN.length=rN:=by
   have:=da (List.take rN.length) c;rw[List.take_take]at this;simpa using this
  have hg:lH[rN.length]? =some e:=by
   have:=da (·[rN.length]?) c;simpa using this
  refine⟨id,lH,a,b,rfl,d,hg,by omega,ht,fun hp' hd=>⟨?_,?_,?_⟩,fun hp' e' cC hd hn=>.inr ⟨id,_,a,by omega,.inr ⟨by simp,?_⟩,hd⟩⟩
  ·simp[aS,hd]
  ·simp[kD,hd]
  ·simp[nX,hd]
  ·have:(rN++[e']).length=rN.length+1:=by simp
   rw[this,List.take_add_one,List.take_set_of_le (ax _),ht];simp[kL (show rN.length<lH.length by omega)]
theorem fy.pop{hp':Hl}{sz lo id n cC:Nat}{lH rN:List (List PV)}(a:lo<=id)(b:id<cC)(d:ah hp' id=.row sz lH)(ht:lH.take n=rN)(hn:n=rN.length):fy (.gd id 0 n) hp' sz rN lo cC :=
 .inr ⟨id,lH,a,b,.inr ⟨by rw[hn],by rw[<-hn];exact ht⟩,d⟩
structure TR(s:bc)(x:Spec)(depth:Int)(steps spent:Nat)(met:List (ByteArray×Int))(gK:List Move)(st:List (List (Move×State)))(kid mid rid:Nat)(hp:Hl)(nx:Nat):Prop where
 b:∃wv sv,ah hp kid=kB s x depth steps spent mid wv sv/\fy wv hp 4 (gK.map bK) (kid+1) nx/\fy sv hp 2 (st.reverse.map Aj) (kid+1) nx/\(∀i,i∈cu wv->i∈cu sv->False)/\¬rid∈cu wv/\¬rid∈cu sv
 m:ah hp mid=.map (vd met)
 r:ah hp rid=.var [.bu,.pv (.int .i64 0),.pv (.int .i64 0)]
 l1:mid<kid
 l2:kid<rid
 l3:rid<nx
section
variable{T:cK}
set_option maxRecDepth 100000 in
set_option maxHeartbeats 16000000 in
theorem Fl{s:bc}{x:Spec}{depth:Int}{steps spent:Nat}{met:List (ByteArray×Int)}{kid mid rid:Nat}{hp0:Hl}(Q:Exit->St->Prop)(o:Option (State×List Move×List (List (Move×State))))
    (bS:o=none->∀fr hp nx,look fr 0=.ptr kid 0 0->look fr 2=.ptr rid 0 0->(∃wv sv,ah hp kid=kB s x depth steps spent mid wv sv)->ah hp rid=.var [.bu,.pv (.int .i64 0),.pv (.int .i64 0)]->(∀i,i<mid->ah hp i=ah hp0 i)->Q (.exit 0) ⟨fr,hp,nx⟩)
    (dK:∀u w' bT,o=some (u,w',bT)->∀fr hp nx,look fr 2=.ptr rid 0 0->look fr 3=.pv (.bool true)->ah hp rid=.var [.pv (.slice (u.pods.map aK)),.pv (.int .i64 u.pre),.pv (.int .i64 u.fe)]->Sv s x depth steps ⟨met,spent,w',bT⟩ kid mid hp nx->rid<nx->(∀i,i<mid->ah hp i=ah hp0 i)->Q .ret ⟨fr,hp,nx⟩) :
    ∀(st:List (List (Move×State))) (gK:List Move),eY st gK=o->st.length<=100000->gK.length<=100000->∀(fr:List (Nat×AV)) (hp:Hl) (nx:Nat),look fr 0=.ptr kid 0 0->look fr 2=.ptr rid 0 0->TR s x depth steps spent met gK st kid mid rid hp nx->(∀i,i<mid->ah hp i=ah hp0 i)->Wp T false (.loop Af) ⟨fr,hp,nx⟩ Q:=by
 intro st;induction st with
 |nil =>
  intro gK ho MD ME fr hp nx g0 g2 V hs;obtain⟨⟨wv,sv,hb,hw,hv,wP,q1,q2⟩,hm,hr,l1,l2,l3⟩:=V;have hlen:=hv.len;have Av:=hb;simp only[kB]at hb;simp only[cF,aC,bM]at hlen;have z0:((0:Nat):Int)=0:=rfl;rw[az,aY Af.eq_1];simp only[rL',aa,simprocAttr,g0,hb,hlen,z0];refine bS (by rw[<-ho];rfl) _ _ _ ?_ ?_ ⟨wv,sv,Av⟩ hr hs
  ·all_goals try simp only[aj,Nat.reduceEqDiff,g0]
  ·all_goals try simp only[aj,Nat.reduceEqDiff,g2]
 |cons f r ih =>
  intro gK ho MD ME fr hp nx g0 g2 V hs;obtain⟨⟨wv,sv,hb,hw,hv,wP,q1,q2⟩,hm,hr,l1,l2,l3⟩:=V;have Av:=hb;simp only[kB]at hb;have VI:=hv;rw[cz,bh]at hv;obtain⟨id,lH,i1,i2,i3,i4,i5,i6,i7,i8,i9⟩:=hv.snoc;rw[al,List.length_reverse]at i5 i6 i7 i8 i9;obtain⟨f1,f2,f3⟩:=i8 hp i4;have hz:((r.length:Int)+1:Int)=((r.length+1:Nat):Int):=by omega
  have wc:(0:Int)<((r.length+1:Nat):Int):=by omega
  have Pp:IntKind.i64.wrap (((r.length+1:Nat):Int)-1)=(r.length:Int):=by
   simp only[ay]at MD;rw[dS] <;>omega
  have z0:((0:Nat):Int)=0:=rfl;have m1:¬id=kid:=by omega
  have m3:¬nx=kid:=by omega
  have m4:¬nx=id:=by omega
  have m5:¬nx+1=kid:=by omega
  have m6:¬nx+1=id:=by omega
  have m7:¬nx=rid:=by omega
  have m8:¬kid=rid:=by omega
  have m9:¬id=rid:=fun h=>q2 (by rw[i3,h];simp);have V6:¬kid=nx:=by omega
  have V7:¬id=nx:=by omega
  have m2:¬kid=id:=by omega
  cases f with
  |nil =>
   simp only[Aj,aC]at i5;rw[az,aY Af.eq_1];simp only[rL',aa,simprocAttr,g0,hb,f1,wc];refine(cy rfl).2 ?_;simp only[rL',aa,simprocAttr,g0,hb,f1,Pp,f2,i4,i5,z0];refine(cy rfl).2 ?_;simp only[rL',aa,simprocAttr,g0,hb,f1,Pp,nd,ff,bY,f3,lZ,i4,m2];have MG:∀B i,kid<i->ah ((kid,B)::hp) i=ah hp i:=fun B i hi=>by
    rw[aD,ar (by omega)]
   have Ts:∀B,fy wv ((kid,B)::hp) 4 (gK.map bK) (kid+1) nx:=fun B=>hw.mono (fun i h1 _ _=>MG B i (by omega)) (ax _);have Tl:=fun B=>(Ts B).len;have Pj:∀hp',ah hp' id=.row 2 lH->fy (.gd id 0 r.length) hp' 2 (r.reverse.map Aj) (kid+1) nx:=fun hp' h=>fy.pop i1 i2 h i7 (by rw[al,List.length_reverse]);have RO:∀i,i∈cu wv->i∈cu (.gd id 0 r.length)->False:=fun i h1 h2=>wP i h1 (by rw[i3];exact h2);have Tn:¬rid∈cu (.gd id 0 r.length):=fun h=>q2 (by rw[i3];exact h);have RI:∀B,ah ((kid,B)::hp) id=.row 2 lH:=fun B=>(MG B id (by omega)).trans i4;have RW:∀B i,i<mid->ah ((kid,B)::hp) i=ah hp0 i:=fun B i hi=>by
    rw[aD,ar (by omega)];exact hs i hi
   rcases CP gK with rfl|⟨w0,m0,rfl⟩
   ·simp only[aC,bM]at Tl;simp only[rL',aa,simprocAttr,Tl,z0];refine ih [] (by rw[<-ho];rfl) (by simp only[ay]at MD;omega) (by simp) _ _ _ ?_ ?_ ⟨⟨wv,.gd id 0 r.length,?_,Ts _,Pj _ (RI _),RO,q1,Tn⟩,?_,?_,l1,l2,l3⟩ (RW _)
    ·all_goals try simp only[aj,Nat.reduceEqDiff,g0]
    ·all_goals try simp only[aj,Nat.reduceEqDiff,g2]
    ·rw[aD,aW rfl];rfl
    ·rw[aD,ar (by omega)];exact hm
    ·rw[aD,ar (by omega)];exact hr
   ·have VJ:=hw;rw[bh]at hw;obtain⟨wid,Vs,j1,j2,j3,j4,j5,j6,j7,j8,j9⟩:=hw.snoc;rw[al]at j5 j6 j7 j8 j9;have jB:=fun B=>j8 ((kid,B)::hp) ((MG B wid (by omega)).trans j4);have k1:=fun B=>(jB B).1;have k3:=fun B=>(jB B).2.2;have Tt:w0.length+1<=100000:=by simpa using ME
    have tx:(0:Int)<((w0.length+1:Nat):Int):=by omega
    have MQ:IntKind.i64.wrap (((w0.length+1:Nat):Int)-1)=(w0.length:Int):=by rw[dS] <;>omega
    simp only[rL',aa,simprocAttr,k1,tx];refine(cy rfl).2 ?_;simp only[rL',aa,simprocAttr,g0,k1,MQ,nd,ff,bY,k3,lZ];have US:¬wid=id:=fun h=>wP wid (by rw[j3];simp) (by rw[i3,h];simp);have Ny:∀B B' i,kid<i->ah ((kid,B)::(kid,B')::hp) i=ah hp i:=fun B B' i hi=>by
     rw[aD,ar (by omega),aD,ar (by omega)]
    refine ih w0 (by rw[<-ho];simp[eY]) (by simp only[ay]at MD;omega) (by omega) _ _ _ ?_ ?_ ⟨⟨.gd wid 0 w0.length,.gd id 0 r.length,?_,?_,Pj _ ?_,?_,?_,Tn⟩,?_,?_,l1,l2,l3⟩ (fun i hi=>?_)
    ·all_goals try simp only[aj,Nat.reduceEqDiff,g0]
    ·all_goals try simp only[aj,Nat.reduceEqDiff,g2]
    ·rw[aD,aW rfl];rfl
    ·exact fy.pop j1 j2 ((Ny _ _ wid (by omega)).trans j4) j7 (by rw[al])
    ·exact(Ny _ _ id (by omega)).trans i4
    ·intro i h1 h2;exact wP i (by rw[j3];exact h1) (by rw[i3];exact h2)
    ·exact fun h=>q1 (by rw[j3];exact h)
    ·rw[aD,ar (by omega),aD,ar (by omega)];exact hm
    ·rw[aD,ar (by omega),aD,ar (by omega)];exact hr
    ·rw[aD,ar (by omega),aD,ar (by omega)];exact hs i hi
  |cons p f =>
   obtain⟨m,u⟩:=p;simp only[Aj,aX]at i5;rw[az,aY Af.eq_1];simp only[rL',aa,simprocAttr,g0,hb,f1,wc];refine(cy rfl).2 ?_;have Pb:(0:Int)<((f.length+1:Nat):Int):=by omega
   have am:=Eh ((m,u)::f);have au:=Bx ((m,u)::f);simp only[aX]at am au;have tm:=fun H=>xo (H:=H) am;have tu:=fun H=>xo (H:=H) au;simp only[bK,nM]at i5 tm tu;have wl:∀i,i<=kid->¬i∈cu wv:=fun i hi h=>by have:=(hw.low i h).1;omega
   have wn:¬nx∈cu wv:=fun h=>by have:=(hw.low nx h).2;omega
   have wi:¬id∈cu wv:=fun h=>wP id h (by rw[i3];simp);have UP:fy wv ((nx,.var [.pv (.slice (u.pods.map aK)),.pv (.int .i64 u.pre),.pv (.int .i64 u.fe)])::(nx,.var [.bu,.pv (.int .i64 0),.pv (.int .i64 0)])::hp) 4 (gK.map bK) (kid+1) (nx+1):=hw.mono (fun i _ hi _=>by
    have:¬nx=i:=by omega
    simp only[aD,this,aJ]) (by omega)
   obtain⟨W,b1,b2,b3⟩:=UP.mh (by omega) (bK m) (by rw[al];omega);have bk:=b2 kid (by omega) (wl kid (ax _));have bi:=b2 id (by omega) wi;have bn:=b2 nx (by omega) wn;have br:=b2 rid (by omega) q1;have bm:=b2 mid (by omega) (wl mid (by omega));simp only[bK]at b1 bk bi bn br bm b3;simp only[aj,Nat.reduceEqDiff,m3,m4,m7,hb,i4,hr]at bk bi bn br bm;have gs:=fun e1=>kL (a:=e1) i6;simp only[rL',aa,simprocAttr,g0,hb,f1,Pp,f2,i4,i5,al,Pb];refine iv (ps:=[(2,11),(3,11),(4,11)]) rfl ?_;simp only[rL',aa,simprocAttr,g0,hb,i4,i5,m3,m4,bt,chunk,cn,bL,bV,dV,b1,bk];refine⟨by simp only[iU,uj,mF,fB,mem,keys,iJ,cu,cz,cF,aE,aI,rL',aa,simprocAttr,g0,m3,m4,m5,m6,bB,bq],?_⟩;refine iv (ps:=[(11,14)]) rfl ?_;simp only[rL',aa,simprocAttr,nd,ff,ic,bi,m2,i5,tm,tu,gs];refine⟨by simp only[iU,uj,mF,fB,mem,keys,iJ,cu,cz,cF,aE,aI,rL',aa,simprocAttr,bB,bq],?_⟩;simp only[rL',aa,simprocAttr,g2,bn,br,m8,m9,V6,V7];have r1:¬rid=kid:=by omega
   have r2:¬rid=id:=fun h=>m9 h.symm;have r3:¬rid=mid:=by omega
   have r4:¬id=mid:=by omega
   have r5:¬kid=mid:=by omega
   have r6:¬rid=nx+1+1:=by omega
   have r7:¬id=nx+1+1:=by omega
   have r8:¬kid=nx+1+1:=by omega
   refine dK u (gK++[m]) (f::r) ho.symm _ _ _ ?_ ?_ ?_ ⟨⟨.ms (nx+1+1),sv,?_,.inr ⟨nx+1+1,rfl,by omega,by omega,?_⟩,?_,fun i h1 h2=>?_⟩,?_,l1,by omega⟩ (by omega) (fun i hi=>?_)
   ·all_goals try simp only[aj,Nat.reduceEqDiff,g2]
   ·all_goals try simp only[aj,Nat.reduceEqDiff,]
   ·simp only[aj,Nat.reduceEqDiff]
   ·simp only[aD,r1,m1,aJ,bz];rfl
   ·simp only[aD,r6,r7,r8,aJ];rw[bh];exact b3
   ·rw[cz,bh];refine i9 _ (Aj f) _ ?_ (by omega);simp only[aD,r2,aJ,bz,List.set_set];rfl
   ·rw[i3]at h2;simp[cu]at h1 h2;omega
   ·simp only[aD,r3,r4,r5,aJ];rw[bm];have:¬nx=mid:=by omega
    simp only[this,aJ];exact hm
   ·have q3:¬rid=i:=by omega
    have q4:¬id=i:=by omega
    have q5:¬kid=i:=by omega
    have q6:¬nx=i:=by omega
    simp only[aD,q3,q4,q5,aJ];have:=b2 i (by omega) (wl i (by omega));simp only[bK]at this;rw[this];simp only[aD,q6,aJ];exact hs i hi
set_option maxRecDepth 100000 in
set_option maxHeartbeats 16000000 in
theorem N3(S:Bt T){s:bc}{x:Spec}{depth:Int}{steps:Nat}{k:Sk}{kid mid nx:Nat}{hp:Hl}(h1:k.stack.length<=100000)(h2:k.gK.length<=100000)(V:Sv s x depth steps k kid mid hp nx) :
    ∃v hp' cC,D T 55 [.ptr kid 0 0] hp nx=some (v,hp',cC)/\((∀i,i<mid->ah hp' i=ah hp i)/\match eY k.stack k.gK with
     |some (u,w,st)=>v=.tuple [.pv (.agg [.slice (u.pods.map aK),.int .i64 u.pre,.int .i64 u.fe]),.pv (.bool true)]/\Sv s x depth steps ⟨k.met,k.spent,w,st⟩ kid mid hp' cC
     |none=>v=.tuple [.agg [.bu,.pv (.int .i64 0),.pv (.int .i64 0)],.pv (.bool false)]/\∃wv sv,ah hp' kid=kB s x depth steps k.spent mid wv sv):=by
 refine xB S.RB rfl ?_;obtain⟨⟨wv,sv,hb,hw,hv,wP⟩,hm,l1,l2⟩:=V;have n1:¬nx=kid:=by omega
 have n2:¬nx=mid:=by omega
 have ha:∀B i,i<nx->ah ((nx,B)::hp) i=ah hp i:=fun B i hi=>by
  rw[aD,ar (by omega)]
 simp only[f55,rL',aa,simprocAttr];refine Fl (s:=s) (x:=x) (depth:=depth) (steps:=steps) (hp0:=hp) (mid:=mid) (rid:=nx) (met:=k.met) (spent:=k.spent) _ (eY k.stack k.gK) (fun ho fr hp' cC g0 g2 gb gr gs=>?_) (fun u w st ho fr hp' cC g2 g3 gr gv gx gs=>?_) k.stack k.gK rfl h1 h2 _ _ _ ?_ ?_ ⟨⟨wv,sv,?_,(fy.of hw).mono (fun i _ hi _=>ha _ i hi) (by omega),hv.mono (fun i _ hi _=>ha _ i hi) (by omega),wP,fun h=>by have:=((fy.of hw).low nx h).2;omega,fun h=>by have:=(hv.low nx h).2;omega⟩,?_,?_,l1,l2,by omega⟩ (fun i hi=>ha _ i (by omega))
 ·rw[ho];simp only[rL',aa,simprocAttr,g2,gr,ks,jK];obtain⟨IJ,LW,gb⟩:=gb;exact⟨fun i hi=>by rw[ar (by omega)];exact gs i hi,IJ,LW,by rw[ar n1];exact gb⟩
 ·rw[ho];simp only[rL',aa,simprocAttr,g2,g3,gr,ks,jK];exact⟨gs,gv⟩
 ·all_goals try simp only[aj,Nat.reduceEqDiff,]
 ·all_goals try simp only[aj,Nat.reduceEqDiff,]
 ·rw[ha _ kid l2];exact hb
 ·rw[ha _ mid (by omega)];exact hm
 ·simp only[aj,Nat.reduceEqDiff]
end
end
section
theorem Ba{hp0:Hl}{id sz:Nat}{es:List (List PV)}(h:ah hp0 id=.row sz es):∀hp:Hl,ah hp id≠ .dead->id∈iB (ah hp0) hp
 |[],hn=>by simp[ah]at hn
 |(i,B)::r,hn=>by
  rw[aD]at hn;by_cases e:i=id
  ·subst e;simp only[iB,h,aQ,true_or]
  ·rw[ar e]at hn;have:=Ba h r hn;unfold iB;split
   ·exact bd _ this
   ·exact this
def Jl(wv:AV)(W:List (List PV)):Prop:=(W=[]/\wv=.bu)\/wv=.pv (.slice W)
theorem uJ{s:bc}{x:Spec}{depth:Int}{steps spent mid kid rid:Nat}{W:List (List PV)}(hk:kid≠rid):∀(l:List Nat) (st:St) (wv sv:AV),look st.fr 12=.ptr kid 0 0->look st.fr 8=.ptr rid 0 0->ah st.hp kid=kB s x depth steps spent mid wv sv->ah st.hp rid=.var [.pv (.int .i64 0),.bu,.pv (.int .i64 0)] ->
    (Jl wv W\/∃id,wv=.ms id/\ah st.hp id=.row 4 W/\id∈l)->look (gi l st []).1.fr 12=.ptr kid 0 0/\look (gi l st []).1.fr 8=.ptr rid 0 0/\(∃IJ LW,ah (gi l st []).1.hp kid=kB s x depth steps spent mid IJ LW/\Jl IJ W)/\ah (gi l st []).1.hp rid=.var [.pv (.int .i64 0),.bu,.pv (.int .i64 0)]
 |[],st,wv,sv,mS,h8,hb,hr,hw=>by
  refine⟨mS,h8,⟨wv,sv,hb,?_⟩,hr⟩;rcases hw with h|⟨id,_,_,h⟩
  ·exact h
  ·simp at h
 |i::r,st,wv,sv,mS,h8,hb,hr,hw=>by
  simp only[gi];have hA:qM i st []=[]:=by
   unfold qM;split <;>rfl
  rw[hA];cases hB:ah st.hp i with
  |row sz es =>
   have e1:¬i=kid:=fun h=>by rw[h,hb]at hB;simp[kB]at hB
   have e2:¬i=rid:=fun h=>by rw[h,hr]at hB;simp at hB
   have c1:Nat.beq kid i=false:=f6 (fun h=>e1 h.symm);have c2:Nat.beq rid i=false:=f6 (fun h=>e2 h.symm);have hS:nR i st=⟨uI i es st.fr,(i,.dead)::pE i es st.hp,st.nx⟩:=by simp only[nR,hB]
   rw[hS];refine uJ hk r _ (gZ i es wv) (gZ i es sv) ?_ ?_ ?_ ?_ ?_
   ·simp only[oH,mS,gZ,c1,fp]
   ·simp only[oH,h8,gZ,c2,fp]
   ·dsimp only;rw[aD,ar e1,kM,hb];simp only[kB,nm,iV,gZ]
   ·dsimp only;rw[aD,ar e2,kM,hr];simp only[nm,iV,gZ]
   ·rcases hw with(⟨h1,rfl⟩|rfl)|⟨id,rfl,h2,h3⟩
    ·exact .inl (.inl ⟨h1,by simp only[gZ]⟩)
    ·exact .inl (.inr (by simp only[gZ]))
    ·by_cases e:id=i
     ·subst e;rw[h2]at hB;simp only[dx.row.injEq]at hB;refine .inl (.inr ?_);simp only[gZ,cg,gT,hB.2]
     ·refine .inr ⟨id,?_,?_,?_⟩
      ·simp only[gZ,f6 e,fp]
      ·dsimp only;rw[aD,ar (fun h=>e h.symm),kM,h2];simp only[nm]
      ·rcases aQ.1 h3 with h|h
       ·exact absurd h e
       ·exact h
  |_ =>
   have hS:nR i st=st:=by simp only[nR,hB]
   rw[hS];refine uJ hk r st wv sv mS h8 hb hr ?_;rcases hw with h|⟨id,h1,h2,h3⟩
   ·exact .inl h
   ·refine .inr ⟨id,h1,h2,?_⟩;rcases aQ.1 h3 with h|h
    ·subst h;rw[h2]at hB;simp at hB
    ·exact h
theorem H7{T:cK}{s:bc}{x:Spec}{depth:Int}{steps spent mid kid rid:Nat}{W:List (List PV)}(hk:kid≠rid){ops:List aV}{K:St->Prop}{st:St}{wv sv:AV}(mS:look st.fr 12=.ptr kid 0 0)(h8:look st.fr 8=.ptr rid 0 0)(hb:ah st.hp kid=kB s x depth steps spent mid wv sv)(hr:ah st.hp rid=.var [.pv (.int .i64 0),.bu,.pv (.int .i64 0)])
    (hw:Jl wv W\/∃id,wv=.ms id/\ah st.hp id=.row 4 W/\id∈iB (ah st.hp) st.hp)
    (h:∀wt,look wt.fr 12=.ptr kid 0 0->look wt.fr 8=.ptr rid 0 0->∀IJ LW,ah wt.hp kid=kB s x depth steps spent mid IJ LW->Jl IJ W->ah wt.hp rid=.var [.pv (.int .i64 0),.bu,.pv (.int .i64 0)]->vN T ops wt K):vN T ops (lf true st) K:=by
 obtain⟨a,b,⟨IJ,LW,c,d⟩,e⟩:=uJ hk (iB (ah st.hp) st.hp) st wv sv mS h8 hb hr hw;exact h _ a b IJ LW c d e
/-! ### Vm V8 is left -/
def tj:List (List (Move×State))->Nat
 |[]=>0
 |f::r=>2*f.length+1+tj r
theorem x9:∀{st:List (List (Move×State))} {w:List Move} {u:State} {w':List Move} {bT:List (List (Move×State))},eY st w=some (u,w',bT)->tj bT+2<=tj st
 |[],w,_,_,_,h=>by simp[eY]at h
 |[]::r,w,_,_,_,h=>by
  simp only[eY]at h;have:=x9 h;simp only[tj];omega
 |((m,v)::f)::r,w,_,_,_,h=>by
  simp only[eY,ai,aZ]at h;obtain⟨rfl,rfl,rfl⟩:=h;simp only[tj,ay];omega
theorem Rn.V4{s:bc}{x:Spec}{depth:Int}{steps:Nat}{k:Sk}{t:State}(hs:s.wf)(hx:∀w∈x.b9,w.wf)(h0:0<=depth)(hn:s.nodes.length<=500)(nY:s.aT.length<=2^29)(wV:x.b9.length<=2^29)(hp:s.pods.length<=500)(h:Rn s x depth steps k t):IP s x t/\t.pods.length<=500:=by
 obtain⟨⟨a,b⟩,_⟩:=h.rs hs hx;exact⟨⟨by omega,nY,wV,by omega,hx,a.1⟩,by omega⟩
theorem Vd.kind{s:bc}{x:Spec}{depth:Int}{steps:Nat}{kind:Int}{l:List Move}{n:Nat}(h:Vd s x depth steps kind l n):kind=1\/kind=2\/kind=3:=by
 cases h <;>simp
structure xD(T:cK):Prop where
 k:Bt T
 f:D3 T
 K2:Std T 237 f237
 O2:IM T 279 8
 JZ:Std T 222 f222
 Mq:IM T 277 4
 Hg:NS T 233 f233
section
variable{T:cK}
theorem IM.pure{n sz:Nat}(S:IM T n sz){es:List (List PV)}(h:cn sz es=true)(hl:es.length<=2^30):∃o,du (D T) n [.slice es]=some (o,.slice es):=by
 cases es with
 |nil =>
  refine⟨none,?_⟩;unfold du;rw[iD S.fW (show iT sz (dL [.slice []]) [] 0=some (.pv (.slice []),[],2)from rfl)];rfl
 |cons e r =>
  refine⟨some sz,?_⟩;unfold du;rw[iD S.fW (show iT sz (dL [.slice (e::r)]) [] 0=some (.ms 1,[(1,.row sz (e::r))],2)from by
   simp only[iT,dL];rw[aW ⟨h,hl⟩])]
  rfl
theorem Sv.low{s:bc}{x:Spec}{depth:Int}{steps:Nat}{k:Sk}{kid mid nx:Nat}{hp qt:Hl}(h:Sv s x depth steps k kid mid hp nx)(e:∀i,mid<=i->ah qt i=ah hp i):Sv s x depth steps k kid mid qt nx:=by
 obtain⟨⟨wv,sv,hb,hw,hv,wP⟩,hm,l1,l2⟩:=h;exact⟨⟨wv,sv,(e kid (by omega)).trans hb,hw.mono (fun i h1 _=>e i (by omega)) (ax _),hv.mono (fun i h1 _ _=>e i (by omega)) (ax _),wP⟩,(e mid (ax _)).trans hm,l1,l2⟩
theorem BV{s:bc}{x:Spec}{depth:Int}{steps:Nat}{k k':Sk}{t:State}(h:gF s x depth steps k t=.go k'):(k'.spent=k.spent/\tj k'.stack=tj k.stack+1)\/k'.spent=k.spent+1:=by
 unfold gF at h
 repeat' split at h
 all_goals first|(simp at h;done)|skip
 ·simp only[tJ.go.injEq]at h;subst h;refine .inl ⟨rfl,?_⟩;simp only[tj,bM];omega
 ·simp only[tJ.go.injEq]at h;subst h;exact .inr rfl
set_option maxRecDepth 100000 in
set_option maxHeartbeats 16000000 in
theorem Fw(S:xD T){s:bc}{x:Spec}{depth:Int}{steps:Nat}(hs:s.wf)(hx:∀w∈x.b9,w.wf)(h0:0<=depth)(hd:depth<=1000)(iX:steps<=1000000)(hn:s.nodes.length<=500)(nY:s.aT.length<=2^29)(wV:x.b9.length<=2^29)(Ax:s.pods.length<=500)(Q:Exit->St->Prop)
    (dK:∀kind l n,Vd s x depth steps kind l n->∀fr hp nx lv,look fr 9=.pv .dI->look fr 8=.ptr 2 0 0->ah hp 2=.var [.pv (.int .i64 kind),lv,.pv (.int .i64 (n:Nat))]->(lv=.pv (.slice (l.map bK))\/l=[]/\lv=.bu)->Q .ret ⟨fr,hp,nx⟩)
    (bS:∀n,Vd s x depth steps 2 [] n->∀fr hp nx,look fr 12=.ptr 5 0 0->look fr 8=.ptr 2 0 0->ah hp 2=.var [.pv (.int .i64 0),.bu,.pv (.int .i64 0)]->(∃wv sv,ah hp 5=kB s x depth steps n 4 wv sv)->Q (.exit 0) ⟨fr,hp,nx⟩)
    {k:Sk} {t:State} (R:Rn s x depth steps k t)
    (ih:∀(k2:Sk) (u:State),Rn s x depth steps k2 u->(k.spent<k2.spent\/k2.spent=k.spent/\tj k2.stack<tj k.stack)->∀(fr:List (Nat×AV)) (hp:Hl) (nx:Nat),look fr 8=.ptr 2 0 0->look fr 11=.ptr 3 0 0->look fr 12=.ptr 5 0 0->look fr 13=.pv (.bool true)->ah hp 2=.var [.pv (.int .i64 0),.bu,.pv (.int .i64 0)]->ah hp 3=.var [.pv (.slice (u.pods.map aK)),.pv (.int .i64 u.pre),.pv (.int .i64 u.fe)]->Sv s x depth steps k2 5 4 hp nx->Wp T true (.loop rS) ⟨fr,hp,nx⟩ Q)
    {fr:List (Nat×AV)} {hp:Hl} {nx:Nat} (g8:look fr 8=.ptr 2 0 0) (ET:look fr 11=.ptr 3 0 0) (nS:look fr 12=.ptr 5 0 0) (pg:look fr 13=.pv (.bool true)) (b2:ah hp 2=.var [.pv (.int .i64 0),.bu,.pv (.int .i64 0)]) (b3:ah hp 3=.var [.pv (.slice (t.pods.map aK)),.pv (.int .i64 t.pre),.pv (.int .i64 t.fe)]) (V:Sv s x depth steps k 5 4 hp nx):Wp T true (.loop rS) ⟨fr,hp,nx⟩ Q:=by
 have I:=R.inv h0;obtain⟨Z,UL⟩:=R.V4 hs hx h0 hn nY wV Ax;have Tt:=I.dep;have VE:=I.len;obtain⟨v,hp',cC,e,e1,e2,e3⟩:=JF S.k Z hs hn UL hd Tt iX I.sp (by omega) V;have QP:=(e2 2 (by omega)).trans b2;have TS:=(e2 3 (by omega)).trans b3;simp only[sr]at e;rw[az,aY rS.eq_1];simp only[rL',aa,simprocAttr,g8,ET,nS,pg,b3];refine(dr S.k.RA.raw e).2 ?_;unfold QS at e3;cases he:gF s x depth steps k t with
 |done =>
  rw[he]at e3;obtain⟨rfl,V'⟩:=e3;obtain⟨wv,sv,hb,hw,hv,wP⟩:=V'.b;simp only[rL',aa,simprocAttr];refine(Gl rfl).2 ?_;refine H7 (s:=s) (x:=x) (depth:=depth) (steps:=steps) (spent:=k.spent) (mid:=4) (kid:=5) (rid:=2) (W:=k.gK.map bK) (by decide) (wv:=wv) (sv:=sv) ?_ ?_ hb QP ?_ (fun wt SA q8 IJ LW qb qw q2=>?_)
  ·all_goals try simp only[aj,Nat.reduceEqDiff,nS]
  ·all_goals try simp only[aj,Nat.reduceEqDiff,g8]
  ·rcases hw with⟨h1,h2⟩|⟨id,h1,_,_,h2⟩
   ·exact .inl (.inl ⟨h1,h2⟩)
   ·exact .inr ⟨id,h1,h2,Ba h2 hp' (by rw[h2];simp)⟩
  ·obtain⟨Nn,qt,LI⟩:=wt;dsimp only at SA q8 qb q2;simp only[kB]at qb;obtain⟨oc,hc⟩:=S.Mq.pure (xL k.gK) (by rw[al];omega);have DI:ca [IJ]=some [.slice (k.gK.map bK)]:=by
    rcases qw with⟨h1,rfl⟩|rfl
    ·rw[h1];rfl
    ·rfl
   simp only[rL',aa,simprocAttr,SA,qb];refine(ua S.Mq.raw DI hc).2 ?_;simp only[rL',aa,simprocAttr,SA,q8,qb,q2];refine dK 1 k.gK k.spent (.found R he) _ _ _ (.pv (.slice (k.gK.map bK))) ?_ ?_ ?_ (.inl rfl)
   ·all_goals try simp only[aj,Nat.reduceEqDiff,]
   ·all_goals try simp only[aj,Nat.reduceEqDiff,q8]
   ·simp only[aj,Nat.reduceEqDiff]
 |over =>
  rw[he]at e3;obtain⟨rfl,V'⟩:=e3;obtain⟨wv,sv,hb,_⟩:=V'.b;simp only[kB]at hb;simp only[rL',aa,simprocAttr,nS,g8,hb,QP];refine dK 3 [] k.spent (.spent R he) _ _ _ .bu ?_ ?_ ?_ (.inr ⟨rfl,rfl⟩)
  ·all_goals try simp only[aj,Nat.reduceEqDiff,]
  ·all_goals try simp only[aj,Nat.reduceEqDiff,g8]
  ·simp only[aj,Nat.reduceEqDiff]
 |go k' =>
  rw[he]at e3;obtain⟨rfl,V'⟩:=e3;obtain⟨d1,d2,d3,d4⟩:=I.enter he;obtain⟨v,qt,LI,f1,f2,f3⟩:=N3 S.k (by rw[d2,d1];omega) (by rw[d1];omega) V';have NZ:=(f2 2 (by omega)).trans QP;have O0:=(f2 3 (by omega)).trans TS;simp only[rL',aa,simprocAttr,nS];refine(dr S.k.RB.raw f1).2 ?_;cases ie:eY k'.stack k'.gK with
  |none =>
   rw[ie]at f3;obtain⟨rfl,wv,sv,hb⟩:=f3;simp only[rL',aa,simprocAttr,ET,O0];rw[az,aY rS.eq_1];simp only[rL',aa,simprocAttr];refine bS k'.spent (.none R he ie) _ _ _ ?_ ?_ ?_ ⟨wv,sv,?_⟩
   ·all_goals try simp only[aj,Nat.reduceEqDiff,nS]
   ·all_goals try simp only[aj,Nat.reduceEqDiff,g8]
   ·simp only[aj,Nat.reduceEqDiff];exact NZ
   ·simp only[aj,Nat.reduceEqDiff];exact hb
  |some q =>
   obtain⟨u,w,st⟩:=q;rw[ie]at f3;obtain⟨rfl,V2⟩:=f3;simp only[rL',aa,simprocAttr,ET,O0];have R2:=Rn.step R he ie;refine ih _ u R2 ?_ _ _ _ ?_ ?_ ?_ ?_ ?_ ?_ (V2.low fun i hi=>?_)
   ·have m1:=BV he;have m2:=x9 ie;dsimp only;omega
   ·all_goals try simp only[aj,Nat.reduceEqDiff,g8]
   ·all_goals try simp only[aj,Nat.reduceEqDiff,ET]
   ·all_goals try simp only[aj,Nat.reduceEqDiff,nS]
   ·all_goals try simp only[aj,Nat.reduceEqDiff,]
   ·simp only[aj,Nat.reduceEqDiff];exact NZ
   ·simp only[aj,Nat.reduceEqDiff]
   ·rw[aD,ar (by omega)]
theorem Fv(S:xD T){s:bc}{x:Spec}{depth:Int}{steps:Nat}(hs:s.wf)(hx:∀w∈x.b9,w.wf)(h0:0<=depth)(hd:depth<=1000)(iX:steps<=1000000)(hn:s.nodes.length<=500)(nY:s.aT.length<=2^29)(wV:x.b9.length<=2^29)(Ax:s.pods.length<=500)(Q:Exit->St->Prop)
    (dK:∀kind l n,Vd s x depth steps kind l n->∀fr hp nx lv,look fr 9=.pv .dI->look fr 8=.ptr 2 0 0->ah hp 2=.var [.pv (.int .i64 kind),lv,.pv (.int .i64 (n:Nat))]->(lv=.pv (.slice (l.map bK))\/l=[]/\lv=.bu)->Q .ret ⟨fr,hp,nx⟩)
    (bS:∀n,Vd s x depth steps 2 [] n->∀fr hp nx,look fr 12=.ptr 5 0 0->look fr 8=.ptr 2 0 0->ah hp 2=.var [.pv (.int .i64 0),.bu,.pv (.int .i64 0)]->(∃wv sv,ah hp 5=kB s x depth steps n 4 wv sv)->Q (.exit 0) ⟨fr,hp,nx⟩) :
    ∀(N M:Nat) (k:Sk) (t:State),steps-k.spent<=N->tj k.stack<=M->Rn s x depth steps k t->∀(fr:List (Nat×AV)) (hp:Hl) (nx:Nat),look fr 8=.ptr 2 0 0->look fr 11=.ptr 3 0 0->look fr 12=.ptr 5 0 0->look fr 13=.pv (.bool true)->ah hp 2=.var [.pv (.int .i64 0),.bu,.pv (.int .i64 0)]->ah hp 3=.var [.pv (.slice (t.pods.map aK)),.pv (.int .i64 t.pre),.pv (.int .i64 t.fe)]->Sv s x depth steps k 5 4 hp nx->Wp T true (.loop rS) ⟨fr,hp,nx⟩ Q:=by
 intro N;induction N using Nat.strongRecOn with
 |_ N V0 =>
  intro M;induction M using Nat.strongRecOn with
  |_ M UZ =>
   intro k t hN hM R fr hp nx g8 ET nS pg b2 b3 V;refine Fw S hs hx h0 hd iX hn nY wV Ax Q dK bS R (fun k2 u R2 hlt fr hp nx c8 T4 vO tq d2 d3 V2=>?_) g8 ET nS pg b2 b3 V;have sp:=(R2.inv h0).sp;rcases hlt with h|⟨h1,h2⟩
   ·exact V0 (steps-k2.spent) (by omega) _ k2 u (ax _) (ax _) R2 fr hp nx c8 T4 vO tq d2 d3 V2
   ·exact UZ (tj k2.stack) (by omega) k2 u (by omega) (ax _) R2 fr hp nx c8 T4 vO tq d2 d3 V2
def jc(kind:Int)(l:List Move)(n:Nat):PV:=.agg [.int .i64 kind,.slice (l.map bK),.int .i64 (n:Nat)]
inductive tK(s:bc)(x:Spec)(depth steps:Int):PV->Prop
 |fair {q:Int×Int}:gN s x=some q->tK s x depth steps (.tuple [jc 0 [] 0,mG (some q)])
 |DN:gN s x=none->(depth<0\/40<depth\/steps<0\/200000<steps)->tK s x depth steps (.tuple [jc 0 [] 0,ct 3])
 |T3:gN s x=none->0<=depth->depth<=40->gG (qo s x (cv s))=false->0<=steps->steps<=200000->tK s x depth steps (.tuple [jc 2 [] 0,.dI])
 |some {N:Nat} {kind:Int} {l:List Move} {n:Nat}:gN s x=none->0<=depth->depth<=40->steps=(N:Nat)->N<=200000->gG (qo s x (cv s))=true->Vd s x depth N kind l n->tK s x depth steps (.tuple [jc kind l n,.dI])
set_option maxRecDepth 100000 in
set_option maxHeartbeats 16000000 in
theorem KG(S:xD T)(s:bc)(x:Spec)(depth steps:Int)(hs:s.wf)(hx:∀w∈x.b9,w.wf)(hn:s.nodes.length<=500)(nY:s.aT.length<=2^29)(wV:x.b9.length<=2^29)(Ax:s.pods.length<=500):∃p,tK s x depth steps p/\ba T 233 [aF s,bg x,.int .i64 depth,.int .i64 steps] p:=by
 have kf:=GY S.f s x (by omega);have k1:=EL S.K2 S.O2 s (by omega);have ki:=Kk S.k.s.s.Qy S.JZ s x (cv s) (by omega) (by simp only[cv];omega) nY hs.2.2;cases hq:gN s x with
 |some q =>
  refine⟨_,.fair hq,yM S.Hg rfl ?_⟩;rw[hq]at kf;obtain⟨hv,eA⟩:=Md q;generalize mG (some q)=er at *;rcases hv with rfl|⟨a,c,rfl⟩|⟨c,rfl⟩
  ·exact absurd rfl eA
  ·simp only[ix,aF,bg]at kf⊢;simp only[f233,rL',aa,simprocAttr,kf.call,jc];rfl
  ·simp only[ct,aF,bg]at kf⊢;simp only[f233,rL',aa,simprocAttr,kf.call,jc];rfl
 |none =>
  rw[hq]at kf;simp only[mG,aF,bg]at kf;have DN:depth<0\/40<depth\/steps<0\/200000<steps->∃p,tK s x depth steps p/\ba T 233 [aF s,bg x,.int .i64 depth,.int .i64 steps] p:=fun h=>by
   refine⟨_,.DN hq h,yM S.Hg rfl ?_⟩;simp only[ct,aF,bg];by_cases c1:depth<0
   ·simp only[f233,rL',aa,simprocAttr,kf.call,jc,c1];rfl
   ·by_cases c2:40<depth
    ·simp only[f233,rL',aa,simprocAttr,kf.call,jc,c1,c2];rfl
    ·by_cases c3:steps<0
     ·simp only[f233,rL',aa,simprocAttr,kf.call,jc,c1,c2,c3];rfl
     ·have c4:200000<steps:=by omega
      simp only[f233,rL',aa,simprocAttr,kf.call,jc,c1,c2,c3,c4];rfl
  by_cases hL:depth<0\/40<depth\/steps<0\/200000<steps
  ·exact DN hL
  ·have c1:¬depth<0:=by omega
   have c2:¬40<depth:=by omega
   have c3:¬steps<0:=by omega
   have c4:¬200000<steps:=by omega
   simp only[aF,bg,aw]at k1 ki;cases Nz:gG (qo s x (cv s))with
   |false =>
    refine⟨_,.T3 hq (by omega) (by omega) Nz (by omega) (by omega),yM S.Hg rfl ?_⟩;rw[Nz]at ki;simp only[aF,bg];simp only[f233,rL',aa,simprocAttr,kf.call,k1.call,ki.call,jc,c1,c2,c3,c4];rfl
   |true =>
    rw[Nz]at ki;obtain⟨N,rfl⟩:∃N:Nat,steps=(N:Int):=⟨steps.toNat,by omega⟩;have h:Wp T true f233.body ⟨fA 0 (dL [aF s,bg x,.int .i64 depth,.int .i64 (N:Nat)]),[],0⟩ (fun e st=>∃kind l n,Vd s x depth N kind l n/\kR f233.res (.tuple [jc kind l n,.dI]) e st):=by
     simp only[aF,bg];simp only[f233,rL',aa,simprocAttr,kf.call,k1.call,ki.call,c1,c2,c3,c4];refine Fv S (depth:=depth) (steps:=N) hs hx (by omega) (by omega) (by omega) hn nY wV Ax _ (fun kind l n hv fr hp nx lv g9 g8 b2 UB=>?_) (fun n hv fr hp nx nS g8 b2 hb=>?_) (N-0) 0 ⟨[],0,[],[]⟩ (cv s) (ax _) (ax _) .init _ _ _ ?_ ?_ ?_ ?_ ?_ ?_ ⟨⟨.bu,.bu,?_,fo.nil,.inl ⟨rfl,rfl⟩,by simp[cu]⟩,?_,by decide,by decide⟩
     ·simp only[rL',aa,simprocAttr];refine⟨kind,l,n,hv,?_⟩;rcases UB with rfl|⟨rfl,rfl⟩
      ·simp only[rL',aa,simprocAttr,g8,g9,b2,jc]
      ·simp only[rL',aa,simprocAttr,g8,g9,b2,jc];rfl
     ·obtain⟨wv,sv,hb⟩:=hb;simp only[kB]at hb;simp only[rL',aa,simprocAttr,nS,g8,hb,b2];refine⟨2,[],n,hv,?_⟩;simp only[rL',aa,simprocAttr,jc];rfl
     ·all_goals try simp only[aj,Nat.reduceEqDiff,]
     ·all_goals try simp only[aj,Nat.reduceEqDiff,]
     ·all_goals try simp only[aj,Nat.reduceEqDiff,]
     ·all_goals try simp only[aj,Nat.reduceEqDiff,]
     ·simp only[aj,Nat.reduceEqDiff]
     ·simp only[aj,Nat.reduceEqDiff]
     ·simp only[aj,Nat.reduceEqDiff,kB];rfl
     ·simp only[aj,Nat.reduceEqDiff];rfl
    obtain⟨e,st,h1,kind,l,n,hv,hr⟩:=h;exact⟨_,.some hq (by omega) (by omega) rfl (by omega) Nz hv,yM S.Hg rfl ⟨e,st,h1,hr⟩⟩
end
end
end Go.Proofs.YtkjehofblipcaaaGreatDoor.Ab
