/- The layer, part 3: Sp3d, Sp3e, Sp5e, Sp8p, Co12, Sp12, Sp18, Sp9c, Sp9m, Sp18m, Sp12w, Sp18n, Sp5f, Sp12s, Co02, Sp2, Sp2b, Sp2c, Sp2d, Sp2e, Sp2f, Sp2g, Co04, Sp4, Sp4b, Sp19, Sp19b, Co20, Sp19c, Sp19d, Sp19e, SpM, Sp19f, Sp19g, Sp19h. -/
import Derived.Test.YtkjehofblipcaaaGreatDoorA2
set_option linter.unusedVariables false
set_option linter.unusedSimpArgs false
namespace Go.Proofs.YtkjehofblipcaaaGreatDoor.Ab
open Go
section
theorem CA{a n last c k b:Int}(h:jl a n last c=some (k,b))(hc:c=0\/1<=c/\c<=17):b=a/\1<=k/\k<=17:=by
 unfold jl at h;split at h
 ·rename_i h0;simp only[ai,b9]at h;obtain⟨rfl,rfl⟩:=h;refine⟨rfl,?_⟩;have hi:vP n last=0\/1<=vP n last/\vP n last<=5:=by
   unfold vP;split
   ·omega
   ·split <;>omega
  unfold fL at h0⊢;split
  ·omega
  ·rename_i h1;rw[aw h1]at h0;omega
 ·simp at h
theorem iH{α:Type}{cw own:α->Int}(hc:∀x,own x=0\/1<=own x/\own x<=17):∀(l:List α) (last a:Int) c b,fU cw own last a l=some (c,b)->a<=b/\1<=c/\c<=17
 |[],last,a,c,b,h=>by simp[fU]at h
 |x::r,last,a,c,b,h=>by
  simp only[fU]at h;cases hl:jl a (cw x) last (own x)with
  |some q =>
   obtain⟨k,b'⟩:=q;rw[hl]at h;simp only[jN,ai,b9]at h;obtain⟨rfl,rfl⟩:=h;obtain⟨rfl,h1⟩:=CA hl (hc x);exact⟨TN _,h1⟩
  |none =>
   rw[hl,mD]at h;obtain⟨h1,h2⟩:=iH hc r _ _ c b h;exact⟨by omega,h2⟩
theorem xe(n:Node):da n=0\/1<=da n/\da n<=17:=by unfold da;split <;>omega
theorem x6(n:fD):cY n=0\/1<=cY n/\cY n<=17:=by unfold cY;split <;>omega
theorem B7(s:bc)(p:dx):ej s p=0\/1<=ej s p/\ej s p<=17:=by
 unfold ej;split
 ·omega
 ·split <;>omega
def Gb(o:Option (Int×Int)):Prop:=∀c a,o=some (c,a)->1<=c/\c<=17/\ -1<=a
theorem wI(s:bc):Gb (gq s):=by
 intro c a h;unfold gq at h;split at h
 ·cases h1:fU Node.id da 0 0 s.nodes with
  |some q =>
   rw[h1]at h;simp only[jN,ai]at h;subst h;have:=iH xe _ _ _ _ _ h1;omega
  |none =>
   rw[h1,mD]at h;cases h2:fU fD.id cY 0 s.nodes.length s.aU with
   |some q =>
    rw[h2]at h;simp only[jN,ai]at h;subst h;have:=iH x6 _ _ _ _ _ h2;omega
   |none =>
    rw[h2,mD]at h;have:=iH (B7 s) _ _ _ _ _ h;omega
 ·simp only[ai,b9]at h;omega
theorem EL{err:AV}{hp:Hl}{o:Option (Int×Int)}{kid nx:Nat}(h:sY err hp o kid nx)(w9:∀c a,o=some (c,a)->0<=a):dD (ah hp) err=some (jQ o):=by
 cases o with
 |none =>
  have h':err=.pv .dJ:=h;subst h';rfl
 |some q =>
  obtain⟨c,a⟩:=q;obtain⟨b,rfl,h1,h2,h3⟩:=h;have:=w9 c a rfl;have hn:¬a<0:=by omega
  simp only[dD,h3,hG,dF,jQ,hn,aI,gk]
section
variable{T:cL}
set_option maxRecDepth 100000 in
set_option maxHeartbeats 4000000 in
theorem EB(S:zI T)(s:bc):ba T 76 [aD s] (jQ (gq s)):=by
 refine gives S.Ud rfl ?_;by_cases hz:kJ s=true
 ·have Bx:=hz;simp only[kJ,bq,bO]at Bx;obtain⟨z1,z2,z3,z4⟩:=Bx;have y1:¬(s.nodes.length:Int)<1:=by omega
  have y2:¬(8:Int)<(s.nodes.length:Int):=by omega
  have y3:¬(8:Int)<(s.aU.length:Int):=by omega
  have y4:¬(12:Int)<(s.pods.length:Int):=by omega
  have w9:∀c a,gq s=some (c,a)->0<=a:=by
   intro c a h;unfold gq at h;rw[aW hz]at h;cases h1:fU Node.id da 0 0 s.nodes with
   |some q =>
    rw[h1]at h;simp only[jN,ai]at h;subst h;have:=iH xe _ _ _ _ _ h1;omega
   |none =>
    rw[h1,mD]at h;cases h2:fU fD.id cY 0 s.nodes.length s.aU with
    |some q =>
     rw[h2]at h;simp only[jN,ai]at h;subst h;have:=iH x6 _ _ _ _ _ h2;omega
    |none =>
     rw[h2,mD]at h;have:=iH (B7 s) _ _ _ _ _ h;omega
  simp only[f76,rL',aa,simprocAttr,aD,y1,y2,y3,y4];refine JD S s (by omega) (by omega) (by omega) 0 (TN _) (by omega) _ (fU Node.id da 0 0 s.nodes) (fun fr hp nx last err gR g1 g3 b0 b1 hE=>?_) s.nodes 0 0 none (.pv .dJ) rfl (aN _) rfl _ _ _ (ax _) rfl rfl rfl rfl rfl rfl rfl rfl;simp only[rL',aa,simprocAttr,g1,g3,b0,b1];refine check_1 S s (by omega) (by omega) (by omega) s.nodes.length (by omega) (by omega) _ ((fU Node.id da 0 0 s.nodes).or (fU fD.id cY 0 s.nodes.length s.aU)) (fun fr hp nx last err gR g1 g3 b0 b1 hE=>?_) s.aU 0 0 (fU Node.id da 0 0 s.nodes) err rfl (aN _) (by rw[show((s.nodes.length:Int)+((0:Nat):Int))=s.nodes.length by omega]) _ _ _ gR ?_ ?_ ?_ ?_ ?_ ?_ ?_ ?_
  ·simp only[rL',aa,simprocAttr,g1,g3,b0,b1];refine JE S s (by omega) (by omega) (by omega) (s.nodes.length+s.aU.length) (by omega) (by omega) _ (gq s) (fun fr hp nx last err gR g1 g3 b0 b1 hE=>?_) s.pods 0 0 ((fU Node.id da 0 0 s.nodes).or (fU fD.id cY 0 s.nodes.length s.aU)) err rfl (aN _) ?_ _ _ _ gR ?_ ?_ ?_ ?_ ?_ ?_ ?_ ?_
   ·have hs:=EL hE w9;simp only[rL',aa,simprocAttr,g1,g3,b0,b1,hs]
   ·rw[gq,aW hz,show((s.nodes.length:Int)+s.aU.length+((0:Nat):Int))=(s.nodes.length:Int)+s.aU.length by omega]
   all_goals try simp only[aj,Nat.reduceEqDiff,g1,g3,b0]
   ·rw[show((s.nodes.length:Int)+s.aU.length+((0:Nat):Int))=(s.nodes.length:Int)+s.aU.length by omega]
   ·exact hE.mono (fun j hj ew=>by simp only[aj,Nat.reduceEqDiff,show ¬1=j from fun h=>ew h.symm]) (ax _)
   ·rfl
  all_goals try simp only[aj,Nat.reduceEqDiff,g1,g3,b0]
  ·rw[show((s.nodes.length:Int)+((0:Nat):Int))=0+(s.nodes.length:Int) by omega]
  ·exact hE.mono (fun j hj ew=>by simp only[aj,Nat.reduceEqDiff,show ¬1=j from fun h=>ew h.symm]) (ax _)
  ·rfl
 ·have hc:jQ (gq s)=.iface 0 (.int .i64 3):=by rw[gq,aw hz];rfl
  rw[hc];have Bx:=hz;simp only[kJ,bq,bO,not_and]at Bx;by_cases c1:(s.nodes.length:Int)<1
  ·simp only[f76,rL',aa,simprocAttr,aD,c1]
  ·by_cases c2:(8:Int)<(s.nodes.length:Int)
   ·simp only[f76,rL',aa,simprocAttr,aD,c1,c2]
   ·by_cases c3:(8:Int)<(s.aU.length:Int)
    ·simp only[f76,rL',aa,simprocAttr,aD,c1,c2,c3]
    ·have c4:(12:Int)<(s.pods.length:Int):=by have:=Bx (by omega) (by omega) (by omega);omega
     simp only[f76,rL',aa,simprocAttr,aD,c1,c2,c3,c4]
/-! ### NW -/
def hY(pods:List dx)(w:Want):Int:=if f6 w.eU pods=none then 4 else if w.stay=false/\w.jV≠cG then 1 else 0
def eL(pods:List dx)(prev:Option Want)(w:Want):Int:=match prev with
 |some v=>if w.eU=v.eU then 5 else if w.eU<v.eU then 1 else hY pods w
 |none=>hY pods w
def eR(pods:List dx):Option Want->Int->List Want->Option (Int×Int)
 |_,_,[]=>none
 |prev,i,w::r=>if eL pods prev w≠0 then some (eL pods prev w,i)else eR pods (some w) (i+1) r
def jk(s:bc)(x:Spec):Option (Int×Int):=match gq s with
 |some e=>some e
 |none=>if 0<=x.pre/\x.pre<=40/\0<=x.eW/\x.eW<=40 then eR s.pods none 0 x.aZ else some (3,-1)
structure Ma(T:cL):Prop where
 RA:Std T 282 f282
 JP:T.flat 282=true
 Ho:Std T 287 f287
 RI:Std T 91 f91
theorem II(RI:Std T 91 f91)(p:dx)(w:Want):ba T 91 [.agg (aJ p),.gQ (cg w) 0] (.bool (decide (p.id=w.eU))):=by
 refine gives RI rfl ?_;simp only[f91,rL',aa,simprocAttr,aJ,cg]
theorem xV(S:Ma T)(pods:List dx)(w:Want)(h:pods.length<=2^30):ba T 282 [.slice (pods.map aJ),.func 91 [] [.gQ (cg w) 0]] (.bool (decide (f6 w.eU pods≠none))):=by
 refine gives S.RA rfl ?_;have k:ba T 287 [.slice (pods.map aJ),.func 91 [] [.gQ (cg w) 0]] (.int .i64 (bx w.eU 0 pods)):=by
  rw[<-ld];exact AJ _ S.Ho (pods.map aJ) (by simpa using h) (fun e he=>by
   obtain⟨p,_,rfl⟩:=cC.1 he;rfl) (fun e he=>by
   obtain⟨p,_,rfl⟩:=cC.1 he;exact II S.RI p w)
 rcases ca w.eU pods 0 with⟨h1,h2⟩|⟨j,p,h1,h2,h3,h4⟩
 ·rw[h2]at k;simp only[f282,rL',aa,simprocAttr,k.call,h1]
 ·rw[h3]at k;have hj:(0:Int)<=((0+j:Nat):Int):=by omega
  have Cb:(0:Int)<=(j:Int):=by omega
  simp only[f282,rL',aa,simprocAttr,k.call,h2,hj,Cb,reduceCtorEq]
set_option maxRecDepth 100000 in
set_option maxHeartbeats 4000000 in
theorem IJ(RH:Std T 90 f90)(S:Ma T)(s:bc)(hp:s.pods.length<=2^30)(l:List Want)(i:Nat)(w:Want)(prev:Option Want)(hi:i<2^30)(hg:l[i]? =some w)(Pg:(i=0/\prev=none)\/∃j v,i=j+1/\prev=some v/\l[j]? =some v) :
    ba T 90 [aD s,.slice (l.map cg),.int .i64 (i:Int)] (jG (eL s.pods prev w)):=by
 refine gives RH rfl ?_;have k:=xV S s.pods w hp;have kf:=k.sE S.JP rfl;simp only[cg]at kf;have rest:∀(Q:Int->Prop),(f6 w.eU s.pods=none->Q 4)->(f6 w.eU s.pods≠none->w.stay=false->w.jV≠cG->Q 1)->(f6 w.eU s.pods≠none->w.stay=false->w.jV=cG->Q 0)->(f6 w.eU s.pods≠none->w.stay=true->Q 0)->Q (hY s.pods w):=by
  intro Q q4 q1 q0 Vf;unfold hY;by_cases h1:f6 w.eU s.pods=none
  ·rw[aW h1];exact q4 h1
  ·rw[aw h1];cases h2:w.stay
   ·by_cases h3:w.jV=cG
    ·rw[aw (by simp[h3])];exact q0 h1 h2 h3
    ·rw[aW ⟨rfl,h3⟩];exact q1 h1 h2 h3
   ·rw[aw (by simp)];exact Vf h1 h2
 rcases Pg with⟨rfl,rfl⟩|⟨j,v,rfl,rfl,hv⟩
 ·have z0:((0:Nat):Int)=0:=rfl;simp only[eL];refine rest (fun c=>Wp T false f90.body ⟨fy 0 (dK [aD s,.slice (l.map cg),.int .i64 ((0:Nat):Int)]),[],0⟩ (kT f90.res (jG c))) (fun h1=>?_) (fun h1 h2 h3=>?_) (fun h1 h2 h3=>?_) (fun h1 h2=>?_)
  all_goals
   simp only[f90,rL',aa,simprocAttr,aD,hg,cg,z0];refine(cz rfl).2 ?_;simp only[rL',aa,simprocAttr];refine(cz rfl).2 ?_;simp only[rL',aa,simprocAttr,mkFun,n9];rw[kf _ _ _ _ _ (eq_true (by simp only[rL',aa,simprocAttr])) (eq_true (by simp only[rL',aa,simprocAttr]))]
  ·simp only[rL',aa,simprocAttr,h1,jj]
  ·have hv:=pI w.jV cG;rw[U2 h3]at hv;simp only[cG]at hv;simp only[rL',aa,simprocAttr,h1,h2,hv,gV]
  ·have hv:=pI w.jV cG;rw[bI h3]at hv;simp only[cG]at hv;simp only[rL',aa,simprocAttr,h1,h2,hv,gJ]
  ·simp only[rL',aa,simprocAttr,h1,h2,gJ]
 ·have w1:IntKind.i64.wrap (((j+1:Nat):Int)-1)=(j:Int):=by rw[f9] <;>omega
  have p0:(0:Int)<((j+1:Nat):Int):=by omega
  simp only[eL];by_cases h5:w.eU=v.eU
  ·have d5:=bI h5;rw[aW h5];simp only[f90,rL',aa,simprocAttr,aD,hg,cg];refine(cz rfl).2 ?_;simp only[rL',aa,simprocAttr,hv,cg,w1,p0,d5,Lp]
  ·rw[aw h5];by_cases h6:w.eU<v.eU
   ·rw[aW h6];simp only[f90,rL',aa,simprocAttr,aD,hg,cg];refine(cz rfl).2 ?_;simp only[rL',aa,simprocAttr,hv,cg,w1,p0,h5];refine(cz rfl).2 ?_;simp only[rL',aa,simprocAttr,hv,cg,w1,p0,h6,gV]
   ·rw[aw h6];refine rest (fun c=>Wp T false f90.body ⟨fy 0 (dK [aD s,.slice (l.map cg),.int .i64 ((j+1:Nat):Int)]),[],0⟩ (kT f90.res (jG c))) (fun h1=>?_) (fun h1 h2 h3=>?_) (fun h1 h2 h3=>?_) (fun h1 h2=>?_)
    all_goals
     simp only[f90,rL',aa,simprocAttr,aD,hg,cg];refine(cz rfl).2 ?_;simp only[rL',aa,simprocAttr,hv,cg,w1,p0,h5];refine(cz rfl).2 ?_;simp only[rL',aa,simprocAttr,hv,cg,w1,p0,h6,mkFun,n9];rw[kf _ _ _ _ _ (eq_true (by simp only[rL',aa,simprocAttr])) (eq_true (by simp only[rL',aa,simprocAttr]))]
    ·simp only[rL',aa,simprocAttr,h1,jj]
    ·have hv:=pI w.jV cG;rw[U2 h3]at hv;simp only[cG]at hv;simp only[rL',aa,simprocAttr,h1,h2,hv,gV]
    ·have hv:=pI w.jV cG;rw[bI h3]at hv;simp only[cG]at hv;simp only[rL',aa,simprocAttr,h1,h2,hv,gJ]
    ·simp only[rL',aa,simprocAttr,h1,h2,gJ]
end
end
section
structure D7(T:cL):Prop where
 b:zI T
 Ue:Std T 80 f80
 RH:Std T 90 f90
 c:Ma T
theorem FX(pods:List dx)(p:Option Want)(w:Want):eL pods p w=0\/1<=eL pods p w/\eL pods p w<=17:=by
 have hr:hY pods w=0\/1<=hY pods w/\hY pods w<=17:=by
  unfold hY;split
  ·omega
  ·split <;>omega
 unfold eL;split
 ·split
  ·omega
  ·split
   ·omega
   ·exact hr
 ·exact hr
theorem nQ(pods:List dx):∀(l:List Want) (p:Option Want) (i:Int) c a,eR pods p i l=some (c,a)->i<=a/\1<=c/\c<=17
 |[],p,i,c,a,h=>by simp[eR]at h
 |w::r,p,i,c,a,h=>by
  simp only[eR]at h;split at h
  ·rename_i h0;simp only[ai,b9]at h;have:=FX pods p w;omega
  ·have:=nQ pods r _ _ c a h;omega
theorem Ai(s:bc)(x:Spec):Gb (jk s x):=by
 intro c a h;unfold jk at h;cases hc:gq s with
 |some e =>
  rw[hc]at h;simp only[ai]at h;subst h;exact wI s c a hc
 |none =>
  rw[hc]at h;simp only at h;split at h
  ·have:=nQ _ _ _ _ _ _ h;omega
  ·simp only[ai,b9]at h;omega
section
variable{T:cL}
theorem EN(S:D7 T)(s:bc)(x:Spec)(hp:s.pods.length<=2^30)(hx:x.aZ.length<=2^29)(Q:Exit->St->Prop)(o:Option (Int×Int))
    (bS:o=none->∀fr hp nx,Q (.exit 0) ⟨fr,hp,nx⟩)
    (dI:∀fr hp nx,wm [.t 4] ⟨fr,hp,nx⟩=some (jQ o)->Q .ret ⟨fr,hp,nx⟩) :
    ∀(rest:List Want) (i:Nat) (prev:Option Want),x.aZ.drop i=rest->i<=x.aZ.length->((i=0/\prev=none)\/∃j v,i=j+1/\prev=some v/\x.aZ[j]? =some v)->eR s.pods prev i rest=o->∀(fr:List (Nat×AV)) (hp:Hl) (nx:Nat),2<=nx->look fr 2=.ptr 0 0 0->look fr 3=.ptr 1 0 0 ->
     ah hp 0=.var [.pv (.slice (s.nodes.map bB)),.pv (.slice (s.aU.map bN)),.pv (.slice (s.pods.map aJ))]->ah hp 1=.var [.pv (.slice (x.aZ.map cg)),.pv (.int .i64 x.pre),.pv (.int .i64 x.eW)] ->
     look fr 34=.pv (.int .i64 x.aZ.length)->look fr 35=.pv (.int .i64 i)->Wp T false (.loop Dx) ⟨fr,hp,nx⟩ Q:=by
 intro rest;induction rest with
 |nil =>
  intro i prev hd hi DM ho fr hp nx gR g2 g3 b0 b1 OI Qe;have hlen:=drop_nil hd hi;rw[ay,aY Dx.eq_1];simp only[rL',aa,simprocAttr,OI,Qe,hlen,aR];exact bS ho.symm _ _ _
 |cons w r ih =>
  intro i prev hd hi DM ho fr hp nx gR g2 g3 b0 b1 OI Qe;obtain⟨aK,hlt,hw,di,cS,Bu⟩:=drop_cons hd (by omega);have n0:¬nx=0:=by omega
  have n1:¬nx=1:=by omega
  have k:=IJ S.RH S.c s (by assumption) x.aZ i w prev Bu aK DM;simp only[aD]at k;simp only[eR]at ho;rw[ay,aY Dx.eq_1];by_cases hc:eL s.pods prev w=0
  ·rw[aw (by simpa using hc)]at ho;rw[hc,gJ]at k;simp only[rL',aa,simprocAttr,g2,g3,b0,b1,OI,Qe,hlt,n0,n1,k.call,tn S.b.hA,hw];refine ih (i+1) (some w) di cS (.inr ⟨i,w,rfl,rfl,aK⟩) (by rw[<-ho];rfl) _ _ _ (by omega) ?_ ?_ ?_ ?_ ?_ ?_
   all_goals try simp only[aj,Nat.reduceEqDiff,g2,g3,n0,n1,b0,b1,OI]
  ·rw[aW hc]at ho;have w8:jG (eL s.pods prev w)=.iface 0 (.int .i64 (eL s.pods prev w)):=aw hc;rw[w8]at k;have Us:¬(i:Int)<0:=by omega
   simp only[rL',aa,simprocAttr,g2,g3,b0,b1,OI,Qe,hlt,n0,n1,k.call];refine(o9 S.b.hA (o:=0) ?_).2 ?_
   ·simp only[rL',aa,simprocAttr]
   ·simp only[rL',aa,simprocAttr];refine dI _ _ _ ?_;simp only[rL',aa,simprocAttr,<-ho,jQ,Us,gk]
theorem H0(S:D7 T)(s:bc)(x:Spec)(hx:x.aZ.length<=2^29):ba T 80 [aD s,bd x] (jQ (jk s x)):=by
 refine gives S.Ue rfl ?_;have k:=EB S.b s;simp only[aD]at k;unfold jk;cases hc:gq s with
 |some e =>
  obtain⟨c,a⟩:=e;rw[hc]at k;simp only[jQ]at k⊢;by_cases ha:a<0
  ·rw[aW ha]at k⊢;simp only[cf]at k;simp only[f80,rL',aa,simprocAttr,aD,bd,k.call,cf]
  ·rw[aw ha]at k⊢;simp only[gk]at k;simp only[f80,rL',aa,simprocAttr,aD,bd,k.call,gk]
 |none =>
  have hs:s.pods.length<=2^30:=by
   unfold gq at hc;split at hc
   ·rename_i hz;simp only[kJ,bq,bO]at hz;omega
   ·simp at hc
  rw[hc]at k;simp only[jQ]at k;simp only;by_cases c1:x.pre<0
  ·rw[aw (by omega)];simp only[f80,rL',aa,simprocAttr,aD,bd,k.call,c1,jQ,cf]
  ·by_cases c2:40<x.pre
   ·rw[aw (by omega)];simp only[f80,rL',aa,simprocAttr,aD,bd,k.call,c1,c2,jQ,cf]
   ·by_cases c3:x.eW<0
    ·rw[aw (by omega)];simp only[f80,rL',aa,simprocAttr,aD,bd,k.call,c1,c2,c3,jQ,cf]
    ·by_cases c4:40<x.eW
     ·rw[aw (by omega)];simp only[f80,rL',aa,simprocAttr,aD,bd,k.call,c1,c2,c3,c4,jQ,cf]
     ·rw[aW (by omega)];simp only[f80,rL',aa,simprocAttr,aD,bd,k.call,c1,c2,c3,c4];refine EN S s x hs hx _ (eR s.pods none 0 x.aZ) (fun ho fr hp nx=>?_) (fun fr hp nx hr=>?_) x.aZ 0 none rfl (aN _) (.inl ⟨rfl,rfl⟩) rfl _ _ _ (ax _) rfl rfl rfl rfl rfl rfl
      ·simp only[rL',aa,simprocAttr,ho,jQ]
      ·simp only[tS,vt,kT,hr]
end
end
section
/-! ### SK -/
def fg(m:Move):Bool:=if m.kind=2 then decide (m.node=0)&&decide (m.over=0)else if m.kind=1\/m.kind=3 then decide (m.over=0)else decide (m.kind=4)
theorem JR{T:cL}(Mq:Std T 243 f243)(m:Move):ba T 243 [du m] (.bool (fg m)):=by
 refine gives Mq rfl ?_;unfold fg;by_cases k2:m.kind=2
 ·by_cases n0:m.node=0 <;>by_cases o0:m.over=0 <;>simp only[f243,rM',aa,simprocAttr,du,bF,k2,n0,o0,bw,dV,cB]
 ·by_cases k1:m.kind=1
  ·by_cases o0:m.over=0 <;>simp only[f243,rM',aa,simprocAttr,du,bF,k1,o0,true_or]
  ·by_cases k3:m.kind=3
   ·by_cases o0:m.over=0 <;>simp only[f243,rM',aa,simprocAttr,du,bF,k3,o0,or_true]
   ·by_cases k4:m.kind=4 <;>simp only[f243,rM',aa,simprocAttr,du,bF,k1,k2,k3,k4,or_false]
def eH(x:Spec)(p:dx)(node:Int):dx:=match jW p.id x.aZ with
 |some w=>if w.stay=true then{p with node:=node,jV:=w.jV}else{p with node:=node}
 |none=>{p with node:=node}
theorem JF{T:cL}(Av:pP T 242 f242)(Mu:Std T 83 f83)(x:Spec)(hx:x.aZ.length<=2^30)(pods:List dx)(i id:Nat)(p:dx)(hi:pods[i]? =some p)(node:Int)(hp:Hl)(nx:Nat)(dT:id<nx)(hb:ah hp id=.row 8 (pods.map aJ)) :
    ∃v hp' cE,D T 242 [.pv (bd x),.ptr id i 0,.pv (.int .i64 node)] hp nx=some (v,hp',cE)/\nx<=cE/\ah hp' id=.row 8 ((pods.set i (eH x p node)).map aJ)/\∀j,j<nx->j≠id->ah hp' j=ah hp j:=by
 refine xB Av rfl ?_;have k:=Lb Mu x p.id hx;have e1:¬id=nx:=by omega
 have e2:¬nx=id:=by omega
 have Pl:(pods.map aJ)[i]? =some (aJ p):=by rw[fj,hi];rfl
 simp only[f242,rM',aa,simprocAttr,bd,hb,e2,hi,aJ];refine tk.2 ?_;have g1:∀v:List PV,((pods.map aJ).set i v)[i]? =some v:=fun v=>by
  have:i<(pods.map aJ).length:=(aA.1 Pl).1;rw[kM this]
 have g2:∀u v:List PV,(((pods.map aJ).set i u).set i v)=(pods.map aJ).set i v:=fun u v=>List.set_set ..
 have g3:∀q:dx,(pods.map aJ).set i (aJ q)=(pods.set i q).map aJ:=fun q=>(List.map_set).symm;have e3:¬nx+1=id:=by omega
 have e4:¬id=nx+1:=by omega
 cases hw:jW p.id x.aZ with
 |none =>
  rw[hw]at k;simp only[rM',aa,simprocAttr,bd,hb,e1,e2,e3,e4,hi,aJ,g1,k.ik,xx,cg,vI];refine⟨?_,?_⟩
  ·simp only[eA,kX,ij,iY,mem,iI,En.reads,fp,iq,gT,kW,mI,AO.tmps,fo,keys,kG,ix,cw,cp,cy,aE,aG,bH,rM',aa,simprocAttr,e1,e2,e3,e4,bw,bh];rfl
  ·simp only[ks,jK,rM',aa,simprocAttr,aF,e1,e2,e3,e4];refine⟨by omega,?_,fun j hj ew=>?_⟩
   ·rw[<-g3];simp only[eH,hw,aJ]
   ·have:¬nx+1=j:=by omega
    have:¬nx=j:=by omega
    have:¬id=j:=fun h=>ew h.symm;simp only[aF, *,aI]
 |some w =>
  rw[hw]at k;cases jb:w.stay
  ·simp only[rM',aa,simprocAttr,bd,hb,e1,e2,e3,e4,hi,aJ,g1,k.ik,xx,cg,jb];refine⟨?_,?_⟩
   ·simp only[eA,kX,ij,iY,mem,iI,En.reads,fp,iq,gT,kW,mI,AO.tmps,fo,keys,kG,ix,cw,cp,cy,aE,aG,bH,rM',aa,simprocAttr,e1,e2,e3,e4,bw,bh];rfl
   ·simp only[ks,jK,rM',aa,simprocAttr,aF,e1,e2,e3,e4];refine⟨by omega,?_,fun j hj ew=>?_⟩
    ·rw[<-g3];simp only[eH,hw,aJ,jb,bK,aI]
    ·have:¬nx+1=j:=by omega
     have:¬nx=j:=by omega
     have:¬id=j:=fun h=>ew h.symm;simp only[aF, *,aI]
  ·simp only[rM',aa,simprocAttr,bd,hb,e1,e2,e3,e4,hi,aJ,g1,k.ik,xx,cg,jb];refine⟨?_,?_⟩
   ·simp only[eA,kX,ij,iY,mem,iI,En.reads,fp,iq,gT,kW,mI,AO.tmps,fo,keys,kG,ix,cw,cp,cy,aE,aG,bH,rM',aa,simprocAttr,e1,e2,e3,e4,bw,bh];rfl
   ·simp only[ks,jK,rM',aa,simprocAttr,aF,e1,e2,e3,e4];refine⟨by omega,?_,fun j hj ew=>?_⟩
    ·rw[<-g3,g2];simp only[eH,hw,aJ,jb,bA]
    ·have:¬nx+1=j:=by omega
     have:¬nx=j:=by omega
     have:¬id=j:=fun h=>ew h.symm;simp only[aF, *,aI]
theorem IV.og{T:cL}{n sz:Nat}(S:IV T n sz){es:List (List PV)}(h:cq sz es=true)(hl:es.length<=2^30)(ew:es≠[])(d:Option Nat)(l:List aV)(st:St)(K:St->Prop) :
    iN T n [.pv (.slice es)] d l st K↔tM T l ⟨dt st d (.ms st.nx),(st.nx,.row sz es)::st.hp,st.nx+1⟩ K:=by
 rw[S.call h hl];cases es with
 |nil=>exact absurd rfl ew
 |cons e r=>exact pt
theorem rI{T:cL}(Av:pP T 242 f242)(Mu:Std T 83 f83)(x:Spec)(hx:x.aZ.length<=2^30)(pods:List dx)(i id:Nat)(p:dx)(hi:pods[i]? =some p)(node:Int){d:Option Nat}{l:List aV}{st:St}{K:St->Prop}
    (dT:id<st.nx) (hb:ah st.hp id=.row 8 (pods.map aJ))
    (h:∀v hp' cE,st.nx<=cE->ah hp' id=.row 8 ((pods.set i (eH x p node)).map aJ)->(∀j,j<st.nx->j≠id->ah hp' j=ah st.hp j)->tM T l ⟨dt st d v,hp',cE⟩ K) :
    iN T 242 [.pv (bd x),.ptr id i 0,.pv (.int .i64 node)] d l st K:=by
 obtain⟨v,hp',cE,hD,h1,h2,h3⟩:=JF Av Mu x hx pods i id p hi node st.hp st.nx dT hb;exact(dr Av.raw hD).2 (h v hp' cE h1 h2 h3)
def bJ(s:bc)(x:Spec)(t:State)(m:Move):Int ⊕ State :=
 if fg m=false then .inl 1 else
 if bx m.eU 0 t.pods<0 then .inl 4 else
 if m.kind≠2/\dv m.node s.nodes=none then .inl 4 else
 if m.kind=4/\bx m.over 0 t.pods<0 then .inl 4 else
 match t.pods[(bx m.eU 0 t.pods).toNat]? with
 |none=>.inl 0
 |some p =>
  if m.kind=2 then(if p.node=0 then .inl 7 else .inr ⟨t.pods.set (bx m.eU 0 t.pods).toNat {p with node:=0},t.pre,t.eW⟩)
  else if m.kind=3 then(if p.node=0 then .inl 7 else if p.node=m.node then .inl 7 else .inr ⟨t.pods.set (bx m.eU 0 t.pods).toNat (eH x p m.node),t.pre,IntKind.i64.wrap (t.eW+1)⟩)
  else if m.kind=4 then
   match t.pods[(bx m.over 0 t.pods).toNat]? with
   |none=>.inl 0
   |some q=>if(bx m.eU 0 t.pods).toNat=(bx m.over 0 t.pods).toNat then .inl 7 else if q.node≠m.node then .inl 7 else if p.node≠0 then .inl 7
    else .inr ⟨(t.pods.set (bx m.over 0 t.pods).toNat {q with node:=0}).set (bx m.eU 0 t.pods).toNat (eH x p m.node),IntKind.i64.wrap (t.pre+1),t.eW⟩
  else if p.node≠0 then .inl 7 else .inr ⟨t.pods.set (bx m.eU 0 t.pods).toNat (eH x p m.node),t.pre,t.eW⟩
def gj:Int ⊕ State->PV
 | .inl c=>.tuple [ar ⟨[],0,0⟩,cf c]
 | .inr u=>.tuple [ar u,.dJ]
structure NT(T:cL):Prop where
 s5:Gi T
 Kc:Std T 82 f82
 Mu:Std T 83 f83
 Rv:Std T 239 f239
 Av:pP T 242 f242
 Mq:Std T 243 f243
 rV:IV T 279 8
set_option maxRecDepth 100000 in
set_option maxHeartbeats 4000000 in
theorem KC{T:cL}(S:NT T)(s:bc)(x:Spec)(t:State)(m:Move)(hs:s.nodes.length<=2^30)(hx:x.aZ.length<=2^30)(ht:t.pods.length<=2^30) :
    ba T 239 [aD s,bd x,ar t,du m] (gj (bJ s x t m)):=by
 refine gives S.Rv rfl ?_;have kp:=sg S.s5 t m.eU ht;have ko:=sg S.s5 t m.over ht;have kn:=tz S.Kc s m.node hs;have kf:=JR S.Mq m;simp only[ar]at kp ko;simp only[aD]at kn;simp only[du,bF]at kf;simp only[f239,rM',aa,simprocAttr,aD,bd,ar,du,bF];refine(eg rfl).2 ?_;obtain⟨N,hN⟩:∃N:Node,jZ (dv m.node s.nodes)=.tuple [.agg (bB N),.bool (dv m.node s.nodes).isSome]:=by
  cases dv m.node s.nodes with
  |none=>exact⟨mO,rfl⟩
  |some n=>exact⟨n,rfl⟩
 rw[hN]at kn;simp only[bB]at kn;cases DK:fg m
 ·have hm:bJ s x t m=.inl 1:=by unfold bJ;rw[aW DK]
  rw[DK]at kf;simp only[rM',aa,simprocAttr,kp.cn,ko.cn,kn.call,kf.call,hm,gj,cf,ar,az]
 ·rw[DK]at kf;have DL:¬(fg m=false):=by rw[DK];simp
  by_cases hi:bx m.eU 0 t.pods<0
  ·have hm:bJ s x t m=.inl 4:=by unfold bJ;rw[aw DL,aW hi]
   simp only[rM',aa,simprocAttr,kp.cn,ko.cn,kn.call,kf.call,hm,gj,cf,ar,az,hi]
  ·obtain⟨j,p,aK,hP,hj⟩:∃(j:Nat) (p:dx),t.pods[j]? =some p/\bx m.eU 0 t.pods=(j:Int)/\j<t.pods.length:=by
    rcases ca m.eU t.pods 0 with⟨_,h⟩|⟨j,p,h1,_,h3,h4⟩
    ·omega
    ·exact⟨j,p,h1,by rw[h3,aQ],h4⟩
   have ew:t.pods.map aJ≠[]:=by
    intro h;rw[List.map_eq_nil_iff]at h;rw[h]at hj;simp at hj
   have lS:¬((j:Int)<0):=by omega
   have Pl:(t.pods.map aJ)[j]? =some (aJ p):=by rw[fj,aK];rfl
   have hlen:(t.pods.map aJ).length<=2^30:=by rw[al];exact ht
   have pj:j<t.pods.length:=hj;have g3:∀(i:Nat) (q:dx),(t.pods.map aJ).set i (aJ q)=(t.pods.set i q).map aJ:=fun i q=>(List.map_set).symm;by_cases k2:m.kind=2
   ·by_cases c1:p.node=0
    ·have hm:bJ s x t m=.inl 7:=by
      unfold bJ;rw[aw DL,aw hi,aw (by simp[k2]),aw (by simp[k2]),hP];simp only[bY,aK,k2,bA,c1]
     simp only[rM',aa,simprocAttr,kp.cn,ko.cn,kn.call,kf.call,hP,lS,k2,aK,aJ];rw[S.rV.og (cW _) hlen ew];simp only[rM',aa,simprocAttr,aK,aJ,hm,gj,cf,ar,az,pj,k2,c1]
    ·have hm:bJ s x t m=.inr ⟨t.pods.set j {p with node:=0},t.pre,t.eW⟩:=by
      unfold bJ;rw[aw DL,aw hi,aw (by simp[k2]),aw (by simp[k2]),hP];simp only[bY,aK,k2,bA,c1,aI]
     have e1:=g3 j {p with node:=0};simp only[aJ]at e1;simp only[rM',aa,simprocAttr,kp.cn,ko.cn,kn.call,kf.call,hP,lS,k2,aK,aJ];rw[S.rV.og (cW _) hlen ew];simp only[rM',aa,simprocAttr,aK,aJ,hm,gj,cf,ar,pj,k2,c1];rw[e1]
   ·cases qR:dv m.node s.nodes with
    |none =>
     have hm:bJ s x t m=.inl 4:=by
      unfold bJ;rw[aw DL,aw hi,aW ⟨k2,qR⟩]
     rw[qR]at kn;simp only[Option.isSome_none]at kn;simp only[rM',aa,simprocAttr,kp.cn,ko.cn,kn.call,kf.call,hP,lS,k2,hm,gj,cf,ar,az]
    |some nn =>
     rw[qR]at kn;simp only[Option.isSome_some]at kn;have J7:¬(m.kind≠2/\dv m.node s.nodes=none):=by rw[qR];simp
     by_cases k4:m.kind=4
     ·by_cases Pb:bx m.over 0 t.pods<0
      ·have hm:bJ s x t m=.inl 4:=by
        unfold bJ;rw[aw DL,aw hi,aw J7,aW ⟨k4,Pb⟩]
       simp only[rM',aa,simprocAttr,kp.cn,ko.cn,kn.call,kf.call,hP,lS,k4,Pb,hm,gj,cf,ar,az]
      ·obtain⟨k,q,zE,hK,hk⟩:∃(k:Nat) (q:dx),t.pods[k]? =some q/\bx m.over 0 t.pods=(k:Int)/\k<t.pods.length:=by
        rcases ca m.over t.pods 0 with⟨_,h⟩|⟨k,q,h1,_,h3,h4⟩
        ·omega
        ·exact⟨k,q,h1,by rw[h3,aQ],h4⟩
       have Kf:¬((k:Int)<0):=by omega
       have Kh:¬(m.kind=4/\bx m.over 0 t.pods<0):=fun h=>Pb h.2;by_cases c0:j=k
       ·have hm:bJ s x t m=.inl 7:=by
         unfold bJ;rw[aw DL,aw hi,aw J7,aw Kh,hP,hK];subst c0;simp[aK,k4]
        simp only[rM',aa,simprocAttr,kp.cn,ko.cn,kn.call,kf.call,hP,hK,lS,Kf,k4,aK,aJ];rw[S.rV.og (cW _) hlen ew];simp only[rM',aa,simprocAttr,aK,aJ,pj,k4];refine(eg rfl).2 ?_;simp only[rM',aa,simprocAttr,aK,aJ,hm,gj,cf,ar,az,pj,k4,c0]
       ·by_cases c1:q.node=m.node
        ·by_cases c2:p.node=0
         ·have hm:bJ s x t m=.inr ⟨(t.pods.set k {q with node:=0}).set j (eH x p m.node),IntKind.i64.wrap (t.pre+1),t.eW⟩:=by
           unfold bJ;rw[aw DL,aw hi,aw J7,aw Kh,hP,hK];simp[aK,zE,k4,c0,c1,c2]
          have e1:=g3 k {q with node:=0};simp only[aJ]at e1;have OV:(t.pods.set k {q with node:=0})[j]? =some p:=by rw[List.getElem?_set_ne (fun h=>c0 h.symm)];exact aK
          simp only[rM',aa,simprocAttr,kp.cn,ko.cn,kn.call,kf.call,hP,hK,lS,Kf,k4,aK,aJ];rw[S.rV.og (cW _) hlen ew];simp only[rM',aa,simprocAttr,aK,aJ,pj,k4];refine(eg rfl).2 ?_;simp only[rM',aa,simprocAttr,aK,zE,aJ,pj,hk,k4,c0,c1,c2,e1];refine rI S.Av S.Mu x hx (t.pods.set k {q with node:=0}) j _ p OV m.node ?_ ?_ (fun v hp' cE q1 q2 q3=>?_)
          ·show 6<7
           decide
          ·rfl
          ·have d2:=q3 2 (show 2<7 by decide) (by decide);have d4:=q3 4 (show 4<7 by decide) (by decide);simp only[aF,Nat.reduceEqDiff,bA,aI]at d2 d4;simp only[rM',aa,simprocAttr,q2,d2,d4,hm,gj,ar]
         ·have hm:bJ s x t m=.inl 7:=by
           unfold bJ;rw[aw DL,aw hi,aw J7,aw Kh,hP,hK];simp[aK,zE,k4,c0,c1,c2]
          simp only[rM',aa,simprocAttr,kp.cn,ko.cn,kn.call,kf.call,hP,hK,lS,Kf,k4,aK,aJ];rw[S.rV.og (cW _) hlen ew];simp only[rM',aa,simprocAttr,aK,aJ,pj,k4];refine(eg rfl).2 ?_;simp only[rM',aa,simprocAttr,aK,zE,aJ,hm,gj,cf,ar,az,pj,hk,k4,c0,c1,c2]
        ·have hm:bJ s x t m=.inl 7:=by
          unfold bJ;rw[aw DL,aw hi,aw J7,aw Kh,hP,hK];simp[aK,zE,k4,c0,c1]
         simp only[rM',aa,simprocAttr,kp.cn,ko.cn,kn.call,kf.call,hP,hK,lS,Kf,k4,aK,aJ];rw[S.rV.og (cW _) hlen ew];simp only[rM',aa,simprocAttr,aK,aJ,pj,k4];refine(eg rfl).2 ?_;simp only[rM',aa,simprocAttr,aK,zE,aJ,hm,gj,cf,ar,az,pj,hk,k4,c0,c1]
     ·by_cases k3:m.kind=3
      ·by_cases c1:p.node=0
       ·have hm:bJ s x t m=.inl 7:=by
         unfold bJ;rw[aw DL,aw hi,aw J7,aw (by simp[k4]),hP];simp[aK,k3,c1]
        simp only[rM',aa,simprocAttr,kp.cn,ko.cn,kn.call,kf.call,hP,lS,k3,aK,aJ];rw[S.rV.og (cW _) hlen ew];simp only[rM',aa,simprocAttr,aK,aJ,hm,gj,cf,ar,az,pj,k3,c1]
       ·by_cases c2:p.node=m.node
        ·have hm:bJ s x t m=.inl 7:=by
          unfold bJ;rw[aw DL,aw hi,aw J7,aw (by simp[k4]),hP];simp[aK,k3,c2]
         rw[c2]at c1;simp only[rM',aa,simprocAttr,kp.cn,ko.cn,kn.call,kf.call,hP,lS,k3,aK,aJ];rw[S.rV.og (cW _) hlen ew];simp only[rM',aa,simprocAttr,aK,aJ,hm,gj,cf,ar,az,pj,k3,c1,c2]
        ·have hm:bJ s x t m=.inr ⟨t.pods.set j (eH x p m.node),t.pre,IntKind.i64.wrap (t.eW+1)⟩:=by
          unfold bJ;rw[aw DL,aw hi,aw J7,aw (by simp[k4]),hP];simp[aK,k3,c1,c2]
         simp only[rM',aa,simprocAttr,kp.cn,ko.cn,kn.call,kf.call,hP,lS,k3,aK,aJ];rw[S.rV.og (cW _) hlen ew];simp only[rM',aa,simprocAttr,aK,aJ,pj,k3,c1,c2];refine rI S.Av S.Mu x hx t.pods j _ p aK m.node ?_ ?_ (fun v hp' cE q1 q2 q3=>?_)
         ·show 6<7
          decide
         ·rfl
         ·have d2:=q3 2 (show 2<7 by decide) (by decide);have d4:=q3 4 (show 4<7 by decide) (by decide);simp only[aF,Nat.reduceEqDiff,bA,aI]at d2 d4;simp only[rM',aa,simprocAttr,q2,d2,d4,hm,gj,ar]
      ·by_cases c1:p.node=0
       ·have hm:bJ s x t m=.inr ⟨t.pods.set j (eH x p m.node),t.pre,t.eW⟩:=by
         unfold bJ;rw[aw DL,aw hi,aw J7,aw (by simp[k4]),hP];simp[aK,k2,k3,k4,c1]
        simp only[rM',aa,simprocAttr,kp.cn,ko.cn,kn.call,kf.call,hP,lS,k2,k3,k4,aK,aJ];rw[S.rV.og (cW _) hlen ew];simp only[rM',aa,simprocAttr,aK,aJ,pj,k2,k3,k4,c1];refine rI S.Av S.Mu x hx t.pods j _ p aK m.node ?_ ?_ (fun v hp' cE q1 q2 q3=>?_)
        ·show 6<7
         decide
        ·rfl
        ·have d2:=q3 2 (show 2<7 by decide) (by decide);have d4:=q3 4 (show 4<7 by decide) (by decide);simp only[aF,Nat.reduceEqDiff,bA,aI]at d2 d4;simp only[rM',aa,simprocAttr,q2,d2,d4,hm,gj,ar]
       ·have hm:bJ s x t m=.inl 7:=by
         unfold bJ;rw[aw DL,aw hi,aw J7,aw (by simp[k4]),hP];simp[aK,k2,k3,k4,c1]
        simp only[rM',aa,simprocAttr,kp.cn,ko.cn,kn.call,kf.call,hP,lS,k2,k3,k4,aK,aJ];rw[S.rV.og (cW _) hlen ew];simp only[rM',aa,simprocAttr,aK,aJ,hm,gj,cf,ar,az,pj,k2,k3,k4,c1]
end
def HW(k:Nat)(l l':List dx):Prop:=∀s load z,fN s load z l'<=fN s load z l+k/\fN s load z l<=fN s load z l'+k
theorem mN:∀(l:List dx) (i:Nat) (q:dx),HW 1 l (l.set i q)
 |[],i,q=>fun s load z=>by simp
 |a::r,0,q=>fun s load z=>by
  simp only[List.set_cons_zero,fN];split <;>split <;>omega
 |a::r,i+1,q=>fun s load z=>by
  have:=mN r i q s load z;simp only[List.set_cons_succ,fN];omega
theorem Fo(l:List dx)(i j:Nat)(p q:dx):HW 2 l ((l.set i p).set j q):=fun s load z=>by
 have h1:=mN l i p s load z;have h2:=mN (l.set i p) j q s load z;omega
theorem lu(s:bc)(x:Spec)(t u:State)(m:Move)(h:bJ s x t m=.inr u):HW (if m.kind=4 then 2 else 1) t.pods u.pods/\u.pods.length=t.pods.length:=by
 unfold bJ at h;split at h
 ·simp at h
 ·split at h
  ·simp at h
  ·split at h
   ·simp at h
   ·split at h
    ·simp at h
    ·split at h
     ·simp at h
     ·rename_i p hp;by_cases k2:m.kind=2
      ·rw[aW k2]at h;split at h
       ·simp at h
       ·simp only[eT]at h;subst h;have k4:¬m.kind=4:=by omega
        rw[aw k4];exact⟨mN _ _ _,by simp⟩
      ·rw[aw k2]at h;split at h
       ·rename_i k3;have k4:¬m.kind=4:=by omega
        rw[aw k4];split at h
        ·simp at h
        ·split at h
         ·simp at h
         ·simp only[eT]at h;subst h;exact⟨mN _ _ _,by simp⟩
       ·split at h
        ·rename_i k4;rw[aW k4];split at h
         ·simp at h
         ·split at h
          ·simp at h
          ·split at h
           ·simp at h
           ·split at h
            ·simp at h
            ·simp only[eT]at h;subst h;exact⟨Fo _ _ _ _ _,by simp⟩
        ·rename_i k4;rw[aw k4];split at h
         ·simp at h
         ·simp only[eT]at h;subst h;exact⟨mN _ _ _,by simp⟩
def f166:bg:=⟨188,[.cell 8 true 3,.t 9],
(.seq (.ops [
df 4 0 [],
df 5 1 [],
df 6 2 [],
df 7 3 [],
aP 8 (.alloc [.bu,.pv (.int .i64 0),.pv (.int .i64 0)]) [],
cT 9 0 []])
(.seq (.seq (.ops [
bP 16 0 7 [],
bQ 17 1 16 [0],
cM 18 .lss 17 1 [1],
aq 19 18 [2],
dX 20 19 false 0 7 [3],
dP 21 19 false 1 20 [4,3],
fV 22 19 false .gtr 21 4 [5,3],
jJ 23 19 22 [3,6],
aq 24 23 [7,3],
dX 25 24 false 0 7 [8],
dP 26 24 false 1 25 [9,8],
fV 27 24 false .neq 26 4 [10,8],
eP 28 24 false 27 [11,8,8],
dX 29 28 true 3 7 [12],
dP 30 28 true 1 29 [13,12],
fV 31 28 true .neq 30 0 [14,12],
Hb 32 24 false 28 31 [12,15,8],
jJ 33 24 32 [8,16],
aq 34 33 [17,12],
dX 35 34 false 0 7 [18],
dP 36 34 false 1 35 [19,18],
fV 37 34 false .eql 36 2 [20,18],
eP 38 34 false 37 [21,18,18],
dX 39 38 true 2 7 [22],
dP 40 38 true 1 39 [23,22],
fV 41 38 true .neq 40 0 [24,22],
Hb 42 34 false 38 41 [22,25,18],
jJ 43 34 42 [18,26]])
(.cond (.t 43)
(.seq (.ops [
aP 44 (.build [.bu,.pv (.int .i64 0),.pv (.int .i64 0)] []) [],
dg 3 8 44 [0,0],
cT 9 1 [1,0,1]])
.ret)
.skip))
(.seq (.ops [
bZ 45 3 6 [],
bP 46 1 7 [],
bQ 47 1 46 [1],
aP 48 (.call 167 [.t 45,.t 47]) [0,2],
aq 10 48 [3,3,0,1,2,3]])
(.seq (.ops [
bZ 49 3 6 [],
bP 50 3 7 [],
bQ 51 1 50 [1],
aP 52 (.call 167 [.t 49,.t 51]) [0,2],
aq 11 52 [3,3,0,1,2,3]])
(.seq (.seq (.ops [
aq 53 10 [],
cM 54 .lss 53 0 [0],
aq 55 54 [1],
dX 56 55 false 0 7 [2],
dP 57 55 false 1 56 [3,2],
fV 58 55 false .neq 57 2 [4,2],
eP 59 55 false 58 [5,2,2],
dU 60 59 true (.load true 3 (.t 4)) [6],
dX 61 59 true 2 7 [6],
dP 62 59 true 1 61 [8,6],
dU 63 59 true (.call 155 [.t 60,.t 62]) [7,9,6,6],
fV 64 59 true .lss 63 0 [10,6],
Hb 65 55 false 59 64 [6,11,2],
jJ 66 55 65 [2,12],
aq 67 66 [13,10],
dX 68 67 false 0 7 [14],
dP 69 67 false 1 68 [15,14],
fV 70 67 false .eql 69 4 [16,14],
eP 71 67 false 70 [17,14,14],
eP 72 71 true 11 [18],
fV 73 71 true .lss 72 0 [19,18],
Hb 74 67 false 71 73 [18,20,14],
jJ 75 67 74 [14,21]])
(.cond (.t 75)
(.seq (.ops [
aP 76 (.build [.bu,.pv (.int .i64 0),.pv (.int .i64 0)] []) [],
dg 3 8 76 [0,0],
cT 9 4 [1,0,1]])
.ret)
.skip))
(.seq (.ops [
bP 77 0 6 [],
bQ 78 1 77 [0],
aq 79 10 [],
ft 80 8 78 79 [1,2],
bZ 81 8 80 [3],
aP 12 (.alloc [.pv (.int .i64 0),.pv (.int .i64 0),.pv (.int .i64 0),.pv (.int .u64 0),.pv (.int .u64 0),.pv (.int .u64 0),.pv (.int .u64 0),.pv (.int .i64 0)]) [],
dg 8 12 81 [5,4,0,1,2,3,4,5]])
(.seq (.draw [
aP 82 (.cv 8 0 [] []) [],
bP 83 0 6 [],
bQ 84 1 83 [1],
aP 85 (.append 8 64 (.t 82) (.t 84)) [0,2],
bP 86 1 6 [],
bQ 87 1 86 [4],
bP 88 2 6 [],
bQ 89 1 88 [6],
aP 90 (.build [.bu,.pv (.int .i64 0),.pv (.int .i64 0)] [(0,1,(.t 85)),(1,1,(.t 87)),(2,1,(.t 89))]) [3,5,7],
aP 13 (.alloc [.bu,.pv (.int .i64 0),.pv (.int .i64 0)]) [],
dg 3 13 90 [9,8,3,0,1,2,3,4,5,6,7,8,9]])
(.seq (.ops [
fR 14 false []])
(.seq (.seq (.ops [
bP 91 0 7 [],
bQ 92 1 91 [0]])
(.block 0
(.seq (.ops [
cM 94 .eql 92 1 [],
aq 93 94 [0]])
(.cond (.t 93)
(.ops [
bP 95 7 12 [],
bQ 96 1 95 [0],
cM 97 .eql 96 0 [1],
aq 14 97 [2,0,1,2]])
(.seq (.ops [
cM 99 .eql 92 2 [],
aq 98 99 [0]])
(.cond (.t 98)
(.ops [
bP 100 7 12 [],
bQ 101 1 100 [0],
cM 102 .neq 101 0 [1],
aq 14 102 [2,0,1,2]])
(.seq (.ops [
cM 104 .eql 92 3 [],
aq 103 104 [0]])
(.cond (.t 103)
(.seq (.ops [
bP 105 7 12 [],
bQ 106 1 105 [0],
cM 107 .neq 106 0 [1],
aq 108 107 [2],
dX 109 108 true 7 12 [3],
dP 110 108 true 1 109 [4,3],
dX 111 108 true 2 7 [3],
dP 112 108 true 1 111 [6,3],
dU 113 108 true (.bin .neq none (.t 110) (.t 112)) [5,7,3],
ib 114 108 113 [3,8],
aq 14 114 [9,3,0,1,2,3,4,5,6,7,8,9]])
(.ops [
bP 115 2 13 [],
bQ 116 1 115 [0],
cM 117 .add 116 1 [1],
bP 118 2 13 [0,1,2],
dg 1 118 117 [3,2,0,1,2]]))
(.seq (.ops [
cM 120 .eql 92 4 [],
aq 119 120 [0]])
(.cond (.t 119)
(.seq (.draw [
bP 121 7 12 [],
bQ 122 1 121 [0],
cM 123 .eql 122 0 [1],
aq 124 123 [2],
eP 125 124 true 10 [3],
eP 126 124 true 11 [3],
dU 127 124 true (.bin .neq none (.t 125) (.t 126)) [4,5,3],
ib 128 124 127 [3,6],
aq 129 128 [7,3],
dX 130 129 true 0 6 [8],
dP 131 129 true 1 130 [9,8],
eP 132 129 true 11 [8],
zD 133 129 true 8 131 132 [10,11,8],
dX 134 129 true 7 133 [12,8],
dP 135 129 true 1 134 [13,8],
dX 136 129 true 2 7 [8],
dP 137 129 true 1 136 [15,8],
dU 138 129 true (.bin .eql none (.t 135) (.t 137)) [14,16,8],
ib 139 129 138 [8,17],
aq 14 139 [18,8,0,1,2,3,4,5,6,7,8,9,10,11,12,13,14,15,16,17,18]])
(.seq (.ops [
bP 140 0 13 [],
bQ 141 1 140 [0],
aq 142 11 [],
ft 143 8 141 142 [1,2,0,1,2],
bP 144 7 143 [3,0,1,2],
Nb (.store 1 (.t 144) (.c (.pv (.int .i64 0)))) [4,0,1,2]])
(.ops [
bP 145 1 13 [],
bQ 146 1 145 [0],
cM 147 .add 146 1 [1],
bP 148 1 13 [0,1,2],
dg 1 148 147 [3,2,0,1,2]])))
.skip))))))))))
(.seq (.seq (.ops [
aq 149 14 [],
aP 150 (.not (.t 149)) [0]])
(.cond (.t 150)
(.seq (.ops [
aP 151 (.build [.bu,.pv (.int .i64 0),.pv (.int .i64 0)] []) [],
dg 3 8 151 [0,0],
cT 9 7 [1,0,1]])
.ret)
.skip))
(.seq (.ops [
bP 152 0 13 [],
bQ 153 1 152 [0],
aq 154 10 [],
bP 155 2 7 [],
bQ 156 1 155 [3],
ft 157 8 153 154 [1,2,0,1,2,3,4],
bP 158 7 157 [5,0,1,2,3,4],
dg 1 158 156 [6,4,0,1,2,3,4]])
(.seq (.ops [
bZ 159 3 5 [],
bP 160 1 7 [],
bQ 161 1 160 [1],
aP 162 (.call 157 [.t 159,.t 161]) [0,2],
aq 15 162 [3,3,0,1,2,3]])
(.seq (.seq (.ops [
bP 163 0 7 [],
bQ 164 1 163 [0],
cM 165 .neq 164 2 [1],
aq 166 165 [2],
eP 167 166 true 15 [3],
fV 168 166 true .geq 167 0 [4,3],
ib 169 166 168 [3,5]])
(.cond (.t 169)
(.seq (.ops [
bP 170 0 5 [],
bQ 171 1 170 [0],
aq 172 15 [],
ft 173 6 171 172 [1,2],
bP 174 5 173 [3],
bQ 175 1 174 [4]])
(.cond (.t 175)
(.draw [
bP 176 0 13 [],
bQ 177 1 176 [0],
aq 178 10 [],
bP 179 0 5 [],
bQ 180 1 179 [3],
aq 181 15 [],
ft 182 6 180 181 [4,5],
bP 183 1 182 [6],
bZ 184 4 183 [7],
ft 185 8 177 178 [1,2,0,1,2,3,4,5,6,7,8],
bP 186 3 185 [9,0,1,2,3,4,5,6,7,8],
dg 4 186 184 [10,8,0,1,2,3,4,5,6,7,8]])
.skip))
.skip))
(.seq (.ops [
bZ 187 3 13 [],
dg 3 8 187 [0,0],
cT 9 0 [1,0,1]])
.ret))))))))))))))⟩
def yd:bz :=
(.seq (.seq (.ops [
aq 15 6 [],
aq 16 5 [],
eu 17 .lss 15 16 [0,1]])
(.cond (.t 17)
.skip
(.exit 2)))
(.seq (.block 3
(.seq (.draw [
bZ 20 3 2 [],
bP 21 0 3 [],
bQ 22 1 21 [1],
aq 23 5 [],
ft 24 8 22 23 [2,3],
bZ 25 8 24 [4],
bP 26 0 3 [],
bQ 27 1 26 [6],
aq 28 6 [],
ft 29 8 27 28 [7,8],
bZ 30 8 29 [9],
aP 31 (.call 180 [.t 20,.t 25,.t 30]) [0,5,10],
aq 7 31 [11,11,0,1,2,3,4,5,6,7,8,9,10,11]])
(.seq (.ops [
aq 32 7 []])
(.cond (.t 32)
(.seq (.ops [
aq 33 5 [],
aq 4 33 [0,0]])
.ret)
.skip))))
(.ops [
aq 18 6 [],
cM 19 .add 18 1 [0],
aq 6 19 [1,0,1]])))
def ye:bz :=
(.seq (.seq (.ops [
aq 8 5 [],
bP 9 0 3 [],
bQ 10 1 9 [1],
fW 11 10 [2],
eu 12 .lss 8 11 [0,3]])
(.cond (.t 12)
.skip
(.exit 0)))
(.seq (.block 1
(.seq (.ops [
cT 6 0 []])
(.block 2
(.loop yd))))
(.ops [
aq 13 5 [],
cM 14 .add 13 1 [0],
aq 5 14 [1,0,1]])))
def f172:bg:=⟨34,[.t 4],
(.seq (.ops [
df 2 0 [],
df 3 1 [],
cT 4 0 []])
(.seq (.seq (.ops [
cT 5 0 []])
(.block 0
(.loop ye)))
(.seq (.ops [
cT 4 (-1) []])
.ret)))⟩
def uk:bz :=
(.seq (.seq (.ops [
aq 13 10 [],
bP 14 0 5 [],
bQ 15 1 14 [1],
fW 16 15 [2],
eu 17 .lss 13 16 [0,3]])
(.cond (.t 17)
.skip
(.exit 0)))
(.seq (.block 1
(.seq (.ops [
bP 20 0 5 [],
bQ 21 1 20 [0],
aq 22 10 [],
ft 23 8 21 22 [1,2],
bZ 24 8 23 [3],
aP 11 (.alloc [.pv (.int .i64 0),.pv (.int .i64 0),.pv (.int .i64 0),.pv (.int .u64 0),.pv (.int .u64 0),.pv (.int .u64 0),.pv (.int .u64 0),.pv (.int .i64 0)]) [],
dg 8 11 24 [5,4,0,1,2,3,4,5]])
(.seq (.ops [
bZ 25 3 4 [],
bP 26 7 11 [],
bQ 27 1 26 [1],
aP 28 (.call 155 [.t 25,.t 27]) [0,2],
aq 12 28 [3,3,0,1,2,3]])
(.seq (.seq (.ops [
bP 29 1 11 [],
bQ 30 1 29 [0],
aq 31 2 [],
eu 32 .neq 30 31 [1,2],
aq 33 32 [3],
dX 34 33 false 7 11 [4],
dP 35 33 false 1 34 [5,4],
fV 36 33 false .eql 35 0 [6,4],
jJ 37 33 36 [4,7],
aq 38 37 [8,4],
eP 39 38 false 12 [9],
fV 40 38 false .lss 39 0 [10,9],
jJ 41 38 40 [9,11]])
(.cond (.t 41)
(.exit 1)
.skip))
(.seq (.ops [
bP 42 0 4 [],
bQ 43 1 42 [0],
aq 44 12 [],
ft 45 10 43 44 [1,2],
bP 46 1 45 [3],
bQ 47 1 46 [4],
aq 48 3 [],
eu 49 .eql 47 48 [5,6]])
(.cond (.t 49)
(.ops [
aq 50 9 [],
cM 51 .add 50 1 [0],
aq 9 51 [1,0,1]])
.skip))))))
(.ops [
aq 18 10 [],
cM 19 .add 18 1 [0],
aq 10 19 [1,0,1]])))
def f174:bg:=⟨53,[.t 8],
(.seq (.ops [
df 4 0 [],
df 5 1 [],
cT 8 0 []])
(.seq (.ops [
cT 9 0 []])
(.seq (.seq (.ops [
cT 10 0 []])
(.block 0
(.loop uk)))
(.seq (.ops [
aq 52 9 [],
aq 8 52 [0,0]])
.ret))))⟩
def f175:bg:=⟨34,[.t 6],
(.seq (.ops [
df 3 0 [],
fR 6 false []])
(.seq (.ops [
bZ 9 3 3 [],
aq 10 1 [],
aP 11 (.call 167 [.t 9,.t 10]) [0,1],
aq 7 11 [2,2,0,1,2]])
(.seq (.ops [
bZ 12 3 3 [],
aq 13 2 [],
aP 14 (.call 167 [.t 12,.t 13]) [0,1],
aq 8 14 [2,2,0,1,2]])
(.seq (.seq (.ops [
aq 15 7 [],
cM 16 .lss 15 0 [0],
aq 17 16 [1],
eP 18 17 false 8 [2],
fV 19 17 false .lss 18 0 [3,2],
jJ 20 17 19 [2,4]])
(.cond (.t 20)
(.seq (.ops [
fR 6 false []])
.ret)
.skip))
(.seq (.draw [
bP 21 0 3 [],
bQ 22 1 21 [0],
aq 23 8 [],
ft 24 8 22 23 [1,2],
bP 25 2 24 [3],
bQ 26 1 25 [4],
bP 27 0 3 [],
bQ 28 1 27 [6],
aq 29 7 [],
ft 30 8 28 29 [7,8],
bP 31 2 30 [9],
bQ 32 1 31 [10],
eu 33 .lss 26 32 [5,11],
aq 6 33 [12,0,1,2,3,4,5,6,7,8,9,10,11,12]])
.ret)))))⟩
def yh:bz :=
(.seq (.seq (.ops [
aq 20 10 [],
aq 21 7 [],
fW 22 21 [1],
eu 23 .lss 20 22 [0,2]])
(.cond (.t 23)
.skip
(.exit 2)))
(.seq (.block 3
(.seq (.draw [
bZ 26 3 3 [],
bZ 27 3 4 [],
aq 28 2 [],
aq 29 7 [],
aq 30 9 [],
ft 31 1 29 30 [3,4],
bQ 32 1 31 [5],
aP 33 (.call 174 [.t 26,.t 27,.t 28,.t 32]) [0,1,2,6],
bZ 34 3 3 [],
bZ 35 3 4 [],
aq 36 2 [],
aq 37 7 [],
aq 38 10 [],
ft 39 1 37 38 [11,12],
bQ 40 1 39 [13],
aP 41 (.call 174 [.t 34,.t 35,.t 36,.t 40]) [8,9,10,14,7],
eu 42 .sub 33 41 [7,15],
aq 11 42 [16,15,0,1,2,3,4,5,6,7,8,9,10,11,12,13,14,15,16]])
(.seq (.ops [
aq 43 11 [],
aq 44 8 [],
eu 45 .gtr 43 44 [0,1]])
(.cond (.t 45)
(.ops [
aq 46 11 [],
aq 8 46 [0,0]])
.skip))))
(.ops [
aq 24 10 [],
cM 25 .add 24 1 [0],
aq 10 25 [1,0,1]])))
def yi:bz :=
(.seq (.seq (.ops [
aq 14 9 [],
aq 15 7 [],
fW 16 15 [1],
eu 17 .lss 14 16 [0,2]])
(.cond (.t 17)
.skip
(.exit 0)))
(.seq (.block 1
(.seq (.ops [
cT 10 0 []])
(.block 2
(.loop yh))))
(.ops [
aq 18 9 [],
cM 19 .add 18 1 [0],
aq 9 19 [1,0,1]])))
def f177:bg:=⟨48,[.t 6],
(.seq (.ops [
df 3 0 [],
df 4 1 [],
cT 6 0 []])
(.seq (.ops [
bZ 12 3 3 [],
aP 13 (.call 158 [.t 12]) [0],
aq 7 13 [1,1,0,1]])
(.seq (.ops [
cT 8 0 []])
(.seq (.seq (.ops [
cT 9 0 []])
(.block 0
(.loop yi)))
(.seq (.ops [
aq 47 8 [],
aq 6 47 [0,0]])
.ret)))))⟩
def yj:bz :=
(.seq (.seq (.ops [
aq 6 5 [],
bP 7 1 2 [],
bQ 8 1 7 [1],
fW 9 8 [2],
eu 10 .lss 6 9 [0,3]])
(.cond (.t 10)
.skip
(.exit 0)))
(.seq (.block 1
(.seq (.draw [
bP 13 1 2 [],
bQ 14 1 13 [0],
aq 15 5 [],
ft 16 5 14 15 [1,2],
bP 17 2 16 [3],
bQ 18 1 17 [4],
cM 19 .gtr 18 0 [5],
aq 20 19 [6],
dU 21 20 true (.load true 3 (.t 2)) [7],
dU 22 20 true (.load true 3 (.t 3)) [7],
dX 23 20 true 1 2 [7],
dP 24 20 true 1 23 [10,7],
eP 25 20 true 5 [7],
zD 26 20 true 5 24 25 [11,12,7],
dX 27 20 true 0 26 [13,7],
dP 28 20 true 1 27 [14,7],
dU 29 20 true (.call 177 [.t 21,.t 22,.t 28]) [8,9,15,7,7],
dX 30 20 true 1 2 [7],
dP 31 20 true 1 30 [17,7],
eP 32 20 true 5 [7],
zD 33 20 true 5 31 32 [18,19,7],
dX 34 20 true 2 33 [20,7],
dP 35 20 true 1 34 [21,7],
dU 36 20 true (.bin .gtr none (.t 29) (.t 35)) [16,22,7],
ib 37 20 36 [7,23]])
(.cond (.t 37)
(.seq (.ops [
aq 38 5 [],
aq 4 38 [0,0]])
.ret)
.skip)))
(.ops [
aq 11 5 [],
cM 12 .add 11 1 [0],
aq 5 12 [1,0,1]])))
def f178:bg:=⟨39,[.t 4],
(.seq (.ops [
df 2 0 [],
df 3 1 [],
cT 4 0 []])
(.seq (.seq (.ops [
cT 5 0 []])
(.block 0
(.loop yj)))
(.seq (.ops [
cT 4 (-1) []])
.ret)))⟩
def f180:bg:=⟨39,[.t 6],
(.seq (.ops [
df 3 0 [],
df 4 1 [],
df 5 2 [],
fR 6 false []])
(.seq (.ops [
bZ 8 3 3 [],
bP 9 1 4 [],
bQ 10 1 9 [1],
aP 11 (.call 154 [.t 8,.t 10]) [0,2],
aq 7 11 [3,3,0,1,2,3]])
(.seq (.seq (.ops [
aq 12 7 [],
cM 13 .lss 12 0 [0],
aq 14 13 [1],
dX 15 14 false 1 4 [2],
dP 16 14 false 1 15 [3,2],
dX 17 14 false 1 5 [2],
dP 18 14 false 1 17 [5,2],
dU 19 14 false (.bin .neq none (.t 16) (.t 18)) [4,6,2],
jJ 20 14 19 [2,7],
aq 21 20 [8,2],
dX 22 21 false 7 4 [9],
dP 23 21 false 1 22 [10,9],
fV 24 21 false .eql 23 0 [11,9],
jJ 25 21 24 [9,12],
aq 26 25 [13,9],
dX 27 26 false 7 4 [14],
dP 28 26 false 1 27 [15,14],
dX 29 26 false 7 5 [14],
dP 30 26 false 1 29 [17,14],
dU 31 26 false (.bin .neq none (.t 28) (.t 30)) [16,18,14],
jJ 32 26 31 [14,19]])
(.cond (.t 32)
(.seq (.ops [
fR 6 false []])
.ret)
.skip))
(.seq (.ops [
bP 33 1 3 [],
bQ 34 1 33 [0],
aq 35 7 [],
ft 36 5 34 35 [1,2],
bP 37 1 36 [3],
bQ 38 1 37 [4],
aq 6 38 [5,0,1,2,3,4,5]])
.ret))))⟩
def f181:bg:=⟨51,[.cell 8 true 3,.t 9],
(.seq (.ops [
df 4 0 [],
df 5 1 [],
df 6 2 [],
df 7 3 [],
aP 8 (.alloc [.bu,.pv (.int .i64 0),.pv (.int .i64 0)]) [],
cT 9 0 []])
(.seq (.ops [
bZ 14 3 4 [],
bZ 15 3 5 [],
bZ 16 3 6 [],
bZ 17 4 7 [],
aP 18 (.call 166 [.t 14,.t 15,.t 16,.t 17]) [0,1,2,3],
aq 13 18 [4],
fc 19 13 0 [5],
fc 20 13 1 [5],
aP 10 (.alloc [.bu,.pv (.int .i64 0),.pv (.int .i64 0)]) [],
dg 3 10 19 [8,6,4,0,1,2,3,4,5,6,8],
aq 11 20 [7,9,0,1,2,3,4,5,6,7,8,9]])
(.seq (.seq (.ops [
aq 21 11 [],
cM 22 .neq 21 0 [0]])
(.cond (.t 22)
(.seq (.ops [
aP 23 (.build [.bu,.pv (.int .i64 0),.pv (.int .i64 0)] []) [],
aq 24 11 [],
dg 3 8 23 [0,0],
aq 9 24 [1,2,0,1,2]])
.ret)
.skip))
(.seq (.ops [
bZ 25 3 6 [],
bP 26 1 7 [],
bQ 27 1 26 [1],
bP 28 3 7 [],
bQ 29 1 28 [3],
aP 30 (.call 175 [.t 25,.t 27,.t 29]) [0,2,4],
aq 12 30 [5,5,0,1,2,3,4,5]])
(.seq (.seq (.ops [
bP 31 0 7 [],
bQ 32 1 31 [0],
cM 33 .eql 32 4 [1],
aq 34 33 [2],
eP 35 34 true 12 [3],
dU 36 34 true (.not (.t 35)) [4,3],
ib 37 34 36 [3,5]])
(.cond (.t 37)
(.seq (.ops [
aP 38 (.build [.bu,.pv (.int .i64 0),.pv (.int .i64 0)] []) [],
dg 3 8 38 [0,0],
cT 9 14 [1,0,1]])
.ret)
.skip))
(.seq (.ops [
bZ 40 3 4 [],
bZ 41 3 5 [],
bZ 42 3 10 [],
aP 43 (.call 184 [.t 40,.t 41,.t 42]) [0,1,2],
aq 39 43 [3],
fc 44 39 0 [4],
fc 45 39 1 [4],
aq 11 44 [5,3,0,1,2,3,4,5]])
(.seq (.seq (.ops [
aq 46 11 [],
cM 47 .neq 46 0 [0]])
(.cond (.t 47)
(.seq (.ops [
aP 48 (.build [.bu,.pv (.int .i64 0),.pv (.int .i64 0)] []) [],
aq 49 11 [],
dg 3 8 48 [0,0],
aq 9 49 [1,2,0,1,2]])
.ret)
.skip))
(.seq (.ops [
bZ 50 3 10 [],
dg 3 8 50 [0,0],
cT 9 0 [1,0,1]])
.ret))))))))⟩
def um:bz :=
(.seq (.seq (.ops [
aq 28 12 [],
aq 29 2 [],
fW 30 29 [1],
eu 31 .lss 28 30 [0,2]])
(.cond (.t 31)
.skip
(.exit 0)))
(.seq (.block 1
(.seq (.draw [
bZ 35 3 3 [],
bZ 36 3 4 [],
bZ 37 3 9 [],
aq 38 2 [],
aq 39 12 [],
ft 40 4 38 39 [3,4],
bZ 41 4 40 [5],
aP 42 (.call 181 [.t 35,.t 36,.t 37,.t 41]) [0,1,2,6],
aq 34 42 [7],
fc 43 34 0 [8],
fc 44 34 1 [8],
aP 13 (.alloc [.bu,.pv (.int .i64 0),.pv (.int .i64 0)]) [],
dg 3 13 43 [11,9,7,0,1,2,3,4,5,6,7,8,9,11],
aq 14 44 [10,12,0,1,2,3,4,5,6,7,8,9,10,11,12]])
(.seq (.seq (.ops [
aq 45 14 [],
cM 46 .neq 45 0 [0]])
(.cond (.t 46)
(.seq (.ops [
bZ 47 3 9 [],
aq 48 12 [],
aq 49 14 [],
dg 3 6 47 [0,0],
aq 7 48 [1,3,0,1,3],
aq 8 49 [2,4,0,1,2,3,4]])
.ret)
.skip))
(.ops [
bZ 50 3 13 [],
dg 3 9 50 [0,0]]))))
(.ops [
aq 32 12 [],
cM 33 .add 32 1 [0],
aq 12 33 [1,0,1]])))
def f183:bg:=⟨54,[.cell 6 true 3,.t 7,.t 8],
(.seq (.ops [
df 3 0 [],
df 4 1 [],
aP 6 (.alloc [.bu,.pv (.int .i64 0),.pv (.int .i64 0)]) [],
cT 7 0 [],
cT 8 0 [3]])
(.seq (.ops [
bZ 15 3 3 [],
aP 16 (.call 164 [.t 15]) [0],
aP 9 (.alloc [.bu,.pv (.int .i64 0),.pv (.int .i64 0)]) [],
dg 3 9 16 [2,1,1,0,1,2]])
(.seq (.ops [
bZ 18 3 3 [],
bZ 19 3 4 [],
bZ 20 3 9 [],
aP 21 (.call 184 [.t 18,.t 19,.t 20]) [0,1,2],
aq 17 21 [3],
fc 22 17 0 [4],
fc 23 17 1 [4],
aq 10 22 [5,3,0,1,2,3,4,5],
aq 11 23 [6,7,0,1,2,3,4,5,6,7]])
(.seq (.seq (.ops [
aq 24 10 [],
cM 25 .neq 24 0 [0]])
(.cond (.t 25)
(.seq (.ops [
aP 26 (.build [.bu,.pv (.int .i64 0),.pv (.int .i64 0)] []) [],
aq 27 10 [],
dg 3 6 26 [0,0],
cT 7 0 [2,0,2],
aq 8 27 [1,3,0,1,2,3]])
.ret)
.skip))
(.seq (.seq (.ops [
cT 12 0 []])
(.block 0
(.loop um)))
(.seq (.ops [
bZ 51 3 9 [],
aq 52 2 [],
fW 53 52 [1],
dg 3 6 51 [0,0],
aq 7 53 [2,3,0,1,2,3],
cT 8 0 [4,0,1,2,3,4]])
.ret))))))⟩
def f184:bg:=⟨47,[.t 6,.t 7],
(.seq (.ops [
df 3 0 [],
df 4 1 [],
df 5 2 [],
cT 6 0 [],
cT 7 0 [3]])
(.seq (.ops [
bZ 12 3 3 [],
bZ 13 3 5 [],
aP 14 (.call 169 [.t 12,.t 13]) [0,1],
aq 11 14 [2],
fc 15 11 0 [3],
fc 16 11 1 [3],
aq 8 15 [4,2,0,1,2,3,4],
aq 9 16 [5,6,0,1,2,3,4,5,6]])
(.seq (.seq (.ops [
aq 17 8 [],
cM 18 .neq 17 0 [0]])
(.cond (.t 18)
(.seq (.ops [
aq 19 8 [],
aq 20 9 [],
aq 6 19 [0,0],
aq 7 20 [1,2,0,1,2]])
.ret)
.skip))
(.seq (.ops [
bZ 21 3 3 [],
bZ 22 3 5 [],
aP 23 (.call 172 [.t 21,.t 22]) [0,1],
aq 9 23 [2,2,0,1,2]])
(.seq (.seq (.ops [
aq 24 9 [],
cM 25 .geq 24 0 [0]])
(.cond (.t 25)
(.seq (.ops [
aq 26 9 [],
cT 6 10 [],
aq 7 26 [0,1,0,1]])
.ret)
.skip))
(.seq (.ops [
bZ 27 3 3 [],
bZ 28 3 5 [],
aP 29 (.call 178 [.t 27,.t 28]) [0,1],
aq 9 29 [2,2,0,1,2]])
(.seq (.seq (.ops [
aq 30 9 [],
cM 31 .geq 30 0 [0]])
(.cond (.t 31)
(.seq (.ops [
aq 32 9 [],
cT 6 11 [],
aq 7 32 [0,1,0,1]])
.ret)
.skip))
(.seq (.ops [
bZ 34 3 3 [],
bZ 35 3 5 [],
aP 36 (.call 173 [.t 34,.t 35]) [0,1],
aq 33 36 [2],
fc 37 33 0 [3],
fc 38 33 1 [3],
aq 8 37 [4,2,0,1,2,3,4],
aq 9 38 [5,6,0,1,2,3,4,5,6]])
(.seq (.seq (.ops [
aq 39 8 [],
cM 40 .neq 39 0 [0]])
(.cond (.t 40)
(.seq (.ops [
aq 41 8 [],
aq 42 9 [],
aq 6 41 [0,0],
aq 7 42 [1,2,0,1,2]])
.ret)
.skip))
(.seq (.ops [
bZ 43 3 4 [],
bZ 44 3 5 [],
aP 45 (.call 179 [.t 43,.t 44]) [0,1],
aq 10 45 [2,2,0,1,2]])
(.seq (.seq (.ops [
aq 46 10 []])
(.cond (.t 46)
(.seq (.ops [
cT 6 15 [],
cT 7 (-1) [0,0]])
.ret)
.skip))
(.seq (.ops [
cT 6 0 [],
cT 7 (-1) [0,0]])
.ret))))))))))))⟩
def yx:bz :=
(.seq (.ops [
eu 16 .lss 15 14 []])
(.seq (.cond (.t 16)
.skip
(.exit 0))
(.seq (.block 1
(.seq (.ops [
ft 17 7 13 15 [],
bZ 18 7 17 [0],
aP 9 (.alloc [.pv (.int .i64 0),.pv (.int .i64 0),.pv (.int .i64 0),.pv (.int .i64 0),.bu,.pv (.int .i64 0),.pv (.int .i64 0)]) [],
dg 7 9 18 [2,1,0,1,2]])
(.ops [
aq 19 7 [],
bP 20 0 9 [],
bZ 21 4 20 [1],
aP 22 (.cv 4 1 [.pv (.int .i64 0),.pv (.int .i64 0),.pv (.int .i64 0),.pv (.int .i64 0)] [(0,4,(.t 21))]) [2],
aP 23 (.append 4 32 (.t 19) (.t 22)) [0,3],
aq 7 23 [4,4,0,1,2,3,4]])))
(.ops [
cM 24 .add 15 1 [],
aq 15 24 [0]]))))
def f210:bg:=⟨26,[.t 6],
(.seq (.ops [
df 3 0 [],
df 4 1 [],
df 5 2 [],
aP 6 (.mv (.c .bu)) []])
(.seq (.ops [
aP 7 (.mv (.c .bu)) []])
(.seq (.seq (.ops [
bZ 10 3 3 [],
bZ 11 3 4 [],
bZ 12 3 5 [],
aP 13 (.call 213 [.t 10,.t 11,.t 12]) [0,1,2],
fW 14 13 [3],
cT 15 0 []])
(.block 0
(.loop yx)))
(.seq (.ops [
aq 25 7 [],
aq 6 25 [0,0]])
.ret))))⟩
def yy:bz :=
(.seq (.ops [
eu 12 .lss 11 10 []])
(.seq (.cond (.t 12)
.skip
(.exit 0))
(.seq (.block 1
(.seq (.ops [
ft 13 6 9 11 [],
bZ 14 6 13 [0],
aP 7 (.alloc [.pv (.int .i64 0),.pv (.int .u64 0),.pv (.int .u64 0),.pv (.int .u64 0),.pv (.int .u64 0),.pv (.bool false)]) [],
dg 6 7 14 [2,1,0,1,2]])
(.seq (.ops [
bZ 15 6 7 [],
aP 16 (.cv 6 1 [.pv (.int .i64 0),.pv (.int .u64 0),.pv (.int .u64 0),.pv (.int .u64 0),.pv (.int .u64 0),.pv (.bool false)] [(0,6,(.t 15))]) [0],
aP 17 (.build [.bu,.pv (.int .i64 0),.pv (.int .i64 0)] [(0,1,(.t 16))]) [1],
bZ 18 3 3 [],
aP 19 (.call 238 [.t 17,.t 18]) [2,3],
aP 20 (.not (.t 19)) [4]])
(.cond (.t 20)
(.ops [
aq 21 5 [],
cM 22 .add 21 1 [0],
aq 5 22 [1,0,1]])
.skip))))
(.ops [
cM 23 .add 11 1 [],
aq 11 23 [0]]))))
def f211:bg:=⟨27,[.t 4],
(.seq (.ops [
df 2 0 [],
df 3 1 [],
cT 4 0 []])
(.seq (.ops [
cT 5 0 []])
(.seq (.seq (.ops [
bP 8 0 2 [],
bQ 9 1 8 [0],
fW 10 9 [1],
cT 11 0 []])
(.block 0
(.loop yy)))
(.seq (.ops [
aq 24 5 [],
cM 25 .add 24 1 [0],
cM 26 .quo 25 2 [1],
aq 4 26 [2,0,1,2]])
.ret))))⟩
def f213:bg:=⟨13,[.t 6],
(.seq (.ops [
df 3 0 [],
df 4 1 [],
df 5 2 [],
aP 6 (.mv (.c .bu)) []])
(.seq (.ops [
aP 7 (.alloc [.bu]) []])
(.seq (.ops [
bZ 8 3 3 [],
bZ 9 3 5 [],
aP 10 (.xb 214 [] [.t 3,.t 4,.t 5,.t 7]) [],
aP 11 (.call 215 [.t 8,.t 9,.t 10]) [0,1,2]])
(.seq (.ops [
bQ 12 1 7 [],
aq 6 12 [0,0]])
.ret))))⟩
def f214:bg:=⟨24,[],
(.seq (.ops [
df 5 0 []])
(.seq (.ops [
bZ 9 3 1 [],
bZ 10 3 2 [],
bZ 11 3 3 [],
bZ 12 4 5 [],
aP 13 (.call 246 [.t 9,.t 10,.t 11,.t 12]) [0,1,2,3],
aq 8 13 [4],
fc 14 8 0 [5],
fc 15 8 1 [5],
aP 6 (.alloc [.bu,.pv (.int .i64 0),.pv (.int .i64 0)]) [],
dg 3 6 14 [8,6,4,0,1,2,3,4,5,6,8],
aq 7 15 [7,9,0,1,2,3,4,5,6,7,8,9]])
(.seq (.ops [
aq 16 7 [],
aP 17 (.bin .eql (some (.iface true)) (.t 16) (.c (.pv .dJ))) [0]])
(.cond (.t 17)
(.ops [
bQ 18 1 4 [],
bZ 19 4 5 [],
bZ 20 3 6 [],
aP 21 (.build [.pv (.int .i64 0),.pv (.int .i64 0),.pv (.int .i64 0),.pv (.int .i64 0),.bu,.pv (.int .i64 0),.pv (.int .i64 0)] [(0,4,(.t 19)),(4,3,(.t 20))]) [1,2],
aP 22 (.cv 7 1 [.pv (.int .i64 0),.pv (.int .i64 0),.pv (.int .i64 0),.pv (.int .i64 0),.bu,.pv (.int .i64 0),.pv (.int .i64 0)] [(0,7,(.t 21))]) [3],
aP 23 (.append 7 72 (.t 18) (.t 22)) [0,4],
dg 1 4 23 [5,5,0,1,2,3,4,5]])
.skip))))⟩
def yA:bz :=
(.seq (.ops [
eu 23 .lss 22 21 []])
(.seq (.cond (.t 23)
.skip
(.exit 0))
(.seq (.block 1
(.seq (.ops [
ft 24 8 20 22 [],
bZ 25 8 24 [0],
aP 9 (.alloc [.pv (.int .i64 0),.pv (.int .i64 0),.pv (.int .i64 0),.pv (.int .u64 0),.pv (.int .u64 0),.pv (.int .u64 0),.pv (.int .u64 0),.pv (.int .i64 0)]) [],
dg 8 9 25 [2,1,0,1,2]])
(.ops [
aq 26 6 [],
bP 27 0 9 [],
bQ 28 1 27 [1],
aP 29 (.cv 1 1 [.pv (.int .i64 0)] [(0,1,(.t 28))]) [2],
aP 30 (.append 1 8 (.t 26) (.t 29)) [0,3],
aq 6 30 [4,4,0,1,2,3,4]])))
(.ops [
cM 31 .add 22 1 [],
aq 22 31 [0]]))))
def yB:bz :=
(.seq (.ops [
eu 36 .lss 35 34 []])
(.seq (.cond (.t 36)
.skip
(.exit 2))
(.seq (.block 3
(.seq (.ops [
ft 37 10 33 35 [],
bZ 38 10 37 [0],
aP 11 (.alloc [.pv (.int .i64 0),.pv (.int .i64 0),.pv (.int .u64 0),.pv (.int .u64 0),.pv (.int .u64 0),.pv (.int .u64 0),.pv (.int .u64 0),.pv (.int .u64 0),.pv (.int .u64 0),.pv (.int .u64 0)]) [],
dg 10 11 38 [2,1,0,1,2]])
(.ops [
aq 39 7 [],
bP 40 0 11 [],
bQ 41 1 40 [1],
aP 42 (.cv 1 1 [.pv (.int .i64 0)] [(0,1,(.t 41))]) [2],
aP 43 (.append 1 8 (.t 39) (.t 42)) [0,3],
aq 7 43 [4,4,0,1,2,3,4]])))
(.ops [
cM 44 .add 35 1 [],
aq 35 44 [0]]))))
def yC:bz :=
(.seq (.ops [
eu 83 .lss 82 81 []])
(.seq (.cond (.t 83)
.skip
(.exit 10))
(.seq (.block 11
(.seq (.ops [
ft 84 1 80 82 [],
bQ 85 1 84 [0],
aq 18 85 [1,0,1]])
(.ops [
aq 86 2 [],
aq 87 12 [],
aq 88 14 [],
aq 89 16 [],
aq 90 18 [],
aP 91 (.build [.pv (.int .i64 0),.pv (.int .i64 0),.pv (.int .i64 0),.pv (.int .i64 0)] [(0,1,(.t 87)),(1,1,(.t 88)),(2,1,(.t 89)),(3,1,(.t 90))]) [1,2,3,4],
aP 92 (.fJ (.t 86) [.t 91]) [0,5]])))
(.ops [
cM 93 .add 82 1 [],
aq 82 93 [0]]))))
def uv:bz :=
(.seq (.ops [
eu 69 .lss 68 67 []])
(.seq (.cond (.t 69)
.skip
(.exit 8))
(.seq (.block 9
(.seq (.ops [
ft 70 1 66 68 [],
bQ 71 1 70 [0],
aq 16 71 [1,0,1]])
(.seq (.seq (.ops [
aq 72 12 [],
cM 73 .neq 72 4 [0]])
(.cond (.t 73)
(.seq (.ops [
aq 74 2 [],
aq 75 12 [],
aq 76 14 [],
aq 77 16 [],
aP 78 (.build [.pv (.int .i64 0),.pv (.int .i64 0),.pv (.int .i64 0),.pv (.int .i64 0)] [(0,1,(.t 75)),(1,1,(.t 76)),(2,1,(.t 77))]) [1,2,3],
aP 79 (.fJ (.t 74) [.t 78]) [0,4]])
(.exit 9))
.skip))
(.seq (.ops [
aq 80 6 [],
fW 81 80 [0],
cT 82 0 []])
(.block 10
(.loop yC))))))
(.ops [
cM 94 .add 68 1 [],
aq 68 94 [0]]))))
def uw:bz :=
(.seq (.ops [
eu 56 .lss 55 54 []])
(.seq (.cond (.t 56)
.skip
(.exit 6))
(.seq (.block 7
(.seq (.ops [
ft 57 1 53 55 [],
bQ 58 1 57 [0],
aq 14 58 [1,0,1]])
(.seq (.seq (.ops [
aq 59 12 [],
cM 60 .eql 59 2 [0]])
(.cond (.t 60)
(.seq (.ops [
aq 61 2 [],
aq 62 12 [],
aq 63 14 [],
aP 64 (.build [.pv (.int .i64 0),.pv (.int .i64 0),.pv (.int .i64 0),.pv (.int .i64 0)] [(0,1,(.t 62)),(1,1,(.t 63))]) [1,2],
aP 65 (.fJ (.t 61) [.t 64]) [0,3]])
(.exit 7))
.skip))
(.seq (.ops [
aq 66 7 [],
fW 67 66 [0],
cT 68 0 []])
(.block 8
(.loop uv))))))
(.ops [
cM 95 .add 55 1 [],
aq 55 95 [0]]))))
def yD:bz :=
(.seq (.seq (.ops [
aq 49 12 [],
cM 50 .leq 49 4 [0]])
(.cond (.t 50)
.skip
(.exit 4)))
(.seq (.block 5
(.seq (.ops [
aq 53 6 [],
fW 54 53 [0],
cT 55 0 []])
(.block 6
(.loop uw))))
(.ops [
aq 51 12 [],
cM 52 .add 51 1 [0],
aq 12 52 [1,0,1]])))
def f215:bg:=⟨96,[],
(.seq (.ops [
df 3 0 [],
df 4 1 []])
(.seq (.ops [
aP 6 (.mv (.c .bu)) [],
aP 7 (.mv (.c .bu)) [0]])
(.seq (.seq (.ops [
bP 19 0 4 [],
bQ 20 1 19 [0],
fW 21 20 [1],
cT 22 0 []])
(.block 0
(.loop yA)))
(.seq (.seq (.ops [
bP 32 0 3 [],
bQ 33 1 32 [0],
fW 34 33 [1],
cT 35 0 []])
(.block 2
(.loop yB)))
(.seq (.ops [
aq 45 6 [],
aP 46 (.call 216 [.t 45]) [0],
aq 47 7 [],
aP 48 (.call 216 [.t 47]) [2,1],
aq 6 46 [1,3,0,1],
aq 7 48 [3,4,0,1,2,3,4]])
(.seq (.ops [
cT 12 1 []])
(.block 4
(.loop yD))))))))⟩
def f216:bg:=⟨7,[.t 2],
(.seq (.ops [
aP 2 (.mv (.c .bu)) []])
(.seq (.ops [
aq 3 0 [],
aP 4 (.call 293 [.t 3]) [0]])
(.seq (.ops [
aq 5 0 [],
aP 6 (.call 281 [.t 5]) [0],
aq 2 6 [1,1,0,1]])
.ret)))⟩
def f217:bg:=⟨18,[.t 4],
(.seq (.ops [
df 2 0 [],
df 3 1 [],
jm 4 []])
(.seq (.seq (.ops [
bP 5 0 3 [],
bQ 6 1 5 [0],
cM 7 .eql 6 4 [1],
aq 8 7 [2],
dU 9 8 true (.load true 3 (.t 2)) [3],
dX 10 8 true 1 3 [3],
dP 11 8 true 1 10 [5,3],
dX 12 8 true 3 3 [3],
dP 13 8 true 1 12 [7,3],
dU 14 8 true (.call 218 [.t 9,.t 11,.t 13]) [4,6,8,3,3],
dU 15 8 true (.not (.t 14)) [9,3],
ib 16 8 15 [3,10]])
(.cond (.t 16)
(.seq (.ops [
aP 17 (.kO 0 (.c (.pv (.int .i64 14)))) [],
aq 4 17 [0,0]])
.ret)
.skip))
(.seq (.ops [
jm 4 []])
.ret)))⟩
def f218:bg:=⟨34,[.t 6],
(.seq (.ops [
df 3 0 [],
fR 6 false []])
(.seq (.ops [
bZ 12 3 3 [],
aq 13 1 [],
aP 14 (.call 240 [.t 12,.t 13]) [0,1],
aq 11 14 [2],
fc 15 11 0 [3],
fc 16 11 1 [3],
aP 7 (.alloc [.pv (.int .i64 0),.pv (.int .i64 0),.pv (.int .i64 0),.pv (.int .u64 0),.pv (.int .u64 0),.pv (.int .u64 0),.pv (.int .u64 0),.pv (.int .i64 0)]) [],
dg 8 7 15 [6,4,2,0,1,2,3,4,6],
aq 8 16 [5,7,0,1,2,3,4,5,6,7]])
(.seq (.ops [
bZ 18 3 3 [],
aq 19 2 [],
aP 20 (.call 240 [.t 18,.t 19]) [0,1],
aq 17 20 [2],
fc 21 17 0 [3],
fc 22 17 1 [3],
aP 9 (.alloc [.pv (.int .i64 0),.pv (.int .i64 0),.pv (.int .i64 0),.pv (.int .u64 0),.pv (.int .u64 0),.pv (.int .u64 0),.pv (.int .u64 0),.pv (.int .i64 0)]) [],
dg 8 9 21 [6,4,2,0,1,2,3,4,6],
aq 10 22 [5,7,0,1,2,3,4,5,6,7]])
(.seq (.ops [
aq 23 8 [],
aq 24 23 [0],
eP 25 24 true 10 [1],
ib 26 24 25 [1,2],
aq 27 26 [3,1],
dX 28 27 true 2 9 [4],
dP 29 27 true 1 28 [5,4],
dX 30 27 true 2 7 [4],
dP 31 27 true 1 30 [7,4],
dU 32 27 true (.bin .lss none (.t 29) (.t 31)) [6,8,4],
ib 33 27 32 [4,9],
aq 6 33 [10,4,0,1,2,3,4,5,6,7,8,9,10]])
.ret))))⟩
def f246:bg:=⟨43,[.cell 8 true 3,.t 9],
(.seq (.ops [
df 4 0 [],
df 5 1 [],
df 6 2 [],
df 7 3 [],
aP 8 (.alloc [.bu,.pv (.int .i64 0),.pv (.int .i64 0)]) [],
jm 9 []])
(.seq (.ops [
bZ 15 3 4 [],
bZ 16 3 5 [],
bZ 17 3 6 [],
bZ 18 4 7 [],
aP 19 (.call 239 [.t 15,.t 16,.t 17,.t 18]) [0,1,2,3],
aq 14 19 [4],
fc 20 14 0 [5],
fc 21 14 1 [5],
aP 10 (.alloc [.bu,.pv (.int .i64 0),.pv (.int .i64 0)]) [],
dg 3 10 20 [8,6,4,0,1,2,3,4,5,6,8],
aq 11 21 [7,9,0,1,2,3,4,5,6,7,8,9]])
(.seq (.seq (.ops [
aq 22 11 [],
aP 23 (.bin .neq (some (.iface true)) (.t 22) (.c (.pv .dJ))) [0]])
(.cond (.t 23)
(.seq (.ops [
aP 24 (.build [.bu,.pv (.int .i64 0),.pv (.int .i64 0)] []) [],
aq 25 11 [],
dg 3 8 24 [0,0],
aq 9 25 [1,2,0,1,2]])
.ret)
.skip))
(.seq (.seq (.ops [
bZ 26 3 6 [],
bZ 27 4 7 [],
aP 28 (.call 217 [.t 26,.t 27]) [0,1],
aq 12 28 [2,2,0,1,2]])
(.seq (.ops [
aq 29 12 [],
aP 30 (.bin .neq (some (.iface true)) (.t 29) (.c (.pv .dJ))) [0]])
(.cond (.t 30)
(.seq (.ops [
aP 31 (.build [.bu,.pv (.int .i64 0),.pv (.int .i64 0)] []) [],
aq 32 12 [],
dg 3 8 31 [0,0],
aq 9 32 [1,2,0,1,2]])
.ret)
.skip)))
(.seq (.seq (.ops [
bZ 33 3 4 [],
bZ 34 3 5 [],
bZ 35 3 10 [],
aP 36 (.call 223 [.t 33,.t 34,.t 35]) [0,1,2],
aq 13 36 [3,3,0,1,2,3]])
(.seq (.ops [
aq 37 13 [],
aP 38 (.bin .neq (some (.iface true)) (.t 37) (.c (.pv .dJ))) [0]])
(.cond (.t 38)
(.seq (.ops [
aP 39 (.build [.bu,.pv (.int .i64 0),.pv (.int .i64 0)] []) [],
aq 40 13 [],
aP 41 (.call 248 [.t 40]) [1],
dg 3 8 39 [0,2,0],
aq 9 41 [2,3,0,1,2,3]])
.ret)
.skip)))
(.seq (.ops [
bZ 42 3 10 [],
dg 3 8 42 [0,0],
jm 9 [1,0,1]])
.ret))))))⟩
def f248:bg:=⟨9,[.t 2],
(.seq (.ops [
jm 2 []])
(.seq (.ops [
aP 3 (.alloc [.pv (.int .i64 0)]) []])
(.seq (.seq (.ops [
aq 4 0 [],
aP 5 (.kO 3 (.t 3)) [],
aP 6 (.call 266 [.t 4,.t 5]) [0,1]])
(.cond (.t 6)
(.seq (.ops [
bQ 7 1 3 [],
aP 8 (.kO 0 (.t 7)) [0],
aq 2 8 [1,0,1]])
.ret)
.skip))
(.seq (.ops [
jm 2 []])
.ret))))⟩
section
/-! ### Code,of any -/
section
variable{T:cL}
/-! ### Vq,Check -/
def AZ(t:State)(a b:Int):Bool:=match f6 a t.pods,f6 b t.pods with
 |some p,some q=>decide (q.prio<p.prio)
 |_,_=>false
def xg(t:State)(m:Move):Bool:=if m.kind=4 then AZ t m.eU m.over else true
structure wB(T:cL):Prop where
 QC:qp T
 m:NT T
 Ow:Std T 217 f217
 Ox:Std T 218 f218
 w6:Std T 240 f240
 OG:Std T 246 f246
 OH:Std T 248 f248
theorem N4(S:wB T)(t:State)(a b:Int)(hl:t.pods.length<=2^29):ba T 218 [ar t,.int .i64 a,.int .i64 b] (.bool (AZ t a b)):=by
 have k1:=zg S.m.s5 S.w6 t a (by omega);have k2:=zg S.m.s5 S.w6 t b (by omega);simp only[ar]at k1 k2;refine gives S.Ox rfl ?_;unfold AZ;cases h1:f6 a t.pods with
 |none =>
  rw[h1]at k1;simp only[qg,nY,aJ,FA]at k1;cases h2:f6 b t.pods with
  |none =>
   rw[h2]at k2;simp only[qg,nY,aJ,FA]at k2;simp only[f218,rL',aa,simprocAttr,ar,k1.call,k2.call]
  |some q =>
   rw[h2]at k2;simp only[qg,nY,aJ]at k2;simp only[f218,rL',aa,simprocAttr,ar,k1.call,k2.call]
 |some p =>
  rw[h1]at k1;simp only[qg,nY,aJ]at k1;cases h2:f6 b t.pods with
  |none =>
   rw[h2]at k2;simp only[qg,nY,aJ,FA]at k2;simp only[f218,rL',aa,simprocAttr,ar,k1.call,k2.call]
  |some q =>
   rw[h2]at k2;simp only[qg,nY,aJ]at k2;simp only[f218,rL',aa,simprocAttr,ar,k1.call,k2.call]
theorem I7(S:wB T)(t:State)(m:Move)(hl:t.pods.length<=2^29):ba T 217 [ar t,du m] (cond (xg t m) .dJ (cf 14)):=by
 have k:=N4 S t m.eU m.over hl;simp only[ar]at k;refine gives S.Ow rfl ?_;unfold xg;by_cases h:m.kind=4
 ·have d:=bI h;rw[aW h];cases hm:AZ t m.eU m.over <;>rw[hm]at k <;>
  simp only[f217,rL',aa,simprocAttr,ar,du,bF,k.call,d,cf]
 ·rw[aw h];simp only[f217,rL',aa,simprocAttr,ar,du,bF,h]
/-! ### alone -/
def rE(r:PV):PV:=if fF r=true then .dJ else cf (mm r)
theorem Gt(S:wB T){r:PV}(hr:vS r):ba T 248 [r] (rE r):=by
 refine gives S.OH rfl ?_;have A:=S.QC.Aw;rcases hr with rfl|⟨a,n,rfl⟩|⟨n,rfl⟩
 ·simp only[f248,rL',aa,simprocAttr,tn A,rE,fF]
 ·simp only[f248,rL',aa,simprocAttr,gk];rw[Gz A (o:=0) (by simp only[aF,bA])];simp only[rL',aa,simprocAttr,rE,fF,cf,mm,nh,TO,bK]
 ·simp only[f248,rL',aa,simprocAttr,cf];rw[o9 A (o:=0) (by simp only[aF,bA])];simp only[rL',aa,simprocAttr,rE,fF,cf,mm,nh,TO,bK]
/-! ### Do -/
def nS(s:bc)(x:Spec)(t:State)(m:Move):Int ⊕ State:=match bJ s x t m with
 | .inl c=>.inl c
 | .inr u=>if xg t m=true then(if fF (nG s x u)=true then .inr u else .inl (mm (nG s x u)))else .inl 14
theorem lD{l:List dx}{i:Nat}{q:dx}(h:∀p∈l,p.wf)(hq:q.wf):∀p∈l.set i q,p.wf:=by
 intro p hp;rcases List.mem_or_eq_of_mem_set hp with h1|rfl
 ·exact h p h1
 ·exact hq
theorem xU{x:Spec}{p:dx}{n:Int}(hx:∀w∈x.aZ,w.wf)(hp:p.wf)(hn:mw n):(eH x p n).wf:=by
 unfold eH;obtain⟨a,b,c,d,e⟩:=hp;split
 ·rename_i w hw;have hm:w∈x.aZ:=List.mem_of_find?_eq_some hw;split
  ·exact⟨a,b,c,(hx w hm).2,hn⟩
  ·exact⟨a,b,c,d,hn⟩
 ·exact⟨a,b,c,d,hn⟩
theorem I0{p:dx}(hp:p.wf):({p with node:=0}:dx).wf:=by
 obtain⟨a,b,c,d,e⟩:=hp;refine⟨a,b,c,d,?_⟩;unfold mw;simp only;omega
theorem qZ{s:bc}{x:Spec}{t u:State}{m:Move}(hx:∀w∈x.aZ,w.wf)(ht:∀p∈t.pods,p.wf)(hm:m.wf)(h:bJ s x t m=.inr u):∀p∈u.pods,p.wf:=by
 unfold bJ at h;split at h
 ·simp at h
 ·split at h
  ·simp at h
  ·split at h
   ·simp at h
   ·split at h
    ·simp at h
    ·split at h
     ·simp at h
     ·rename_i p hp;have Qs:p∈t.pods:=dH hp;by_cases k2:m.kind=2
      ·rw[aW k2]at h;split at h
       ·simp at h
       ·simp only[eT]at h;subst h;exact lD ht (I0 (ht p Qs))
      ·rw[aw k2]at h;split at h
       ·split at h
        ·simp at h
        ·split at h
         ·simp at h
         ·simp only[eT]at h;subst h;exact lD ht (xU hx (ht p Qs) hm.2.2.1)
       ·split at h
        ·split at h
         ·simp at h
         ·rename_i q hq;have UK:q∈t.pods:=dH hq;split at h
          ·simp at h
          ·split at h
           ·simp at h
           ·split at h
            ·simp at h
            ·simp only[eT]at h;subst h;exact lD (lD ht (I0 (ht q UK))) (xU hx (ht p Qs) hm.2.2.1)
        ·split at h
         ·simp at h
         ·simp only[eT]at h;subst h;exact lD ht (xU hx (ht p Qs) hm.2.2.1)
theorem O7(S:wB T)(s:bc)(x:Spec)(t:State)(m:Move)(hn:s.nodes.length<=2^29)(mJ:s.aU.length<=2^29)(wW:x.aZ.length<=2^29)(hl:t.pods.length<=2^29)(hx:∀w∈x.aZ,w.wf)(ht:∀p∈t.pods,p.wf)(hm:m.wf) :
    ba T 246 [aD s,bd x,ar t,du m] (gj (nS s x t m)):=by
 have km:=KC S.m s x t m (by omega) (by omega) (by omega);have kp:=I7 S t m hl;refine gives S.OG rfl ?_;unfold nS;cases AA:bJ s x t m with
 |inl c =>
  rw[AA]at km;simp only[gj,cf,aD,bd,ar,du,bF,az]at km;simp only[f246,rL',aa,simprocAttr,aD,bd,ar,du,bF,km.call,gj,cf,az]
 |inr u =>
  rw[AA]at km;have Tr:=(lu s x t u m AA).2;have kw:=IL S.QC s x u hn (by omega) mJ (qZ hx ht hm AA);have hv:vS (nG s x u):=uD _ (GX s x u);have ka:=Gt S hv;simp only[gj,aD,bd,ar,du,bF]at km kp kw;cases Tm:xg t m with
  |false =>
   rw[Tm]at kp;simp only[fm,cf]at kp;simp only[f246,rL',aa,simprocAttr,aD,bd,ar,du,bF,km.call,kp.call,gj,cf,bK,az]
  |true =>
   rw[Tm]at kp;simp only[gP]at kp;dsimp only;rcases hv with e|⟨a,n,e⟩|⟨n,e⟩
   ·rw[e]at kw ka⊢;simp only[f246,rL',aa,simprocAttr,aD,bd,ar,du,bF,km.call,kp.call,kw.call,gj,fF]
   ·rw[e]at kw ka⊢;simp only[gk,rE,fF,cf,mm,nh,TO,bK,aI]at kw ka;simp only[f246,rL',aa,simprocAttr,aD,bd,ar,du,bF,km.call,kp.call,kw.call,ka.call,gj,fF,gk,cf,mm,nh,TO,bK,az]
   ·rw[e]at kw ka⊢;simp only[cf,rE,fF,mm,nh,TO,bK,aI]at kw ka;simp only[f246,rL',aa,simprocAttr,aD,bd,ar,du,bF,km.call,kp.call,kw.call,ka.call,gj,fF,cf,mm,nh,TO,bK,az]
end
end


section
/-! ### The plain law:how a move changes a Ss size -/
theorem iD{id:Int}{l:List dx}{j:Nat}(h:bx id 0 l=(j:Int)):∃p,l[j]? =some p/\f6 id l=some p/\j<l.length:=by
 rcases ca id l 0 with⟨h1,h2⟩|⟨k,p,h1,h2,h3,h4⟩
 ·omega
 ·have:k=j:=by omega
  subst this;exact⟨p,h1,h2,h4⟩
/-! ### The walk -/
end
section
/-! ### Vn -/
def iB(l:List dx):List Want->Nat
 |[]=>0
 |w::r=>(if lr w l=true then 0 else 1)+iB l r
theorem vE(l:List dx):∀ws,iB l ws<=ws.length
 |[]=>ax _
 |w::r=>by
  have:=vE l r;simp only[iB,aC];split <;>omega
theorem Et(a:Int):aa .quo (.pv (.int .i64 a)) (.pv (.int .i64 2))=some (.pv (.int .i64 (IntKind.i64.wrap (a.tdiv 2)))):=rfl
section
variable{T:cL}
structure Gh(T:cL):Prop where
 s5:Gi T
 w6:Std T 240 f240
 Ka:Std T 238 f238
 Rq:Std T 211 f211
 Lr:T.flat 238=true
set_option maxRecDepth 100000 in
set_option maxHeartbeats 4000000 in
theorem H2(S:Gh T)(x:Spec)(t:State)(hx:x.aZ.length<=2^29)(hl:t.pods.length<=2^29)(Q:Exit->St->Prop)
    (bS:∀fr hp nx,look fr 5=.pv (.int .i64 (iB t.pods x.aZ:Nat))->Q (.exit 0) ⟨fr,hp,nx⟩) :
    ∀(rest:List Want) (i acc:Nat),x.aZ.drop i=rest->i<=x.aZ.length->acc+iB t.pods rest=iB t.pods x.aZ->∀(fr:List (Nat×AV)) (hp:Hl) (nx:Nat),2<=nx->look fr 3=.ptr 1 0 0 ->
     ah hp 1=.var [.pv (.slice (t.pods.map aJ)),.pv (.int .i64 t.pre),.pv (.int .i64 t.eW)]->look fr 5=.pv (.int .i64 (acc:Nat))->look fr 9=.pv (.slice (x.aZ.map cg))->look fr 10=.pv (.int .i64 x.aZ.length)->look fr 11=.pv (.int .i64 i)->Wp T false (.loop yy) ⟨fr,hp,nx⟩ Q:=by
 intro rest;induction rest with
 |nil =>
  intro i acc hd hi ho fr hp nx gR h3 b1 h5 h9 h10 h11;have hlen:=drop_nil hd hi;simp only[iB,fa]at ho;rw[ay,aY yy.eq_1];simp only[ae,ag,aa,Nat.reduceEqDiff,Nat.reduceAdd,reduceCtorEq,Int.reduceToNat,Nat.reduceMul,Nat.reduceLT,Int.reduceNeg,Int.reduceLE,Int.reduceLT,Int.reduceEq,Nat.reduceLeDiff,List.drop,List.take,h9,h10,h11,hlen,aR];exact bS _ _ _ (by simp only[aj,Nat.reduceEqDiff];rw[h5,ho])
 |cons w r ih =>
  intro i acc hd hi ho fr hp nx gR h3 b1 h5 h9 h10 h11;obtain⟨aK,hlt,hw,di,cS,hb⟩:=drop_cons hd (by omega);have n1:¬nx=1:=by omega
  have m1:¬nx+1=1:=by omega
  have C9:acc+1<=2^30:=by
   have h1:=vE t.pods x.aZ;omega
  have US:IntKind.i64.wrap ((acc:Int)+1)=((acc+1:Nat):Int):=by rw[f9] <;>omega
  have k:=Aq S.s5 S.w6 S.Ka ⟨[w],0,0⟩ t (by simp) (by omega);simp only[bd,ar,dh,aX,az,bL,bW,bw]at k;simp only[iB]at ho;rw[ay,aY yy.eq_1];cases hm:lr w t.pods with
  |true =>
   rw[hm]at k ho;simp only[cg]at k;simp only[ae,ag,aa,Nat.reduceEqDiff,Nat.reduceAdd,reduceCtorEq,Int.reduceToNat,Nat.reduceMul,Nat.reduceLT,Int.reduceNeg,Int.reduceLE,Int.reduceLT,Int.reduceEq,Nat.reduceLeDiff,List.drop,List.take,bt,dW,chunk,cq,bL,bW,h3,b1,h5,h9,h10,h11,hlt,aK,cg,n1,m1,k.sE S.Lr rfl,hw];refine ih (i+1) acc di cS (by simpa using ho) _ _ _ (by omega) ?_ ?_ ?_ ?_ ?_ ?_
   all_goals try simp only[aj,Nat.reduceEqDiff,h3,b1,h5,h9,h10,n1,m1]
  |false =>
   rw[hm]at k ho;simp only[cg]at k;simp only[ae,ag,aa,Nat.reduceEqDiff,Nat.reduceAdd,reduceCtorEq,Int.reduceToNat,Nat.reduceMul,Nat.reduceLT,Int.reduceNeg,Int.reduceLE,Int.reduceLT,Int.reduceEq,Nat.reduceLeDiff,List.drop,List.take,bt,dW,chunk,cq,bL,bW,h3,b1,h5,h9,h10,h11,hlt,aK,cg,n1,m1,k.sE S.Lr rfl,hw,US];refine ih (i+1) (acc+1) di cS (by simp only[bK,aI]at ho;omega) _ _ _ (by omega) ?_ ?_ ?_ ?_ ?_ ?_
   all_goals try simp only[aj,Nat.reduceEqDiff,h3,b1,h5,h9,h10,n1,m1]
def mq(x:Spec)(t:State):Nat:=(iB t.pods x.aZ+1)/2
theorem Mi(S:Gh T)(x:Spec)(t:State)(hx:x.aZ.length<=2^29)(hl:t.pods.length<=2^29):ba T 211 [bd x,ar t] (.int .i64 (mq x t:Nat)):=by
 refine gives S.Rq rfl ?_;simp only[f211,ae,ag,aa,Nat.reduceEqDiff,Nat.reduceAdd,reduceCtorEq,Int.reduceToNat,Nat.reduceMul,Nat.reduceLT,Int.reduceNeg,Int.reduceLE,Int.reduceLT,Int.reduceEq,Nat.reduceLeDiff,List.drop,List.take,bd,ar];refine H2 S x t hx hl _ (fun fr hp nx h5=>?_) x.aZ 0 0 rfl (aN _) (aQ _) _ _ _ (ax _) rfl rfl rfl rfl rfl rfl;have hle:=vE t.pods x.aZ;have hw:IntKind.i64.wrap (((iB t.pods x.aZ:Nat):Int)+1)=((iB t.pods x.aZ+1:Nat):Int):=by rw[f9] <;>omega
 have hq:((iB t.pods x.aZ+1:Nat):Int).tdiv 2=((mq x t:Nat):Int):=by
  unfold mq;rw[Int.tdiv_eq_ediv_of_nonneg (by omega)];omega
 have Qt:((iB t.pods x.aZ+1:Nat):Int).tdiv (Int.ofNat 2)=((mq x t:Nat):Int):=hq;have MS:IntKind.i64.wrap ((mq x t:Nat):Int)=((mq x t:Nat):Int):=by
  have:mq x t<=2^30:=by unfold mq;omega
  rw[f9] <;>omega
 simp only[ae,ag,aa,Nat.reduceEqDiff,Nat.reduceAdd,reduceCtorEq,Int.reduceToNat,Nat.reduceMul,Nat.reduceLT,Int.reduceNeg,Int.reduceLE,Int.reduceLT,Int.reduceEq,Nat.reduceLeDiff,List.drop,List.take,h5,hw,Et,Qt,MS]
end
end
section
def dZ:State:=⟨[],0,0⟩
def cA(s:bc)(x:Spec):List Move->State->Nat->State×Nat×Option Int
 |[],t,i=>(t,i,none)
 |m::r,t,i=>match nS s x t m with
  | .inl c=>(t,i,some c)
  | .inr u=>cA s x r u (i+1)
theorem ot{s:bc}{x:Spec}{t u:State}{m:Move}(h:nS s x t m=.inr u):bJ s x t m=.inr u/\fF (nG s x u)=true:=by
 unfold nS at h;split at h
 ·simp at h
 ·rename_i v hv;split at h
  ·split at h
   ·rename_i hw;simp only[eT]at h;subst h;exact⟨hv,hw⟩
   ·simp at h
  ·simp at h
section
variable{T:cL}
end
end
section
/-! ### What a move leaves as it Vm -/
theorem kP(id:Int):∀(l:List dx) (i:Nat) (p q:dx),l[i]? =some p->q.id=p.id->id≠p.id->f6 id (l.set i q)=f6 id l
 |[],i,p,q,h,_,_=>by simp at h
 |a::r,0,p,q,h,h1,h2=>by
  simp at h;subst h;have e1:¬q.id=id:=by rw[h1];exact fun h=>h2 h.symm
  have e2:¬a.id=id:=fun h=>h2 h.symm;simp[f6,e1,e2]
 |a::r,i+1,p,q,h,h1,h2=>by
  have:=kP id r i p q (by simpa using h) h1 h2;unfold f6 at this⊢;rw[List.set_cons_succ,List.find?_cons,List.find?_cons,this]
theorem oM{id:Int}{l:List dx}{p:dx}(h:f6 id l=some p):p.id=id:=by
 have:=List.find?_some h;simpa using this
theorem xT(x:Spec)(p:dx)(n:Int):(eH x p n).id=p.id:=by
 unfold eH;split
 ·split <;>rfl
 ·rfl
theorem CB(s:bc)(x:Spec)(t u:State)(m:Move)(h:bJ s x t m=.inr u)(id:Int)(h1:id≠m.eU)(h2:id≠m.over):f6 id u.pods=f6 id t.pods:=by
 unfold bJ at h;split at h
 ·simp at h
 ·split at h
  ·simp at h
  ·split at h
   ·simp at h
   ·split at h
    ·simp at h
    ·rename_i hi qR ho;obtain⟨j,hj⟩:∃j:Nat,bx m.eU 0 t.pods=(j:Int):=⟨(bx m.eU 0 t.pods).toNat,by omega⟩;obtain⟨p,g1,g2,g3⟩:=iD hj;have pC:=oM g2;rw[hj]at h;simp only[bY,g1]at h;by_cases k2:m.kind=2
     ·rw[aW k2]at h;split at h
      ·simp at h
      ·simp only[eT]at h;subst h;exact kP id _ _ _ _ g1 rfl (by rw[pC];exact h1)
     ·rw[aw k2]at h;split at h
      ·split at h
       ·simp at h
       ·split at h
        ·simp at h
        ·simp only[eT]at h;subst h;exact kP id _ _ _ _ g1 (xT ..) (by rw[pC];exact h1)
      ·split at h
       ·rename_i k4;have Pb:¬bx m.over 0 t.pods<0:=fun hh=>ho ⟨k4,hh⟩;obtain⟨k,hk⟩:∃k:Nat,bx m.over 0 t.pods=(k:Int):=⟨(bx m.over 0 t.pods).toNat,by omega⟩;obtain⟨q,f1,f2,f3⟩:=iD hk;have S5:=oM f2;rw[hk]at h;simp only[bY,f1]at h;split at h
        ·simp at h
        ·rename_i c0;split at h
         ·simp at h
         ·split at h
          ·simp at h
          ·simp only[eT]at h;subst h;rw[kP id _ j p _ (by rw[List.getElem?_set_ne (fun h=>c0 h.symm)];exact g1) (xT ..) (by rw[pC];exact h1)];exact kP id _ _ _ _ f1 rfl (by rw[S5];exact h2)
       ·split at h
        ·simp at h
        ·simp only[eT]at h;subst h;exact kP id _ _ _ _ g1 (xT ..) (by rw[pC];exact h1)
/-! ### M9 aZ -/
def lF:List Want->Prop
 |[]=>True
 |[_]=>True
 |a::b::r=>a.eU<b.eU/\lF (b::r)
theorem xj:∀(a:Want) (r:List Want),lF (a::r)->∀v∈r,a.eU<v.eU
 |a,[],_,v,hv=>by simp at hv
 |a,b::r,h,v,hv=>by
  rcases aS.1 hv with rfl|hv
  ·exact h.1
  ·have:=xj b r h.2 v hv;have:=h.1;omega
theorem Be{a:Want}{r:List Want}(h:lF (a::r)):lF r:=by
 cases r with
 |nil=>trivial
 |cons b r=>exact h.2
def A4(a:Int):List Want->Nat
 |[]=>0
 |w::r=>(if w.eU=a then 1 else 0)+A4 a r
theorem wJ(a:Int):∀(r:List Want),(∀v∈r,a<v.eU)->A4 a r=0
 |[],_=>rfl
 |w::r,h=>by
  have h1:=h w (bM ..);have h2:=wJ a r fun v hv=>h v (bf _ hv);simp only[A4,h2];rw[aw (by omega)]
theorem xS(a:Int):∀(ws:List Want),lF ws->A4 a ws<=1
 |[],_=>aN _
 |w::r,h=>by
  have h1:=xS a r (Be h);simp only[A4];split
  ·rename_i e;have:=wJ a r fun v hv=>by
    have:=xj w r h v hv;omega
   omega
  ·omega
theorem vF(l l':List dx)(a b:Int)(h:∀id,id≠a->id≠b->f6 id l'=f6 id l):∀(ws:List Want),iB l ws<=iB l' ws+(A4 a ws+A4 b ws)
 |[]=>ax _
 |w::r=>by
  have ih:=vF l l' a b h r;simp only[iB,A4];by_cases ha:w.eU=a
  ·rw[aW ha]
   repeat' split
   all_goals omega
  ·by_cases hb:w.eU=b
   ·rw[aW hb]
    repeat' split
    all_goals omega
   ·have:lr w l'=lr w l:=by simp only[lr,h w.eU ha hb]
    rw[this,aw ha,aw hb];omega
theorem vD(l:List dx):∀(ws:List Want),(iB l ws=0)=(dh ws l=true)
 |[]=>by simp[iB,dh]
 |w::r=>by
  have ih:=vD l r;simp only[dh]at ih;cases hm:lr w l with
  |true=>simp[iB,dh,hm,ih]
  |false=>simp[iB,dh,hm]
theorem Aj(x:Spec)(t:State):decide (mq x t=0)=dh x.aZ t.pods:=by
 have h:=vD t.pods x.aZ;have e:(mq x t=0)=(iB t.pods x.aZ=0):=by
  unfold mq;apply propext;omega
 cases hg:dh x.aZ t.pods with
 |true=>rw[hg]at h;simp[e,h]
 |false=>rw[hg]at h;simp[e,h]
theorem H3(s:bc)(x:Spec)(t u:State)(m:Move)(hr:lF x.aZ)(h:bJ s x t m=.inr u):mq x t<=mq x u+1:=by
 have h1:=vF t.pods u.pods m.eU m.over (fun id a b=>CB s x t u m h id a b) x.aZ;have h2:=xS m.eU x.aZ hr;have h3:=xS m.over x.aZ hr;unfold mq;omega
/-! ### The walk -/
section
variable{T:cL}
end
end
theorem xN(l:List Move):cq 4 (l.map bF)=true:=by
 induction l with
 |nil=>rfl
 |cons m r ih=>exact ih
section
/-! ### The plain law -/
theorem Bp(s:bc)(x:Spec)(hx:∀w∈x.aZ,w.wf):∀(l:List Move) (t:State) (i:Nat),(∀m∈l,m.wf)->fF (nG s x t)=true->(∀p∈t.pods,p.wf)->fF (nG s x (cA s x l t i).1)=true/\(∀p∈(cA s x l t i).1.pods,p.wf)/\(cA s x l t i).1.pods.length=t.pods.length
 |[],t,i,_,h1,h2=>⟨h1,h2,rfl⟩
 |m::r,t,i,hm,h1,h2=>by
  unfold cA;split
  ·exact⟨h1,h2,rfl⟩
  ·rename_i u hd;obtain⟨AA,hw⟩:=ot hd;have ih:=Bp s x hx r u (i+1) (fun m UD=>hm m (bf _ UD)) hw (qZ hx h2 (hm m (bM ..)) AA);rw[(lu s x t u m AA).2]at ih;exact ih
theorem Mh(q:Int×Int):vS (jQ (some q))/\jQ (some q)≠ .dJ:=by
 obtain⟨c,a⟩:=q;unfold jQ;by_cases h:a<0
 ·simp only[aW h];exact⟨.inr (.inr ⟨_,rfl⟩),by simp[cf]⟩
 ·simp only[aw h];exact⟨.inr (.inl ⟨_,_,rfl⟩),by simp[gk]⟩
/-! ### The walk -/
end
def xY:bz :=
(.seq (.seq (.ops [
aq 5 4 [],
aq 6 0 [],
fW 7 6 [1],
eu 8 .lss 5 7 [0,2]])
(.cond (.t 8)
.skip
(.exit 0)))
(.seq (.block 1
(.ops [
aq 11 3 [],
aq 12 0 [],
aq 13 4 [],
ft 14 1 12 13 [1,2],
bQ 15 1 14 [3],
aP 16 (.call 150 [.t 15]) [4],
aP 17 (.append 1 1 (.t 11) (.t 16)) [0,5,5],
aq 3 17 [6,6,0,1,2,3,4,5,6]]))
(.ops [
aq 9 4 [],
cM 10 .add 9 1 [0],
aq 4 10 [1,0,1]])))
def f148:bg:=⟨19,[.t 2],
(.seq (.ops [
aP 2 (.mv (.c .bu)) []])
(.seq (.ops [
aP 3 (.mv (.c .bu)) []])
(.seq (.seq (.ops [
cT 4 0 []])
(.block 0
(.loop xY)))
(.seq (.ops [
aq 18 3 [],
aq 2 18 [0,0]])
.ret))))⟩
def C4:bz :=
(.seq (.seq (.ops [
aq 4 0 [],
aP 5 (.bin .gtr none (.t 4) (.c (.pv (.int .u64 127)))) [0]])
(.cond (.t 5)
.skip
(.exit 0)))
(.block 1
(.seq (.ops [
aq 6 3 [],
aq 7 0 [],
aP 8 (.bin .rem none (.t 7) (.c (.pv (.int .u64 128)))) [1],
aP 9 (.conv .u8 (.t 8)) [2],
aP 10 (.bin .add none (.t 9) (.c (.pv (.int .u8 128)))) [3],
aP 11 (.cv 1 1 [.pv (.int .u8 0)] [(0,1,(.t 10))]) [4],
aP 12 (.append 1 1 (.t 6) (.t 11)) [0,5],
aq 3 12 [6,6,0,1,2,3,4,5,6]])
(.ops [
aq 13 0 [],
aP 14 (.bin .quo none (.t 13) (.c (.pv (.int .u64 128)))) [0],
aq 0 14 [1,0,1]]))))
def f150:bg:=⟨20,[.t 2],
(.seq (.ops [
aP 2 (.mv (.c .bu)) []])
(.seq (.ops [
aP 3 (.mv (.c .bu)) []])
(.seq (.block 0
(.loop C4))
(.seq (.ops [
aq 15 3 [],
aq 16 0 [],
aP 17 (.conv .u8 (.t 16)) [1],
aP 18 (.cv 1 1 [.pv (.int .u8 0)] [(0,1,(.t 17))]) [2],
aP 19 (.append 1 1 (.t 15) (.t 18)) [0,3],
aq 2 19 [4,4,0,1,2,3,4]])
.ret))))⟩
def C5:bz :=
(.seq (.seq (.ops [
aq 12 5 [],
aP 13 (.bin .geq none (.t 12) (.c (.pv (.int .u64 128)))) [0]])
(.cond (.t 13)
.skip
(.exit 2)))
(.seq (.block 3
(.ops [
aq 16 3 [],
aq 17 5 [],
aP 18 (.conv .u8 (.t 17)) [1],
aP 19 (.bin .or none (.t 18) (.c (.pv (.int .u8 128)))) [2],
aP 20 (.cv 1 1 [.pv (.int .u8 0)] [(0,1,(.t 19))]) [3],
aP 21 (.append 1 1 (.t 16) (.t 20)) [0,4],
aq 3 21 [5,5,0,1,2,3,4,5]]))
(.ops [
aq 14 5 [],
aP 15 (.bin .shr none (.t 14) (.c (.pv (.int .u64 7)))) [0],
aq 5 15 [1,0,1]])))
def yJ:bz :=
(.seq (.ops [
eu 9 .lss 8 7 []])
(.seq (.cond (.t 9)
.skip
(.exit 0))
(.seq (.block 1
(.seq (.ops [
ft 10 1 6 8 [],
bQ 11 1 10 [0],
aq 5 11 [1,0,1]])
(.seq (.block 2
(.loop C5))
(.ops [
aq 22 3 [],
aq 23 5 [],
aP 24 (.conv .u8 (.t 23)) [1],
aP 25 (.cv 1 1 [.pv (.int .u8 0)] [(0,1,(.t 24))]) [2],
aP 26 (.append 1 1 (.t 22) (.t 25)) [0,3],
aq 3 26 [4,4,0,1,2,3,4]]))))
(.ops [
cM 27 .add 8 1 [],
aq 8 27 [0]]))))
def f264:bg:=⟨29,[.t 2],
(.seq (.ops [
aP 2 (.mv (.c .bu)) []])
(.seq (.ops [
aP 3 (.mv (.c .bu)) []])
(.seq (.seq (.ops [
aq 6 0 [],
fW 7 6 [0],
cT 8 0 []])
(.block 0
(.loop yJ)))
(.seq (.ops [
aq 28 3 [],
aq 2 28 [0,0]])
.ret))))⟩
section
def pD(n:Nat):List PV:=[.int .u64 (n:Int)]
def sW(n:Nat):List PV:=[.int .u8 (n:Int)]
def wx(l:List Nat):PV:=.slice (l.map pD)
def ng(l:List Nat):PV:=.slice (l.map sW)
def Jn(l:List Nat):Prop:=∀n∈l,n<18446744073709551616
def U8(l:List Nat):Prop:=∀n∈l,n<256
/-! ### A PF bytes -/
def iQ(n:Nat):List Nat:=if n<128 then [n]else(n % 128+128)::iQ (n/128)
termination_by n
decreasing_by omega
theorem nB{n:Nat}(h:n<128):iQ n=[n]:=by rw[iQ,aW h]
theorem pk{n:Nat}(h:¬n<128):iQ n=(n % 128+128)::iQ (n/128):=by rw[iQ,aw h]
def je:List Nat->List Nat
 |[]=>[]
 |n::r=>iQ n++je r
theorem KR:∀n:Nat,U8 (iQ n):=by
 intro n;induction n using Nat.strongRecOn with
 |_ n ih =>
  by_cases h:n<128
  ·rw[nB h];intro m hm;simp at hm;omega
  ·rw[pk h];intro m hm;rcases aS.1 hm with rfl|hm
   ·omega
   ·exact ih (n/128) (by omega) m hm
theorem tA:∀l:List Nat,U8 (je l)
 |[]=>fun m hm=>by simp[je]at hm
 |n::r=>fun m hm=>by
  simp only[je,ct]at hm;rcases hm with hm|hm
  ·exact KR n m hm
  ·exact tA r m hm
theorem E2(n:Nat):iQ n≠[]:=by
 by_cases h:n<128
 ·rw[nB h];simp
 ·rw[pk h];simp
theorem KQ:∀(k n:Nat),n<128^(k+1)->(iQ n).length<=k+1:=by
 intro k;induction k with
 |zero =>
  intro n h;rw[nB (by simpa using h)];exact ax _
 |succ k ih =>
  intro n h2;by_cases h3:n<128
  ·rw[nB h3];simp
  ·rw[pk h3,aC];have:=ih (n/128) (by
    rw[Nat.div_lt_iff_lt_mul (by omega)];rw[Nat.pow_succ]at h2;exact h2)
   omega
theorem vi{n:Nat}(h:n<18446744073709551616):(iQ n).length<=10:=KQ 9 n (by simp;omega)
theorem oN:∀l:List Nat,Jn l->(je l).length<=10*l.length
 |[],_=>by simp[je]
 |n::r,h=>by
  have h1:=vi (h n (bM ..));have h2:=oN r fun m hm=>h m (bf _ hm);simp only[je,aM,aC];omega
/-! ### The uc -/
theorem O9(n:Nat):(n:Int).tmod (Int.ofNat 128)=((n % 128:Nat):Int):=by
 rw[Int.tmod_eq_emod_of_nonneg (by omega)];show(n:Int) % 128=_;omega
theorem O8(n:Nat):(n:Int).tdiv (Int.ofNat 128)=((n/128:Nat):Int):=by
 rw[Int.tdiv_eq_ediv_of_nonneg (by omega)];show(n:Int)/128=_;omega
section
variable{T:cL}
theorem CL(gS:List Nat)(MP:gS.length<=100)(Q:Exit->St->Prop)
    (bS:∀fr hp nx (n:Nat) acc,n<128->look fr 0=.pv (.int .u64 n)->fk (look fr 3) hp 1 (acc.map sW) 0 nx->acc++[n]=gS->Q (.exit 0) ⟨fr,hp,nx⟩) :
    ∀(n:Nat) (acc:List Nat),n<18446744073709551616->acc++iQ n=gS->∀(fr:List (Nat×AV)) (hp:Hl) (nx:Nat),look fr 0=.pv (.int .u64 n)->fk (look fr 3) hp 1 (acc.map sW) 0 nx->Wp T false (.loop C4) ⟨fr,hp,nx⟩ Q:=by
 intro n;induction n using Nat.strongRecOn with
 |_ n ih =>
  intro acc hn ho fr hp nx h0 h3;have hlen:acc.length+1<=100:=by
   have:=de List.length ho;have h2:0<(iQ n).length:=TP.2 (E2 n);rw[aM]at this;omega
  rw[ay,aY C4.eq_1];by_cases hc:n<128
  ·have w8:¬(127:Int)<n:=by omega
   rw[nB hc]at ho;simp only[ae,ag,aa,Nat.reduceEqDiff,Nat.reduceAdd,reduceCtorEq,Int.reduceToNat,Nat.reduceMul,Nat.reduceLT,Int.reduceNeg,Int.reduceLE,Int.reduceLT,Int.reduceEq,Nat.reduceLeDiff,List.drop,List.take,h0,w8];refine bS _ _ _ n acc hc ?_ ?_ ho
   all_goals simp only[bG,Nat.reduceEqDiff,aI,h0,h3]
  ·have w8:(127:Int)<n:=by omega
   rw[pk hc]at ho;have w1:IntKind.u8.wrap ((n % 128:Nat):Int)=((n % 128:Nat):Int):=Ec (by omega) (by omega);have w2:IntKind.u8.wrap (((n % 128:Nat):Int)+128)=((n % 128+128:Nat):Int):=by rw[Ec (by omega) (by omega)];omega
   have w3:IntKind.u64.wrap ((n/128:Nat):Int)=((n/128:Nat):Int):=zy (by omega) (by omega);have w0:IntKind.u64.wrap ((n % 128:Nat):Int)=((n % 128:Nat):Int):=zy (by omega) (by omega);obtain⟨v',W,k,a1,a2,a3⟩:=h3.mj (aN _) (sW (n % 128+128)) (by rw[al];omega);simp only[sW]at a1 a3;simp only[ae,ag,aa,Nat.reduceEqDiff,Nat.reduceAdd,reduceCtorEq,Int.reduceToNat,Nat.reduceMul,Nat.reduceLT,Int.reduceNeg,Int.reduceLE,Int.reduceLT,Int.reduceEq,Nat.reduceLeDiff,List.drop,List.take,h0,w8,O9,O8,w0,w1,w2,w3,bt,dW,chunk,cq,bL,bW,a1];refine ih (n/128) (by omega) (acc++[n % 128+128]) (by omega) (by rw[<-ho];simp) _ _ _ ?_ ?_
   ·simp only[aj,Nat.reduceEqDiff]
   ·simp only[aj,Nat.reduceEqDiff];simpa only[bj,aX,az,sW]using a3
theorem I8(h:Std T 150 f150)(n:Nat)(hn:n<18446744073709551616):ba T 150 [.int .u64 n] (ng (iQ n)):=by
 refine gives h rfl ?_;simp only[f150,ae,ag,aa,Nat.reduceEqDiff,Nat.reduceAdd,reduceCtorEq,Int.reduceToNat,Nat.reduceMul,Nat.reduceLT,Int.reduceNeg,Int.reduceLE,Int.reduceLT,Int.reduceEq,Nat.reduceLeDiff,List.drop,List.take];refine CL (iQ n) (cQ (vi hn) (by omega)) _ (fun fr hp nx m acc hm h0 h3 ho=>?_) n [] hn rfl _ _ _ rfl fk.nil;have w:IntKind.u8.wrap (m:Int)=m:=Ec (by omega) (by omega);have hlen:acc.length+1<=10:=by
  have:=de List.length ho;have h2:=vi hn;rw[aM]at this;simp at this;omega
 obtain⟨v',W,k,a1,a2,a3⟩:=h3.mj (aN _) (sW m) (by rw[al];omega);have a4:=a3.snap;simp only[sW]at a1 a4;simp only[ae,ag,aa,Nat.reduceEqDiff,Nat.reduceAdd,reduceCtorEq,Int.reduceToNat,Nat.reduceMul,Nat.reduceLT,Int.reduceNeg,Int.reduceLE,Int.reduceLT,Int.reduceEq,Nat.reduceLeDiff,List.drop,List.take,h0,w,bt,dW,chunk,cq,bL,bW,a1,a4];rw[<-ho];simp only[ng,bj,aX,az,sW]
end
end
section
section
variable{T:cL}
theorem FD(He:Std T 150 f150)(l:List Nat)(hu:Jn l)(hl:l.length<=1000000)(Q:Exit->St->Prop)
    (bS:∀fr hp nx,fk (look fr 3) hp 1 ((je l).map sW) 0 nx->Q (.exit 0) ⟨fr,hp,nx⟩) :
    ∀(rest:List Nat) (i:Nat) (acc:List Nat),l.drop i=rest->i<=l.length->acc++je rest=je l->∀(fr:List (Nat×AV)) (hp:Hl) (nx:Nat),look fr 0=.pv (wx l)->look fr 4=.pv (.int .i64 i) ->
     fk (look fr 3) hp 1 (acc.map sW) 0 nx->Wp T false (.loop xY) ⟨fr,hp,nx⟩ Q:=by
 intro rest;induction rest with
 |nil =>
  intro i acc hd hi ho fr hp nx h0 h4 h3;have hlen:=drop_nil hd hi;simp only[je,bH]at ho;subst ho;rw[ay,aY xY.eq_1];simp only[rL',aa,simprocAttr,h0,h4,wx,hlen,aR];exact bS _ _ _ (by simp only[aj,Nat.reduceEqDiff];exact h3)
 |cons n r ih =>
  intro i acc hd hi ho fr hp nx h0 h4 h3;obtain⟨aK,hlt,hw,di,cS,hb⟩:=drop_cons hd (by omega);have hn:n<18446744073709551616:=hu n (M8.2 ⟨i,aK⟩);have k:=I8 He n hn;have hlen:acc.length+(iQ n).length<=2^30:=by
   have h1:=de List.length ho;have h2:=oN l hu;simp only[je,aM]at h1;omega
  obtain⟨v',W,m,a1,a2,a3⟩:=h3.app (aN _) ((iQ n).map sW) (by rw[al,al];exact hlen);have hall:cq 1 ((iQ n).map sW)=true:=by simp[cq,sW]
  rw[ay,aY xY.eq_1];simp only[rL',aa,simprocAttr,h0,h4,wx,hlt,aK,pD,k.call,ng,dW,hall,a1,hw];refine ih (i+1) (acc++iQ n) di cS (by rw[<-ho];simp[je]) _ _ _ ?_ ?_ ?_
  ·simp only[aj,Nat.reduceEqDiff,h0]
  ·simp only[aj,Nat.reduceEqDiff]
  ·simp only[aj,Nat.reduceEqDiff,bj];exact a3
theorem KS(He:Std T 150 f150)(Mk:Std T 148 f148)(l:List Nat)(hu:Jn l)(hl:l.length<=1000000):ba T 148 [wx l] (ng (je l)):=by
 refine gives Mk rfl ?_;simp only[f148,rL',aa,simprocAttr];refine FD He l hu hl _ (fun fr hp nx h3=>?_) l 0 [] rfl (aN _) rfl _ _ _ rfl rfl fk.nil;simp only[rL',aa,simprocAttr,h3.snap,ng]
theorem QV:∀m:Fin 256,IntKind.u8.wrap ((BitVec.ofInt IntKind.u8.bits ((m.val:Nat):Int) ||| BitVec.ofInt IntKind.u8.bits 128).toNat:Int)=((m.val % 128+128:Nat):Int):=by decide +kernel
theorem Oa(n:Nat):IntKind.u8.wrap ((BitVec.ofInt IntKind.u8.bits (IntKind.u8.wrap (n:Int)) ||| BitVec.ofInt IntKind.u8.bits 128).toNat:Int)=((n % 128+128:Nat):Int):=by
 have:=QV ⟨n % 256,by omega⟩;simp only at this;rw[FZ (n:Int),show(n:Int) % 256=((n % 256:Nat):Int) by omega,this];omega
theorem Ob(n:Nat):(n:Int).fdiv (2^(min 7 IntKind.u64.bits))=((n/128:Nat):Int):=by
 show(n:Int).fdiv (2^7)=_;rw[Int.fdiv_eq_ediv_of_nonneg _ (by decide)];show(n:Int)/128=_;omega
theorem FC(gS:List Nat)(MP:gS.length<=20000000)(Q:Exit->St->Prop)(fr0:List (Nat×AV))
    (bS:∀fr hp nx (n:Nat) acc,n<128->look fr 5=.pv (.int .u64 n)->look fr 6=look fr0 6->look fr 7=look fr0 7->look fr 8=look fr0 8->fk (look fr 3) hp 1 (acc.map sW) 0 nx->acc++[n]=gS->Q (.exit 2) ⟨fr,hp,nx⟩) :
    ∀(n:Nat) (acc:List Nat),n<18446744073709551616->acc++iQ n=gS->∀(fr:List (Nat×AV)) (hp:Hl) (nx:Nat),look fr 5=.pv (.int .u64 n)->look fr 6=look fr0 6->look fr 7=look fr0 7->look fr 8=look fr0 8->fk (look fr 3) hp 1 (acc.map sW) 0 nx ->
     Wp T false (.loop C5) ⟨fr,hp,nx⟩ Q:=by
 intro n;induction n using Nat.strongRecOn with
 |_ n ih =>
  intro acc hn ho fr hp nx h5 h6 h7 h8 h3;have hlen:acc.length+1<=20000000:=by
   have:=de List.length ho;have h2:0<(iQ n).length:=TP.2 (E2 n);rw[aM]at this;omega
  rw[ay,aY C5.eq_1];by_cases hc:n<128
  ·have w8:¬(128:Int)<=n:=by omega
   rw[nB hc]at ho;simp only[rL',aa,simprocAttr,h5,w8];refine bS _ _ _ n acc hc ?_ ?_ ?_ ?_ ?_ ho
   all_goals try simp only[aj,Nat.reduceEqDiff,h5,h6,h7,h8,h3]
  ·have w8:(128:Int)<=n:=by omega
   rw[pk hc]at ho;have w3:IntKind.u64.wrap ((n/128:Nat):Int)=((n/128:Nat):Int):=zy (by omega) (by omega);obtain⟨v',W,k,a1,a2,a3⟩:=h3.mj (aN _) (sW (n % 128+128)) (by rw[al];omega);simp only[sW]at a1 a3;simp only[rL',aa,simprocAttr,h5,w8,Oa,Ob,w3,bt,dW,chunk,cq,bL,bW,a1];refine ih (n/128) (by omega) (acc++[n % 128+128]) (by omega) (by rw[<-ho];simp) _ _ _ ?_ ?_ ?_ ?_ ?_
   all_goals try simp only[aj,Nat.reduceEqDiff,h6,h7,h8]
   simpa only[bj,aX,az,sW]using a3
theorem Ib(l:List Nat)(hu:Jn l)(hl:l.length<=1000000)(Q:Exit->St->Prop)
    (bS:∀fr hp nx,fk (look fr 3) hp 1 ((je l).map sW) 0 nx->Q (.exit 0) ⟨fr,hp,nx⟩) :
    ∀(rest:List Nat) (i:Nat) (acc:List Nat),l.drop i=rest->i<=l.length->acc++je rest=je l->∀(fr:List (Nat×AV)) (hp:Hl) (nx:Nat),look fr 6=.pv (wx l)->look fr 7=.pv (.int .i64 l.length)->look fr 8=.pv (.int .i64 i) ->
     fk (look fr 3) hp 1 (acc.map sW) 0 nx->Wp T false (.loop yJ) ⟨fr,hp,nx⟩ Q:=by
 intro rest;induction rest with
 |nil =>
  intro i acc hd hi ho fr hp nx h6 h7 h8 h3;have hlen:=drop_nil hd hi;simp only[je,bH]at ho;subst ho;rw[ay,aY yJ.eq_1];simp only[rL',aa,simprocAttr,h6,h7,h8,hlen,aR];exact bS _ _ _ (by simp only[aj,Nat.reduceEqDiff];exact h3)
 |cons n r ih =>
  intro i acc hd hi ho fr hp nx h6 h7 h8 h3;obtain⟨aK,hlt,hw,di,cS,hb⟩:=drop_cons hd (by omega);have hn:n<18446744073709551616:=hu n (M8.2 ⟨i,aK⟩);have hlen:(acc++iQ n).length<=10000000:=by
   have h1:=de List.length ho;have h2:=oN l hu;simp only[je,aM]at h1⊢;omega
  rw[ay,aY yJ.eq_1];simp only[rL',aa,simprocAttr,h6,h7,h8,wx,hlt,aK,pD];refine FC (acc++iQ n) (by omega) _ fr (fun fE hp' cE m QQ hm g5 g6 g7 g8 g3 go=>?_) n acc hn rfl _ _ _ ?_ ?_ ?_ ?_ ?_
  ·have w:IntKind.u8.wrap (m:Int)=m:=Ec (by omega) (by omega);have Tj:QQ.length+1<=10000000:=by
    have:=de List.length go;simp only[aM,aC,bU]at this hlen;omega
   obtain⟨v',W,k,a1,a2,a3⟩:=g3.mj (aN _) (sW m) (by rw[al];omega);simp only[sW]at a1 a3;rw[h6]at g6;rw[h7]at g7;rw[h8]at g8;simp only[rL',aa,simprocAttr,g5,g8,w,bt,dW,chunk,cq,bL,bW,a1,hw];refine ih (i+1) (acc++iQ n) di cS (by rw[<-ho];simp[je]) _ _ _ ?_ ?_ ?_ ?_
   all_goals try simp only[aj,Nat.reduceEqDiff,g6,g7]
   rw[<-go];simpa only[bj,aX,az,sW]using a3
  all_goals try simp only[aj,Nat.reduceEqDiff,h6,h7,h8,h3]
theorem N9(F3:Std T 264 f264)(l:List Nat)(hu:Jn l)(hl:l.length<=1000000):ba T 264 [wx l] (ng (je l)):=by
 refine gives F3 rfl ?_;simp only[f264,rL',aa,simprocAttr,wx];refine Ib l hu hl _ (fun fr hp nx h3=>?_) l 0 [] rfl (aN _) rfl _ _ _ ?_ ?_ ?_ ?_
 ·simp only[rL',aa,simprocAttr,h3.snap,ng]
 ·rfl
 ·rfl
 ·rfl
 ·exact fk.nil
end
end
section
def rd:Nat->Nat->List Nat->Option (Nat×Nat)
 |_,_,[]=>none
 |k,n,x::r=>if 10<=k\/(k=9/\1<x)\/(0<k/\x=0)then none else if x<128 then some (n+x*128^k,k+1)else rd (k+1) (n+x % 128*128^k) r
def PU(l:List Nat):Option (Nat×Nat):=rd 0 0 l
theorem vg(k:Nat):128^(k+1)=128^k*128:=Nat.pow_succ ..
theorem LX:∀(l:List Nat) (k n v c:Nat),U8 l->n<128^k->rd k n l=some (v,c)->v<18446744073709551616/\k<c/\c<=k+l.length/\c<=10
 |[],k,n,v,c,_,_,h=>by simp[rd]at h
 |x::r,k,n,v,c,hu,hn,h=>by
  have hx:x<256:=hu x (bM ..);simp only[rd]at h;split at h
  ·simp at h
  ·rename_i hc;simp only[not_or,not_and,Nat.not_lt,Nat.not_le]at hc;obtain⟨c1,c2,c3⟩:=hc;split at h
   ·rename_i h1;simp only[ai,b9]at h;obtain⟨rfl,rfl⟩:=h;refine⟨?_,by omega,by simp,by omega⟩;by_cases h9:k=9
    ·subst h9;have:=c2 rfl;have:x*128^9<=1*128^9:=dk _ this;omega
    ·have h3:x*128^k<=127*128^k:=dk _ (by omega);have h4:128^k<=128^8:=Nat.pow_le_pow_right (by omega) (by omega);omega
   ·have h3:x % 128*128^k<=127*128^k:=dk _ (by omega);have:=LX r (k+1) _ v c (fun y hy=>hu y (bf _ hy)) (by rw[vg];omega) h;simp only[aC];omega
section
variable{T:cL}
end
end
section
theorem Nc{l:List Nat}{v c:Nat}(hu:U8 l)(h:PU l=some (v,c)):v<18446744073709551616/\0<c/\c<=l.length/\c<=10:=by
 obtain⟨h1,h2,h3,h4⟩:=LX l 0 0 v c hu (by simp) h;exact⟨h1,h2,by omega,h4⟩
def zR(l:List Nat):Sum Nat (List Nat) :=
 if h:l=[]then .inr []else match PU l with
  |none=>.inl 0
  |some (v,c)=>match zR (l.drop (c-1+1))with
   | .inl e=>.inl (c+e)
   | .inr r=>.inr (v::r)
termination_by l.length
decreasing_by
 have:0<l.length:=TP.2 h;simp;omega
def Px(a:Nat)(acc:List Nat):Sum Nat (List Nat)->Sum Nat (List Nat)
 | .inl e=>.inl (a+e)
 | .inr r=>.inr (acc++r)
theorem Gs:zR []=.inr []:=by rw[zR,dif_pos rfl]
theorem Em{l:List Nat}(hu:U8 l){v c:Nat}(hr:PU l=some (v,c)):zR l=Px c [v] (zR (l.drop c)):=by
 obtain⟨h1,h2,h3,h4⟩:=Nc hu hr;have ew:l≠[]:=by
  intro h;subst h;simp at h3;omega
 rw[zR,dif_neg ew,hr];have e:c-1+1=c:=by omega
 simp only[e];cases zR (l.drop c) <;>rfl
theorem U8.drop{l:List Nat}(h:U8 l)(n:Nat):U8 (l.drop n):=fun m hm=>h m (List.mem_of_mem_drop hm)
section
variable{T:cL}
end
end
section
section
variable{T:cL}
end
end
section
section
variable{T:cL}
end
end
section
/-! ### Plain -/
theorem Nd(r:List Nat):∀(m k n:Nat),(0<k->0<m)->n<128^k->n+m*128^k<18446744073709551616->rd k n (iQ m++r)=some (n+m*128^k,k+(iQ m).length):=by
 intro m;induction m using Nat.strongRecOn with
 |_ m ih =>
  intro k n hk hn ht;have Ti:¬10<=k:=by
   intro h;have h1:128^10<=128^k:=Nat.pow_le_pow_right (by omega) h;have h2:1*128^k<=m*128^k:=dk _ (hk (by omega));omega
  have h9:k=9->m<=1:=by
   intro h;subst h;by_cases h:m<=1
   ·exact h
   ·have h2:2*128^9<=m*128^9:=dk _ (by omega);omega
  by_cases hm:m<128
  ·rw[nB hm];simp only[aG,aE,rd,hm,bA,aC,bU,aQ];rw[aw];intro h;rcases h with h|h|h
   ·exact Ti h
   ·have:=h9 h.1;omega
   ·have:=hk h.1;omega
  ·rw[pk hm];have e1:¬(m % 128+128<128):=by omega
   have e2:(m % 128+128) % 128=m % 128:=by omega
   have e3:n+m % 128*128^k+m/128*128^(k+1)=n+m*128^k:=by
    have:m*128^k=(128*(m/128)+m % 128)*128^k:=by rw[Nat.div_add_mod]
    rw[this,vg,ed];have:m/128*(128^k*128)=128*(m/128)*128^k:=by
     rw[Nat.mul_comm (128^k) 128,<-Nat.mul_assoc,Nat.mul_comm (m/128) 128]
    omega
   simp only[aG,rd,e1,aI,e2];rw[aw,ih (m/128) (by omega) (k+1) _ (fun _=>by omega) ?_ (by rw[e3];exact ht),e3]
   ·simp only[aC,ai,b9,true_and];omega
   ·have:m % 128*128^k<=127*128^k:=dk _ (by omega);rw[vg];omega
   ·intro h;rcases h with h|h|h
    ·exact Ti h
    ·have:=h9 h.1;omega
    ·omega
theorem L0(n:Nat)(r:List Nat)(hn:n<18446744073709551616):PU (iQ n++r)=some (n,(iQ n).length):=by
 have:=Nd r n 0 0 (fun h=>by omega) (by simp) (by simpa using hn);unfold PU;simpa using this
theorem GW(n:Nat)(r:List Nat):(iQ n++r).drop (iQ n).length=r:=by simp
theorem tP:∀l:List Nat,Jn l->zR (je l)=.inr l
 |[],_=>Gs
 |n::r,h=>by
  rw[je,Em ?_ (L0 n (je r) (h n (bM ..))),GW,tP r fun m hm=>h m (bf _ hm)]
  ·rfl
  ·exact fun m hm=>tA (n::r) m (by simpa[je]using hm)
/-! ### The Py -/
end

section
def tj(n:Int):Nat:=(IntKind.u64.wrap n).toNat
theorem vA(n:Int):tj n<18446744073709551616:=by
 unfold tj;rw[xy];omega
theorem mR(n:Int):((tj n:Nat):Int)=IntKind.u64.wrap n:=by
 unfold tj;rw[xy,Int.toNat_of_nonneg (by omega)]
theorem fk.QS{v:AV}{hp:Hl}{sz lo nx:Nat}{es:List (List PV)}(h:fk v hp sz es lo nx)(Hu:lo<=nx)(es':List (List PV))(hl:es.length+es'.length<=2^30) :
    ∃v' W n,fT (ah hp) nx sz v es'=some (v',W,n)/\(∀k,k<nx->v≠ .ms k->ah (W++hp) k=ah hp k)/\fk v' (W++hp) sz (es++es') lo (nx+n)/\(es'≠[]->v'=.ms nx)/\n<=1:=by
 rcases h with⟨rfl,rfl⟩|⟨id,rfl,b,c,d⟩
 ·cases es' with
  |nil=>exact⟨.bu,[],0,rfl,fun k _ _=>rfl,.inl ⟨rfl,rfl⟩,fun h=>absurd rfl h,by omega⟩
  |cons e r =>
   have P1:(e::r).length<=2^30:=by simpa using hl
   refine⟨.ms nx,[(nx,.row sz (e::r))],1,by simp only[fT,P1,bA],fun k hk _=>?_,.inr ⟨nx,rfl,Hu,by omega,?_⟩,fun _=>rfl,by omega⟩
   ·have:¬nx=k:=by omega
    simp only[aG,aE,aF,this,aI]
   ·simp only[aG,aE,aF,bA]
 ·refine⟨.ms nx,[(id,.dead),(nx,.row sz (es++es'))],1,?_,fun k hk ew=>?_,.inr ⟨nx,rfl,Hu,by omega,?_⟩,fun _=>rfl,by omega⟩
  ·simp only[fT,eN,d,cm,hl,bA]
  ·have h1:¬nx=k:=by omega
   have h2:¬id=k:=fun h=>ew (by rw[h]);simp only[aG,aE,aF,h1,h2,aI]
  ·have h2:¬id=nx:=by omega
   simp only[aG,aE,aF,h2,bA,aI]
theorem fk.ne{v:AV}{hp:Hl}{sz lo m:Nat}{es:List (List PV)}(h:fk v hp sz es lo m){k:Nat}(hk:k<lo\/m<=k):v≠ .ms k:=by
 rcases h with⟨rfl,rfl⟩|⟨id,rfl,b,c,d⟩
 ·simp
 ·intro h;simp only[AV.ms.injEq]at h;omega
def Wr(wid:Nat)(hp:Hl)(acc:List Nat)(lo m:Nat):Prop:=∃v,ah hp wid=.var [v]/\fk v hp 1 (acc.map pD) lo m
theorem Wr.mono{wid:Nat}{hp hp':Hl}{acc:List Nat}{lo m m':Nat}(h:Wr wid hp acc lo m)(h0:ah hp' wid=ah hp wid)(h1:∀k,lo<=k->k<m->ah hp' k=ah hp k)(h2:m<=m'):Wr wid hp' acc lo m':=by
 obtain⟨v,g1,g2⟩:=h;exact⟨v,h0.trans g1,g2.mono h1 h2⟩
section
variable{T:cL}
end
end
section
theorem xq{n:Int}(h:Cg n):((tj n:Nat):Int)=n:=by
 rw[mR,zy] <;>(unfold Cg at h;omega)
theorem fk.id{v:AV}{hp:Hl}{sz lo nx:Nat}{es:List (List PV)}(h:fk v hp sz es lo nx)(ew:es≠[]):∃id,v=.ms id/\lo<=id/\id<nx/\ah hp id=.row sz es:=by
 rcases h with⟨h,_⟩|h
 ·exact absurd h ew
 ·exact h
def Bo(v:jC):List Nat:=[tj v.a,tj v.b,tj v.c,tj v.d]
section
variable{T:cL}
end
end
section
/-! ### A QE key -/
def ju(p:dx):List Nat:=[p.id,p.load,p.prio].map tj++Bo p.jV++[p.node].map tj
def qX(t:State):List Nat:=tj t.pods.length::(t.pods.flatMap ju++[t.pre,t.eW].map tj)
def fO(t:State):ByteArray:=tV ((je (qX t)).map fun n:Nat=>(n:Int))
theorem mS{a b:Int}(ha:mw a)(hb:mw b)(h:tj a=tj b):a=b:=by
 have h1:=mR a;have h2:=mR b;rw[h,h2]at h1;unfold mw at ha hb;simp only[IntKind.wrap,IntKind.bits,IntKind.signed]at h1;omega
theorem rv{a b:Int}(ha:Cg a)(hb:Cg b)(h:tj a=tj b):a=b:=by
 have h1:=xq ha;have h2:=xq hb;rw[h,h2]at h1;exact h1.symm
theorem I6{p q:dx}(hp:p.wf)(hq:q.wf)(h:ju p=ju q):p=q:=by
 simp only[ju,Bo,aX,az,aG,aE,Ee]at h;obtain⟨a1,a2,a3,a4,a5,a6,a7,a8,_⟩:=h;obtain⟨b1,b2,b3,⟨b4,b5,b6,b7⟩,b8⟩:=hp;obtain⟨c1,c2,c3,⟨c4,c5,c6,c7⟩,c8⟩:=hq;have d1:=mS b1 c1 a1;have d2:=mS b2 c2 a2;have d3:=mS b3 c3 a3;have d4:=rv b4 c4 a4;have d5:=rv b5 c5 a5;have d6:=rv b6 c6 a6;have d7:=rv b7 c7 a7;have d8:=mS b8 c8 a8;obtain⟨p1,p2,p3,⟨p4,p5,p6,p7⟩,p8⟩:=p;obtain⟨q1,q2,q3,⟨q4,q5,q6,q7⟩,q8⟩:=q;simp only at d1 d2 d3 d4 d5 d6 d7 d8;subst d1 d2 d3 d4 d5 d6 d7 d8;rfl
theorem B8:∀{a b:List dx} {ra rb:List Nat},(∀p∈a,p.wf)->(∀p∈b,p.wf)->a.length=b.length->a.flatMap ju++ra=b.flatMap ju++rb->a=b/\ra=rb
 |[],[],ra,rb,_,_,_,h=>⟨rfl,by simpa using h⟩
 |[],_::_,_,_,_,_,hl,_=>by simp at hl
 |_::_,[],_,_,_,_,hl,_=>by simp at hl
 |p::a,q::b,ra,rb,ha,hb,hl,h=>by
  simp only[iy,gn]at h;have h1:=List.append_inj h (by rfl);have e:=I6 (ha p (bM ..)) (hb q (bM ..)) h1.1;obtain⟨e2,e3⟩:=B8 (fun p h=>ha p (bf _ h)) (fun p h=>hb p (bf _ h)) (by simpa using hl) h1.2;exact⟨by rw[e,e2],e3⟩
theorem z7(t:State):Jn (qX t):=by
 intro n hn;simp only[qX,ju,Bo,aS,ct,zz,cC,List.not_mem_nil,or_false]at hn;rcases hn with rfl|⟨p,_,hn⟩|⟨a,_,rfl⟩
 ·exact vA _
 ·rcases hn with(⟨a,_,rfl⟩|hn)|⟨a,_,rfl⟩
  ·exact vA _
  ·rcases hn with rfl|rfl|rfl|rfl <;>exact vA _
  ·exact vA _
 ·exact vA _
theorem HL{t u:State}(ht:t.wf)(hu:u.wf)(h:qX t=qX u)(hl:t.pods.length=u.pods.length):t=u:=by
 simp only[qX,Ee]at h;obtain⟨e1,e2⟩:=B8 ht.1 hu.1 hl h.2;simp only[aX,az,Ee]at e2;have e3:=mS ht.2.1 hu.2.1 e2.1;have e4:=mS ht.2.2 hu.2.2 e2.2.1;obtain⟨a,b,c⟩:=t;obtain⟨a',b',c'⟩:=u;simp only at e1 e3 e4;subst e1 e3 e4;rfl
theorem I9{a b:List Nat}(ha:Jn a)(hb:Jn b)(h:je a=je b):a=b:=by
 have h1:=tP a ha;rw[h,tP b hb]at h1;simpa using h1.symm
theorem tW(ns:List Int):∀(r:ByteArray),(ns.foldl (fun r n=>r.push (UInt8.ofNat n.toNat)) r).data.toList=r.data.toList++ns.map (fun n=>UInt8.ofNat n.toNat):=by
 induction ns with
 |nil=>intro r;simp
 |cons a l ih =>
  intro r;rw[gL,ih];simp[ByteArray.push]
theorem Eu{a b:List Nat}(ha:U8 a)(hb:U8 b)(h:tV (a.map fun n:Nat=>(n:Int))=tV (b.map fun n:Nat=>(n:Int))):a=b:=by
 have h1:=tW (a.map fun n:Nat=>(n:Int)) ByteArray.empty;have h2:=tW (b.map fun n:Nat=>(n:Int)) ByteArray.empty;unfold tV at h;rw[h,h2]at h1;have h3:=List.append_cancel_left h1;simp only[List.map_map]at h3;clear h h1 h2;induction a generalizing b with
 |nil=>cases b with
  |nil=>rfl
  |cons c r=>simp at h3
 |cons c r ih=>cases b with
  |nil=>simp at h3
  |cons d q =>
   simp only[aX,Ee,Function.comp]at h3;have e1:=de UInt8.toNat h3.1;have c1:=ha c (bM ..);have d1:=hb d (bM ..);simp only[bY,UInt8.toNat_ofNat']at e1;rw[ih (fun n hn=>ha n (bf _ hn)) (fun n hn=>hb n (bf _ hn)) h3.2]
   congr 1
   omega
theorem uT{t u:State}(ht:t.wf)(hu:u.wf)(hl:t.pods.length=u.pods.length)(h:fO t=fO u):t=u :=
 HL ht hu (I9 (z7 t) (z7 u) (Eu (tA _) (tA _) h)) hl
/-! ### What Vm met -/
def AP(k:ByteArray):List (ByteArray×Int)->Option Int
 |[]=>none
 |(a,n)::r=>if k=a then some n else AP k r
def CU(k:ByteArray)(v:Int):List (ByteArray×Int)->List (ByteArray×Int)
 |[]=>[(k,v)]
 |(a,n)::r=>if k=a then(k,v)::r else(a,n)::CU k v r
theorem qY(k:ByteArray)(v:Int):∀l,AP k (CU k v l)=some v
 |[]=>by simp[CU,AP]
 |(a,n)::r=>by
  by_cases h:k=a
  ·simp[CU,AP,h]
  ·simp[CU,AP,h,qY k v r]
theorem s7{j k:ByteArray}(v:Int)(h:¬j=k):∀l,AP j (CU k v l)=AP j l
 |[]=>by simp[CU,AP,h]
 |(a,n)::r=>by
  by_cases h1:k=a
  ·subst h1;simp[CU,AP,h]
  ·simp[CU,h1,AP,s7 v h r]
/-! ### TM TH -/
def lP(pods nodes:List Int):List Move :=
 (pods.flatMap fun p=>nodes.map fun n=>⟨1,p,n,0⟩)++((pods.map fun p=>⟨2,p,0,0⟩)++((pods.flatMap fun p=>nodes.map fun n=>⟨3,p,n,0⟩)++(pods.flatMap fun p=>nodes.flatMap fun n=>pods.map fun q=>⟨4,p,n,q⟩)))
def sF(s:bc)(t:State):List Move:=lP (eo (t.pods.map dx.id)) (eo (s.nodes.map Node.id))
def ry(s:bc)(x:Spec)(t:State)(m:Move):Option (Move×State):=match nS s x t m with
 | .inr u=>some (m,u)
 | .inl _=>none
def qu(s:bc)(x:Spec)(t:State):List (Move×State):=(sF s t).filterMap (ry s x t)
theorem pn{s:bc}{x:Spec}{t:State}{m:Move}{p:Move×State}:ry s x t m=some p↔m=p.1/\nS s x t p.1=.inr p.2:=by
 unfold ry;constructor
 ·intro h;cases hd:nS s x t m with
  |inl c=>rw[hd]at h;simp at h
  |inr u =>
   rw[hd]at h;simp only[ai]at h;subst h;exact⟨rfl,hd⟩
 ·rintro⟨rfl,h⟩
  rw[h]
theorem lB{id:Int}:∀{l:List dx} {i:Nat},¬bx id i l<0->id∈l.map dx.id
 |[],i,h=>by simp[bx]at h
 |p::r,i,h=>by
  unfold bx at h;by_cases hp:p.id=id
  ·simp[hp]
  ·rw[aw hp]at h;exact bf _ (lB h)
theorem sS{id:Int}:∀{l:List Node},¬dv id l=none->id∈l.map Node.id
 |[],h=>by simp[dv]at h
 |p::r,h=>by
  by_cases hp:p.id=id
  ·simp[hp]
  ·have:dv id (p::r)=dv id r:=by simp[dv,hp]
   rw[this]at h;exact bf _ (sS h)
theorem qy{s:bc}{x:Spec}{t u:State}{m:Move}(h:nS s x t m=.inr u):m∈sF s t:=by
 have h:=(ot h).1;obtain⟨k,p,n,o⟩:=m;by_cases hf:fg ⟨k,p,n,o⟩=false
 ·unfold bJ at h;rw[aW hf]at h;simp at h
 ·by_cases hp:bx p 0 t.pods<0
  ·unfold bJ at h;rw[aw hf,aW hp]at h;simp at h
  ·by_cases hn:k≠2/\dv n s.nodes=none
   ·unfold bJ at h;rw[aw hf,aw hp,aW hn]at h;simp at h
   ·by_cases ho:k=4/\bx o 0 t.pods<0
    ·unfold bJ at h;rw[aw hf,aw hp,aw hn,aW ho]at h;simp at h
    ·clear h;have hp:=lB hp;simp only[fg]at hf;simp only[sF,lP,ct,zz,cC,jx,Move.mk.injEq];by_cases k2:k=2
     ·rw[aW k2]at hf;simp only[Bool.not_eq_false,bq,bO]at hf;exact .inr (.inl ⟨p,cC.1 hp,k2.symm,rfl,hf.1.symm,hf.2.symm⟩)
     ·have hn:¬dv n s.nodes=none:=fun hh=>hn ⟨k2,hh⟩;have hn:=cC.1 (sS hn);rw[aw k2]at hf;by_cases k13:k=1\/k=3
      ·rw[aW k13]at hf;simp only[Bool.not_eq_false,bO]at hf;rcases k13 with k1|k3
       ·exact .inl ⟨p,cC.1 hp,n,hn,k1.symm,rfl,rfl,hf.symm⟩
       ·exact .inr (.inr (.inl ⟨p,cC.1 hp,n,hn,k3.symm,rfl,rfl,hf.symm⟩))
      ·rw[aw k13]at hf;simp only[Bool.not_eq_false,bO]at hf;have ho:¬bx o 0 t.pods<0:=fun hh=>ho ⟨hf,hh⟩;exact .inr (.inr (.inr ⟨p,cC.1 hp,n,hn,o,cC.1 (lB ho),hf.symm,rfl,rfl,rfl⟩))
theorem xO{s:bc}{x:Spec}{t u:State}{m:Move}:(m,u)∈qu s x t↔nS s x t m=.inr u:=by
 unfold qu;rw[List.mem_filterMap];constructor
 ·rintro⟨m',_,h⟩
  exact(pn.1 h).2
 ·intro h;exact⟨m,qy h,pn.2 ⟨rfl,h⟩⟩
/-! ### The search -/
structure Sk where
 met:List (ByteArray×Int)
 spent:Nat
 iG:List Move
 stack:List (List (Move×State))
inductive xC where
 |done
 |over
 |go (k:Sk)
def zd(k:ByteArray)(l:List (ByteArray×Int)):Int:=(AP k l).getD 0
def iv(s:bc)(x:Spec)(depth:Int)(steps:Nat)(k:Sk)(t:State):xC :=
 if dh x.aZ t.pods=true then .done
 else if depth-k.iG.length<mq x t\/depth-k.iG.length<zd (fO t) k.met then .go ⟨k.met,k.spent,k.iG,[]::k.stack⟩
 else if k.spent=steps then .over
 else .go ⟨CU (fO t) (depth-k.iG.length+1) k.met,k.spent+1,k.iG,qu s x t::k.stack⟩
def fM:List (List (Move×State))->List Move->Option (State×List Move×List (List (Move×State)))
 |[],_=>none
 |[]::r,w=>fM r w.dropLast
 |((m,u)::f)::r,w=>some (u,w++[m],f::r)
inductive Rn(s:bc)(x:Spec)(depth:Int)(steps:Nat):Sk->State->Prop
 |init:Rn s x depth steps ⟨[],0,[],[]⟩ (bR s)
 |step {k k':Sk} {t u:State} {w:List Move} {st:List (List (Move×State))}:Rn s x depth steps k t->iv s x depth steps k t=.go k'->fM k'.stack k'.iG=some (u,w,st)->Rn s x depth steps ⟨k'.met,k'.spent,w,st⟩ u
inductive Vd(s:bc)(x:Spec)(depth:Int)(steps:Nat):Int->List Move->Nat->Prop
 |found {k:Sk} {t:State}:Rn s x depth steps k t->iv s x depth steps k t=.done->Vd s x depth steps 1 k.iG k.spent
 |spent {k:Sk} {t:State}:Rn s x depth steps k t->iv s x depth steps k t=.over->Vd s x depth steps 3 [] k.spent
 |none {k k':Sk} {t:State}:Rn s x depth steps k t->iv s x depth steps k t=.go k'->fM k'.stack k'.iG=Option.none->Vd s x depth steps 2 [] k'.spent
/-! ### What is found is a Ve -/
def Wk(s:bc)(x:Spec)(w:List Move)(t:State):Prop:=cA s x w (bR s) 0=(t,w.length,none)
theorem xw{s:bc}{x:Spec}{m:Move}{b u:State}(hd:nS s x b m=.inr u):∀{w:List Move} {t:State} {i:Nat},cA s x w t i=(b,i+w.length,none)->cA s x (w++[m]) t i=(u,i+(w++[m]).length,none)
 |[],t,i,h=>by
  simp only[cA,b9]at h;obtain⟨rfl,_⟩:=h;simp only[aE,cA,hd,aC,bU]
 |a::r,t,i,h=>by
  simp only[aG,cA]at h⊢;cases ha:nS s x t a with
  |inl c=>rw[ha]at h;simp at h
  |inr v =>
   rw[ha]at h;dsimp only at h;have:=xw hd (w:=r) (t:=v) (i:=i+1) (by rw[h];simp only[aC];congr 2;omega);simp only[this,aC]
   congr 2
   omega
theorem Wk.snoc{s:bc}{x:Spec}{w:List Move}{m:Move}{b u:State}(h:Wk s x w b)(hd:nS s x b m=.inr u):Wk s x (w++[m]) u:=by
 have:=xw hd (w:=w) (t:=bR s) (i:=0) (by rw[aQ];exact h);rw[aQ]at this;exact this
def Gc(s:bc)(x:Spec)(depth:Int):List (List (Move×State))->List Move->Prop
 |[],_=>True
 |f::r,w=>(∃b,Wk s x w b/\(∀p∈f,nS s x b p.1=.inr p.2)/\(f≠[]->(w.length:Int)<depth))/\Gc s x depth r w.dropLast
theorem DV{s:bc}{x:Spec}{depth:Int}:∀{st:List (List (Move×State))} {w:List Move} {u:State} {w':List Move} {bV:List (List (Move×State))},Gc s x depth st w->st.length=w.length+1->fM st w=some (u,w',bV) ->
    ∃w0 m,w'=w0++[m]/\bV.length=w0.length+1/\Gc s x depth bV w0/\Wk s x w' u/\(w0.length:Int)<depth
 |[],w,_,_,_,_,_,h=>by simp[fM]at h
 |[]::r,w,u,w',bV,hf,hl,h=>by
  simp only[fM]at h;simp only[aC]at hl;have hw:w≠[]:=fun h0=>by
   subst h0;have:r=[]:=cu (by simpa using hl);subst this;simp[fM]at h
  have h1:0<w.length:=TP.2 hw;exact DV hf.2 (by rw[List.length_dropLast];omega) h
 |((m,v)::f)::r,w,u,w',bV,hf,hl,h=>by
  simp only[fM,ai,b9]at h;obtain⟨rfl,rfl,rfl⟩:=h;obtain⟨⟨b,h1,h2,h3⟩,h4⟩:=hf;exact⟨w,m,rfl,hl,⟨⟨b,h1,fun p hp=>h2 p (bf _ hp),fun _=>h3 (by simp)⟩,h4⟩,h1.snoc (h2 (m,v) (bM ..)),h3 (by simp)⟩
structure Iv(s:bc)(x:Spec)(depth:Int)(steps:Nat)(k:Sk)(t:State):Prop where
 wk:Wk s x k.iG t
 len:k.stack.length=k.iG.length
 fr:Gc s x depth k.stack k.iG.dropLast
 dep:(k.iG.length:Int)<=depth
 sp:k.spent<=steps
theorem JM{x:Spec}{t:State}(h:¬dh x.aZ t.pods=true):0<mq x t:=by
 have:=Aj x t;have h2:dh x.aZ t.pods=false:=by simpa using h
 rw[h2,decide_eq_false_iff_not]at this;omega
theorem Iv.enter{s:bc}{x:Spec}{depth:Int}{steps:Nat}{k k':Sk}{t:State}(I:Iv s x depth steps k t)(h:iv s x depth steps k t=.go k'):k'.iG=k.iG/\k'.stack.length=k'.iG.length+1/\Gc s x depth k'.stack k'.iG/\k'.spent<=steps:=by
 unfold iv at h;split at h
 ·simp at h
 ·rename_i hg;split at h
  ·simp only[xC.go.injEq]at h;subst h;exact⟨rfl,by simp[I.len],⟨⟨t,I.wk,by simp,by simp⟩,I.fr⟩,I.sp⟩
  ·rename_i hc;split at h
   ·simp at h
   ·rename_i hs;simp only[xC.go.injEq]at h;subst h;have:=JM hg;have:=I.sp;refine⟨rfl,by simp[I.len],⟨⟨t,I.wk,fun p hp=>xO.1 hp,fun _=>?_⟩,I.fr⟩,?_⟩
    ·have:¬depth-k.iG.length<mq x t:=fun hh=>hc (.inl hh);dsimp only;omega
    ·dsimp only;omega
theorem Rn.inv{s:bc}{x:Spec}{depth:Int}{steps:Nat}(h0:0<=depth):∀{k:Sk} {t:State},Rn s x depth steps k t->Iv s x depth steps k t:=by
 intro k t h;induction h with
 |init=>exact⟨rfl,rfl,trivial,by simpa using h0,aN _⟩
 |step h he hn ih =>
  obtain⟨e1,e2,e3,e4⟩:=ih.enter he;obtain⟨w0,m,rfl,a2,a3,a4,a5⟩:=DV e3 e2 hn;refine⟨a4,by simp[a2],by simpa using a3,by simp;omega,e4⟩
theorem uE{s:bc}{x:Spec}{depth:Int}{steps:Nat}(h0:0<=depth){l:List Move}{n:Nat}(h:Vd s x depth steps 1 l n):∃t,cA s x l (bR s) 0=(t,l.length,none)/\dh x.aZ t.pods=true/\(l.length:Int)<=depth/\n<=steps:=by
 cases h with
 | @found k t h he =>
  have I:=h.inv h0;refine⟨t,I.wk,?_,I.dep,I.sp⟩;unfold iv at he;split at he
  ·assumption
  ·repeat' split at he
   all_goals simp at he
theorem Bi{s:bc}{x:Spec}{depth:Int}{steps:Nat}{l:List Move}{n:Nat}(h:Vd s x depth steps 3 l n):n=steps/\l=[]:=by
 cases h with
 | @spent k t h he =>
  unfold iv at he
  repeat' split at he
  all_goals first|(simp at he;done)|skip
  rename_i hs;exact⟨hs,rfl⟩
theorem CG{s:bc}{x:Spec}{depth:Int}{steps:Nat}(h0:0<=depth){l:List Move}{n:Nat}(h:Vd s x depth steps 2 l n):n<=steps/\l=[]:=by
 cases h with
 | @none k k' t h he hn=>exact⟨((h.inv h0).enter he).2.2.2,rfl⟩
end
section
theorem Br(n:Int):mw (IntKind.i64.wrap n):=by
 unfold mw;simp only[IntKind.wrap,IntKind.bits,IntKind.signed];simp only[bh,bO,show(2:Int)^(64-1)=9223372036854775808 by decide,show(2:Int)^64=18446744073709551616 by decide];constructor <;>(split <;>omega)
theorem HQ{s:bc}{x:Spec}{t u:State}{m:Move}(h:bJ s x t m=.inr u)(h1:mw t.pre)(h2:mw t.eW):mw u.pre/\mw u.eW:=by
 unfold bJ at h;split at h
 ·simp at h
 ·split at h
  ·simp at h
  ·split at h
   ·simp at h
   ·split at h
    ·simp at h
    ·split at h
     ·simp at h
     ·by_cases k2:m.kind=2
      ·rw[aW k2]at h;split at h
       ·simp at h
       ·simp only[eT]at h;subst h;exact⟨h1,h2⟩
      ·rw[aw k2]at h;split at h
       ·split at h
        ·simp at h
        ·split at h
         ·simp at h
         ·simp only[eT]at h;subst h;exact⟨h1,Br _⟩
       ·split at h
        ·split at h
         ·simp at h
         ·split at h
          ·simp at h
          ·split at h
           ·simp at h
           ·split at h
            ·simp at h
            ·simp only[eT]at h;subst h;exact⟨Br _,h2⟩
        ·split at h
         ·simp at h
         ·simp only[eT]at h;subst h;exact⟨h1,h2⟩
theorem tq{s:bc}{t:State}{m:Move}(hs:s.wf)(ht:∀p∈t.pods,p.wf)(h:m∈sF s t):m.wf:=by
 have hp:∀a,a∈eo (t.pods.map dx.id)->mw a:=fun a ha=>by
  rw[jx]at ha;obtain⟨p,hp,rfl⟩:=cC.1 ha;exact(ht p hp).1
 have hn:∀a,a∈eo (s.nodes.map Node.id)->mw a:=fun a ha=>by
  rw[jx]at ha;obtain⟨p,hp,rfl⟩:=cC.1 ha;exact(hs.1 p hp).1
 have i0:mw 0:=⟨by decide,by decide⟩;have i1:mw 1:=⟨by decide,by decide⟩;have i2:mw 2:=⟨by decide,by decide⟩;have i3:mw 3:=⟨by decide,by decide⟩;have i4:mw 4:=⟨by decide,by decide⟩;simp only[sF,lP,ct,zz,cC]at h;rcases h with⟨p,h1,n,h2,rfl⟩|⟨p,h1,rfl⟩|⟨p,h1,n,h2,rfl⟩|⟨p,h1,n,h2,q,h3,rfl⟩
 ·exact⟨i1,hp p h1,hn n h2,i0⟩
 ·exact⟨i2,hp p h1,i0,i0⟩
 ·exact⟨i3,hp p h1,hn n h2,i0⟩
 ·exact⟨i4,hp p h1,hn n h2,hp q h3⟩
def Rs(s:bc)(t:State):Prop:=t.wf/\t.pods.length=s.pods.length
theorem Rs.first{s:bc}(hs:s.wf):Rs s (bR s):=⟨⟨hs.2.2,(show mw 0 from⟨by decide,by decide⟩),(show mw 0 from⟨by decide,by decide⟩)⟩,rfl⟩
theorem Rs.step{s:bc}{x:Spec}{t u:State}{m:Move}(hs:s.wf)(hx:∀w∈x.aZ,w.wf)(R:Rs s t)(h:nS s x t m=.inr u):Rs s u:=by
 have hm:=(ot h).1;obtain⟨a,b⟩:=HQ hm R.1.2.1 R.1.2.2;exact⟨⟨qZ hx R.1.1 (tq hs R.1.1 (qy h)) hm,a,b⟩,by rw[(lu s x t u m hm).2];exact R.2⟩
/-! ### TQ -/
def Le(x:Spec)(met:List (ByteArray×Int))(u:State)(l:Int):Prop:=l<mq x u\/∃v,AP (fO u) met=some v/\l<v
def t6(depth:Int):List (List (Move×State))->Nat->State->Int->Prop
 |[],_,_,_=>False
 |f::r,n,u,l=>(l=depth-n-1/\∃m,(m,u)∈f)\/t6 depth r (n-1) u l
structure CI(s:bc)(x:Spec)(depth:Int)(G:List (State×Int))(met:List (ByteArray×Int))(Pd:State->Int->Prop):Prop where
 g0:∀q∈G,Rs s q.1
 g1:∀q∈G,¬dh x.aZ q.1.pods=true
 g2:∀key v,AP key met=some v->∃q∈G,fO q.1=key/\v=q.2+1
 g3:∀q∈G,∀p∈qu s x q.1,Le x met p.2 (q.2-1)\/Pd p.2 (q.2-1)
 g4:Le x met (bR s) depth\/Pd (bR s) depth
theorem CI.imp{s:bc}{x:Spec}{depth:Int}{G:List (State×Int)}{met:List (ByteArray×Int)}{Pd SN:State->Int->Prop}(C:CI s x depth G met Pd)(h:∀u l,Pd u l->Le x met u l\/SN u l):CI s x depth G met SN :=
 ⟨C.g0,C.g1,C.g2,fun q hq p hp=>(C.g3 q hq p hp).elim .inl (h _ _),C.g4.elim .inl (h _ _)⟩
theorem Le.met{x:Spec}{met:List (ByteArray×Int)}{u t:State}{l left:Int}(h:Le x met u l)(hl:zd (fO t) met<=left):Le x (CU (fO t) (left+1) met) u l:=by
 rcases h with h|⟨v,h1,h2⟩
 ·exact .inl h
 ·by_cases e:fO u=fO t
  ·rw[e]at h1;simp only[zd,h1,ia]at hl;exact .inr ⟨left+1,by rw[e];exact qY _ _ _,by omega⟩
  ·exact .inr ⟨v,by rw[s7 _ e];exact h1,h2⟩
theorem xd{depth:Int}{t u:State}{l:Int}:∀{st:List (List (Move×State))} {w w':List Move} {bV:List (List (Move×State))},st.length=w.length+1->fM st w=some (t,w',bV)->t6 depth st w.length u l->(u=t/\l=depth-w'.length)\/t6 depth bV (w'.length-1) u l
 |[],_,_,_,_,h,_=>by simp[fM]at h
 |[]::r,w,w',bV,hl,h,hp=>by
  simp only[fM]at h;simp only[aC]at hl;have hw:w≠[]:=fun h0=>by
   subst h0;have:r=[]:=cu (by simpa using hl);subst this;simp[fM]at h
  have h1:0<w.length:=TP.2 hw;refine xd (by rw[List.length_dropLast];omega) h ?_;rw[List.length_dropLast];simpa[t6]using hp
 |((m,v)::f)::r,w,w',bV,hl,h,hp=>by
  simp only[fM,ai,b9]at h;obtain⟨rfl,rfl,rfl⟩:=h;simp only[aM,aC,bU,Nat.add_sub_cancel,aQ];simp only[t6,aS,b9]at hp;rcases hp with⟨rfl,m',h1|h1⟩|h1
  ·exact .inl ⟨h1.2,by omega⟩
  ·exact .inr (.inl ⟨rfl,m',h1⟩)
  ·exact .inr (.inr h1)
theorem xc{depth:Int}{u:State}{l:Int}:∀{st:List (List (Move×State))} {w:List Move} {n:Nat},fM st w=none->¬t6 depth st n u l
 |[],_,_,_,hp=>hp
 |[]::r,w,n,h,hp=>by
  simp only[fM]at h;simp only[t6,List.not_mem_nil,exists_false,and_false,false_or]at hp;exact xc h hp
 |((m,v)::f)::r,w,n,h,hp=>by simp[fM]at h
theorem A9{s:bc}{x:Spec}{depth:Int}{steps:Nat}{k k':Sk}{t:State}{G:List (State×Int)}(R:Rs s t)(hw:k.stack.length=k.iG.length)(he:iv s x depth steps k t=.go k')
    (C:CI s x depth G k.met fun u l=>(u=t/\l=depth-k.iG.length)\/t6 depth k.stack (k.iG.length-1) u l):∃G',CI s x depth G' k'.met (t6 depth k'.stack k'.iG.length):=by
 unfold iv at he;split at he
 ·simp at he
 ·rename_i hg;split at he
  ·rename_i hc;simp only[xC.go.injEq]at he;subst he;refine⟨G,C.imp fun u l h=>?_⟩;rcases h with⟨rfl,rfl⟩|h
   ·rcases hc with hc|hc
    ·exact .inl (.inl hc)
    ·unfold zd at hc;cases hl:AP (fO u) k.met with
     |none =>
      rw[hl]at hc;have:(0:Int)<=mq x u:=by omega
      exact .inl (.inl (by simp at hc;omega))
     |some v=>rw[hl]at hc;exact .inl (.inr ⟨v,hl,hc⟩)
   ·exact .inr (.inr h)
  ·rename_i hc;split at he
   ·simp at he
   ·simp only[xC.go.injEq]at he;subst he;have hm:zd (fO t) k.met<=depth-k.iG.length:=by
     have:¬depth-k.iG.length<zd (fO t) k.met:=fun hh=>hc (.inr hh);omega
    have tr:∀u l,(Le x k.met u l\/(u=t/\l=depth-k.iG.length)\/t6 depth k.stack (k.iG.length-1) u l)->(Le x (CU (fO t) (depth-k.iG.length+1) k.met) u l\/t6 depth (qu s x t::k.stack) k.iG.length u l):=fun u l h=>by
     rcases h with h|⟨rfl,rfl⟩|h
     ·exact .inl (h.met hm)
     ·exact .inl (.inr ⟨_,qY _ _ _,by omega⟩)
     ·exact .inr (.inr h)
    refine⟨(t,depth-k.iG.length)::G,?_,?_,?_,?_,tr _ _ C.g4⟩
    ·intro q hq;rcases aS.1 hq with rfl|hq
     ·exact R
     ·exact C.g0 q hq
    ·intro q hq;rcases aS.1 hq with rfl|hq
     ·exact hg
     ·exact C.g1 q hq
    ·intro key v hv;dsimp only at hv;by_cases e:key=fO t
     ·subst e;rw[qY]at hv;simp only[ai]at hv;exact⟨_,bM ..,rfl,hv.symm⟩
     ·rw[s7 _ e]at hv;obtain⟨q,hq,h1⟩:=C.g2 key v hv;exact⟨q,bf _ hq,h1⟩
    ·intro q hq p hp;rcases aS.1 hq with rfl|hq
     ·exact .inr (.inl ⟨rfl,p.1,hp⟩)
     ·exact tr _ _ (C.g3 q hq p hp)
theorem Rn.rs{s:bc}{x:Spec}{depth:Int}{steps:Nat}(hs:s.wf)(hx:∀w∈x.aZ,w.wf):∀{k:Sk} {t:State},Rn s x depth steps k t->Rs s t/\∀f∈k.stack,∀p∈f,Rs s p.2:=by
 intro k t h;induction h with
 |init=>exact⟨Rs.first hs,by simp⟩
 | @step k k' t u w st h he hn ih =>
  obtain⟨R,hF⟩:=ih;have Uh:∀f∈k'.stack,∀p∈f,Rs s p.2:=by
   unfold iv at he
   repeat' split at he
   all_goals first|(simp at he;done)|skip
   ·simp only[xC.go.injEq]at he;subst he;intro f hf p hp;rcases aS.1 hf with rfl|hf
    ·simp at hp
    ·exact hF f hf p hp
   ·simp only[xC.go.injEq]at he;subst he;intro f hf p hp;rcases aS.1 hf with rfl|hf
    ·exact R.step hs hx (xO.1 hp)
    ·exact hF f hf p hp
  have gR:∀{QD:List (List (Move×State))} {w0:List Move},(∀f∈QD,∀p∈f,Rs s p.2)->fM QD w0=some (u,w,st)->Rs s u/\∀f∈st,∀p∈f,Rs s p.2:=by
   intro QD;induction QD with
   |nil=>intro w0 _ h;simp[fM]at h
   |cons f r V0 =>
    intro w0 Qi h;cases f with
    |nil=>exact V0 (fun f hf=>Qi f (bf _ hf)) h
    |cons p f =>
     obtain⟨m,v⟩:=p;simp only[fM,ai,b9]at h;obtain⟨rfl,rfl,rfl⟩:=h;refine⟨Qi _ (bM ..) (m,v) (bM ..),fun g hg p hp=>?_⟩;rcases aS.1 hg with rfl|hg
     ·exact Qi _ (bM ..) p (bf _ hp)
     ·exact Qi g (bf _ hg) p hp
  exact gR Uh hn
theorem Rn.ci{s:bc}{x:Spec}{depth:Int}{steps:Nat}(hs:s.wf)(hx:∀w∈x.aZ,w.wf)(h0:0<=depth):∀{k:Sk} {t:State},Rn s x depth steps k t->∃G,CI s x depth G k.met fun u l=>(u=t/\l=depth-k.iG.length)\/t6 depth k.stack (k.iG.length-1) u l:=by
 intro k t h;induction h with
 |init=>exact⟨[],by simp,by simp,fun key v h=>by simp[AP]at h,by simp,.inr (.inl ⟨rfl,by simp⟩)⟩
 | @step k k' t u w st h he hn ih =>
  have I:=h.inv h0;obtain⟨e1,e2,e3,e4⟩:=I.enter he;obtain⟨G,C⟩:=ih;obtain⟨G',C'⟩:=A9 (h.rs hs hx).1 I.len he C;exact⟨G',C'.imp fun u' l hp=>.inr (xd e2 hn hp)⟩
theorem uA{s:bc}{x:Spec}(hr:lF x.aZ):∀(ms:List Move) (t:State) (i:Nat),(cA s x ms t i).2.2=none->dh x.aZ (cA s x ms t i).1.pods=true->mq x t<=ms.length
 |[],t,i,_,h=>by
  have:=Aj x t;simp only[cA]at h;rw[h,bO]at this;simp only[bU];omega
 |m::r,t,i,h1,h2=>by
  unfold cA at h1 h2;cases hd:nS s x t m with
  |inl c=>rw[hd]at h1;simp at h1
  |inr u =>
   rw[hd]at h1 h2;have:=uA hr r u (i+1) h1 h2;have:=H3 s x t u m hr (ot hd).1;simp only[aC];omega
theorem DW{s:bc}{x:Spec}{depth:Int}{G:List (State×Int)}{met:List (ByteArray×Int)}(hs:s.wf)(hx:∀w∈x.aZ,w.wf)(hr:lF x.aZ)(C:CI s x depth G met fun _ _=>False):∀(ms:List Move) (q:State×Int) (i:Nat),q∈G->(ms.length:Int)<=q.2->(cA s x ms q.1 i).2.2=none->¬dh x.aZ (cA s x ms q.1 i).1.pods=true
 |[],q,i,hq,_,_,h=>C.g1 q hq (by simpa only[cA]using h)
 |m::r,q,i,hq,hl,h1,h2=>by
  unfold cA at h1 h2;cases hd:nS s x q.1 m with
  |inl c=>rw[hd]at h1;simp at h1
  |inr u =>
   rw[hd]at h1 h2;dsimp only at h1 h2;simp only[aC]at hl;rcases C.g3 q hq (m,u) (xO.2 hd)with(h3|⟨v,h3,h4⟩)|h3
   ·have:=uA hr r u (i+1) h1 h2;dsimp only at h3;omega
   ·obtain⟨q',Qt,e1,e2⟩:=C.g2 _ _ h3;dsimp only at e1 h4;have R:=(C.g0 q hq).step hs hx hd;have R':=C.g0 q' Qt;have e:=uT R'.1 R.1 (by rw[R'.2,R.2]) e1;rw[<-e]at h1 h2;exact DW hs hx hr C r q' (i+1) Qt (by omega) h1 h2
   ·exact h3
theorem Fs{s:bc}{x:Spec}{depth:Int}{steps:Nat}(hs:s.wf)(hx:∀w∈x.aZ,w.wf)(hr:lF x.aZ)(h0:0<=depth){l:List Move}{n:Nat}(h:Vd s x depth steps 2 l n)(ms:List Move)(hl:(ms.length:Int)<=depth)(h1:(cA s x ms (bR s) 0).2.2=none):¬dh x.aZ (cA s x ms (bR s) 0).1.pods=true:=by
 intro h2;cases h with
 | @none k k' t h he hn =>
  obtain⟨G,C⟩:=h.ci hs hx h0;obtain⟨G',C'⟩:=A9 (h.rs hs hx).1 (h.inv h0).len he C;have C2:CI s x depth G' k'.met fun _ _=>False:=C'.imp fun u l hp=>.inr (xc hn hp);rcases C2.g4 with(h3|⟨v,h3,h4⟩)|h3
  ·have:=uA hr ms (bR s) 0 h1 h2;omega
  ·obtain⟨q,hq,e1,e2⟩:=C2.g2 _ _ h3;have R':=C2.g0 q hq;have e:=uT R'.1 (Rs.first hs).1 (by rw[R'.2];rfl) e1;rw[<-e]at h1 h2;exact DW hs hx hr C2 ms q 0 hq (by omega) h1 h2
  ·exact h3
/-! ### NW that SC -/
theorem vJ{pods:List dx}:∀{ws:List Want} {v:Want} {i:Int},eR pods (some v) i ws=none->lF (v::ws)
 |[],v,i,_=>trivial
 |w::r,v,i,h=>by
  unfold eR at h;split at h
  ·simp at h
  ·rename_i hb;refine⟨?_,vJ h⟩;simp only[ne_eq,Decidable.not_not]at hb;unfold eL at hb;dsimp only at hb;split at hb
   ·simp at hb
   ·split at hb
    ·simp at hb
    ·omega
theorem EO{s:bc}{x:Spec}(h:jk s x=none):lF x.aZ:=by
 unfold jk at h;split at h
 ·simp at h
 ·split at h
  ·cases hw:x.aZ with
   |nil=>trivial
   |cons w r =>
    rw[hw]at h;unfold eR at h;split at h
    ·simp at h
    ·exact vJ h
  ·simp at h
end
def f54:bg:=⟨110,[.t 4,.t 5],
(.seq (.ops [
df 3 1 [],
fR 4 false [],
fR 5 false [1]])
(.seq (.draw [
aq 8 0 [],
jD 9 8 [0],
bP 10 6 9 [1],
bQ 11 1 10 [2],
aq 12 0 [],
jD 13 12 [4],
bP 14 10 13 [5],
bQ 15 1 14 [6],
fW 16 15 [7],
eu 17 .sub 11 16 [3,8],
aq 6 17 [9,0,1,2,3,4,5,6,7,8,9]])
(.seq (.ops [
bZ 18 3 3 [],
aP 19 (.call 209 [.t 18]) [0],
aq 7 19 [1,1,0,1]])
(.seq (.block 0
(.seq (.draw [
aq 21 0 [],
jD 22 21 [0],
bP 23 3 22 [1],
bZ 24 3 23 [2],
bZ 25 3 3 [],
aP 26 (.call 238 [.t 24,.t 25]) [3,4],
aq 20 26 [5,5]])
(.cond (.t 20)
(.seq (.ops [
fR 4 true [],
fR 5 false [0,0]])
.ret)
(.seq (.draw [
aq 28 0 [],
jD 29 28 [0],
bP 30 3 29 [1],
bZ 31 3 30 [2],
bZ 32 3 3 [],
aP 33 (.call 211 [.t 31,.t 32]) [3,4],
aq 34 6 [],
eu 35 .gtr 33 34 [5,6],
aq 36 35 [7,5],
eP 37 36 false 0 [8],
dU 38 36 false (.jU (.t 37)) [9,8],
dX 39 36 false 9 38 [10,8],
dP 40 36 false 1 39 [11,8],
eP 41 36 false 7 [8],
dU 42 36 false (.jT true false (.int .i64 0) (.t 40) (.t 41)) [12,13,8],
eP 43 36 false 6 [8],
dU 44 36 false (.bin .gtr none (.t 42) (.t 43)) [14,15,8],
jJ 45 36 44 [8,16],
aq 27 45 [17,8]])
(.cond (.t 27)
(.seq (.ops [
aq 46 0 [],
aq 47 0 [],
jD 48 47 [1],
bP 49 11 48 [2],
bQ 50 1 49 [3],
aP 51 (.build [.bu,.bu] []) [],
aP 52 (.cv 2 1 [.bu,.bu] [(0,2,(.t 51))]) [5],
aP 53 (.append 2 48 (.t 50) (.t 52)) [4,6],
jD 54 46 [0,0,1,2,3,4,5,6,7],
bP 55 11 54 [8,0,1,2,3,4,5,6,7],
dg 1 55 53 [9,7,7,0,1,2,3,4,5,6,7]])
(.seq (.ops [
fR 4 false [],
fR 5 false [0,0]])
.ret))
(.seq (.draw [
aq 57 0 [],
jD 58 57 [0],
bP 59 8 58 [1],
bQ 60 1 59 [2],
aq 61 0 [],
jD 62 61 [4],
bP 63 7 62 [5],
bQ 64 1 63 [6],
eu 65 .eql 60 64 [3,7],
aq 56 65 [8]])
(.cond (.t 56)
(.seq (.ops [
fR 4 false [],
fR 5 true [0,0]])
.ret)
.skip)))))))
(.seq (.ops [
aq 66 0 [],
jD 67 66 [0],
bP 68 8 67 [1],
bQ 69 1 68 [2],
cM 70 .add 69 1 [3],
jD 71 66 [0,0,1,2,3,4],
bP 72 8 71 [5,0,1,2,3,4],
dg 1 72 70 [6,4,0,1,2,3,4]])
(.seq (.ops [
aq 73 0 [],
jD 74 73 [0],
bP 75 9 74 [1],
bQ 76 1 75 [2],
aq 77 7 [],
aq 78 6 [],
cM 79 .add 78 1 [5],
Nb (.lk true (.t 76) (.t 77) (.t 79)) [3,4,6,0,1,2,3,4,5,6]])
(.seq (.draw [
aq 80 0 [],
aq 81 0 [],
jD 82 81 [1],
bP 83 11 82 [2],
bQ 84 1 83 [3],
aq 85 0 [],
jD 86 85 [5],
bP 87 0 86 [6],
bZ 88 3 87 [7],
aq 89 0 [],
jD 90 89 [9],
bP 91 3 90 [10],
bZ 92 3 91 [11],
bZ 93 3 3 [],
aP 94 (.call 210 [.t 88,.t 92,.t 93]) [8,12,13],
aq 95 0 [],
jD 96 95 [15],
bP 97 0 96 [16],
bZ 98 3 97 [17],
aq 99 0 [],
jD 100 99 [19],
bP 101 3 100 [20],
bZ 102 3 101 [21],
bZ 103 3 3 [],
aP 104 (.call 212 [.t 98,.t 102,.t 103]) [18,22,23,14],
aP 105 (.build [.bu,.bu] [(0,1,(.t 94)),(1,1,(.t 104))]) [14,24],
aP 106 (.cv 2 1 [.bu,.bu] [(0,2,(.t 105))]) [25],
aP 107 (.append 2 48 (.t 84) (.t 106)) [4,26,24],
jD 108 80 [0,0,1,2,3,4,5,6,7,8,9,10,11,12,13,14,15,16,17,18,19,20,21,22,23,24,25,26,27],
bP 109 11 108 [28,0,1,2,3,4,5,6,7,8,9,10,11,12,13,14,15,16,17,18,19,20,21,22,23,24,25,26,27],
dg 1 109 107 [29,27,27,0,1,2,3,4,5,6,7,8,9,10,11,12,13,14,15,16,17,18,19,20,21,22,23,24,25,26,27]])
(.seq (.ops [
fR 4 false [],
fR 5 false [0,0]])
.ret))))))))⟩
def Ah:bz :=
(.seq (.seq (.ops [
aq 6 0 [],
jD 7 6 [0],
bP 8 11 7 [1],
bQ 9 1 8 [2],
fW 10 9 [3],
cM 11 .gtr 10 0 [4]])
(.cond (.t 11)
.skip
(.exit 0)))
(.block 1
(.seq (.draw [
aq 12 0 [],
jD 13 12 [0],
bP 14 11 13 [1],
bQ 15 1 14 [2],
aq 16 0 [],
jD 17 16 [4],
bP 18 11 17 [5],
bQ 19 1 18 [6],
fW 20 19 [7],
cM 21 .sub 20 1 [8],
ft 22 2 15 21 [3,9],
aq 4 22 [10,0,1,2,3,4,5,6,7,8,9,10]])
(.seq (.seq (.ops [
aq 23 4 [],
jD 24 23 [0],
bP 25 0 24 [1],
bQ 26 1 25 [2],
fW 27 26 [3],
cM 28 .gtr 27 0 [4]])
(.cond (.t 28)
(.seq (.ops [
aq 29 4 [],
jD 30 29 [0],
bP 31 1 30 [1],
bQ 32 1 31 [2],
aP 33 (.fA 3 (.t 32) (.c (.pv (.int .i64 0)))) [3],
bZ 34 3 33 [4],
aP 5 (.alloc [.bu,.pv (.int .i64 0),.pv (.int .i64 0)]) [],
dg 3 5 34 [6,5,0,1,2,3,4,5,6]])
(.seq (.draw [
aq 35 0 [],
aq 36 0 [],
jD 37 36 [1],
bP 38 10 37 [2],
bQ 39 1 38 [3],
aq 40 4 [],
jD 41 40 [5],
bP 42 0 41 [6],
bQ 43 1 42 [7],
aP 44 (.fA 4 (.t 43) (.c (.pv (.int .i64 0)))) [8],
bZ 45 4 44 [9],
aP 46 (.cv 4 1 [.pv (.int .i64 0),.pv (.int .i64 0),.pv (.int .i64 0),.pv (.int .i64 0)] [(0,4,(.t 45))]) [10],
aP 47 (.append 4 32 (.t 39) (.t 46)) [4,11],
jD 48 35 [0,0,1,2,3,4,5,6,7,8,9,10,11,12],
bP 49 10 48 [13,0,1,2,3,4,5,6,7,8,9,10,11,12],
dg 1 49 47 [14,12,12,0,1,2,3,4,5,6,7,8,9,10,11,12]])
(.seq (.draw [
aq 50 4 [],
aq 51 4 [],
aq 52 4 [],
jD 53 52 [2],
bP 54 0 53 [3],
bQ 55 1 54 [4],
aP 56 (.slice 4 (.t 55) (some (.c (.pv (.int .i64 1)))) none) [5],
aq 57 4 [],
jD 58 57 [7],
bP 59 1 58 [8],
bQ 60 1 59 [9],
aP 61 (.slice 3 (.t 60) (some (.c (.pv (.int .i64 1)))) none) [10],
jD 62 50 [0,0,2,3,4,5,6,10],
bP 63 0 62 [12,0,2,3,4,5,6,10],
dg 1 63 56 [13,6,0,2,3,4,5,6,10],
jD 64 51 [1,0,1,2,3,4,5,6,7,8,9,10,11,12,13,14],
bP 65 1 64 [15,0,1,2,3,4,5,6,7,8,9,10,11,12,13,14],
dg 1 65 61 [16,11,14,0,1,2,3,4,5,6,7,8,9,10,11,12,13,14]])
(.seq (.ops [
bZ 66 3 5 [],
dg 3 2 66 [0,0],
fR 3 true [1,0,1]])
.ret))))
.skip))
(.seq (.draw [
aq 67 0 [],
aq 68 0 [],
jD 69 68 [1],
bP 70 11 69 [2],
bQ 71 1 70 [3],
aq 72 0 [],
jD 73 72 [5],
bP 74 11 73 [6],
bQ 75 1 74 [7],
fW 76 75 [8],
cM 77 .sub 76 1 [9],
aP 78 (.slice 2 (.t 71) none (some (.t 77))) [4,10],
jD 79 67 [0,0,1,2,3,4,5,6,7,8,9,10,11],
bP 80 11 79 [12,0,1,2,3,4,5,6,7,8,9,10,11],
dg 1 80 78 [13,11,0,1,2,3,4,5,6,7,8,9,10,11]])
(.seq (.ops [
aq 81 0 [],
jD 82 81 [0],
bP 83 10 82 [1],
bQ 84 1 83 [2],
fW 85 84 [3],
cM 86 .gtr 85 0 [4]])
(.cond (.t 86)
(.draw [
aq 87 0 [],
aq 88 0 [],
jD 89 88 [1],
bP 90 10 89 [2],
bQ 91 1 90 [3],
aq 92 0 [],
jD 93 92 [5],
bP 94 10 93 [6],
bQ 95 1 94 [7],
fW 96 95 [8],
cM 97 .sub 96 1 [9],
aP 98 (.slice 4 (.t 91) none (some (.t 97))) [4,10],
jD 99 87 [0,0,1,2,3,4,5,6,7,8,9,10,11],
bP 100 10 99 [12,0,1,2,3,4,5,6,7,8,9,10,11],
dg 1 100 98 [13,11,0,1,2,3,4,5,6,7,8,9,10,11]])
.skip)))))))
def f55:bg:=⟨102,[.cell 2 true 3,.t 3],
(.seq (.ops [
aP 2 (.alloc [.bu,.pv (.int .i64 0),.pv (.int .i64 0)]) [],
fR 3 false []])
(.seq (.block 0
(.loop Ah))
(.seq (.ops [
aP 101 (.build [.bu,.pv (.int .i64 0),.pv (.int .i64 0)] []) [],
dg 3 2 101 [0,0],
fR 3 false [1,0,1]])
.ret)))⟩
def yw:bz :=
(.seq (.ops [
eu 15 .lss 14 13 []])
(.seq (.cond (.t 15)
.skip
(.exit 0))
(.seq (.block 1
(.seq (.ops [
ft 16 8 12 14 [],
bZ 17 8 16 [0],
aP 5 (.alloc [.pv (.int .i64 0),.pv (.int .i64 0),.pv (.int .i64 0),.pv (.int .u64 0),.pv (.int .u64 0),.pv (.int .u64 0),.pv (.int .u64 0),.pv (.int .i64 0)]) [],
dg 8 5 17 [2,1,0,1,2]])
(.seq (.ops [
aq 18 3 [],
bP 19 0 5 [],
bQ 20 1 19 [1],
aP 21 (.conv .u64 (.t 20)) [2],
bP 22 1 5 [],
bQ 23 1 22 [4],
aP 24 (.conv .u64 (.t 23)) [5],
bP 25 2 5 [],
bQ 26 1 25 [7],
aP 27 (.conv .u64 (.t 26)) [8],
aP 28 (.cv 1 3 [.pv (.int .u64 0),.pv (.int .u64 0),.pv (.int .u64 0)] [(0,1,(.t 21)),(1,1,(.t 24)),(2,1,(.t 27))]) [3,6,9],
aP 29 (.append 1 8 (.t 18) (.t 28)) [0,10],
aq 3 29 [11,11,0,1,2,3,4,5,6,7,8,9,10,11]])
(.draw [
aq 30 3 [],
bP 31 3 5 [],
aP 32 (.gZ 4 1 (.t 31) none none) [1],
aP 33 (.append 1 8 (.t 30) (.t 32)) [0,2],
bP 34 7 5 [],
bQ 35 1 34 [4],
aP 36 (.conv .u64 (.t 35)) [5],
aP 37 (.cv 1 1 [.pv (.int .u64 0)] [(0,1,(.t 36))]) [6],
aP 38 (.append 1 8 (.t 33) (.t 37)) [3,7,3],
aq 3 38 [8,8,0,1,2,3,4,5,6,7,8]]))))
(.ops [
cM 39 .add 14 1 [],
aq 14 39 [0]]))))
def f209:bg:=⟨51,[.t 2],
(.seq (.ops [
df 1 0 [],
aP 2 (.mv (.c (.pv (.str ⟨#[]⟩)))) []])
(.seq (.ops [
bP 6 0 1 [],
bQ 7 1 6 [0],
fW 8 7 [1],
aP 9 (.conv .u64 (.t 8)) [2],
aP 10 (.cv 1 1 [.pv (.int .u64 0)] [(0,1,(.t 9))]) [3],
aq 3 10 [4,0,1,2,3,4]])
(.seq (.seq (.ops [
bP 11 0 1 [],
bQ 12 1 11 [0],
fW 13 12 [1],
cT 14 0 []])
(.block 0
(.loop yw)))
(.seq (.ops [
aq 40 3 [],
bP 41 1 1 [],
bQ 42 1 41 [1],
aP 43 (.conv .u64 (.t 42)) [2],
bP 44 2 1 [],
bQ 45 1 44 [4],
aP 46 (.conv .u64 (.t 45)) [5],
aP 47 (.cv 1 2 [.pv (.int .u64 0),.pv (.int .u64 0)] [(0,1,(.t 43)),(1,1,(.t 46))]) [3,6],
aP 48 (.append 1 8 (.t 40) (.t 47)) [0,7],
aP 49 (.call 264 [.t 48]) [8,8],
aP 50 (.G2 (.t 49)) [9],
aq 2 50 [10,9,0,1,2,3,4,5,6,7,8,9,10]])
.ret))))⟩
def yz:bz :=
(.seq (.ops [
eu 16 .lss 15 14 []])
(.seq (.cond (.t 16)
.skip
(.exit 0))
(.seq (.block 1
(.seq (.ops [
ft 17 7 13 15 [],
bZ 18 7 17 [0],
aP 9 (.alloc [.pv (.int .i64 0),.pv (.int .i64 0),.pv (.int .i64 0),.pv (.int .i64 0),.bu,.pv (.int .i64 0),.pv (.int .i64 0)]) [],
dg 7 9 18 [2,1,0,1,2]])
(.ops [
aq 19 7 [],
bP 20 4 9 [],
bZ 21 3 20 [1],
aP 22 (.cv 3 1 [.bu,.pv (.int .i64 0),.pv (.int .i64 0)] [(0,3,(.t 21))]) [2],
aP 23 (.append 3 40 (.t 19) (.t 22)) [0,3],
aq 7 23 [4,4,0,1,2,3,4]])))
(.ops [
cM 24 .add 15 1 [],
aq 15 24 [0]]))))
def f212:bg:=⟨26,[.t 6],
(.seq (.ops [
df 3 0 [],
df 4 1 [],
df 5 2 [],
aP 6 (.mv (.c .bu)) []])
(.seq (.ops [
aP 7 (.mv (.c .bu)) []])
(.seq (.seq (.ops [
bZ 10 3 3 [],
bZ 11 3 4 [],
bZ 12 3 5 [],
aP 13 (.call 213 [.t 10,.t 11,.t 12]) [0,1,2],
fW 14 13 [3],
cT 15 0 []])
(.block 0
(.loop yz)))
(.seq (.ops [
aq 25 7 [],
aq 6 25 [0,0]])
.ret))))⟩
def rR:bz :=
(.seq (.seq (.ops [
aq 54 13 []])
(.cond (.t 54)
.skip
(.exit 0)))
(.seq (.block 1
(.seq (.ops [
aq 61 12 [],
bZ 62 3 11 [],
aP 63 (.call 54 [.t 61,.t 62]) [0,1],
aq 60 63 [2],
fc 64 60 0 [3],
fc 65 60 1 [3],
aq 14 64 [4,2,0,1,2,3,4],
aq 15 65 [5,6,0,1,2,3,4,5,6]])
(.block 2
(.seq (.ops [
aq 67 14 [],
aq 66 67 [0]])
(.cond (.t 66)
(.seq (.draw [
aq 68 12 [],
jD 69 68 [0],
bP 70 10 69 [1],
bQ 71 1 70 [2],
aP 72 (.call 277 [.t 71]) [3],
aq 73 12 [],
jD 74 73 [5],
bP 75 8 74 [6],
bQ 76 1 75 [7],
aP 77 (.build [.pv (.int .i64 0),.bu,.pv (.int .i64 0)] [(0,1,(.c (.pv (.int .i64 1)))),(1,1,(.t 72)),(2,1,(.t 76))]) [4,8],
dg 3 8 77 [9,4,0,1,2,3,4,5,6,7,8,9],
jm 9 [10,0,1,2,3,4,5,6,7,8,9,10]])
.ret)
(.seq (.ops [
aq 79 15 [],
aq 78 79 [0]])
(.cond (.t 78)
(.seq (.ops [
aq 80 12 [],
jD 81 80 [0],
bP 82 8 81 [1],
bQ 83 1 82 [2],
aP 84 (.build [.pv (.int .i64 0),.bu,.pv (.int .i64 0)] [(0,1,(.c (.pv (.int .i64 3)))),(2,1,(.t 83))]) [3],
dg 3 8 84 [4,0,1,2,3,4],
jm 9 [5,0,1,2,3,4,5]])
.ret)
.skip)))))))
(.ops [
aq 56 12 [],
aP 57 (.call 55 [.t 56]) [0],
aq 55 57 [1],
fc 58 55 0 [2],
fc 59 55 1 [2],
dg 3 11 58 [3,1,0,1,2,3],
aq 13 59 [4,5,0,1,2,3,4,5]])))
def f233:bg:=⟨90,[.cell 8 true 3,.t 9],
(.seq (.ops [
df 4 0 [],
df 5 1 [],
aP 8 (.alloc [.pv (.int .i64 0),.bu,.pv (.int .i64 0)]) [],
jm 9 []])
(.seq (.seq (.ops [
bZ 16 3 4 [],
bZ 17 3 5 [],
aP 18 (.call 80 [.t 16,.t 17]) [0,1],
aq 10 18 [2,2,0,1,2]])
(.seq (.ops [
aq 19 10 [],
aP 20 (.bin .neq (some (.iface true)) (.t 19) (.c (.pv .dJ))) [0]])
(.cond (.t 20)
(.seq (.ops [
aP 21 (.build [.pv (.int .i64 0),.bu,.pv (.int .i64 0)] []) [],
aq 22 10 [],
dg 3 8 21 [0,0],
aq 9 22 [1,2,0,1,2]])
.ret)
.skip)))
(.seq (.seq (.ops [
aq 23 2 [],
cM 24 .lss 23 0 [0],
aq 25 24 [1],
eP 26 25 false 2 [2],
fV 27 25 false .gtr 26 40 [3,2],
jJ 28 25 27 [2,4],
aq 29 28 [5,2],
eP 30 29 false 3 [6],
fV 31 29 false .lss 30 0 [7,6],
jJ 32 29 31 [6,8],
aq 33 32 [9,6],
eP 34 33 false 3 [10],
fV 35 33 false .gtr 34 200000 [11,10],
jJ 36 33 35 [10,12]])
(.cond (.t 36)
(.seq (.ops [
aP 37 (.build [.pv (.int .i64 0),.bu,.pv (.int .i64 0)] []) [],
aP 38 (.kO 0 (.c (.pv (.int .i64 3)))) [],
dg 3 8 37 [0,0],
aq 9 38 [1,2,0,1,2]])
.ret)
.skip))
(.seq (.ops [
bZ 39 3 4 [],
aP 40 (.call 237 [.t 39]) [0],
aP 11 (.alloc [.bu,.pv (.int .i64 0),.pv (.int .i64 0)]) [],
dg 3 11 40 [2,1,1,0,1,2]])
(.seq (.seq (.ops [
bZ 41 3 4 [],
bZ 42 3 5 [],
bZ 43 3 11 [],
aP 44 (.call 222 [.t 41,.t 42,.t 43]) [0,1,2],
aP 45 (.not (.t 44)) [3]])
(.cond (.t 45)
(.seq (.ops [
aP 46 (.build [.pv (.int .i64 0),.bu,.pv (.int .i64 0)] [(0,1,(.c (.pv (.int .i64 2))))]) [],
dg 3 8 46 [0,0],
jm 9 [1,0,1]])
.ret)
.skip))
(.seq (.ops [
bZ 47 3 4 [],
bZ 48 3 5 [],
aq 49 2 [],
aq 50 3 [],
aP 51 (.mkMap) [],
aP 52 (.build [.bu,.bu,.bu,.bu,.pv (.int .i64 0),.pv (.int .i64 0),.pv (.int .i64 0),.pv (.int .i64 0),.pv (.int .i64 0),.bot,.bu,.bu] [(0,3,(.t 47)),(3,3,(.t 48)),(6,1,(.t 49)),(7,1,(.t 50)),(9,1,(.t 51))]) [0,1,2,3,4],
df 53 52 [5],
aq 12 53 [6,0,1,2,3,4,5,6]])
(.seq (.seq (.ops [
fR 13 true []])
(.block 0
(.loop rR)))
(.seq (.ops [
aq 85 12 [],
jD 86 85 [0],
bP 87 8 86 [1],
bQ 88 1 87 [2],
aP 89 (.build [.pv (.int .i64 0),.bu,.pv (.int .i64 0)] [(0,1,(.c (.pv (.int .i64 2)))),(2,1,(.t 88))]) [3],
dg 3 8 89 [4,0,1,2,3,4],
jm 9 [5,0,1,2,3,4,5]])
.ret))))))))⟩
section
theorem I5{p:dx}(h:p.wf):(ju p).map pD=[[.int .u64 (IntKind.u64.wrap p.id)],[.int .u64 (IntKind.u64.wrap p.load)],[.int .u64 (IntKind.u64.wrap p.prio)],[.int .u64 p.jV.a],[.int .u64 p.jV.b],[.int .u64 p.jV.c],[.int .u64 p.jV.d],[.int .u64 (IntKind.u64.wrap p.node)]]:=by
 obtain⟨_,_,_,⟨h1,h2,h3,h4⟩,_⟩:=h;simp only[ju,Bo,aX,az,aG,aE,pD,xq h1,xq h2,xq h3,xq h4,mR]
theorem pS:∀l:List Nat,od (l.map sW)=some (l.map fun n:Nat=>(n:Int))
 |[]=>rfl
 |n::r=>by simp only[aX,od,sW,pS r]
section
variable{T:cL}
set_option maxRecDepth 100000 in
set_option maxHeartbeats 16000000 in
theorem HM(t:State)(hl:t.pods.length<=1000)(ht:∀p∈t.pods,p.wf)(Q:Exit->St->Prop)
    (bS:∀fr hp nx lL,lL<nx->1<=lL->look fr 1=.ptr 0 0 0->look fr 3=.ms lL->ah hp lL=.row 1 ((tj t.pods.length::t.pods.flatMap ju).map pD)->ah hp 0=.var [.pv (.slice (t.pods.map aJ)),.pv (.int .i64 t.pre),.pv (.int .i64 t.eW)]->Q (.exit 0) ⟨fr,hp,nx⟩) :
    ∀(rest:List dx) (i:Nat) (acc:List Nat),t.pods.drop i=rest->i<=t.pods.length->acc++rest.flatMap ju=tj t.pods.length::t.pods.flatMap ju->acc.length<=8*i+1->∀(fr:List (Nat×AV)) (hp:Hl) (nx lL:Nat),1<=lL->lL<nx ->
     look fr 1=.ptr 0 0 0->look fr 3=.ms lL->look fr 12=.pv (.slice (t.pods.map aJ))->look fr 13=.pv (.int .i64 t.pods.length)->look fr 14=.pv (.int .i64 i) ->
     ah hp lL=.row 1 (acc.map pD)->ah hp 0=.var [.pv (.slice (t.pods.map aJ)),.pv (.int .i64 t.pre),.pv (.int .i64 t.eW)]->Wp T false (.loop yw) ⟨fr,hp,nx⟩ Q:=by
 intro rest;induction rest with
 |nil =>
  intro i acc hd hi ho ha fr hp nx lL h1 hlt g1 g3 nU pf pg bl b0;have hlen:=drop_nil hd hi;simp only[NQ,bH]at ho;subst ho;rw[ay,aY yw.eq_1];simp only[rL',aa,simprocAttr,pf,pg,hlen,aR];refine bS _ _ _ lL hlt h1 ?_ ?_ bl b0
  all_goals try simp only[aj,Nat.reduceEqDiff,g1,g3]
 |cons p r ih =>
  intro i acc hd hi ho ha fr hp nx lL h1 hlt g1 g3 nU pf pg bl b0;obtain⟨aK,MI,hw,di,cS,hb⟩:=drop_cons hd (by omega);have wb:=ht p (dH aK);have n0:¬nx=lL:=by omega
  have n1:¬nx+1=lL:=by omega
  have n3:¬nx=0:=by omega
  have n4:¬nx+1=0:=by omega
  have n5:¬lL=0:=by omega
  have n6:¬nx+1+1=nx:=by omega
  have n7:¬lL=nx:=by omega
  have m1:¬lL=nx+1+1:=by omega
  have m2:¬lL=nx+3:=by omega
  have m3:¬nx+1+1=0:=by omega
  have m4:¬nx+3=nx:=by omega
  have m5:¬nx+1=nx:=by omega
  have m6:¬nx+1+1=nx+3:=by omega
  have m7:¬nx+4=nx+3:=by omega
  have m8:¬nx+3=nx+5:=by omega
  have m9:¬lL=nx+5:=by omega
  have OM:acc.length+3<=2^30:=by omega
  have RL:acc.length+3+4<=2^30:=by omega
  have Uk:acc.length+3+4+1<=2^30:=by omega
  rw[ay,aY yw.eq_1];simp only[rL',aa,simprocAttr,g1,g3,nU,pf,pg,MI,aK,aJ,bl,chunk,cq,bL,bW,bt,dW,fT,eN,al,aC,bU,n0,n1,OM];refine gA (ps:=[(1,7),(2,4),(2,5),(2,7),(3,4),(3,5),(3,7)]) rfl ?_;simp only[rL',aa,simprocAttr,B3,zU,dW,cd,eV,n6,n7,n0,n1,m1,m2,m4,m5,m6,m7,RL,Uk,pg,hw,List.drop_succ_cons,gH,kj,List.take_zero,aX,az,fT,eN,cq,bL,bW,chunk,bt,aM,al,aC,bU];refine⟨by simp only[iu,rL,lJ,fo,mem,keys,ix,cw,cp,cy,aE,aG,rL',aa,simprocAttr,n6,n7,n0,n1,m1,m2,m4,m5,m6,m7,bw,bh],?_⟩;refine ih (i+1) (acc++ju p) di cS (by rw[<-ho,iy,gn]) (by rw[aM];simp only[ju,Bo,aX,az,aG,aE,aC,bU];omega) _ _ _ (nx+4+1) (by omega) (by omega) ?_ ?_ ?_ ?_ ?_ ?_ ?_
  ·all_goals try simp only[aj,Nat.reduceEqDiff,g1]
  ·all_goals try simp only[aj,Nat.reduceEqDiff,]
  ·all_goals try simp only[aj,Nat.reduceEqDiff,nU]
  ·all_goals try simp only[aj,Nat.reduceEqDiff,pf]
  ·all_goals try simp only[aj,Nat.reduceEqDiff,]
  ·simp only[aj,Nat.reduceEqDiff,m8,n6];rw[bj,I5 wb];simp only[gn,aG,aE]
  ·simp only[aj,Nat.reduceEqDiff,m3,n3,n4,n5];simp only[b0]
set_option maxRecDepth 100000 in
set_option maxHeartbeats 16000000 in
theorem MX(K6:Std T 209 f209)(F3:Std T 264 f264)(hf:T.flat 264=false)(t:State)(hl:t.pods.length<=1000)(ht:∀p∈t.pods,p.wf):ba T 209 [ar t] (.str (fO t)):=by
 refine gives K6 rfl ?_;simp only[f209,rL',aa,simprocAttr,ar,bt,chunk];refine HM t hl ht _ (fun fr hp nx lL i1 i2 g1 g3 bl b0=>?_) t.pods 0 [tj t.pods.length] rfl (aN _) rfl (by simp) _ _ _ 1 (ax _) ?_ ?_ ?_ ?_ ?_ ?_ ?_ ?_
 ·have n0:¬nx=0:=by omega
  have n1:¬nx=lL:=by omega
  have n2:¬nx+1=lL:=by omega
  have n3:¬lL=nx+1:=by omega
  have wR:∀l:List dx,(l.flatMap ju).length=8*l.length:=fun l=>by
   induction l with
   |nil=>rfl
   |cons p r ih =>
    rw[iy,aM,ih];simp only[ju,Bo,aX,az,aG,aE,aC,bU];omega
  have wR:=wR t.pods;have hc:(t.pods.flatMap ju).length+1+2<=2^30:=by omega
  have k:=N9 F3 (qX t) (z7 t) (by simp only[qX,aC,aM,wR,al,bU];omega);have hk:(qX t).map pD=((tj t.pods.length::t.pods.flatMap ju).map pD)++[[.int .u64 (IntKind.u64.wrap t.pre)],[.int .u64 (IntKind.u64.wrap t.eW)]]:=by
   simp only[qX,aX,bj,az,pD,mR,aG]
  simp only[wx,ng]at k;rw[hk]at k;simp only[rL',aa,simprocAttr,g1,g3,b0,bl,n0,n1,n2,bt,chunk,cq,bL,bW,dW,fT,eN,al,aC,bU,hc];refine k.Ln hf rfl ?_ ?_
  ·simp only[lg,iE,gi,nT,uF,pB,nm,gW,iU,mkFun,ah,gP,fm,cm,rL',aa,simprocAttr,fB,sm,qH,n3]
  ·simp only[lg,iE,gi,nT,uF,pB,nm,gW,iU,mkFun,ah,gP,fm,cm,rL',aa,simprocAttr,fB,sm,qH,n3,dW,pS,fO]
 ·decide
 ·rfl
 ·rfl
 ·rfl
 ·rfl
 ·rfl
 ·simp only[aj,Nat.reduceEqDiff];rfl
 ·simp only[aj,Nat.reduceEqDiff]
end
end
section
def iR(p:Move×State):List PV:=bF p.1++[.slice (p.2.pods.map aJ),.int .i64 p.2.pre,.int .i64 p.2.eW]
def outs(s:bc)(x:Spec)(t:State)(l:List Move):List (Move×State):=l.filterMap (ry s x t)
def Iy(s:bc):AV:=.pv (.agg [.slice (s.nodes.map bB),.slice (s.aU.map bN),.slice (s.pods.map aJ)])
def sq(t:State):AV:=.pv (.agg [.slice (t.pods.map aJ),.int .i64 t.pre,.int .i64 t.eW])
structure o4(T:cL):Prop where
 s:wB T
 Hj:pP T 214 f214
 Mo:pP T 215 f215
 Hk:pP T 216 f216
 Fu:T.fP 293=some oU
 FF:T.raw 293=true
 Ft:T.fP 281=some om
 FE:T.raw 281=true
 Ov:Std T 213 f213
 Ot:Std T 210 f210
 Ou:Std T 212 f212
section
variable{T:cL}
structure xG(s:bc)(x:Spec)(t:State)(a b c o lo:Nat)(hp:Hl)(nx:Nat)(acc:List (Move×State)):Prop where
 ha:ah hp a=.var [.pv (.slice (s.nodes.map bB)),.pv (.slice (s.aU.map bN)),.pv (.slice (s.pods.map aJ))]
 hb:ah hp b=.var [.pv (.slice (x.aZ.map cg)),.pv (.int .i64 x.pre),.pv (.int .i64 x.eW)]
 hc:ah hp c=.var [.pv (.slice (t.pods.map aJ)),.pv (.int .i64 t.pre),.pv (.int .i64 t.eW)]
 ho:∃v,ah hp o=.var [v]/\fk v hp 7 (acc.map iR) lo nx
 l1:a<lo
 l2:b<lo
 l3:c<lo
 l4:o<lo
 l5:lo<=nx
 d1:a≠o
 d2:b≠o
 d3:c≠o
theorem xG.mono{s:bc}{x:Spec}{t:State}{a b c o lo nx cE:Nat}{hp hp':Hl}{acc:List (Move×State)}(h:xG s x t a b c o lo hp nx acc)(k:∀i,i<nx->ah hp' i=ah hp i)(hn:nx<=cE):xG s x t a b c o lo hp' cE acc:=by
 obtain⟨ha,hb,hc,⟨v,ho,hO⟩,l1,l2,l3,l4,l5,d1,d2,d3⟩:=h;exact⟨by rw[k _ (by omega)];exact ha,by rw[k _ (by omega)];exact hb,by rw[k _ (by omega)];exact hc,⟨v,by rw[k _ (by omega)];exact ho,hO.mono (fun i _ hi=>k i hi) hn⟩,l1,l2,l3,l4,by omega,d1,d2,d3⟩
set_option maxRecDepth 100000 in
set_option maxHeartbeats 16000000 in
theorem D0(S:o4 T)(s:bc)(x:Spec)(t:State)(m:Move)(hn:s.nodes.length<=2^29)(mJ:s.aU.length<=2^29)(wW:x.aZ.length<=2^29)(hl:t.pods.length<=2^29)(hx:∀w∈x.aZ,w.wf)(ht:∀p∈t.pods,p.wf)(hm:m.wf)
    {a b c o lo nx:Nat} {hp:Hl} {acc:List (Move×State)} (R:xG s x t a b c o lo hp nx acc) (C9:acc.length<=2^29) :
    ∃hp' cE,D T 214 [.pv (.agg (bF m)),.ptr a 0 0,.ptr b 0 0,.ptr c 0 0,.ptr o 0 0] hp nx=some (.tuple [],hp',cE)/\xG s x t a b c o lo hp' cE (acc++(ry s x t m).toList)/\nx<=cE/\∀k,k<lo->k≠o->ah hp' k=ah hp k:=by
 have hD:∃v1 pY KH,D T 214 [.pv (.agg (bF m)),.ptr a 0 0,.ptr b 0 0,.ptr c 0 0,.ptr o 0 0] hp nx=some (v1,pY,KH)/\(v1=.tuple []/\(xG s x t a b c o lo pY KH (acc++(ry s x t m).toList)/\nx<=KH/\∀k,k<lo->k≠o->ah pY k=ah hp k)):=by
  refine xB S.Hj rfl ?_;have kd:=O7 S.s s x t m hn mJ wW hl hx ht hm;obtain⟨ha,hb,hc,⟨v,ho,hO⟩,l1,l2,l3,l4,l5,d1,d2,d3⟩:=R;have na:¬nx=a:=by omega
  have nb:¬nx=b:=by omega
  have nc:¬nx=c:=by omega
  have no:¬nx=o:=by omega
  have ma:¬nx+1=a:=by omega
  have mb:¬nx+1=b:=by omega
  have mc:¬nx+1=c:=by omega
  have mo:¬nx+1=o:=by omega
  have oa:¬o=a:=fun h=>d1 h.symm;have ob:¬o=b:=fun h=>d2 h.symm;have oc:¬o=c:=fun h=>d3 h.symm;simp only[aD,bd,ar,du,bF]at kd;simp only[f214,rL',aa,simprocAttr,bF,ha,hb,hc,na,nb,nc];cases hd:nS s x t m with
  |inl e =>
   rw[hd]at kd;have e0:ry s x t m=none:=by unfold ry;rw[hd]
   simp only[gj,ar,cf,az]at kd;simp only[rL',aa,simprocAttr,kd.call,ks,jK];rw[e0];simp only[Option.toList_none,bH];refine⟨?_,by omega,fun k F4 NB=>?_⟩
   ·refine(xG.mk ha hb hc ⟨v,ho,hO⟩ l1 l2 l3 l4 l5 d1 d2 d3).mono (fun i hi=>?_) (by omega);have k1:¬nx=i:=by omega
    have k2:¬nx+1=i:=by omega
    simp only[aj,Nat.reduceEqDiff,k1,k2]
   ·have k1:¬nx=k:=by omega
    have k2:¬nx+1=k:=by omega
    simp only[aj,Nat.reduceEqDiff,k1,k2]
  |inr u =>
   rw[hd]at kd;have e0:ry s x t m=some (m,u):=by unfold ry;rw[hd]
   simp only[gj,ar]at kd;have UX:fk v ((nx+1,dy.var [.pv (.slice (u.pods.map aJ)),.pv (.int .i64 u.pre),.pv (.int .i64 u.eW)])::(nx+1,dy.var [.bu,.pv (.int .i64 0),.pv (.int .i64 0)])::(nx,dy.var [.pv (.int .i64 m.kind),.pv (.int .i64 m.eU),.pv (.int .i64 m.node),.pv (.int .i64 m.over)])::hp) 7 (acc.map iR) lo (nx+2):=(((hO.over (.inr (ax _))).over (.inr (by omega))).over (.inr (by omega))).up (by omega);obtain⟨v',W,n,a1,a2,a3,a4,a5⟩:=(UX.push (.row 7 [iR (m,u)])).QS (by omega) [iR (m,u)] (by rw[al];simp;omega);obtain rfl:v'=.ms (nx+2+1):=a4 (by simp);have pa:¬nx+2=a:=by omega
   have pb:¬nx+2=b:=by omega
   have pc:¬nx+2=c:=by omega
   have po:¬nx+2=o:=by omega
   have QP:=a2 o (by omega) (hO.ne (.inl l4));have SQ:=a2 a (by omega) (hO.ne (.inl l1));have SR:=a2 b (by omega) (hO.ne (.inl l2));have SS:=a2 c (by omega) (hO.ne (.inl l3));simp only[aj,Nat.reduceEqDiff,na,nb,nc,no,ma,mb,mc,mo,pa,pb,pc,po,ha,hb,hc,ho]at QP SQ SR SS;have a6:=a1;simp only[iR,bF,aG,aE]at a1 QP;simp only[rL',aa,simprocAttr,kd.call,chunk,cq,bL,bW,bt,dW,ho,no,mo,a1,QP,ks,jK];rw[e0];refine⟨⟨?_,?_,?_,⟨.ms (nx+2+1),?_,?_⟩,l1,l2,l3,l4,by omega,d1,d2,d3⟩,by omega,fun j RS Uw=>?_⟩
   ·simp only[aj,Nat.reduceEqDiff,oa];exact SQ
   ·simp only[aj,Nat.reduceEqDiff,ob];exact SR
   ·simp only[aj,Nat.reduceEqDiff,oc];exact SS
   ·simp only[aj,Nat.reduceEqDiff]
   ·simp only[Ei,bj,aX,az];exact a3.low l4 _
   ·have k1:¬nx=j:=by omega
    have k2:¬nx+1=j:=by omega
    have k3:¬o=j:=fun h=>Uw h.symm;have k4:¬nx+2=j:=by omega
    have:=a2 j (by omega) (hO.ne (.inl RS));simp only[aj,Nat.reduceEqDiff,k1,k2,k4]at this;simp only[aj,Nat.reduceEqDiff,k3];exact this
 obtain⟨v1,pY,KH,e,rfl,h1⟩:=hD;exact⟨pY,KH,e,h1⟩
/-! ### The loops over kinds,pods and nodes -/
def Kp(L:List Nat)(fr0 fr:List (Nat×AV)):Prop:=∀i,i∈L->look fr i=look fr0 i
theorem Kp.put{L:List Nat}{fr0 fr:List (Nat×AV)}{k:Nat}{v:AV}(hk:¬k∈L)(h:Kp L fr0 fr):Kp L fr0 ((k,v)::fr):=fun i hi=>by
 have:¬k=i:=fun e=>hk (e▸hi);rw[bG,aw this];exact h i hi
def pw(v:AV)(hp:Hl)(lo o:Nat)(l:List Int):Prop:=(l=[]/\v=.bu)\/∃id es,v=.gd id 0 l.length/\id<lo/\id≠o/\ah hp id=.row 1 es/\es.take l.length=l.map cF
theorem pw.get{v:AV}{hp:Hl}{lo o:Nat}{l:List Int}{i:Nat}{q:Int}(h:pw v hp lo o l)(hq:l[i]? =some q):∃id es,v=.gd id 0 l.length/\id<lo/\id≠o/\ah hp id=.row 1 es/\es[i]? =some [.int .i64 q]/\i<l.length:=by
 rcases h with⟨rfl,_⟩|⟨id,es,h1,h2,h3,h4,h5⟩
 ·simp at hq
 ·have hi:=(aA.1 hq).1;refine⟨id,es,h1,h2,h3,h4,?_,hi⟩;have:=de (·[i]?) h5;simp only[mf,hi,bA,fj,hq,Eh]at this;exact this
theorem pw.len{v:AV}{hp:Hl}{lo o:Nat}{l:List Int}(h:pw v hp lo o l):aO (ah hp) v=some (l.length:Nat):=by
 rcases h with⟨rfl,rfl⟩|⟨id,es,rfl,h2,h3,h4,h5⟩
 ·rfl
 ·have:=de List.length h5;rw[hZ,al]at this;simp only[aO,h4]
structure IW(s:bc)(x:Spec)(t:State):Prop where
 hn:s.nodes.length<=2^29
 mJ:s.aU.length<=2^29
 wW:x.aZ.length<=2^29
 hl:t.pods.length<=2^29
 hx:∀w∈x.aZ,w.wf
 ht:∀p∈t.pods,p.wf
theorem mP(s:bc)(x:Spec)(t:State)(l:List Move)(m:Move):outs s x t (l++[m])=outs s x t l++(ry s x t m).toList:=by
 unfold outs;rw[List.filterMap_append];cases h:ry s x t m <;>simp[h]
theorem rf(s:bc)(x:Spec)(t:State)(l:List Move):(outs s x t l).length<=l.length:=List.length_filterMap_le _ _
def oV(a b c o:Nat):AV:=.func 214 [] [.ptr a 0 0,.ptr b 0 0,.ptr c 0 0,.ptr o 0 0]
section
variable{s:bc}{x:Spec}{t:State}{a b c o lo:Nat}{hpS:Hl}{pods nodes:List Int}{fin:List Move}{Q:Exit->St->Prop}
set_option maxRecDepth 100000 in
set_option maxHeartbeats 16000000 in
theorem Kw(S:o4 T)(Z:IW s x t){kind p n:Int}(MD:∀m∈fin,m.wf)(mK:pods.length<=2^29)(pW:fin.length<=2^29){v6:AV}(h6:pw v6 hpS lo o pods){fr0:List (Nat×AV)}(g2:look fr0 2=oV a b c o)(nU:look fr0 12=.pv (.int .i64 kind))(pg:look fr0 14=.pv (.int .i64 p))(tv:look fr0 16=.pv (.int .i64 n))
    (bS:∀fr hp nx,Kp [2,6,7,12,14,16,53,54,55,66,67,68] fr0 fr->xG s x t a b c o lo hp nx (outs s x t fin)->(∀k,k<lo->k≠o->ah hp k=ah hpS k)->Q (.exit 10) ⟨fr,hp,nx⟩) :
    ∀(rest:List Int) (i:Nat) (pre:List Move),pods.drop i=rest->i<=pods.length->pre++rest.map (fun q=>(⟨kind,p,n,q⟩:Move))=fin->∀(fr:List (Nat×AV)) (hp:Hl) (nx:Nat),Kp [2,6,7,12,14,16,53,54,55,66,67,68] fr0 fr ->
     look fr 80=v6->look fr 81=.pv (.int .i64 pods.length)->look fr 82=.pv (.int .i64 i)->xG s x t a b c o lo hp nx (outs s x t pre)->(∀k,k<lo->k≠o->ah hp k=ah hpS k)->Wp T false (.loop yC) ⟨fr,hp,nx⟩ Q:=by
 intro rest;induction rest with
 |nil =>
  intro i pre hd hi ho fr hp nx hK R6 Qb Qc R hs;have hlen:=drop_nil hd hi;simp only[az,bH]at ho;subst ho;rw[ay,aY yC.eq_1];simp only[rL',aa,simprocAttr,Qb,Qc,hlen,aR];refine bS _ _ _ ?_ R hs;exact Kp.put (by decide) hK
 |cons q r ih =>
  intro i pre hd hi ho fr hp nx hK R6 Qb Qc R hs;obtain⟨aK,hlt,hw,di,cS,hb⟩:=drop_cons hd (by omega);obtain⟨id,es,rfl,e1,e2,e3,e4,e5⟩:=h6.get aK;have J1:=(hs id e1 e2).trans e3;have c2:=(hK 2 (by decide)).trans g2;have vM:=(hK 12 (by decide)).trans nU;have BP:=(hK 14 (by decide)).trans pg;have TY:=(hK 16 (by decide)).trans tv;have lj:pre.length<=2^29:=by have:=de List.length ho;rw[aM]at this;omega
  obtain⟨hp',cE,eD,R',n1,n2⟩:=D0 S s x t ⟨kind,p,n,q⟩ Z.hn Z.mJ Z.wW Z.hl Z.hx Z.ht (MD _ (by rw[<-ho];simp)) R (cQ (rf ..) lj);simp only[bF]at eD;rw[ay,aY yC.eq_1];simp only[rL',aa,simprocAttr,c2,vM,BP,TY,R6,Qb,Qc,hlt,J1,e4,e5,oV,aT,Ao];refine(dr S.Hj.raw eD).2 ?_;simp only[rL',aa,simprocAttr,hw,Qc];refine ih (i+1) (pre++[⟨kind,p,n,q⟩]) di cS (by rw[<-ho];simp) _ _ _ ?_ ?_ ?_ ?_ ?_ ?_
  ·repeat (refine Kp.put (by decide) ?_)
   exact hK
  ·all_goals try simp only[aj,Nat.reduceEqDiff,R6]
  ·all_goals try simp only[aj,Nat.reduceEqDiff,Qb]
  ·all_goals try simp only[aj,Nat.reduceEqDiff,hw]
  ·rw[mP];exact R'
  ·exact fun k h1 h2=>(n2 k h1 h2).trans (hs k h1 h2)
theorem Kp.trans{L L':List Nat}{f0 f1 f2:List (Nat×AV)}(h1:Kp L f0 f1)(h2:Kp L' f1 f2)(hs:∀i,i∈L->i∈L'):Kp L f0 f2:=fun i hi=>(h2 i (hs i hi)).trans (h1 i hi)
theorem pw.same{v:AV}{hp hp':Hl}{lo o:Nat}{l:List Int}(h:pw v hp lo o l)(hs:∀k,k<lo->k≠o->ah hp' k=ah hp k):pw v hp' lo o l:=by
 rcases h with h|⟨id,es,h1,h2,h3,h4,h5⟩
 ·exact .inl h
 ·exact .inr ⟨id,es,h1,h2,h3,(hs id h2 h3).trans h4,h5⟩
def gw(kind p n:Int)(pods:List Int):List Move:=if kind=4 then pods.map fun q=>⟨kind,p,n,q⟩else [⟨kind,p,n,0⟩]
def oS(kind p:Int)(pods nodes:List Int):List Move:=if kind=2 then [⟨kind,p,0,0⟩]else nodes.flatMap fun n=>gw kind p n pods
set_option maxRecDepth 100000 in
set_option maxHeartbeats 16000000 in
theorem Kx(S:o4 T)(Z:IW s x t){kind p:Int}(MD:∀m∈fin,m.wf)(mK:pods.length<=2^29)(nr:nodes.length<=2^29)(pW:fin.length<=2^29){v6 v7:AV}(h6:pw v6 hpS lo o pods)(h7:pw v7 hpS lo o nodes){fr0:List (Nat×AV)}(g2:look fr0 2=oV a b c o)(g6:look fr0 6=v6)(nU:look fr0 12=.pv (.int .i64 kind))(pg:look fr0 14=.pv (.int .i64 p))
    (bS:∀fr hp nx,Kp [2,6,7,12,14,53,54,55] fr0 fr->xG s x t a b c o lo hp nx (outs s x t fin)->(∀k,k<lo->k≠o->ah hp k=ah hpS k)->Q (.exit 8) ⟨fr,hp,nx⟩) :
    ∀(rest:List Int) (i:Nat) (pre:List Move),nodes.drop i=rest->i<=nodes.length->pre++rest.flatMap (fun n=>gw kind p n pods)=fin->∀(fr:List (Nat×AV)) (hp:Hl) (nx:Nat),Kp [2,6,7,12,14,53,54,55] fr0 fr ->
     look fr 66=v7->look fr 67=.pv (.int .i64 nodes.length)->look fr 68=.pv (.int .i64 i)->xG s x t a b c o lo hp nx (outs s x t pre)->(∀k,k<lo->k≠o->ah hp k=ah hpS k)->Wp T false (.loop uv) ⟨fr,hp,nx⟩ Q:=by
 intro rest;induction rest with
 |nil =>
  intro i pre hd hi ho fr hp nx hK Oj Nv Nw R hs;have hlen:=drop_nil hd hi;simp only[NQ,bH]at ho;subst ho;rw[ay,aY uv.eq_1];simp only[rL',aa,simprocAttr,Nv,Nw,hlen,aR];refine bS _ _ _ ?_ R hs;exact Kp.put (by decide) hK
 |cons n r ih =>
  intro i pre hd hi ho fr hp nx hK Oj Nv Nw R hs;obtain⟨aK,hlt,hw,di,cS,hb⟩:=drop_cons hd (by omega);obtain⟨id,es,rfl,e1,e2,e3,e4,e5⟩:=h7.get aK;have J1:=(hs id e1 e2).trans e3;have c2:=(hK 2 (by decide)).trans g2;have c6:=(hK 6 (by decide)).trans g6;have vM:=(hK 12 (by decide)).trans nU;have BP:=(hK 14 (by decide)).trans pg;rw[iy,<-gn]at ho;have lj:(pre++gw kind p n pods).length<=2^29:=by have:=de List.length ho;rw[aM]at this;omega
  have wb:∀m∈pre++gw kind p n pods,m.wf:=fun m hm=>MD m (by rw[<-ho];exact jo _ hm);by_cases h4:kind=4
  ·have Ca:gw kind p n pods=pods.map fun q=>(⟨kind,p,n,q⟩:Move):=by unfold gw;rw[aW h4]
   have k6:=(h6.same hs).len;rw[ay,aY uv.eq_1];simp only[rL',aa,simprocAttr,c2,c6,vM,BP,Oj,Nv,Nw,hlt,J1,e4,e5,h4,k6];refine Kw (hpS:=hpS) (pods:=pods) (fin:=pre++gw kind p n pods) S Z wb mK lj h6 (fr0:=_) ?_ ?_ ?_ ?_ (fun fE hp' cE k1 R1 s1=>?_) pods 0 pre rfl (aN _) (by rw[Ca]) _ _ _ (fun _ _=>rfl) ?_ ?_ ?_ R hs
   ·all_goals try simp only[aj,Nat.reduceEqDiff,c2]
   ·all_goals try simp only[aj,Nat.reduceEqDiff,vM,h4]
   ·all_goals try simp only[aj,Nat.reduceEqDiff,BP]
   ·all_goals try simp only[aj,Nat.reduceEqDiff,]
   ·have TD:=k1 66 (by decide);have TE:=k1 67 (by decide);have TF:=k1 68 (by decide);simp only[aj,Nat.reduceEqDiff,Oj,Nv,Nw]at TD TE TF;simp only[rL',aa,simprocAttr,TF,hw];refine ih (i+1) _ di cS ho _ _ _ ?_ ?_ ?_ ?_ R1 s1
    ·refine Kp.put (by decide) (Kp.put (by decide) (Kp.trans ?_ k1 (by decide)))
     repeat (refine Kp.put (by decide) ?_)
     exact hK
    ·all_goals try simp only[aj,Nat.reduceEqDiff,TD]
    ·all_goals try simp only[aj,Nat.reduceEqDiff,TE]
    ·all_goals try simp only[aj,Nat.reduceEqDiff,hw]
   ·all_goals try simp only[aj,Nat.reduceEqDiff,]
   ·all_goals try simp only[aj,Nat.reduceEqDiff,]
   ·all_goals try simp only[aj,Nat.reduceEqDiff,]
    rfl
  ·have Ca:gw kind p n pods=[⟨kind,p,n,0⟩]:=by unfold gw;rw[aw h4]
   rw[Ca]at ho lj wb;have uN:pre.length<=2^29:=by rw[aM]at lj;omega
   obtain⟨hp',cE,eD,R',n1,n2⟩:=D0 S s x t ⟨kind,p,n,0⟩ Z.hn Z.mJ Z.wW Z.hl Z.hx Z.ht (wb _ (by simp)) R (cQ (rf ..) uN);simp only[bF]at eD;rw[ay,aY uv.eq_1];simp only[rL',aa,simprocAttr,c2,c6,vM,BP,Oj,Nv,Nw,hlt,J1,e4,e5,h4,oV,aT,Ao];refine(dr S.Hj.raw eD).2 ?_;simp only[rL',aa,simprocAttr,hw,Nw];refine ih (i+1) (pre++[⟨kind,p,n,0⟩]) di cS ho _ _ _ ?_ ?_ ?_ ?_ ?_ ?_
   ·repeat (refine Kp.put (by decide) ?_)
    exact hK
   ·all_goals try simp only[aj,Nat.reduceEqDiff,Oj]
   ·all_goals try simp only[aj,Nat.reduceEqDiff,Nv]
   ·all_goals try simp only[aj,Nat.reduceEqDiff,hw]
   ·rw[mP];exact R'
   ·exact fun k h1 h2=>(n2 k h1 h2).trans (hs k h1 h2)
set_option maxRecDepth 100000 in
set_option maxHeartbeats 16000000 in
theorem Ky(S:o4 T)(Z:IW s x t){kind:Int}(MD:∀m∈fin,m.wf)(mK:pods.length<=2^29)(nr:nodes.length<=2^29)(pW:fin.length<=2^29){v6 v7:AV}(h6:pw v6 hpS lo o pods)(h7:pw v7 hpS lo o nodes){fr0:List (Nat×AV)}(g2:look fr0 2=oV a b c o)(g6:look fr0 6=v6)(g7:look fr0 7=v7)(nU:look fr0 12=.pv (.int .i64 kind))
    (bS:∀fr hp nx,Kp [2,6,7,12] fr0 fr->xG s x t a b c o lo hp nx (outs s x t fin)->(∀k,k<lo->k≠o->ah hp k=ah hpS k)->Q (.exit 6) ⟨fr,hp,nx⟩) :
    ∀(rest:List Int) (i:Nat) (pre:List Move),pods.drop i=rest->i<=pods.length->pre++rest.flatMap (fun p=>oS kind p pods nodes)=fin->∀(fr:List (Nat×AV)) (hp:Hl) (nx:Nat),Kp [2,6,7,12] fr0 fr ->
     look fr 53=v6->look fr 54=.pv (.int .i64 pods.length)->look fr 55=.pv (.int .i64 i)->xG s x t a b c o lo hp nx (outs s x t pre)->(∀k,k<lo->k≠o->ah hp k=ah hpS k)->Wp T false (.loop uw) ⟨fr,hp,nx⟩ Q:=by
 intro rest;induction rest with
 |nil =>
  intro i pre hd hi ho fr hp nx hK Oh Nt Nu R hs;have hlen:=drop_nil hd hi;simp only[NQ,bH]at ho;subst ho;rw[ay,aY uw.eq_1];simp only[rL',aa,simprocAttr,Nt,Nu,hlen,aR];refine bS _ _ _ ?_ R hs;exact Kp.put (by decide) hK
 |cons p r ih =>
  intro i pre hd hi ho fr hp nx hK Oh Nt Nu R hs;obtain⟨aK,hlt,hw,di,cS,hb⟩:=drop_cons hd (by omega);obtain⟨id,es,UQ,e1,e2,e3,e4,e5⟩:=h6.get aK;have J1:=(hs id e1 e2).trans e3;have Oi:=Oh;rw[UQ]at Oh;have c2:=(hK 2 (by decide)).trans g2;have c6:=(hK 6 (by decide)).trans g6;have c7:=(hK 7 (by decide)).trans g7;have vM:=(hK 12 (by decide)).trans nU;rw[iy,<-gn]at ho;have lj:(pre++oS kind p pods nodes).length<=2^29:=by have:=de List.length ho;rw[aM]at this;omega
  have wb:∀m∈pre++oS kind p pods nodes,m.wf:=fun m hm=>MD m (by rw[<-ho];exact jo _ hm);by_cases k2:kind=2
  ·have Ca:oS kind p pods nodes=[⟨kind,p,0,0⟩]:=by unfold oS;rw[aW k2]
   rw[Ca]at ho lj wb;have uN:pre.length<=2^29:=by rw[aM]at lj;omega
   obtain⟨hp',cE,eD,R',n1,n2⟩:=D0 S s x t ⟨kind,p,0,0⟩ Z.hn Z.mJ Z.wW Z.hl Z.hx Z.ht (wb _ (by simp)) R (cQ (rf ..) uN);simp only[bF]at eD;rw[ay,aY uw.eq_1];simp only[rL',aa,simprocAttr,c2,vM,Oh,Nt,Nu,hlt,J1,e4,e5,k2,oV,aT,Ao];rw[k2]at eD;refine(dr S.Hj.raw eD).2 ?_;simp only[rL',aa,simprocAttr,hw,Nu];refine ih (i+1) (pre++[⟨kind,p,0,0⟩]) di cS ho _ _ _ ?_ ?_ ?_ ?_ ?_ ?_
   ·repeat (refine Kp.put (by decide) ?_)
    exact hK
   ·all_goals try simp only[aj,Nat.reduceEqDiff,Oi]
   ·all_goals try simp only[aj,Nat.reduceEqDiff,Nt]
   ·all_goals try simp only[aj,Nat.reduceEqDiff,hw]
   ·rw[mP];exact R'
   ·exact fun k h1 h2=>(n2 k h1 h2).trans (hs k h1 h2)
  ·have Ca:oS kind p pods nodes=nodes.flatMap fun n=>gw kind p n pods:=by unfold oS;rw[aw k2]
   have k7:=(h7.same hs).len;rw[ay,aY uw.eq_1];simp only[rL',aa,simprocAttr,c2,c7,vM,Oh,Nt,Nu,hlt,J1,e4,e5,k2,k7];refine Kx (hpS:=hpS) (pods:=pods) (nodes:=nodes) (fin:=pre++oS kind p pods nodes) S Z (kind:=kind) (p:=p) wb mK nr lj h6 h7 (fr0:=_) ?_ ?_ ?_ ?_ (fun fE hp' cE k1 R1 s1=>?_) nodes 0 pre rfl (aN _) (by rw[Ca]) _ _ _ (fun _ _=>rfl) ?_ ?_ ?_ R hs
   ·all_goals try simp only[aj,Nat.reduceEqDiff,c2]
   ·all_goals try simp only[aj,Nat.reduceEqDiff,c6]
   ·all_goals try simp only[aj,Nat.reduceEqDiff,vM]
   ·all_goals try simp only[aj,Nat.reduceEqDiff,]
   ·have TA:=k1 53 (by decide);have TB:=k1 54 (by decide);have TC:=k1 55 (by decide);simp only[aj,Nat.reduceEqDiff,Oi,Nt,Nu]at TA TB TC;simp only[rL',aa,simprocAttr,TC,hw];refine ih (i+1) _ di cS ho _ _ _ ?_ ?_ ?_ ?_ R1 s1
    ·refine Kp.put (by decide) (Kp.put (by decide) (Kp.trans ?_ k1 (by decide)))
     repeat (refine Kp.put (by decide) ?_)
     exact hK
    ·all_goals try simp only[aj,Nat.reduceEqDiff,TA]
    ·all_goals try simp only[aj,Nat.reduceEqDiff,TB]
    ·all_goals try simp only[aj,Nat.reduceEqDiff,hw]
   ·all_goals try simp only[aj,Nat.reduceEqDiff,]
   ·all_goals try simp only[aj,Nat.reduceEqDiff,]
   ·all_goals try simp only[aj,Nat.reduceEqDiff,]
    rfl
def CO(pods nodes:List Int)(kind:Int):List Move:=pods.flatMap fun p=>oS kind p pods nodes
def nv(pods nodes:List Int):Nat->Int->List Move
 |0,_=>[]
 |n+1,k=>CO pods nodes k++nv pods nodes n (k+1)
theorem uU(pods nodes:List Int):nv pods nodes 4 1=lP pods nodes:=by
 simp[nv,CO,oS,gw,lP,List.map_eq_flatMap]
set_option maxRecDepth 100000 in
set_option maxHeartbeats 16000000 in
theorem Kz(S:o4 T)(Z:IW s x t)(MD:∀m∈fin,m.wf)(mK:pods.length<=2^29)(nr:nodes.length<=2^29)(pW:fin.length<=2^29){v6 v7:AV}(h6:pw v6 hpS lo o pods)(h7:pw v7 hpS lo o nodes){fr0:List (Nat×AV)}(g2:look fr0 2=oV a b c o)(g6:look fr0 6=v6)(g7:look fr0 7=v7)
    (bS:∀fr hp nx,xG s x t a b c o lo hp nx (outs s x t fin)->Q (.exit 4) ⟨fr,hp,nx⟩) :
    ∀(n:Nat) (k:Int) (pre:List Move),1<=k->k+n=5->pre++nv pods nodes n k=fin->∀(fr:List (Nat×AV)) (hp:Hl) (nx:Nat),Kp [2,6,7] fr0 fr ->
     look fr 12=.pv (.int .i64 k)->xG s x t a b c o lo hp nx (outs s x t pre)->(∀k,k<lo->k≠o->ah hp k=ah hpS k)->Wp T false (.loop yD) ⟨fr,hp,nx⟩ Q:=by
 intro n;induction n with
 |zero =>
  intro k pre F4 hk ho fr hp nx hK nU R hs;simp only[nv,bH]at ho;subst ho;have hc:¬k<=4:=by omega
  rw[ay,aY yD.eq_1];simp only[rL',aa,simprocAttr,nU,hc];exact bS _ _ _ R
 |succ n ih =>
  intro k pre F4 hk ho fr hp nx hK nU R hs;have c2:=(hK 2 (by decide)).trans g2;have c6:=(hK 6 (by decide)).trans g6;have c7:=(hK 7 (by decide)).trans g7;have hc:k<=4:=by omega
  have hw:IntKind.i64.wrap (k+1)=k+1:=by rw[f9] <;>omega
  simp only[nv]at ho;rw[<-gn]at ho;have lj:(pre++CO pods nodes k).length<=2^29:=by have:=de List.length ho;rw[aM]at this;omega
  have wb:∀m∈pre++CO pods nodes k,m.wf:=fun m hm=>MD m (by rw[<-ho];exact jo _ hm);have k6:=(h6.same hs).len;rw[ay,aY yD.eq_1];simp only[rL',aa,simprocAttr,c6,nU,hc,k6];refine Ky (hpS:=hpS) (pods:=pods) (nodes:=nodes) (fin:=pre++CO pods nodes k) S Z (kind:=k) wb mK nr lj h6 h7 (fr0:=_) ?_ ?_ ?_ ?_ (fun fE hp' cE k1 R1 s1=>?_) pods 0 pre rfl (aN _) rfl _ _ _ (fun _ _=>rfl) ?_ ?_ ?_ R hs
  ·all_goals try simp only[aj,Nat.reduceEqDiff,c2]
  ·all_goals try simp only[aj,Nat.reduceEqDiff,c6]
  ·all_goals try simp only[aj,Nat.reduceEqDiff,c7]
  ·all_goals try simp only[aj,Nat.reduceEqDiff,nU]
  ·have Ty:=k1 12 (by decide);simp only[aj,Nat.reduceEqDiff,nU]at Ty;simp only[rL',aa,simprocAttr,Ty,hw];refine ih (k+1) _ (by omega) (by omega) ho _ _ _ ?_ ?_ R1 s1
   ·refine Kp.put (by decide) (Kp.put (by decide) (Kp.put (by decide) (Kp.trans ?_ k1 (by decide))))
    repeat (refine Kp.put (by decide) ?_)
    exact hK
   ·all_goals try simp only[aj,Nat.reduceEqDiff,]
  ·all_goals try simp only[aj,Nat.reduceEqDiff,]
  ·all_goals try simp only[aj,Nat.reduceEqDiff,]
  ·all_goals try simp only[aj,Nat.reduceEqDiff,]
   rfl
end
set_option maxRecDepth 100000 in
set_option maxHeartbeats 16000000 in
theorem JI(t:State)(hl:t.pods.length<=2^29){nx0:Nat}{hp0:Hl}{fr0:List (Nat×AV)}(Q:Exit->St->Prop)
    (bS:∀fr hp nx,Kp [2,3,4,7] fr0 fr->nx0<=nx->fk (look fr 6) hp 1 ((t.pods.map dx.id).map cF) nx0 nx->(∀k,k<nx0->ah hp k=ah hp0 k)->Q (.exit 0) ⟨fr,hp,nx⟩) :
    ∀(rest:List dx) (i:Nat) (acc:List Int),t.pods.drop i=rest->i<=t.pods.length->acc++rest.map dx.id=t.pods.map dx.id->∀(fr:List (Nat×AV)) (hp:Hl) (nx:Nat),Kp [2,3,4,7] fr0 fr->nx0<=nx->look fr 20=.pv (.slice (t.pods.map aJ))->look fr 21=.pv (.int .i64 t.pods.length)->look fr 22=.pv (.int .i64 i) ->
     fk (look fr 6) hp 1 (acc.map cF) nx0 nx->(∀k,k<nx0->ah hp k=ah hp0 k)->Wp T false (.loop yA) ⟨fr,hp,nx⟩ Q:=by
 intro rest;induction rest with
 |nil =>
  intro i acc hd hi ho fr hp nx hK gR h7 h8 h9 h3 hs;have hlen:=drop_nil hd hi;simp only[az,bH]at ho;subst ho;rw[ay,aY yA.eq_1];simp only[rL',aa,simprocAttr,h7,h8,h9,hlen,aR];exact bS _ _ _ (Kp.put (by decide) hK) gR (by simp only[aj,Nat.reduceEqDiff];exact h3) hs
 |cons n r ih =>
  intro i acc hd hi ho fr hp nx hK gR h7 h8 h9 h3 hs;obtain⟨aK,hlt,hw,di,cS,hb⟩:=drop_cons hd (by omega);have hlen:acc.length+1<=2^30:=by
   have:=de List.length ho;simp at this;omega
  have pY:=((h3.over (i:=nx) (b:=.var [.pv (.int .i64 0),.pv (.int .i64 0),.pv (.int .i64 0),.pv (.int .u64 0),.pv (.int .u64 0),.pv (.int .u64 0),.pv (.int .u64 0),.pv (.int .i64 0)]) (.inr (ax _))).over (i:=nx) (b:=.var (dK (aJ n))) (.inr (ax _))).up (Nat.le_succ nx);obtain⟨v',W,k,a1,a2,a3⟩:=pY.mj (by omega) (cF n.id) (by rw[al];omega);simp only[cF,aJ,dK]at a1 a2 a3;rw[ay,aY yA.eq_1];simp only[rL',aa,simprocAttr,h7,h8,h9,hlt,aK,aJ,bt,dW,chunk,cq,bL,bW,a1,hw];refine ih (i+1) (acc++[n.id]) di cS (by rw[<-ho];simp) _ _ _ ?_ (by omega) ?_ ?_ ?_ ?_ (fun j hj=>?_)
  ·repeat (refine Kp.put (by decide) ?_)
   exact hK
  ·all_goals try simp only[aj,Nat.reduceEqDiff,h7]
  ·all_goals try simp only[aj,Nat.reduceEqDiff,h8]
  ·all_goals try simp only[aj,Nat.reduceEqDiff,]
  ·simp only[aj,Nat.reduceEqDiff];simpa only[bj,aX,az,cF]using a3
  ·rw[a2 j hj];have:¬nx=j:=by omega
   simp only[aF,this,aI];exact hs j hj
set_option maxRecDepth 100000 in
set_option maxHeartbeats 16000000 in
theorem JJ(s:bc)(hl:s.nodes.length<=2^29){nx0:Nat}{hp0:Hl}{fr0:List (Nat×AV)}(Q:Exit->St->Prop)
    (bS:∀fr hp nx,Kp [2,3,4,6] fr0 fr->nx0<=nx->fk (look fr 7) hp 1 ((s.nodes.map Node.id).map cF) nx0 nx->(∀k,k<nx0->ah hp k=ah hp0 k)->Q (.exit 2) ⟨fr,hp,nx⟩) :
    ∀(rest:List Node) (i:Nat) (acc:List Int),s.nodes.drop i=rest->i<=s.nodes.length->acc++rest.map Node.id=s.nodes.map Node.id->∀(fr:List (Nat×AV)) (hp:Hl) (nx:Nat),Kp [2,3,4,6] fr0 fr->nx0<=nx->look fr 33=.pv (.slice (s.nodes.map bB))->look fr 34=.pv (.int .i64 s.nodes.length)->look fr 35=.pv (.int .i64 i) ->
     fk (look fr 7) hp 1 (acc.map cF) nx0 nx->(∀k,k<nx0->ah hp k=ah hp0 k)->Wp T false (.loop yB) ⟨fr,hp,nx⟩ Q:=by
 intro rest;induction rest with
 |nil =>
  intro i acc hd hi ho fr hp nx hK gR h7 h8 h9 h3 hs;have hlen:=drop_nil hd hi;simp only[az,bH]at ho;subst ho;rw[ay,aY yB.eq_1];simp only[rL',aa,simprocAttr,h7,h8,h9,hlen,aR];exact bS _ _ _ (Kp.put (by decide) hK) gR (by simp only[aj,Nat.reduceEqDiff];exact h3) hs
 |cons n r ih =>
  intro i acc hd hi ho fr hp nx hK gR h7 h8 h9 h3 hs;obtain⟨aK,hlt,hw,di,cS,hb⟩:=drop_cons hd (by omega);have hlen:acc.length+1<=2^30:=by
   have:=de List.length ho;simp at this;omega
  have pY:=((h3.over (i:=nx) (b:=.var [.pv (.int .i64 0),.pv (.int .i64 0),.pv (.int .u64 0),.pv (.int .u64 0),.pv (.int .u64 0),.pv (.int .u64 0),.pv (.int .u64 0),.pv (.int .u64 0),.pv (.int .u64 0),.pv (.int .u64 0)]) (.inr (ax _))).over (i:=nx) (b:=.var (dK (bB n))) (.inr (ax _))).up (Nat.le_succ nx);obtain⟨v',W,k,a1,a2,a3⟩:=pY.mj (by omega) (cF n.id) (by rw[al];omega);simp only[cF,bB,dK]at a1 a2 a3;rw[ay,aY yB.eq_1];simp only[rL',aa,simprocAttr,h7,h8,h9,hlt,aK,bB,bt,dW,chunk,cq,bL,bW,a1,hw];refine ih (i+1) (acc++[n.id]) di cS (by rw[<-ho];simp) _ _ _ ?_ (by omega) ?_ ?_ ?_ ?_ (fun j hj=>?_)
  ·repeat (refine Kp.put (by decide) ?_)
   exact hK
  ·all_goals try simp only[aj,Nat.reduceEqDiff,h7]
  ·all_goals try simp only[aj,Nat.reduceEqDiff,h8]
  ·all_goals try simp only[aj,Nat.reduceEqDiff,]
  ·simp only[aj,Nat.reduceEqDiff];simpa only[bj,aX,az,cF]using a3
  ·rw[a2 j hj];have:¬nx=j:=by omega
   simp only[aF,this,aI];exact hs j hj
set_option maxRecDepth 100000 in
theorem LK(S:o4 T){v:AV}{hp:Hl}{nx lo m:Nat}{l:List Int}(h:fk v hp 1 (l.map cF) lo m)(hl:l.length<=2^30) :
    ∃v' hp' cE,D T 216 [v] hp nx=some (v',hp',cE)/\(cE=nx/\((eo l=[]/\v'=.bu)\/∃id es,v'=.gd id 0 (eo l).length/\lo<=id/\id<m/\ah hp' id=.row 1 es/\es.take (eo l).length=(eo l).map cF)/\∀k,(k<lo\/m<=k)->ah hp' k=ah hp k):=by
 rcases h with⟨he,rfl⟩|⟨id,rfl,i1,i2,i3⟩
 ·have hz:l=[]:=by simpa using he
  subst hz;refine xB S.Hk rfl ?_;simp only[f216,rL',aa,simprocAttr];rw[dr S.FF (im S.Fu (show oU [.bu] hp nx=some (.pv (.tuple []),hp,nx)from rfl))];simp only[rL',aa,simprocAttr];rw[dr S.FE (im S.Ft (show om [.bu] hp nx=some (.bu,hp,nx)from rfl))];have hn:eo []=[]:=cu (by have:=fu [];simpa using this);simp only[rL',aa,simprocAttr,ks,jK];refine⟨.inl ?_,fun _ _=>?_⟩
  ·first|exact hn|exact⟨hn,rfl⟩
  ·first|trivial|rfl
 ·refine xB S.Hk rfl ?_;have e1:oU [.ms id] hp nx=some (.pv (.tuple []),(id,.row 1 ((ga l).map cF))::hp,nx):=by
   simp only[oU,i3,mL,hl,bA]
  have Ht:(ga l).length<=2^30:=by rw[kK];exact hl
  have e2:om [.ms id] ((id,.row 1 ((ga l).map cF))::hp) nx=some (.gd id 0 (eo l).length,(id,.row 1 ((eo l++List.replicate ((ga l).length-(eo l).length) 0).map cF))::(id,.row 1 ((ga l).map cF))::hp,nx):=by
   simp only[om,aF,bA,mL,Ht];rfl
  simp only[f216,rL',aa,simprocAttr];rw[dr S.FF (im S.Fu e1)];simp only[rL',aa,simprocAttr];rw[dr S.FE (im S.Ft e2)];simp only[rL',aa,simprocAttr,ks,jK];refine⟨.inr ⟨id,(eo l++List.replicate ((ga l).length-(eo l).length) 0).map cF,rfl,i1,i2,?_,?_⟩,fun k hk=>?_⟩
  ·simp only[aj,Nat.reduceEqDiff]
  ·rw[bj,List.take_append_of_le_length (by rw[al];exact ax _),qo (by rw[al];exact ax _)]
  ·have:¬id=k:=by omega
   simp only[aF,this,aI]
end
end
section
def nN(t:State):List PV:=[.slice (t.pods.map aJ),.int .i64 t.pre,.int .i64 t.eW]
theorem oH{α β:Type}{f:α->List β}{k:Nat}:∀(l:List α),(∀a,(f a).length<=k)->(l.flatMap f).length<=l.length*k
 |[],_=>by simp
 |a::r,h=>by
  have h1:=h a;have h2:=oH r h;rw[iy,aM,aC,ed];omega
theorem oh(pods nodes:List Int)(h1:pods.length<=500)(h2:nodes.length<=500):(lP pods nodes).length<=2^29:=by
 have a1:=oH (f:=fun p=>nodes.map fun n=>(⟨1,p,n,0⟩:Move)) (k:=nodes.length) pods (fun p=>by simp);have a2:=oH (f:=fun p=>nodes.map fun n=>(⟨3,p,n,0⟩:Move)) (k:=nodes.length) pods (fun p=>by simp);have a3:=oH (f:=fun p=>nodes.flatMap fun n=>pods.map fun q=>(⟨4,p,n,q⟩:Move)) (k:=nodes.length*pods.length) pods (fun p=>oH nodes (fun n=>by simp));have b1:pods.length*nodes.length<=500*500:=Nat.mul_le_mul h1 h2;have b2:pods.length*(nodes.length*pods.length)<=500*(500*500):=Nat.mul_le_mul h1 (Nat.mul_le_mul h2 h1);simp only[lP,aM,al];omega
section
variable{T:cL}
set_option maxRecDepth 100000 in
set_option maxHeartbeats 16000000 in
theorem Mg(S:o4 T){s:bc}{x:Spec}{t:State}(Z:IW s x t)(hs:s.wf)(hn:s.nodes.length<=500)(AB:t.pods.length<=500){a b c o nx:Nat}{hp:Hl}(R:xG s x t a b c o nx hp nx [])(ho:ah hp o=.var [.bu]) :
    ∃v1 hp' cE,D T 215 [Iy s,sq t,oV a b c o] hp nx=some (v1,hp',cE)/\(v1=.tuple []/\∃lo,o<lo/\xG s x t a b c o lo hp' cE (qu s x t)):=by
 refine xB S.Mo rfl ?_;have l5:=R.l5;have l1:=R.l1;have l2:=R.l2;have l3:=R.l3;have l4:=R.l4;simp only[f215,rL',aa,simprocAttr,Iy,sq,oV];refine JI t Z.hl (nx0:=nx+2) (hp0:=_) (fr0:=_) _ (fun JS pY KH k1 m1 o1 s1=>?_) t.pods 0 [] rfl (aN _) rfl _ _ _ (fun _ _=>rfl) (ax _) ?_ ?_ ?_ ?_ (fun _ _=>rfl)
 ·have j2:=k1 2 (by decide);have j3:=k1 3 (by decide);have j7:=k1 7 (by decide);have b3:=s1 nx (by omega);have nn:¬nx+1=nx:=by omega
  simp only[aj,Nat.reduceEqDiff,nn]at j2 j3 j7 b3;simp only[rL',aa,simprocAttr,j3,b3];refine JJ s Z.hn (nx0:=KH) (hp0:=pY) (fr0:=_) _ (fun Nr ql LN k2 m2 o2 s2=>?_) s.nodes 0 [] rfl (aN _) rfl _ _ _ (fun _ _=>rfl) (ax _) ?_ ?_ ?_ ?_ (fun _ _=>rfl)
  ·have i2:=k2 2 (by decide);have i6:=k2 6 (by decide);simp only[aj,Nat.reduceEqDiff,j2]at i2 i6;rw[<-i6]at o1;generalize h6:look Nr 6=v6 at *;generalize h7:look Nr 7=v7 at *;obtain⟨u6,S3,TI,e6,rfl,c6,y6⟩:=LK S (nx:=LN) (o1.mono (hp':=ql) (fun k _ h2=>s2 k h2) (ax _)) (by rw[al];have:=Z.hl;omega);obtain⟨u7,Pc,PG,e7,rfl,c7,y7⟩:=LK S (nx:=TI) (o2.mono (hp':=S3) (fun k h1 _=>y6 k (.inr h1)) (ax _)) (by rw[al];have:=Z.hn;omega);simp only[rL',aa,simprocAttr,h6];refine(dr S.Hk.raw e6).2 ?_;simp only[rL',aa,simprocAttr,h7];refine(dr S.Hk.raw e7).2 ?_;simp only[rL',aa,simprocAttr];have ch:∀k,k<nx->ah Pc k=ah hp k:=fun k hk=>by
    rw[y7 k (.inl (by omega)),y6 k (.inl (by omega)),s2 k (by omega),s1 k (by omega)];have q1:¬nx+1=k:=by omega
    have q2:¬nx=k:=by omega
    simp only[aj,Nat.reduceEqDiff,q1,q2]
   have L6:pw u6 Pc PG o (eo (t.pods.map dx.id)):=by
    rcases c6 with h|⟨id,es,a1,a2,a3,a4,a5⟩
    ·exact .inl h
    ·exact .inr ⟨id,es,a1,by omega,by omega,by rw[y7 id (.inl a3)];exact a4,a5⟩
   have L7:pw u7 Pc PG o (eo (s.nodes.map Node.id)):=by
    rcases c7 with h|⟨id,es,a1,a2,a3,a4,a5⟩
    ·exact .inl h
    ·exact .inr ⟨id,es,a1,by omega,by omega,a4,a5⟩
   have p1:(eo (t.pods.map dx.id)).length<=500:=by have:=fu (t.pods.map dx.id);rw[al]at this;omega
   have p2:(eo (s.nodes.map Node.id)).length<=500:=by have:=fu (s.nodes.map Node.id);rw[al]at this;omega
   have R4:xG s x t a b c o PG Pc PG (outs s x t []):=⟨(ch a l1).trans R.ha,(ch b l2).trans R.hb,(ch c l3).trans R.hc,⟨.bu,(ch o l4).trans ho,fk.nil⟩,by omega,by omega,by omega,by omega,ax _,R.d1,R.d2,R.d3⟩;refine Kz S Z (fin:=sF s t) (hpS:=Pc) (fun m hm=>tq hs Z.ht hm) (by omega) (by omega) (oh _ _ p1 p2) L6 L7 (fr0:=_) ?_ ?_ ?_ (fun fr hp nx R5=>?_) 4 1 [] (by decide) (by decide) (by rw[aE,uU];rfl) _ _ _ (fun _ _=>rfl) ?_ R4 (fun _ _ _=>rfl)
   ·all_goals try simp only[aj,Nat.reduceEqDiff,i2,oV]
   ·all_goals try simp only[aj,Nat.reduceEqDiff,]
   ·all_goals try simp only[aj,Nat.reduceEqDiff,]
   ·simp only[rL',aa,simprocAttr,ks,jK];exact⟨PG,by omega,R5⟩
   ·all_goals try simp only[aj,Nat.reduceEqDiff,]
  ·all_goals try simp only[aj,Nat.reduceEqDiff,]
  ·all_goals try simp only[aj,Nat.reduceEqDiff,]
  ·all_goals try simp only[aj,Nat.reduceEqDiff,]
   rfl
  ·simp only[aj,Nat.reduceEqDiff,j7];exact fk.nil
 ·all_goals try simp only[aj,Nat.reduceEqDiff,]
 ·all_goals try simp only[aj,Nat.reduceEqDiff,]
 ·all_goals try simp only[aj,Nat.reduceEqDiff,]
  rfl
 ·simp only[aj,Nat.reduceEqDiff];exact fk.nil
set_option maxRecDepth 100000 in
set_option maxHeartbeats 16000000 in
theorem zO(S:o4 T){s:bc}{x:Spec}{t:State}(Z:IW s x t)(hs:s.wf)(hn:s.nodes.length<=500)(AB:t.pods.length<=500):ba T 213 [aD s,bd x,ar t] (.slice ((qu s x t).map iR)):=by
 refine gives S.Ov rfl ?_;have R:xG s x t 0 1 2 3 4 [(3,.var [.bu]),(2,.var [.pv (.slice (t.pods.map aJ)),.pv (.int .i64 t.pre),.pv (.int .i64 t.eW)]),(1,.var [.pv (.slice (x.aZ.map cg)),.pv (.int .i64 x.pre),.pv (.int .i64 x.eW)]),(0,.var [.pv (.slice (s.nodes.map bB)),.pv (.slice (s.aU.map bN)),.pv (.slice (s.pods.map aJ))])] 4 []:=⟨rfl,rfl,rfl,⟨.bu,rfl,fk.nil⟩,by decide,by decide,by decide,by decide,by decide,by decide,by decide,by decide⟩;obtain⟨v1,hp',cE,e,rfl,lo,h1,R2⟩:=Mg S Z hs hn AB R rfl;obtain⟨v,g1,g2⟩:=R2.ho;simp only[Iy,sq,oV]at e;simp only[f213,rL',aa,simprocAttr,aD,bd,ar];refine(dr S.Mo.raw e).2 ?_;simp only[rL',aa,simprocAttr,g1,g2.snap]
set_option maxRecDepth 100000 in
set_option maxHeartbeats 16000000 in
theorem G7(l:List (Move×State))(hl:l.length<=2^29)(Q:Exit->St->Prop)
    (bS:∀fr hp nx,fk (look fr 7) hp 4 (l.map fun p=>bF p.1) 3 nx->Q (.exit 0) ⟨fr,hp,nx⟩) :
    ∀(rest:List (Move×State)) (i:Nat) (acc:List (Move×State)),l.drop i=rest->i<=l.length->acc++rest=l->∀(fr:List (Nat×AV)) (hp:Hl) (nx:Nat),3<=nx->look fr 13=.pv (.slice (l.map iR))->look fr 14=.pv (.int .i64 l.length)->look fr 15=.pv (.int .i64 i) ->
     fk (look fr 7) hp 4 (acc.map fun p=>bF p.1) 3 nx->Wp T false (.loop yx) ⟨fr,hp,nx⟩ Q:=by
 intro rest;induction rest with
 |nil =>
  intro i acc hd hi ho fr hp nx gR h7 h8 h9 h3;have hlen:=drop_nil hd hi;simp only[bH]at ho;subst ho;rw[ay,aY yx.eq_1];simp only[rL',aa,simprocAttr,h7,h8,h9,hlen,aR];exact bS _ _ _ (by simp only[aj,Nat.reduceEqDiff];exact h3)
 |cons n r ih =>
  intro i acc hd hi ho fr hp nx gR h7 h8 h9 h3;obtain⟨aK,hlt,hw,di,cS,hb⟩:=drop_cons hd (by omega);have hlen:acc.length+1<=2^30:=by
   have:=de List.length ho;simp at this;omega
  obtain⟨m,u⟩:=n;have pY:=((h3.over (i:=nx) (b:=.var [.pv (.int .i64 0),.pv (.int .i64 0),.pv (.int .i64 0),.pv (.int .i64 0),.bu,.pv (.int .i64 0),.pv (.int .i64 0)]) (.inr (ax _))).over (i:=nx) (b:=.var (dK (iR (m,u)))) (.inr (ax _))).up (Nat.le_succ nx);obtain⟨v',W,k,a1,a2,a3⟩:=pY.mj (by omega) (bF m) (by rw[al];omega);simp only[iR,bF,dK,aG,aE]at a1 a3;rw[ay,aY yx.eq_1];simp only[rL',aa,simprocAttr,h7,h8,h9,hlt,aK,iR,bF,aG,aE,bt,dW,chunk,cq,bL,bW,a1,hw];refine ih (i+1) (acc++[(m,u)]) di cS (by rw[<-ho];simp) _ _ _ (by omega) ?_ ?_ ?_ ?_
  ·all_goals try simp only[aj,Nat.reduceEqDiff,h7]
  ·all_goals try simp only[aj,Nat.reduceEqDiff,h8]
  ·all_goals try simp only[aj,Nat.reduceEqDiff,]
  ·simp only[aj,Nat.reduceEqDiff];simpa only[bj,aX,az,bF]using a3
set_option maxRecDepth 100000 in
set_option maxHeartbeats 16000000 in
theorem M5(S:o4 T){s:bc}{x:Spec}{t:State}(Z:IW s x t)(hs:s.wf)(hn:s.nodes.length<=500)(AB:t.pods.length<=500):ba T 210 [aD s,bd x,ar t] (.slice ((qu s x t).map fun p=>bF p.1)):=by
 have k:=zO S Z hs hn AB;have hle:(qu s x t).length<=2^29:=by
  have p1:(eo (t.pods.map dx.id)).length<=500:=by have:=fu (t.pods.map dx.id);rw[al]at this;omega
  have p2:(eo (s.nodes.map Node.id)).length<=500:=by have:=fu (s.nodes.map Node.id);rw[al]at this;omega
  exact cQ (List.length_filterMap_le _ _) (oh _ _ p1 p2)
 refine gives S.Ot rfl ?_;simp only[aD,bd,ar]at k⊢;simp only[f210,rL',aa,simprocAttr,k.call];refine G7 _ hle _ (fun fr hp nx h=>?_) (qu s x t) 0 [] rfl (aN _) rfl _ _ _ (ax _) ?_ ?_ ?_ ?_
 ·simp only[rL',aa,simprocAttr,h.snap]
 ·all_goals try simp only[aj,Nat.reduceEqDiff,]
 ·all_goals try simp only[aj,Nat.reduceEqDiff,]
 ·all_goals try simp only[aj,Nat.reduceEqDiff,]
  rfl
 ·simp only[aj,Nat.reduceEqDiff];exact fk.nil
set_option maxRecDepth 100000 in
set_option maxHeartbeats 16000000 in
theorem Ef(l:List (Move×State))(hl:l.length<=2^29)(Q:Exit->St->Prop)
    (bS:∀fr hp nx,fk (look fr 7) hp 3 (l.map fun p=>nN p.2) 3 nx->Q (.exit 0) ⟨fr,hp,nx⟩) :
    ∀(rest:List (Move×State)) (i:Nat) (acc:List (Move×State)),l.drop i=rest->i<=l.length->acc++rest=l->∀(fr:List (Nat×AV)) (hp:Hl) (nx:Nat),3<=nx->look fr 13=.pv (.slice (l.map iR))->look fr 14=.pv (.int .i64 l.length)->look fr 15=.pv (.int .i64 i) ->
     fk (look fr 7) hp 3 (acc.map fun p=>nN p.2) 3 nx->Wp T false (.loop yz) ⟨fr,hp,nx⟩ Q:=by
 intro rest;induction rest with
 |nil =>
  intro i acc hd hi ho fr hp nx gR h7 h8 h9 h3;have hlen:=drop_nil hd hi;simp only[bH]at ho;subst ho;rw[ay,aY yz.eq_1];simp only[rL',aa,simprocAttr,h7,h8,h9,hlen,aR];exact bS _ _ _ (by simp only[aj,Nat.reduceEqDiff];exact h3)
 |cons n r ih =>
  intro i acc hd hi ho fr hp nx gR h7 h8 h9 h3;obtain⟨aK,hlt,hw,di,cS,hb⟩:=drop_cons hd (by omega);have hlen:acc.length+1<=2^30:=by
   have:=de List.length ho;simp at this;omega
  obtain⟨m,u⟩:=n;have pY:=((h3.over (i:=nx) (b:=.var [.pv (.int .i64 0),.pv (.int .i64 0),.pv (.int .i64 0),.pv (.int .i64 0),.bu,.pv (.int .i64 0),.pv (.int .i64 0)]) (.inr (ax _))).over (i:=nx) (b:=.var (dK (iR (m,u)))) (.inr (ax _))).up (Nat.le_succ nx);obtain⟨v',W,k,a1,a2,a3⟩:=pY.mj (by omega) (nN u) (by rw[al];omega);simp only[iR,bF,nN,dK,aG,aE]at a1 a3;rw[ay,aY yz.eq_1];simp only[rL',aa,simprocAttr,h7,h8,h9,hlt,aK,iR,bF,nN,aG,aE,bt,dW,chunk,cq,bL,bW,a1,hw];refine ih (i+1) (acc++[(m,u)]) di cS (by rw[<-ho];simp) _ _ _ (by omega) ?_ ?_ ?_ ?_
  ·all_goals try simp only[aj,Nat.reduceEqDiff,h7]
  ·all_goals try simp only[aj,Nat.reduceEqDiff,h8]
  ·all_goals try simp only[aj,Nat.reduceEqDiff,]
  ·simp only[aj,Nat.reduceEqDiff];simpa only[bj,aX,az,bF,nN]using a3
set_option maxRecDepth 100000 in
set_option maxHeartbeats 16000000 in
theorem Jg(S:o4 T){s:bc}{x:Spec}{t:State}(Z:IW s x t)(hs:s.wf)(hn:s.nodes.length<=500)(AB:t.pods.length<=500):ba T 212 [aD s,bd x,ar t] (.slice ((qu s x t).map fun p=>nN p.2)):=by
 have k:=zO S Z hs hn AB;have hle:(qu s x t).length<=2^29:=by
  have p1:(eo (t.pods.map dx.id)).length<=500:=by have:=fu (t.pods.map dx.id);rw[al]at this;omega
  have p2:(eo (s.nodes.map Node.id)).length<=500:=by have:=fu (s.nodes.map Node.id);rw[al]at this;omega
  exact cQ (List.length_filterMap_le _ _) (oh _ _ p1 p2)
 refine gives S.Ou rfl ?_;simp only[aD,bd,ar]at k⊢;simp only[f212,rL',aa,simprocAttr,k.call];refine Ef _ hle _ (fun fr hp nx h=>?_) (qu s x t) 0 [] rfl (aN _) rfl _ _ _ (ax _) ?_ ?_ ?_ ?_
 ·simp only[rL',aa,simprocAttr,h.snap]
 ·all_goals try simp only[aj,Nat.reduceEqDiff,]
 ·all_goals try simp only[aj,Nat.reduceEqDiff,]
 ·all_goals try simp only[aj,Nat.reduceEqDiff,]
  rfl
 ·simp only[aj,Nat.reduceEqDiff];exact fk.nil
end
end
theorem Ap(o:Option Int):(Option.map (PV.int .i64) o).getD (PV.int .i64 0)=PV.int .i64 (o.getD 0):=by cases o <;>rfl
section
def Am(f:List (Move×State)):List PV:=[.slice (f.map fun p=>bF p.1),.slice (f.map fun p=>nN p.2)]
def va(l:List (ByteArray×Int)):List (PV×PV):=l.map fun q=>(.str q.1,.int .i64 q.2)
theorem DP(a b:ByteArray):NG true (.str a) (.str b)=some (decide (a=b)):=by
 simp only[NG,BK]
theorem sa(k:ByteArray):∀l:List (ByteArray×Int),lY true (.str k) (va l)=some ((AP k l).map (.int .i64))
 |[]=>rfl
 |(a,n)::r=>by
  have ih:=sa k r;simp only[va]at ih;simp only[va,aX,lY,DP,AP];by_cases h:k=a
  ·simp[h]
  ·simp[h,ih]
theorem AY(k:ByteArray)(v:Int):∀l:List (ByteArray×Int),oJ true (.str k) (.int .i64 v) (va l)=some (va (CU k v l))
 |[]=>rfl
 |(a,n)::r=>by
  have ih:=AY k v r;simp only[va]at ih;simp only[va,aX,oJ,DP,CU];by_cases h:k=a
  ·simp[h]
  ·simp[h,ih]
/-! ### Rows that grow and shrink -/
def fx(v:AV)(hp:Hl)(sz:Nat)(es:List (List PV))(lo nx:Nat):Prop:=(es=[]/\v=.bu)\/∃id lI,lo<=id/\id<nx/\(v=.ms id/\lI=es\/v=.gd id 0 es.length/\lI.take es.length=es)/\ah hp id=.row sz lI
section
variable{v:AV}{hp hp':Hl}{sz lo nx cE:Nat}{es:List (List PV)}
theorem fx.of(h:fk v hp sz es lo nx):fx v hp sz es lo nx:=by
 rcases h with h|⟨id,rfl,a,b,c⟩
 ·exact .inl h
 ·exact .inr ⟨id,es,a,b,.inl ⟨rfl,rfl⟩,c⟩
theorem fx.len(h:fx v hp sz es lo nx):aO (ah hp) v=some es.length:=by
 rcases h with⟨rfl,rfl⟩|⟨id,lI,a,b,⟨rfl,rfl⟩|⟨rfl,c⟩,d⟩
 ·rfl
 ·simp only[aO,d]
 ·simp only[aO,d]
theorem fx.mono(h:fx v hp sz es lo nx)(h1:∀k,lo<=k->k<nx->k∈cw v->ah hp' k=ah hp k)(h2:nx<=cE):fx v hp' sz es lo cE:=by
 rcases h with h|⟨id,lI,a,b,c,d⟩
 ·exact .inl h
 ·refine .inr ⟨id,lI,a,by omega,c,?_⟩;rw[h1 id a b (by rcases c with⟨rfl,_⟩|⟨rfl,_⟩ <;>simp[cw])];exact d
theorem fx.mj(h:fx v hp sz es lo nx)(Hu:lo<=nx)(e:List PV)(hl:es.length+1<=2^30) :
    ∃W,fT (ah ((nx,.row sz [e])::hp)) (nx+1) sz v [e]=some (.ms (nx+1),W,1)/\(∀k,k<nx->¬k∈cw v->ah (W++(nx,.row sz [e])::hp) k=ah hp k)/\ah (W++(nx,.row sz [e])::hp) (nx+1)=.row sz (es++[e]):=by
 rcases h with⟨rfl,rfl⟩|⟨id,lI,a,b,c,d⟩
 ·refine⟨[(nx+1,.row sz [e])],?_,fun k hk _=>?_,?_⟩
  ·have:[e].length<=2^30:=by simp
   simp only[fT,this,bA]
  ·have h1:¬nx+1=k:=by omega
   have h2:¬nx=k:=by omega
   simp only[aG,aE,aF,h1,h2,aI]
  ·simp only[aG,aE,aF,bA]
 ·have q:¬nx=id:=by omega
  have d':ah ((nx,dy.row sz [e])::hp) id=.row sz lI:=by simp only[aF,q,aI,d]
  have Lu:eN (ah ((nx,dy.row sz [e])::hp)) sz v=some (id,es)/\v≠ .bu/\cw v=[id]:=by
   rcases c with⟨rfl,rfl⟩|⟨rfl,c⟩
   ·exact⟨by simp only[eN,d',cm],by simp,rfl⟩
   ·have hle:es.length<=lI.length:=by have:=de List.length c;rw[hZ]at this;omega
    have:Nat.ble es.length lI.length=true:=by rw[Nat.ble_eq];exact hle
    exact⟨by simp only[eN,d',cm,this,c],by simp,rfl⟩
  refine⟨[(id,.dead),(nx+1,.row sz (es++[e]))],?_,fun k hk ew=>?_,?_⟩
  ·have P1:es.length+[e].length<=2^30:=hl;rcases c with⟨rfl,_⟩|⟨rfl,_⟩ <;>simp only[fT,Lu.1,P1,bA]
  ·have h1:¬nx+1=k:=by omega
   have h2:¬nx=k:=by omega
   have h3:¬id=k:=fun h=>ew (by rw[Lu.2.2,h];simp);simp only[aG,aE,aF,h1,h2,h3,aI]
  ·have h3:¬id=nx+1:=by omega
   simp only[aG,aE,aF,h3,bA,aI]
theorem fx.low(h:fx v hp sz es lo nx):∀i,i∈cw v->lo<=i/\i<nx:=by
 rcases h with⟨_,rfl⟩|⟨id,lI,a,b,⟨rfl,_⟩|⟨rfl,_⟩,d⟩ <;>intro i hi <;>simp[cw]at hi
 ·subst hi;exact⟨a,b⟩
 ·subst hi;exact⟨a,b⟩
theorem fk.PD(h:fk v hp sz es lo nx)(h1:∀k,lo<=k->k<nx->k∈cw v->ah hp' k=ah hp k)(h2:nx<=cE):fk v hp' sz es lo cE:=by
 rcases h with h|⟨id,rfl,b,c,d⟩
 ·exact .inl h
 ·exact .inr ⟨id,rfl,b,by omega,by rw[h1 id b c (by simp[cw]),d]⟩
end
/-! ### The SD -/
def kB(s:bc)(x:Spec)(depth:Int)(steps spent:Nat)(mid:Nat)(wv sv:AV):dy:=.var [.pv (.slice (s.nodes.map bB)),.pv (.slice (s.aU.map bN)),.pv (.slice (s.pods.map aJ)),.pv (.slice (x.aZ.map cg)),.pv (.int .i64 x.pre),.pv (.int .i64 x.eW),.pv (.int .i64 depth),.pv (.int .i64 (steps:Nat)),.pv (.int .i64 (spent:Nat)),.map mid,wv,sv]
structure Sv(s:bc)(x:Spec)(depth:Int)(steps:Nat)(k:Sk)(kid mid:Nat)(hp:Hl)(nx:Nat):Prop where
 b:∃wv sv,ah hp kid=kB s x depth steps k.spent mid wv sv/\fk wv hp 4 (k.iG.map bF) (kid+1) nx/\fx sv hp 2 (k.stack.reverse.map Am) (kid+1) nx/\∀i,i∈cw wv->i∈cw sv->False
 m:ah hp mid=.map (va k.met)
 l1:mid<kid
 l2:kid<nx
theorem Sv.grow{s:bc}{x:Spec}{depth:Int}{steps:Nat}{k:Sk}{kid mid nx LN id2 Iz:Nat}{hp ql:Hl}{wv sv:AV}{PC:List (ByteArray×Int)}{f:List (Move×State)}
    (hw:fk wv hp 4 (k.iG.map bF) (kid+1) nx) (wQ:∀i,i∈cw wv->i∈cw sv->False) (l1:mid<kid)
    (e1:ah ql kid=kB s x depth steps Iz mid wv (.ms id2)) (e2:ah ql id2=.row 2 (k.stack.reverse.map Am++[Am f])) (e3:nx<=id2) (e4:id2<LN) (e0:kid<nx) (e5:∀i,kid<i->i<nx->¬i∈cw sv->ah ql i=ah hp i) (e6:ah ql mid=.map (va PC)) :
    Sv s x depth steps ⟨PC,Iz,k.iG,f::k.stack⟩ kid mid ql LN:=by
 refine⟨⟨wv,.ms id2,e1,hw.PD (fun i h1 h2 h3=>e5 i h1 h2 (wQ i h3)) (by omega),.inr ⟨id2,_,by omega,e4,.inl ⟨rfl,rfl⟩,?_⟩,fun i h1 h2=>?_⟩,e6,l1,by omega⟩
 ·rw[e2,cp,bj];rfl
 ·have:=(fx.of hw).low i h1;simp[cw]at h2;omega
structure BA(T:cL):Prop where
 s:o4 T
 f:Gh T
 K6:Std T 209 f209
 F3:Std T 264 f264
 Ls:T.flat 264=false
 RB:pP T 54 f54
 RC:pP T 55 f55
def QW(s:bc)(x:Spec)(depth:Int)(steps:Nat)(k:Sk)(t:State)(kid mid:Nat)(v:AV)(hp:Hl)(nx:Nat):Prop:=match iv s x depth steps k t with
 | .done=>v=.tuple [.pv (.bool true),.pv (.bool false)]/\Sv s x depth steps k kid mid hp nx
 | .over=>v=.tuple [.pv (.bool false),.pv (.bool true)]/\Sv s x depth steps k kid mid hp nx
 | .go k'=>v=.tuple [.pv (.bool false),.pv (.bool false)]/\Sv s x depth steps k' kid mid hp nx
section
variable{T:cL}
set_option maxRecDepth 100000 in
set_option maxHeartbeats 16000000 in
theorem JK(S:BA T){s:bc}{x:Spec}{t:State}{depth:Int}{steps:Nat}{k:Sk}(Z:IW s x t)(hs:s.wf)(hn:s.nodes.length<=500)(AB:t.pods.length<=500)(MB:depth<=1000)(Vx:(k.iG.length:Int)<=depth)(jb:steps<=1000000)(J9:k.spent<=steps)(VH:k.stack.length<=100000)
    {kid mid nx:Nat} {hp:Hl} (V:Sv s x depth steps k kid mid hp nx) :
    ∃v hp' cE,D T 54 [.ptr kid 0 0,sq t] hp nx=some (v,hp',cE)/\(nx<=cE/\(∀i,i<mid->ah hp' i=ah hp i)/\QW s x depth steps k t kid mid v hp' cE):=by
 refine xB S.RB rfl ?_;obtain⟨⟨wv,sv,hb,hw,hv,wQ⟩,hm,l1,l2⟩:=V;have kk:=MX S.K6 S.F3 S.Ls t (by omega) Z.ht;have kg:=Aq S.f.s5 S.f.w6 S.f.Ka x t (by have:=Z.wW;omega) (by omega);have kf:=Mi S.f x t Z.wW (by omega);simp only[ar,bd]at kk kg kf;have n1:¬nx=kid:=by omega
 have n2:¬nx=mid:=by omega
 have Ps:=hw.over (i:=nx) (b:=.var [.pv (.slice (t.pods.map aJ)),.pv (.int .i64 t.pre),.pv (.int .i64 t.eW)]) (.inr (ax _));have MG:=Ps.len;rw[al]at MG;have Qu:IntKind.i64.wrap (depth-(k.iG.length:Int))=depth-k.iG.length:=by rw[f9] <;>omega
 have Ay:=hb;simp only[kB]at hb;simp only[f54,rL',aa,simprocAttr,sq];refine(cz rfl).2 ?_;simp only[rL',aa,simprocAttr,hb,n1,MG,Qu,kk.call];refine(cz rfl).2 ?_;unfold QW iv;have fin:∀(hp':Hl),(∀i,i<nx->ah hp' i=ah hp i)->Sv s x depth steps k kid mid hp' (nx+1):=fun hp' h=>⟨⟨wv,sv,(h kid l2).trans Ay,hw.mono (fun i _ hi=>h i hi) (by omega),hv.mono (fun i _ hi _=>h i hi) (by omega),wQ⟩,(h mid (by omega)).trans hm,l1,by omega⟩;cases hg:dh x.aZ t.pods with
 |true =>
  rw[hg]at kg;simp only[rL',aa,simprocAttr,hb,n1,kg.cn,ks,jK,bA];refine⟨by omega,fun i hi=>?_,?_⟩
  ·have:¬nx=i:=by omega
   simp only[this,aI]
  ·refine fin _ (fun i hi=>?_);have:¬nx=i:=by omega
   simp only[aF,this,aI]
 |false =>
  rw[hg]at kg;simp only[bK,aI];simp only[rL',aa,simprocAttr,hb,n1,kg.cn];refine(cz rfl).2 ?_;have n3:¬kid=mid:=by omega
  have n4:¬kid=nx:=by omega
  have n5:¬mid=kid:=by omega
  have n6:¬mid=nx:=by omega
  have n7:¬nx+1=kid:=by omega
  have n8:¬kid=nx+1:=by omega
  have nl:∀i,i<=kid->¬i∈cw sv:=fun i hi h=>by have:=(hv.low i h).1;omega
  have Sd:fx sv ((nx,.var [.pv (.slice (t.pods.map aJ)),.pv (.int .i64 t.pre),.pv (.int .i64 t.eW)])::hp) 2 (k.stack.reverse.map Am) (kid+1) (nx+1):=hv.mono (fun i _ hi _=>by
   have:¬nx=i:=by omega
   simp only[aF,this,aI]) (by omega)
  obtain⟨W,a1,a2,a3⟩:=Sd.mj (by omega) (Am []) (by rw[al,List.length_reverse];omega);have Q4:∀i,i<nx->¬i∈cw sv->ah (W++(nx+1,.row 2 [Am []])::(nx,.var [.pv (.slice (t.pods.map aJ)),.pv (.int .i64 t.pre),.pv (.int .i64 t.eW)])::hp) i=ah hp i:=fun i hi h2=>by
   have q2:¬nx=i:=by omega
   rw[a2 i (by omega) h2,aF,aw q2]
  have Q5:=Q4 kid l2 (nl kid (ax _));rw[hb]at Q5;have prune:(∀i,i<mid->ah ((kid,kB s x depth steps k.spent mid wv (.ms (nx+1+1)))::(W++(nx+1,.row 2 [Am []])::(nx,.var [.pv (.slice (t.pods.map aJ)),.pv (.int .i64 t.pre),.pv (.int .i64 t.eW)])::hp)) i=ah hp i)/\Sv s x depth steps ⟨k.met,k.spent,k.iG,[]::k.stack⟩ kid mid ((kid,kB s x depth steps k.spent mid wv (.ms (nx+1+1)))::(W++(nx+1,.row 2 [Am []])::(nx,.var [.pv (.slice (t.pods.map aJ)),.pv (.int .i64 t.pre),.pv (.int .i64 t.eW)])::hp)) (nx+3):=by
   refine⟨fun i hi=>?_,Sv.grow hw wQ l1 ?_ (id2:=nx+1+1) ?_ (by omega) (by omega) l2 (fun i h1 h2 h3=>?_) ?_⟩
   ·rw[aF,aw (by omega)];exact Q4 i (by omega) (nl i (by omega))
   ·rw[aF,aW rfl]
   ·rw[aF,aw (by omega)];exact a3
   ·rw[aF,aw (by omega)];exact Q4 i h2 h3
   ·rw[aF,aw n3];exact(Q4 mid (by omega) (nl mid (by omega))).trans hm
  simp only[kB,Am,az]at a1 Q5 prune;by_cases c1:depth-(k.iG.length:Int)<(mq x t:Int)
  ·rw[aW (.inl c1)];simp only[rL',aa,simprocAttr,hb,n1,kf.cn,c1,bt,chunk,cq,bL,bW,dW,a1,Q5,ks,jK];exact⟨by omega,fun i hi=>by have:=prune.1 i hi;rwa [aF]at this,prune.2⟩
  ·by_cases c2:depth-(k.iG.length:Int)<zd (fO t) k.met
   ·have rH:=c2;unfold zd at rH;rw[aW (.inr c2)];simp only[rL',aa,simprocAttr,hb,hm,n1,n2,kf.cn,c1,mapOf,mz,sa,rU,Ap,rH,bt,chunk,cq,bL,bW,dW,a1,Q5,ks,jK];exact⟨by omega,fun i hi=>by have:=prune.1 i hi;rwa [aF]at this,prune.2⟩
   ·have rH:=c2;unfold zd at rH;rw[aw (by rintro(h|h);exact c1 h;exact c2 h)];simp only[rL',aa,simprocAttr,hb,hm,n1,n2,kf.cn,c1,mapOf,mz,sa,rU,Ap,rH];refine(cz rfl).2 ?_;by_cases c3:k.spent=steps
    ·have Ew:((k.spent:Nat):Int)=((steps:Nat):Int):=by omega
     rw[aW c3];simp only[rL',aa,simprocAttr,hb,n1,Ew,ks,jK];refine⟨by omega,fun i hi=>by rw[aw (by omega)],fin _ fun i hi=>?_⟩;have:¬nx=i:=by omega
     simp only[aF,this,aI]
    ·have Ew:¬((k.spent:Nat):Int)=((steps:Nat):Int):=by omega
     rw[aw c3];have UT:IntKind.i64.wrap (depth-(k.iG.length:Int)+1)=depth-k.iG.length+1:=by rw[f9] <;>omega
     have Tv:IntKind.i64.wrap ((k.spent:Int)+1)=((k.spent+1:Nat):Int):=by rw[f9] <;>omega
     have ka:=M5 S.s Z hs hn AB;have kn:=Jg S.s Z hs hn AB;simp only[aD,bd,ar]at ka kn;have MQ:fx sv ((mid,.map (va (CU (fO t) (depth-(k.iG.length:Int)+1) k.met)))::(kid,kB s x depth steps (k.spent+1) mid wv sv)::(nx,.var [.pv (.slice (t.pods.map aJ)),.pv (.int .i64 t.pre),.pv (.int .i64 t.eW)])::hp) 2 (k.stack.reverse.map Am) (kid+1) (nx+1):=hv.mono (fun i h1 hi _=>by
      have q1:¬nx=i:=by omega
      have q2:¬kid=i:=by omega
      have q3:¬mid=i:=by omega
      simp only[aF,q1,q2,q3,aI]) (by omega)
     obtain⟨W',b1,b2,b3⟩:=MQ.mj (by omega) (Am (qu s x t)) (by rw[al,List.length_reverse];omega);simp only[kB,Am]at b1 b2 b3;have SV:=b2 kid (by omega) (nl kid (ax _));simp only[aj,Nat.reduceEqDiff,n3,n5]at SV;simp only[rL',aa,simprocAttr,hb,hm,n1,n2,n3,n4,n5,Ew,UT,Tv,mapOf,mz,AY];refine gA (ps:=[(2,26),(3,26),(4,26)]) rfl ?_;simp only[rL',aa,simprocAttr,n1,n2,n3,n4,n5,n6,hb,ka.ik,kn.ik,bt,chunk,cq,bL,bW,dW,b1,SV];refine⟨by simp only[iu,rL,lJ,fo,mem,keys,ix,cw,cp,cy,aE,aG,rL',aa,simprocAttr,n1,n2,n3,n4,n5,n6,n7,n8,bw,bh],?_⟩;simp only[rL',aa,simprocAttr,ks,jK];refine⟨by omega,fun i hi=>?_,Sv.grow hw wQ l1 ?_ (id2:=nx+1+1) ?_ (by omega) (by omega) l2 (fun i h1 h2 h3=>?_) ?_⟩
     ·have q1:¬nx=i:=by omega
      have q2:¬kid=i:=by omega
      have q3:¬mid=i:=by omega
      rw[aw q2,b2 i (by omega) (nl i (by omega))];simp only[aF,q1,q2,q3,aI]
     ·rw[aF,aW rfl];rfl
     ·rw[aF,aw (by omega)];exact b3
     ·have q1:¬nx=i:=by omega
      have q2:¬kid=i:=by omega
      have q3:¬mid=i:=by omega
      rw[aF,aw q2,b2 i (by omega) h3];simp only[aF,q1,q2,q3,aI]
     ·rw[aF,aw n3,b2 mid (by omega) (nl mid (by omega))];simp only[aF,bA]
end
end
section
theorem xo{H:Hp}{sz:Nat}{e:List PV}{r:List (List PV)}(h:cq sz (e::r)=true):nZ H sz 1 none (.pv (.slice (e::r)))=some (.pv (.slice r)):=by
 simp[nZ,h]
theorem CS{α:Type}(l:List α):l=[]\/∃a b,l=a++[b]:=by
 rcases List.eq_nil_or_concat l with h|⟨a,b,h⟩
 ·exact .inl h
 ·exact .inr ⟨a,b,by rw[h,List.concat_eq_append]⟩
theorem BE(l:List (Move×State)):cq 3 (l.map fun p=>nN p.2)=true:=by
 induction l with
 |nil=>rfl
 |cons m r ih=>exact ih
theorem El(l:List (Move×State)):cq 4 (l.map fun p=>bF p.1)=true:=by
 induction l with
 |nil=>rfl
 |cons m r ih=>exact ih
theorem fx.snoc{v:AV}{hp:Hl}{sz lo nx:Nat}{rM:List (List PV)}{e:List PV}(h:fx v hp sz (rM++[e]) lo nx):∃id lI,lo<=id/\id<nx/\cw v=[id]/\ah hp id=.row sz lI/\lI[rM.length]? =some e/\rM.length<lI.length/\lI.take rM.length=rM /\
    (∀hp',ah hp' id=.row sz lI->aO (ah hp') v=some (rM.length+1)/\kE (ah hp') sz (rM.length:Nat) v=some (.ptr id rM.length 0)/\nZ (ah hp') sz 0 (some rM.length) v=some (.gd id 0 rM.length)) /\
    ∀hp' e' cE,ah hp' id=.row sz (lI.set rM.length e')->nx<=cE->fx v hp' sz (rM++[e']) lo cE:=by
 rcases h with⟨h,_⟩|⟨id,lI,a,b,⟨rfl,rfl⟩|⟨rfl,c⟩,d⟩
 ·simp at h
 ·refine⟨id,rM++[e],a,b,rfl,d,by simp,by simp,by simp,fun hp' hd=>⟨?_,?_,?_⟩,fun hp' e' cE hd hn=>.inr ⟨id,rM++[e'],a,by omega,.inl ⟨rfl,rfl⟩,?_⟩⟩
  ·simp[aO,hd]
  ·simp[kE,hd]
  ·simp[nZ,hd]
  ·rw[hd];simp
 ·have hlen:rM.length+1<=lI.length:=by have:=de List.length c;simp at this;omega
  have ht:lI.take rM.length=rM:=by
   have:=de (List.take rM.length) c;rw[List.take_take]at this;simpa using this
  have hg:lI[rM.length]? =some e:=by
   have:=de (·[rM.length]?) c;simpa using this
  refine⟨id,lI,a,b,rfl,d,hg,by omega,ht,fun hp' hd=>⟨?_,?_,?_⟩,fun hp' e' cE hd hn=>.inr ⟨id,_,a,by omega,.inr ⟨by simp,?_⟩,hd⟩⟩
  ·simp[aO,hd]
  ·simp[kE,hd]
  ·simp[nZ,hd]
  ·have:(rM++[e']).length=rM.length+1:=by simp
   rw[this,List.take_add_one,List.take_set_of_le (ax _),ht];simp[kM (show rM.length<lI.length by omega)]
theorem fx.pop{hp':Hl}{sz lo id n cE:Nat}{lI rM:List (List PV)}(a:lo<=id)(b:id<cE)(d:ah hp' id=.row sz lI)(ht:lI.take n=rM)(hn:n=rM.length):fx (.gd id 0 n) hp' sz rM lo cE :=
 .inr ⟨id,lI,a,b,.inr ⟨by rw[hn],by rw[<-hn];exact ht⟩,d⟩
structure TT(s:bc)(x:Spec)(depth:Int)(steps spent:Nat)(met:List (ByteArray×Int))(iG:List Move)(st:List (List (Move×State)))(kid mid rid:Nat)(hp:Hl)(nx:Nat):Prop where
 b:∃wv sv,ah hp kid=kB s x depth steps spent mid wv sv/\fx wv hp 4 (iG.map bF) (kid+1) nx/\fx sv hp 2 (st.reverse.map Am) (kid+1) nx/\(∀i,i∈cw wv->i∈cw sv->False)/\¬rid∈cw wv/\¬rid∈cw sv
 m:ah hp mid=.map (va met)
 r:ah hp rid=.var [.bu,.pv (.int .i64 0),.pv (.int .i64 0)]
 l1:mid<kid
 l2:kid<rid
 l3:rid<nx
section
variable{T:cL}
set_option maxRecDepth 100000 in
set_option maxHeartbeats 16000000 in
theorem Fp{s:bc}{x:Spec}{depth:Int}{steps spent:Nat}{met:List (ByteArray×Int)}{kid mid rid:Nat}{hp0:Hl}(Q:Exit->St->Prop)(o:Option (State×List Move×List (List (Move×State))))
    (bS:o=none->∀fr hp nx,look fr 0=.ptr kid 0 0->look fr 2=.ptr rid 0 0->(∃wv sv,ah hp kid=kB s x depth steps spent mid wv sv)->ah hp rid=.var [.bu,.pv (.int .i64 0),.pv (.int .i64 0)]->(∀i,i<mid->ah hp i=ah hp0 i)->Q (.exit 0) ⟨fr,hp,nx⟩)
    (dI:∀u w' bV,o=some (u,w',bV)->∀fr hp nx,look fr 2=.ptr rid 0 0->look fr 3=.pv (.bool true)->ah hp rid=.var [.pv (.slice (u.pods.map aJ)),.pv (.int .i64 u.pre),.pv (.int .i64 u.eW)]->Sv s x depth steps ⟨met,spent,w',bV⟩ kid mid hp nx->rid<nx->(∀i,i<mid->ah hp i=ah hp0 i)->Q .ret ⟨fr,hp,nx⟩) :
    ∀(st:List (List (Move×State))) (iG:List Move),fM st iG=o->st.length<=100000->iG.length<=100000->∀(fr:List (Nat×AV)) (hp:Hl) (nx:Nat),look fr 0=.ptr kid 0 0->look fr 2=.ptr rid 0 0->TT s x depth steps spent met iG st kid mid rid hp nx->(∀i,i<mid->ah hp i=ah hp0 i)->Wp T false (.loop Ah) ⟨fr,hp,nx⟩ Q:=by
 intro st;induction st with
 |nil =>
  intro iG ho MG MH fr hp nx g0 g2 V hs;obtain⟨⟨wv,sv,hb,hw,hv,wQ,q1,q2⟩,hm,hr,l1,l2,l3⟩:=V;have hlen:=hv.len;have Ay:=hb;simp only[kB]at hb;simp only[cy,az,bU]at hlen;have z0:((0:Nat):Int)=0:=rfl;rw[ay,aY Ah.eq_1];simp only[rL',aa,simprocAttr,g0,hb,hlen,z0];refine bS (by rw[<-ho];rfl) _ _ _ ?_ ?_ ⟨wv,sv,Ay⟩ hr hs
  ·all_goals try simp only[aj,Nat.reduceEqDiff,g0]
  ·all_goals try simp only[aj,Nat.reduceEqDiff,g2]
 |cons f r ih =>
  intro iG ho MG MH fr hp nx g0 g2 V hs;obtain⟨⟨wv,sv,hb,hw,hv,wQ,q1,q2⟩,hm,hr,l1,l2,l3⟩:=V;have Ay:=hb;simp only[kB]at hb;have VI:=hv;rw[cp,bj]at hv;obtain⟨id,lI,i1,i2,i3,i4,i5,i6,i7,i8,i9⟩:=hv.snoc;rw[al,List.length_reverse]at i5 i6 i7 i8 i9;obtain⟨f1,f2,f3⟩:=i8 hp i4;have hz:((r.length:Int)+1:Int)=((r.length+1:Nat):Int):=by omega
  have w9:(0:Int)<((r.length+1:Nat):Int):=by omega
  have Ps:IntKind.i64.wrap (((r.length+1:Nat):Int)-1)=(r.length:Int):=by
   simp only[aC]at MG;rw[f9] <;>omega
  have z0:((0:Nat):Int)=0:=rfl;have m1:¬id=kid:=by omega
  have m3:¬nx=kid:=by omega
  have m4:¬nx=id:=by omega
  have m5:¬nx+1=kid:=by omega
  have m6:¬nx+1=id:=by omega
  have m7:¬nx=rid:=by omega
  have m8:¬kid=rid:=by omega
  have m9:¬id=rid:=fun h=>q2 (by rw[i3,h];simp);have V8:¬kid=nx:=by omega
  have V9:¬id=nx:=by omega
  have m2:¬kid=id:=by omega
  cases f with
  |nil =>
   simp only[Am,az]at i5;rw[ay,aY Ah.eq_1];simp only[rL',aa,simprocAttr,g0,hb,f1,w9];refine(cz rfl).2 ?_;simp only[rL',aa,simprocAttr,g0,hb,f1,Ps,f2,i4,i5,z0];refine(cz rfl).2 ?_;simp only[rL',aa,simprocAttr,g0,hb,f1,Ps,nf,fe,bY,f3,rA,i4,m2];have MJ:∀B i,kid<i->ah ((kid,B)::hp) i=ah hp i:=fun B i hi=>by
    rw[aF,aw (by omega)]
   have Tt:∀B,fx wv ((kid,B)::hp) 4 (iG.map bF) (kid+1) nx:=fun B=>hw.mono (fun i h1 _ _=>MJ B i (by omega)) (ax _);have Tk:=fun B=>(Tt B).len;have Pm:∀hp',ah hp' id=.row 2 lI->fx (.gd id 0 r.length) hp' 2 (r.reverse.map Am) (kid+1) nx:=fun hp' h=>fx.pop i1 i2 h i7 (by rw[al,List.length_reverse]);have RO:∀i,i∈cw wv->i∈cw (.gd id 0 r.length)->False:=fun i h1 h2=>wQ i h1 (by rw[i3];exact h2);have Tn:¬rid∈cw (.gd id 0 r.length):=fun h=>q2 (by rw[i3];exact h);have RJ:∀B,ah ((kid,B)::hp) id=.row 2 lI:=fun B=>(MJ B id (by omega)).trans i4;have RW:∀B i,i<mid->ah ((kid,B)::hp) i=ah hp0 i:=fun B i hi=>by
    rw[aF,aw (by omega)];exact hs i hi
   rcases CS iG with rfl|⟨w0,m0,rfl⟩
   ·simp only[az,bU]at Tk;simp only[rL',aa,simprocAttr,Tk,z0];refine ih [] (by rw[<-ho];rfl) (by simp only[aC]at MG;omega) (by simp) _ _ _ ?_ ?_ ⟨⟨wv,.gd id 0 r.length,?_,Tt _,Pm _ (RJ _),RO,q1,Tn⟩,?_,?_,l1,l2,l3⟩ (RW _)
    ·all_goals try simp only[aj,Nat.reduceEqDiff,g0]
    ·all_goals try simp only[aj,Nat.reduceEqDiff,g2]
    ·rw[aF,aW rfl];rfl
    ·rw[aF,aw (by omega)];exact hm
    ·rw[aF,aw (by omega)];exact hr
   ·have VJ:=hw;rw[bj]at hw;obtain⟨wid,Vu,j1,j2,j3,j4,j5,j6,j7,j8,j9⟩:=hw.snoc;rw[al]at j5 j6 j7 j8 j9;have jB:=fun B=>j8 ((kid,B)::hp) ((MJ B wid (by omega)).trans j4);have k1:=fun B=>(jB B).1;have k3:=fun B=>(jB B).2.2;have Tu:w0.length+1<=100000:=by simpa using MH
    have wb:(0:Int)<((w0.length+1:Nat):Int):=by omega
    have MS:IntKind.i64.wrap (((w0.length+1:Nat):Int)-1)=(w0.length:Int):=by rw[f9] <;>omega
    simp only[rL',aa,simprocAttr,k1,wb];refine(cz rfl).2 ?_;simp only[rL',aa,simprocAttr,g0,k1,MS,nf,fe,bY,k3,rA];have UU:¬wid=id:=fun h=>wQ wid (by rw[j3];simp) (by rw[i3,h];simp);have NB:∀B B' i,kid<i->ah ((kid,B)::(kid,B')::hp) i=ah hp i:=fun B B' i hi=>by
     rw[aF,aw (by omega),aF,aw (by omega)]
    refine ih w0 (by rw[<-ho];simp[fM]) (by simp only[aC]at MG;omega) (by omega) _ _ _ ?_ ?_ ⟨⟨.gd wid 0 w0.length,.gd id 0 r.length,?_,?_,Pm _ ?_,?_,?_,Tn⟩,?_,?_,l1,l2,l3⟩ (fun i hi=>?_)
    ·all_goals try simp only[aj,Nat.reduceEqDiff,g0]
    ·all_goals try simp only[aj,Nat.reduceEqDiff,g2]
    ·rw[aF,aW rfl];rfl
    ·exact fx.pop j1 j2 ((NB _ _ wid (by omega)).trans j4) j7 (by rw[al])
    ·exact(NB _ _ id (by omega)).trans i4
    ·intro i h1 h2;exact wQ i (by rw[j3];exact h1) (by rw[i3];exact h2)
    ·exact fun h=>q1 (by rw[j3];exact h)
    ·rw[aF,aw (by omega),aF,aw (by omega)];exact hm
    ·rw[aF,aw (by omega),aF,aw (by omega)];exact hr
    ·rw[aF,aw (by omega),aF,aw (by omega)];exact hs i hi
  |cons p f =>
   obtain⟨m,u⟩:=p;simp only[Am,aX]at i5;rw[ay,aY Ah.eq_1];simp only[rL',aa,simprocAttr,g0,hb,f1,w9];refine(cz rfl).2 ?_;have Pf:(0:Int)<((f.length+1:Nat):Int):=by omega
   have am:=El ((m,u)::f);have au:=BE ((m,u)::f);simp only[aX]at am au;have tm:=fun H=>xo (H:=H) am;have tu:=fun H=>xo (H:=H) au;simp only[bF,nN]at i5 tm tu;have wl:∀i,i<=kid->¬i∈cw wv:=fun i hi h=>by have:=(hw.low i h).1;omega
   have wn:¬nx∈cw wv:=fun h=>by have:=(hw.low nx h).2;omega
   have wi:¬id∈cw wv:=fun h=>wQ id h (by rw[i3];simp);have UR:fx wv ((nx,.var [.pv (.slice (u.pods.map aJ)),.pv (.int .i64 u.pre),.pv (.int .i64 u.eW)])::(nx,.var [.bu,.pv (.int .i64 0),.pv (.int .i64 0)])::hp) 4 (iG.map bF) (kid+1) (nx+1):=hw.mono (fun i _ hi _=>by
    have:¬nx=i:=by omega
    simp only[aF,this,aI]) (by omega)
   obtain⟨W,b1,b2,b3⟩:=UR.mj (by omega) (bF m) (by rw[al];omega);have bk:=b2 kid (by omega) (wl kid (ax _));have bi:=b2 id (by omega) wi;have bn:=b2 nx (by omega) wn;have br:=b2 rid (by omega) q1;have bm:=b2 mid (by omega) (wl mid (by omega));simp only[bF]at b1 bk bi bn br bm b3;simp only[aj,Nat.reduceEqDiff,m3,m4,m7,hb,i4,hr]at bk bi bn br bm;have gs:=fun e1=>kM (a:=e1) i6;simp only[rL',aa,simprocAttr,g0,hb,f1,Ps,f2,i4,i5,al,Pf];refine gA (ps:=[(2,11),(3,11),(4,11)]) rfl ?_;simp only[rL',aa,simprocAttr,g0,hb,i4,i5,m3,m4,bt,chunk,cq,bL,bW,dW,b1,bk];refine⟨by simp only[iu,rL,lJ,fo,mem,keys,ix,cw,cp,cy,aE,aG,rL',aa,simprocAttr,g0,m3,m4,m5,m6,bw,bh],?_⟩;refine gA (ps:=[(11,14)]) rfl ?_;simp only[rL',aa,simprocAttr,nf,fe,ia,bi,m2,i5,tm,tu,gs];refine⟨by simp only[iu,rL,lJ,fo,mem,keys,ix,cw,cp,cy,aE,aG,rL',aa,simprocAttr,bw,bh],?_⟩;simp only[rL',aa,simprocAttr,g2,bn,br,m8,m9,V8,V9];have r1:¬rid=kid:=by omega
   have r2:¬rid=id:=fun h=>m9 h.symm;have r3:¬rid=mid:=by omega
   have r4:¬id=mid:=by omega
   have r5:¬kid=mid:=by omega
   have r6:¬rid=nx+1+1:=by omega
   have r7:¬id=nx+1+1:=by omega
   have r8:¬kid=nx+1+1:=by omega
   refine dI u (iG++[m]) (f::r) ho.symm _ _ _ ?_ ?_ ?_ ⟨⟨.ms (nx+1+1),sv,?_,.inr ⟨nx+1+1,rfl,by omega,by omega,?_⟩,?_,fun i h1 h2=>?_⟩,?_,l1,by omega⟩ (by omega) (fun i hi=>?_)
   ·all_goals try simp only[aj,Nat.reduceEqDiff,g2]
   ·all_goals try simp only[aj,Nat.reduceEqDiff,]
   ·simp only[aj,Nat.reduceEqDiff]
   ·simp only[aF,r1,m1,aI,bA];rfl
   ·simp only[aF,r6,r7,r8,aI];rw[bj];exact b3
   ·rw[cp,bj];refine i9 _ (Am f) _ ?_ (by omega);simp only[aF,r2,aI,bA,List.set_set];rfl
   ·rw[i3]at h2;simp[cw]at h1 h2;omega
   ·simp only[aF,r3,r4,r5,aI];rw[bm];have:¬nx=mid:=by omega
    simp only[this,aI];exact hm
   ·have q3:¬rid=i:=by omega
    have q4:¬id=i:=by omega
    have q5:¬kid=i:=by omega
    have q6:¬nx=i:=by omega
    simp only[aF,q3,q4,q5,aI];have:=b2 i (by omega) (wl i (by omega));simp only[bF]at this;rw[this];simp only[aF,q6,aI];exact hs i hi
set_option maxRecDepth 100000 in
set_option maxHeartbeats 16000000 in
theorem N5(S:BA T){s:bc}{x:Spec}{depth:Int}{steps:Nat}{k:Sk}{kid mid nx:Nat}{hp:Hl}(h1:k.stack.length<=100000)(h2:k.iG.length<=100000)(V:Sv s x depth steps k kid mid hp nx) :
    ∃v hp' cE,D T 55 [.ptr kid 0 0] hp nx=some (v,hp',cE)/\((∀i,i<mid->ah hp' i=ah hp i)/\match fM k.stack k.iG with
     |some (u,w,st)=>v=.tuple [.pv (.agg [.slice (u.pods.map aJ),.int .i64 u.pre,.int .i64 u.eW]),.pv (.bool true)]/\Sv s x depth steps ⟨k.met,k.spent,w,st⟩ kid mid hp' cE
     |none=>v=.tuple [.agg [.bu,.pv (.int .i64 0),.pv (.int .i64 0)],.pv (.bool false)]/\∃wv sv,ah hp' kid=kB s x depth steps k.spent mid wv sv):=by
 refine xB S.RC rfl ?_;obtain⟨⟨wv,sv,hb,hw,hv,wQ⟩,hm,l1,l2⟩:=V;have n1:¬nx=kid:=by omega
 have n2:¬nx=mid:=by omega
 have ha:∀B i,i<nx->ah ((nx,B)::hp) i=ah hp i:=fun B i hi=>by
  rw[aF,aw (by omega)]
 simp only[f55,rL',aa,simprocAttr];refine Fp (s:=s) (x:=x) (depth:=depth) (steps:=steps) (hp0:=hp) (mid:=mid) (rid:=nx) (met:=k.met) (spent:=k.spent) _ (fM k.stack k.iG) (fun ho fr hp' cE g0 g2 gb gr gs=>?_) (fun u w st ho fr hp' cE g2 g3 gr gv gx gs=>?_) k.stack k.iG rfl h1 h2 _ _ _ ?_ ?_ ⟨⟨wv,sv,?_,(fx.of hw).mono (fun i _ hi _=>ha _ i hi) (by omega),hv.mono (fun i _ hi _=>ha _ i hi) (by omega),wQ,fun h=>by have:=((fx.of hw).low nx h).2;omega,fun h=>by have:=(hv.low nx h).2;omega⟩,?_,?_,l1,l2,by omega⟩ (fun i hi=>ha _ i (by omega))
 ·rw[ho];simp only[rL',aa,simprocAttr,g2,gr,ks,jK];obtain⟨IP,M1,gb⟩:=gb;exact⟨fun i hi=>by rw[aw (by omega)];exact gs i hi,IP,M1,by rw[aw n1];exact gb⟩
 ·rw[ho];simp only[rL',aa,simprocAttr,g2,g3,gr,ks,jK];exact⟨gs,gv⟩
 ·all_goals try simp only[aj,Nat.reduceEqDiff,]
 ·all_goals try simp only[aj,Nat.reduceEqDiff,]
 ·rw[ha _ kid l2];exact hb
 ·rw[ha _ mid (by omega)];exact hm
 ·simp only[aj,Nat.reduceEqDiff]
end
end
section
theorem Bf{hp0:Hl}{id sz:Nat}{es:List (List PV)}(h:ah hp0 id=.row sz es):∀hp:Hl,ah hp id≠ .dead->id∈iE (ah hp0) hp
 |[],hn=>by simp[ah]at hn
 |(i,B)::r,hn=>by
  rw[aF]at hn;by_cases e:i=id
  ·subst e;simp only[iE,h,aS,true_or]
  ·rw[aw e]at hn;have:=Bf h r hn;unfold iE;split
   ·exact bf _ this
   ·exact this
def Jq(wv:AV)(W:List (List PV)):Prop:=(W=[]/\wv=.bu)\/wv=.pv (.slice W)
theorem uG{s:bc}{x:Spec}{depth:Int}{steps spent mid kid rid:Nat}{W:List (List PV)}(hk:kid≠rid):∀(l:List Nat) (st:St) (wv sv:AV),look st.fr 12=.ptr kid 0 0->look st.fr 8=.ptr rid 0 0->ah st.hp kid=kB s x depth steps spent mid wv sv->ah st.hp rid=.var [.pv (.int .i64 0),.bu,.pv (.int .i64 0)] ->
    (Jq wv W\/∃id,wv=.ms id/\ah st.hp id=.row 4 W/\id∈l)->look (gi l st []).1.fr 12=.ptr kid 0 0/\look (gi l st []).1.fr 8=.ptr rid 0 0/\(∃IP M1,ah (gi l st []).1.hp kid=kB s x depth steps spent mid IP M1/\Jq IP W)/\ah (gi l st []).1.hp rid=.var [.pv (.int .i64 0),.bu,.pv (.int .i64 0)]
 |[],st,wv,sv,kD,h8,hb,hr,hw=>by
  refine⟨kD,h8,⟨wv,sv,hb,?_⟩,hr⟩;rcases hw with h|⟨id,_,_,h⟩
  ·exact h
  ·simp at h
 |i::r,st,wv,sv,kD,h8,hb,hr,hw=>by
  simp only[gi];have hA:qH i st []=[]:=by
   unfold qH;split <;>rfl
  rw[hA];cases hB:ah st.hp i with
  |row sz es =>
   have e1:¬i=kid:=fun h=>by rw[h,hb]at hB;simp[kB]at hB
   have e2:¬i=rid:=fun h=>by rw[h,hr]at hB;simp at hB
   have c1:Nat.beq kid i=false:=eX (fun h=>e1 h.symm);have c2:Nat.beq rid i=false:=eX (fun h=>e2 h.symm);have hS:nT i st=⟨uF i es st.fr,(i,.dead)::pB i es st.hp,st.nx⟩:=by simp only[nT,hB]
   rw[hS];refine uG hk r _ (gW i es wv) (gW i es sv) ?_ ?_ ?_ ?_ ?_
   ·simp only[oI,kD,gW,c1,fm]
   ·simp only[oI,h8,gW,c2,fm]
   ·dsimp only;rw[aF,aw e1,kN,hb];simp only[kB,nm,iU,gW]
   ·dsimp only;rw[aF,aw e2,kN,hr];simp only[nm,iU,gW]
   ·rcases hw with(⟨h1,rfl⟩|rfl)|⟨id,rfl,h2,h3⟩
    ·exact .inl (.inl ⟨h1,by simp only[gW]⟩)
    ·exact .inl (.inr (by simp only[gW]))
    ·by_cases e:id=i
     ·subst e;rw[h2]at hB;simp only[dy.row.injEq]at hB;refine .inl (.inr ?_);simp only[gW,cm,gP,hB.2]
     ·refine .inr ⟨id,?_,?_,?_⟩
      ·simp only[gW,eX e,fm]
      ·dsimp only;rw[aF,aw (fun h=>e h.symm),kN,h2];simp only[nm]
      ·rcases aS.1 h3 with h|h
       ·exact absurd h e
       ·exact h
  |_ =>
   have hS:nT i st=st:=by simp only[nT,hB]
   rw[hS];refine uG hk r st wv sv kD h8 hb hr ?_;rcases hw with h|⟨id,h1,h2,h3⟩
   ·exact .inl h
   ·refine .inr ⟨id,h1,h2,?_⟩;rcases aS.1 h3 with h|h
    ·subst h;rw[h2]at hB;simp at hB
    ·exact h
theorem H9{T:cL}{s:bc}{x:Spec}{depth:Int}{steps spent mid kid rid:Nat}{W:List (List PV)}(hk:kid≠rid){ops:List aV}{K:St->Prop}{st:St}{wv sv:AV}(kD:look st.fr 12=.ptr kid 0 0)(h8:look st.fr 8=.ptr rid 0 0)(hb:ah st.hp kid=kB s x depth steps spent mid wv sv)(hr:ah st.hp rid=.var [.pv (.int .i64 0),.bu,.pv (.int .i64 0)])
    (hw:Jq wv W\/∃id,wv=.ms id/\ah st.hp id=.row 4 W/\id∈iE (ah st.hp) st.hp)
    (h:∀wq,look wq.fr 12=.ptr kid 0 0->look wq.fr 8=.ptr rid 0 0->∀IP M1,ah wq.hp kid=kB s x depth steps spent mid IP M1->Jq IP W->ah wq.hp rid=.var [.pv (.int .i64 0),.bu,.pv (.int .i64 0)]->vL T ops wq K):vL T ops (lg true st) K:=by
 obtain⟨a,b,⟨IP,M1,c,d⟩,e⟩:=uG hk (iE (ah st.hp) st.hp) st wv sv kD h8 hb hr hw;exact h _ a b IP M1 c d e
/-! ### Vo Va is left -/
def ti:List (List (Move×State))->Nat
 |[]=>0
 |f::r=>2*f.length+1+ti r
theorem xa:∀{st:List (List (Move×State))} {w:List Move} {u:State} {w':List Move} {bV:List (List (Move×State))},fM st w=some (u,w',bV)->ti bV+2<=ti st
 |[],w,_,_,_,h=>by simp[fM]at h
 |[]::r,w,_,_,_,h=>by
  simp only[fM]at h;have:=xa h;simp only[ti];omega
 |((m,v)::f)::r,w,_,_,_,h=>by
  simp only[fM,ai,b9]at h;obtain⟨rfl,rfl,rfl⟩:=h;simp only[ti,aC];omega
theorem Rn.V6{s:bc}{x:Spec}{depth:Int}{steps:Nat}{k:Sk}{t:State}(hs:s.wf)(hx:∀w∈x.aZ,w.wf)(h0:0<=depth)(hn:s.nodes.length<=500)(mJ:s.aU.length<=2^29)(wW:x.aZ.length<=2^29)(hp:s.pods.length<=500)(h:Rn s x depth steps k t):IW s x t/\t.pods.length<=500:=by
 obtain⟨⟨a,b⟩,_⟩:=h.rs hs hx;exact⟨⟨by omega,mJ,wW,by omega,hx,a.1⟩,by omega⟩
theorem Vd.kind{s:bc}{x:Spec}{depth:Int}{steps:Nat}{kind:Int}{l:List Move}{n:Nat}(h:Vd s x depth steps kind l n):kind=1\/kind=2\/kind=3:=by
 cases h <;>simp
theorem Eb{s:bc}{x:Spec}(hs:s.wf)(hx:∀w∈x.aZ,w.wf):∀{l:List Move} {t:State} {i:Nat},Rs s t->(cA s x l t i).2.2=none->∀m∈l,m.wf
 |[],_,_,_,_=>by simp
 |a::r,t,i,R,h=>by
  unfold cA at h;cases hd:nS s x t a with
  |inl c=>rw[hd]at h;simp at h
  |inr u =>
   rw[hd]at h;intro m hm;rcases aS.1 hm with rfl|hm
   ·exact tq hs R.1.1 (qy hd)
   ·exact Eb hs hx (R.step hs hx hd) h m hm
theorem H7{s:bc}{x:Spec}{depth:Int}{steps:Nat}(hs:s.wf)(hx:∀w∈x.aZ,w.wf)(h0:0<=depth){l:List Move}{n:Nat}(h:Vd s x depth steps 1 l n):∀m∈l,m.wf:=by
 obtain⟨t,hw,_⟩:=uE h0 h;exact Eb hs hx (Rs.first hs) (t:=bR s) (i:=0) (by rw[hw])
structure xE(T:cL):Prop where
 k:BA T
 f:D7 T
 K9:Std T 237 f237
 O3:IV T 279 8
 K7:Std T 222 f222
 Mt:IV T 277 4
 Hm:NU T 233 f233
section
variable{T:cL}
theorem IV.pure{n sz:Nat}(S:IV T n sz){es:List (List PV)}(h:cq sz es=true)(hl:es.length<=2^30):∃o,dq (D T) n [.slice es]=some (o,.slice es):=by
 cases es with
 |nil =>
  refine⟨none,?_⟩;unfold dq;rw[im S.fP (show iT sz (dK [.slice []]) [] 0=some (.pv (.slice []),[],2)from rfl)];rfl
 |cons e r =>
  refine⟨some sz,?_⟩;unfold dq;rw[im S.fP (show iT sz (dK [.slice (e::r)]) [] 0=some (.ms 1,[(1,.row sz (e::r))],2)from by
   simp only[iT,dK];rw[aW ⟨h,hl⟩])]
  rfl
theorem Sv.low{s:bc}{x:Spec}{depth:Int}{steps:Nat}{k:Sk}{kid mid nx:Nat}{hp ql:Hl}(h:Sv s x depth steps k kid mid hp nx)(e:∀i,mid<=i->ah ql i=ah hp i):Sv s x depth steps k kid mid ql nx:=by
 obtain⟨⟨wv,sv,hb,hw,hv,wQ⟩,hm,l1,l2⟩:=h;exact⟨⟨wv,sv,(e kid (by omega)).trans hb,hw.mono (fun i h1 _=>e i (by omega)) (ax _),hv.mono (fun i h1 _ _=>e i (by omega)) (ax _),wQ⟩,(e mid (ax _)).trans hm,l1,l2⟩
theorem C1{s:bc}{x:Spec}{depth:Int}{steps:Nat}{k k':Sk}{t:State}(h:iv s x depth steps k t=.go k'):(k'.spent=k.spent/\ti k'.stack=ti k.stack+1)\/k'.spent=k.spent+1:=by
 unfold iv at h
 repeat' split at h
 all_goals first|(simp at h;done)|skip
 ·simp only[xC.go.injEq]at h;subst h;refine .inl ⟨rfl,?_⟩;simp only[ti,bU];omega
 ·simp only[xC.go.injEq]at h;subst h;exact .inr rfl
set_option maxRecDepth 100000 in
set_option maxHeartbeats 16000000 in
theorem Fy(S:xE T){s:bc}{x:Spec}{depth:Int}{steps:Nat}(hs:s.wf)(hx:∀w∈x.aZ,w.wf)(h0:0<=depth)(hd:depth<=1000)(jb:steps<=1000000)(hn:s.nodes.length<=500)(mJ:s.aU.length<=2^29)(wW:x.aZ.length<=2^29)(AB:s.pods.length<=500)(Q:Exit->St->Prop)
    (dI:∀kind l n,Vd s x depth steps kind l n->∀fr hp nx lv,look fr 9=.pv .dJ->look fr 8=.ptr 2 0 0->ah hp 2=.var [.pv (.int .i64 kind),lv,.pv (.int .i64 (n:Nat))]->(lv=.pv (.slice (l.map bF))\/l=[]/\lv=.bu)->Q .ret ⟨fr,hp,nx⟩)
    (bS:∀n,Vd s x depth steps 2 [] n->∀fr hp nx,look fr 12=.ptr 5 0 0->look fr 8=.ptr 2 0 0->ah hp 2=.var [.pv (.int .i64 0),.bu,.pv (.int .i64 0)]->(∃wv sv,ah hp 5=kB s x depth steps n 4 wv sv)->Q (.exit 0) ⟨fr,hp,nx⟩)
    {k:Sk} {t:State} (R:Rn s x depth steps k t)
    (ih:∀(k2:Sk) (u:State),Rn s x depth steps k2 u->(k.spent<k2.spent\/k2.spent=k.spent/\ti k2.stack<ti k.stack)->∀(fr:List (Nat×AV)) (hp:Hl) (nx:Nat),look fr 8=.ptr 2 0 0->look fr 11=.ptr 3 0 0->look fr 12=.ptr 5 0 0->look fr 13=.pv (.bool true)->ah hp 2=.var [.pv (.int .i64 0),.bu,.pv (.int .i64 0)]->ah hp 3=.var [.pv (.slice (u.pods.map aJ)),.pv (.int .i64 u.pre),.pv (.int .i64 u.eW)]->Sv s x depth steps k2 5 4 hp nx->Wp T true (.loop rR) ⟨fr,hp,nx⟩ Q)
    {fr:List (Nat×AV)} {hp:Hl} {nx:Nat} (g8:look fr 8=.ptr 2 0 0) (EX:look fr 11=.ptr 3 0 0) (nU:look fr 12=.ptr 5 0 0) (pf:look fr 13=.pv (.bool true)) (b2:ah hp 2=.var [.pv (.int .i64 0),.bu,.pv (.int .i64 0)]) (b3:ah hp 3=.var [.pv (.slice (t.pods.map aJ)),.pv (.int .i64 t.pre),.pv (.int .i64 t.eW)]) (V:Sv s x depth steps k 5 4 hp nx):Wp T true (.loop rR) ⟨fr,hp,nx⟩ Q:=by
 have I:=R.inv h0;obtain⟨Z,UO⟩:=R.V6 hs hx h0 hn mJ wW AB;have Tu:=I.dep;have VF:=I.len;obtain⟨v,hp',cE,e,e1,e2,e3⟩:=JK S.k Z hs hn UO hd Tu jb I.sp (by omega) V;have QT:=(e2 2 (by omega)).trans b2;have TV:=(e2 3 (by omega)).trans b3;simp only[sq]at e;rw[ay,aY rR.eq_1];simp only[rL',aa,simprocAttr,g8,EX,nU,pf,b3];refine(dr S.k.RB.raw e).2 ?_;unfold QW at e3;cases he:iv s x depth steps k t with
 |done =>
  rw[he]at e3;obtain⟨rfl,V'⟩:=e3;obtain⟨wv,sv,hb,hw,hv,wQ⟩:=V'.b;simp only[rL',aa,simprocAttr];refine(Gn rfl).2 ?_;refine H9 (s:=s) (x:=x) (depth:=depth) (steps:=steps) (spent:=k.spent) (mid:=4) (kid:=5) (rid:=2) (W:=k.iG.map bF) (by decide) (wv:=wv) (sv:=sv) ?_ ?_ hb QT ?_ (fun wq Sz q8 IP M1 qb qw q2=>?_)
  ·all_goals try simp only[aj,Nat.reduceEqDiff,nU]
  ·all_goals try simp only[aj,Nat.reduceEqDiff,g8]
  ·rcases hw with⟨h1,h2⟩|⟨id,h1,_,_,h2⟩
   ·exact .inl (.inl ⟨h1,h2⟩)
   ·exact .inr ⟨id,h1,h2,Bf h2 hp' (by rw[h2];simp)⟩
  ·obtain⟨Nr,ql,LN⟩:=wq;dsimp only at Sz q8 qb q2;simp only[kB]at qb;obtain⟨oc,hc⟩:=S.Mt.pure (xN k.iG) (by rw[al];omega);have DM:cd [IP]=some [.slice (k.iG.map bF)]:=by
    rcases qw with⟨h1,rfl⟩|rfl
    ·rw[h1];rfl
    ·rfl
   simp only[rL',aa,simprocAttr,Sz,qb];refine(u4 S.Mt.raw DM hc).2 ?_;simp only[rL',aa,simprocAttr,Sz,q8,qb,q2];refine dI 1 k.iG k.spent (.found R he) _ _ _ (.pv (.slice (k.iG.map bF))) ?_ ?_ ?_ (.inl rfl)
   ·all_goals try simp only[aj,Nat.reduceEqDiff,]
   ·all_goals try simp only[aj,Nat.reduceEqDiff,q8]
   ·simp only[aj,Nat.reduceEqDiff]
 |over =>
  rw[he]at e3;obtain⟨rfl,V'⟩:=e3;obtain⟨wv,sv,hb,_⟩:=V'.b;simp only[kB]at hb;simp only[rL',aa,simprocAttr,nU,g8,hb,QT];refine dI 3 [] k.spent (.spent R he) _ _ _ .bu ?_ ?_ ?_ (.inr ⟨rfl,rfl⟩)
  ·all_goals try simp only[aj,Nat.reduceEqDiff,]
  ·all_goals try simp only[aj,Nat.reduceEqDiff,g8]
  ·simp only[aj,Nat.reduceEqDiff]
 |go k' =>
  rw[he]at e3;obtain⟨rfl,V'⟩:=e3;obtain⟨d1,d2,d3,d4⟩:=I.enter he;obtain⟨v,ql,LN,f1,f2,f3⟩:=N5 S.k (by rw[d2,d1];omega) (by rw[d1];omega) V';have O1:=(f2 2 (by omega)).trans QT;have O2:=(f2 3 (by omega)).trans TV;simp only[rL',aa,simprocAttr,nU];refine(dr S.k.RC.raw f1).2 ?_;cases gR:fM k'.stack k'.iG with
  |none =>
   rw[gR]at f3;obtain⟨rfl,wv,sv,hb⟩:=f3;simp only[rL',aa,simprocAttr,EX,O2];rw[ay,aY rR.eq_1];simp only[rL',aa,simprocAttr];refine bS k'.spent (.none R he gR) _ _ _ ?_ ?_ ?_ ⟨wv,sv,?_⟩
   ·all_goals try simp only[aj,Nat.reduceEqDiff,nU]
   ·all_goals try simp only[aj,Nat.reduceEqDiff,g8]
   ·simp only[aj,Nat.reduceEqDiff];exact O1
   ·simp only[aj,Nat.reduceEqDiff];exact hb
  |some q =>
   obtain⟨u,w,st⟩:=q;rw[gR]at f3;obtain⟨rfl,V2⟩:=f3;simp only[rL',aa,simprocAttr,EX,O2];have R2:=Rn.step R he gR;refine ih _ u R2 ?_ _ _ _ ?_ ?_ ?_ ?_ ?_ ?_ (V2.low fun i hi=>?_)
   ·have m1:=C1 he;have m2:=xa gR;dsimp only;omega
   ·all_goals try simp only[aj,Nat.reduceEqDiff,g8]
   ·all_goals try simp only[aj,Nat.reduceEqDiff,EX]
   ·all_goals try simp only[aj,Nat.reduceEqDiff,nU]
   ·all_goals try simp only[aj,Nat.reduceEqDiff,]
   ·simp only[aj,Nat.reduceEqDiff];exact O1
   ·simp only[aj,Nat.reduceEqDiff]
   ·rw[aF,aw (by omega)]
theorem Fx(S:xE T){s:bc}{x:Spec}{depth:Int}{steps:Nat}(hs:s.wf)(hx:∀w∈x.aZ,w.wf)(h0:0<=depth)(hd:depth<=1000)(jb:steps<=1000000)(hn:s.nodes.length<=500)(mJ:s.aU.length<=2^29)(wW:x.aZ.length<=2^29)(AB:s.pods.length<=500)(Q:Exit->St->Prop)
    (dI:∀kind l n,Vd s x depth steps kind l n->∀fr hp nx lv,look fr 9=.pv .dJ->look fr 8=.ptr 2 0 0->ah hp 2=.var [.pv (.int .i64 kind),lv,.pv (.int .i64 (n:Nat))]->(lv=.pv (.slice (l.map bF))\/l=[]/\lv=.bu)->Q .ret ⟨fr,hp,nx⟩)
    (bS:∀n,Vd s x depth steps 2 [] n->∀fr hp nx,look fr 12=.ptr 5 0 0->look fr 8=.ptr 2 0 0->ah hp 2=.var [.pv (.int .i64 0),.bu,.pv (.int .i64 0)]->(∃wv sv,ah hp 5=kB s x depth steps n 4 wv sv)->Q (.exit 0) ⟨fr,hp,nx⟩) :
    ∀(N M:Nat) (k:Sk) (t:State),steps-k.spent<=N->ti k.stack<=M->Rn s x depth steps k t->∀(fr:List (Nat×AV)) (hp:Hl) (nx:Nat),look fr 8=.ptr 2 0 0->look fr 11=.ptr 3 0 0->look fr 12=.ptr 5 0 0->look fr 13=.pv (.bool true)->ah hp 2=.var [.pv (.int .i64 0),.bu,.pv (.int .i64 0)]->ah hp 3=.var [.pv (.slice (t.pods.map aJ)),.pv (.int .i64 t.pre),.pv (.int .i64 t.eW)]->Sv s x depth steps k 5 4 hp nx->Wp T true (.loop rR) ⟨fr,hp,nx⟩ Q:=by
 intro N;induction N using Nat.strongRecOn with
 |_ N V4 =>
  intro M;induction M using Nat.strongRecOn with
  |_ M V3 =>
   intro k t hN hM R fr hp nx g8 EX nU pf b2 b3 V;refine Fy S hs hx h0 hd jb hn mJ wW AB Q dI bS R (fun k2 u R2 hlt fr hp nx c8 T2 vM tp d2 d3 V2=>?_) g8 EX nU pf b2 b3 V;have sp:=(R2.inv h0).sp;rcases hlt with h|⟨h1,h2⟩
   ·exact V4 (steps-k2.spent) (by omega) _ k2 u (ax _) (ax _) R2 fr hp nx c8 T2 vM tp d2 d3 V2
   ·exact V3 (ti k2.stack) (by omega) k2 u (by omega) (ax _) R2 fr hp nx c8 T2 vM tp d2 d3 V2
def il(kind:Int)(l:List Move)(n:Nat):PV:=.agg [.int .i64 kind,.slice (l.map bF),.int .i64 (n:Nat)]
inductive wA(s:bc)(x:Spec)(depth steps:Int):PV->Prop
 |fair {q:Int×Int}:jk s x=some q->wA s x depth steps (.tuple [il 0 [] 0,jQ (some q)])
 |DQ:jk s x=none->(depth<0\/40<depth\/steps<0\/200000<steps)->wA s x depth steps (.tuple [il 0 [] 0,cf 3])
 |T1:jk s x=none->0<=depth->depth<=40->fF (nG s x (bR s))=false->0<=steps->steps<=200000->wA s x depth steps (.tuple [il 2 [] 0,.dJ])
 |some {N:Nat} {kind:Int} {l:List Move} {n:Nat}:jk s x=none->0<=depth->depth<=40->steps=(N:Nat)->N<=200000->fF (nG s x (bR s))=true->Vd s x depth N kind l n->wA s x depth steps (.tuple [il kind l n,.dJ])
set_option maxRecDepth 100000 in
set_option maxHeartbeats 16000000 in
theorem KN(S:xE T)(s:bc)(x:Spec)(depth steps:Int)(hs:s.wf)(hx:∀w∈x.aZ,w.wf)(hn:s.nodes.length<=500)(mJ:s.aU.length<=2^29)(wW:x.aZ.length<=2^29)(AB:s.pods.length<=500):∃p,wA s x depth steps p/\ba T 233 [aD s,bd x,.int .i64 depth,.int .i64 steps] p:=by
 have kf:=H0 S.f s x (by omega);have k1:=EP S.K9 S.O3 s (by omega);have ki:=Ks S.k.s.s.QC S.K7 s x (bR s) (by omega) (by simp only[bR];omega) mJ hs.2.2;cases hq:jk s x with
 |some q =>
  refine⟨_,.fair hq,yN S.Hm rfl ?_⟩;rw[hq]at kf;obtain⟨hv,ew⟩:=Mh q;generalize jQ (some q)=er at *;rcases hv with rfl|⟨a,c,rfl⟩|⟨c,rfl⟩
  ·exact absurd rfl ew
  ·simp only[gk,aD,bd]at kf⊢;simp only[f233,rL',aa,simprocAttr,kf.call,il];rfl
  ·simp only[cf,aD,bd]at kf⊢;simp only[f233,rL',aa,simprocAttr,kf.call,il];rfl
 |none =>
  rw[hq]at kf;simp only[jQ,aD,bd]at kf;have DQ:depth<0\/40<depth\/steps<0\/200000<steps->∃p,wA s x depth steps p/\ba T 233 [aD s,bd x,.int .i64 depth,.int .i64 steps] p:=fun h=>by
   refine⟨_,.DQ hq h,yN S.Hm rfl ?_⟩;simp only[cf,aD,bd];by_cases c1:depth<0
   ·simp only[f233,rL',aa,simprocAttr,kf.call,il,c1];rfl
   ·by_cases c2:40<depth
    ·simp only[f233,rL',aa,simprocAttr,kf.call,il,c1,c2];rfl
    ·by_cases c3:steps<0
     ·simp only[f233,rL',aa,simprocAttr,kf.call,il,c1,c2,c3];rfl
     ·have c4:200000<steps:=by omega
      simp only[f233,rL',aa,simprocAttr,kf.call,il,c1,c2,c3,c4];rfl
  by_cases hL:depth<0\/40<depth\/steps<0\/200000<steps
  ·exact DQ hL
  ·have c1:¬depth<0:=by omega
   have c2:¬40<depth:=by omega
   have c3:¬steps<0:=by omega
   have c4:¬200000<steps:=by omega
   simp only[aD,bd,ar]at k1 ki;cases J8:fF (nG s x (bR s))with
   |false =>
    refine⟨_,.T1 hq (by omega) (by omega) J8 (by omega) (by omega),yN S.Hm rfl ?_⟩;rw[J8]at ki;simp only[aD,bd];simp only[f233,rL',aa,simprocAttr,kf.call,k1.call,ki.call,il,c1,c2,c3,c4];rfl
   |true =>
    rw[J8]at ki;obtain⟨N,rfl⟩:∃N:Nat,steps=(N:Int):=⟨steps.toNat,by omega⟩;have h:Wp T true f233.body ⟨fy 0 (dK [aD s,bd x,.int .i64 depth,.int .i64 (N:Nat)]),[],0⟩ (fun e st=>∃kind l n,Vd s x depth N kind l n/\kT f233.res (.tuple [il kind l n,.dJ]) e st):=by
     simp only[aD,bd];simp only[f233,rL',aa,simprocAttr,kf.call,k1.call,ki.call,c1,c2,c3,c4];refine Fx S (depth:=depth) (steps:=N) hs hx (by omega) (by omega) (by omega) hn mJ wW AB _ (fun kind l n hv fr hp nx lv g9 g8 b2 UC=>?_) (fun n hv fr hp nx nU g8 b2 hb=>?_) (N-0) 0 ⟨[],0,[],[]⟩ (bR s) (ax _) (ax _) .init _ _ _ ?_ ?_ ?_ ?_ ?_ ?_ ⟨⟨.bu,.bu,?_,fk.nil,.inl ⟨rfl,rfl⟩,by simp[cw]⟩,?_,by decide,by decide⟩
     ·simp only[rL',aa,simprocAttr];refine⟨kind,l,n,hv,?_⟩;rcases UC with rfl|⟨rfl,rfl⟩
      ·simp only[rL',aa,simprocAttr,g8,g9,b2,il]
      ·simp only[rL',aa,simprocAttr,g8,g9,b2,il];rfl
     ·obtain⟨wv,sv,hb⟩:=hb;simp only[kB]at hb;simp only[rL',aa,simprocAttr,nU,g8,hb,b2];refine⟨2,[],n,hv,?_⟩;simp only[rL',aa,simprocAttr,il];rfl
     ·all_goals try simp only[aj,Nat.reduceEqDiff,]
     ·all_goals try simp only[aj,Nat.reduceEqDiff,]
     ·all_goals try simp only[aj,Nat.reduceEqDiff,]
     ·all_goals try simp only[aj,Nat.reduceEqDiff,]
     ·simp only[aj,Nat.reduceEqDiff]
     ·simp only[aj,Nat.reduceEqDiff]
     ·simp only[aj,Nat.reduceEqDiff,kB];rfl
     ·simp only[aj,Nat.reduceEqDiff];rfl
    obtain⟨e,st,h1,kind,l,n,hv,hr⟩:=h;exact⟨_,.some hq (by omega) (by omega) rfl (by omega) J8 hv,yN S.Hm rfl ⟨e,st,h1,hr⟩⟩
end
end
end Go.Proofs.YtkjehofblipcaaaGreatDoor.Ab
