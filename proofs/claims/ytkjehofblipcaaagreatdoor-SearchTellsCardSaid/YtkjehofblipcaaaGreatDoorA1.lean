/- The layer, part 1: Ab30, Ab31, Ab32, Ab33, Ab34, Ab36, Ab37, Ab38, Ab39, Ab35, Ab40, Ab41, Ab42, Ab43, Ab44, Ab45, Ab46, Ab53, Sp0, Ab55, Ab47, Ab48, Ab49, Ab51, Ab52, Ab57, Ab58, SpU. -/
import Derived.Test.YtkjehofblipcaaaGreatDoorA0
set_option linter.unusedVariables false
set_option linter.unusedSimpArgs false
namespace Go.Proofs.YtkjehofblipcaaaGreatDoor.Ab
open Go
section
section
variable{E:Env}{N:Nat}{o:Oper}{F:Fr}{H:Hp}{U:Nat->Prop}
def kE(H:Hp)(sz:Nat)(n:Int):AV->Option AV
 | .pv (.slice es)=>if 0<=n then match es[n.toNat]? with
     |some e=>if Nat.beq e.length sz=true then some (.pv (.gQ e 0))else none
     |none=>none
  else none
 | .ms id=>match H id with
  | .row s es=>if s=sz/\0<=n/\n.toNat<es.length then some (.ptr id n.toNat 0)else none
  |_=>none
 | .gd id off len=>match H id with
  | .row s es=>if s=sz/\0<=n/\n.toNat<len then some (.ptr id (off+n.toNat) 0)else none
  |_=>none
 |_=>none
def tg:AV->Option Int
 | .pv (.int _ n)=>some n
 |_=>none
def B3:AV->Option Nat
 | .ptr id 0 0=>some id
 |_=>none
def fT(H:Hp)(nx sz:Nat)(s:AV)(es':List (List PV)):Option (AV×List (Nat×dy)×Nat) :=
 match s with
 | .bu=>match es' with
  |[]=>some (.bu,[],0)
  |e::r=>if(e::r).length<=2^30 then some (.ms nx,[(nx,.row sz (e::r))],1)else none
 |v=>match eN H sz v with
  |some (id,es)=>if es.length+es'.length<=2^30 then some (.ms nx,[(id,.dead),(nx,.row sz (es++es'))],1)else none
  |none=>none
def mapOf(H:Hp):AV->Option (Nat×List (PV×PV))
 | .map id=>match H id with
  | .map es=>some (id,es)
  |_=>none
 |_=>none
def mz:AV->Option PV
 | .pv p=>some p
 |_=>none
theorem AW{H:Hp}{v:AV}{id:Nat}{es:List (PV×PV)}(h:mapOf H v=some (id,es)):v=.map id/\H id=.map es:=by
 unfold mapOf at h;split at h
 ·split at h
  ·rename_i he;simp at h;obtain⟨rfl,rfl⟩:=h;exact⟨rfl,he⟩
  ·simp at h
 ·simp at h
theorem si{v:AV}{p:PV}(h:mz v=some p):v=.pv p:=by
 unfold mz at h;split at h
 ·simp at h;subst h;rfl
 ·simp at h
def bD(F:Fr)(H:Hp)(nx:Nat):fC->Option (AV×List (Nat×dy)×Nat)
 | .mv x=>some (dG F x,[],0)
 | .pick c x y=>match dG F c with
  | .pv (.bool t)=>some (oL t (dG F x) (dG F y),[],0)
  |_=>none
 | .alloc cs=>some (.ptr nx 0 0,[(nx,.var cs)],1)
 | .box x=>match cellsOf (dG F x)with
  |some cs=>if lH cs=true then some (.ptr nx 0 0,[(nx,.var cs)],1)else none
  |none=>none
 | .build zs ps=>match fq F zs ps with
  |some cs=>some (jY cs,[],0)
  |none=>none
 | .cv sz len zs ps=>match fq F zs ps with
  |some cs=>match cd cs with
   |some pl=>if bt F ps=true then some (.ms nx,[(nx,.row sz (chunk sz len pl))],1)else none
   |none=>none
  |none=>none
 | .load agg n x=>match fi H (dG F x)with
  |some cs=>match iW agg n cs with
   |some v=>some (v,[],0)
   |none=>none
  |none=>none
 | .store m x y=>match cellsOf (dG F y)with
  |some cs=>match jz H (dG F x) cs with
   |some (id,B)=>if Nat.beq cs.length m=true/\lH cs=true then some (.bot,[(id,B)],0)else none
   |none=>none
  |none=>none
 | .jU x=>if dR H (dG F x)=true then some (dG F x,[],0)else none
 | .bin op none x y=>match aa op (dG F x) (dG F y)with
  |some v=>some (v,[],0)
  |none=>none
 | .bin op (some k) x y=>match ja H k (x.Cv||y.Cv) (dG F x) (dG F y)with
  |some b=>match G3 op b with
   |some c=>some (.pv (.bool c),[],0)
   |none=>none
  |none=>none
 | .not x=>match dG F x with
  | .pv (.bool b)=>some (.pv (.bool (!b)),[],0)
  |_=>none
 | .neg x=>match dG F x with
  | .pv (.int k n)=>some (.pv (.int k (k.wrap (0-n))),[],0)
  |_=>none
 | .conv k x=>match dG F x with
  | .pv (.int _ n)=>some (.pv (.int k (k.wrap n)),[],0)
  |_=>none
 | .kO n x=>some ((match dG F x with| .pv p=>.pv (.iface n p)|v=>.iface n v),[],0)
 | .xb n f c=>some (mkFun n (ff F f) (ff F c),[],0)
 | .fieldAddr off x=>match jS off (dG F x)with
  |some v=>if dR H (dG F x)=true then some (v,[],0)else none
  |none=>none
 | .oy agg off n x=>match xM (dG F x)with
  |some cs=>match iW agg n (cs.drop off)with
   |some v=>some (v,[],0)
   |none=>none
  |none=>none
 | .fA sz x i=>match tg (dG F i)with
  |some n=>match kE H sz n (dG F x)with
   |some v=>some (v,[],0)
   |none=>none
  |none=>none
 | .uP agg len sz x i=>match tg (dG F i)with
  |some n=>match xM (dG F x)with
   |some cs=>if 0<=n/\n.toNat<len then(match iW agg sz (cs.drop (n.toNat*sz))with
    |some v=>some (v,[],0)
    |none=>none)else none
   |none=>none
  |none=>none
 | .dB len sz x i=>match tg (dG F i)with
  |some n=>match iP (n.toNat*sz) (dG F x)with
   |some v=>if dR H (dG F x)=true/\0<=n/\n.toNat<len then some (v,[],0)else none
   |none=>none
  |none=>none
 | .slice sz x lo hi=>match nf F lo,nf F hi with
  |some l,some h=>match nZ H sz (l.getD 0) h (dG F x)with
   |some v=>some (v,[],0)
   |none=>none
  |_,_=>none
 | .gZ len sz x none none=>match B3 (dG F x)with
  |some id=>match H id with
   | .var cs=>match cd cs with
    |some pl=>if len*sz<=pl.length then some (.pv (.slice (chunk sz len pl)),[(id,.dead)],0)else none
    |none=>none
   |_=>none
  |none=>match zU H len sz (dG F x)with
   |some v=>some (v,[],0)
   |none=>none
 | .append sz bytes s x=>match dW H (dG F x)with
  |some es'=>if cq sz es'=true then fT H nx sz (dG F s) es' else none
  |none=>none
 | .len x=>match aO H (dG F x)with
  |some n=>some (.pv (.int .i64 n),[],0)
  |none=>none
 | .uV x=>match dG F x with
  | .pv (.str s)=>some (.pv (.int .i64 s.size),[],0)
  |_=>none
 | .G2 x=>match dW H (dG F x)with
  |some es=>match od es with
   |some ns=>some (.pv (.str (tV ns)),[],0)
   |none=>none
  |none=>none
 | .wj n=>some (.pv (.int .i64 n),[],0)
 | .extract x i=>match gC i (dG F x)with
  |some v=>some (v,[],0)
  |none=>none
 | .t8 xs=>match Fm Kj (ff F xs)with
  |some v=>some (v,[],0)
  |none=>none
 | .tb xs=>match Fm Kk (ff F xs)with
  |some v=>some (v,[],0)
  |none=>none
 | .mkMap=>some (.map nx,[(nx,.map [])],1)
 | .jT s ok z m k=>match mapOf H (dG F m),mz (dG F k)with
  |some (_,es),some x=>match lY s x es with
   |some r=>some (.pv (rU ok z r),[],0)
   |none=>none
  |_,_=>none
 | .lk s m k v=>match mapOf H (dG F m),mz (dG F k),mz (dG F v)with
  |some (id,es),some x,some p=>match oJ s x p es with
   |some es'=>some (.bot,[(id,.map es')],0)
   |none=>none
  |_,_,_=>none
 |_=>none
theorem cK.used{v:AV}{W:List (Nat×dy)}{U' SP:Nat->Prop}(h:cK E N o F H U v W U')(hu:∀i,U' i->SP i):cK E N o F H U v W SP:=by
 intro X M a w Q hE hN R;refine Oper.wp_mono ?_ (h X M a w Q hE hN R)
 rintro a' w' ⟨M',R'⟩
 exact⟨M',R'.pq hu⟩
theorem yX{v:AV}{n:Int}(h:tg v=some n):∃k,v=.pv (.int k n):=by
 unfold tg at h;split at h <;>simp at h;subst h;exact⟨_,rfl⟩
theorem B4{v:AV}{id:Nat}(h:B3 v=some id):v=.ptr id 0 0:=by
 unfold B3 at h;split at h <;>simp at h;subst h;rfl
theorem Hz(hE:E.OK){sz:Nat}{x i:AO}{k:IntKind}{n:Int}{v:AV}(hc:ey E o=some (.fA sz x i))(hd:∀k,o.dst=some k->k<N)(h1:dG F i=.pv (.int k n))(h2:kE H sz n (dG F x)=some v):cK E N o F H U v [] U:=by
 unfold kE at h2;split at h2
 ·rename_i es ex;split at h2
  ·rename_i h0;split at h2
   ·rename_i e he;split at h2
    ·rename_i hl;simp at h2;subst h2;exact AH hE hc hd ex h1 h0 he (cX hl)
    ·simp at h2
   ·simp at h2
  ·simp at h2
 ·rename_i id ex;split at h2
  ·rename_i s es dT;split at h2
   ·rename_i hb;obtain⟨rfl,h0,hl⟩:=hb;simp at h2;subst h2;exact AG hE hc hd ex dT h1 h0 hl
   ·simp at h2
  ·simp at h2
 ·rename_i id off len ex;split at h2
  ·rename_i s es dT;split at h2
   ·rename_i hb;obtain⟨rfl,h0,hl⟩:=hb;simp at h2;subst h2;exact we hE hc hd ex dT h1 h0 hl
   ·simp at h2
  ·simp at h2
 ·simp at h2
theorem Gx(hE:E.OK){sz bytes nx:Nat}{s x:AO}{es':List (List PV)}{v:AV}{W:List (Nat×dy)}{n:Nat}(hc:ey E o=some (.append sz bytes s x))(hd:∀k,o.dst=some k->k<N)(h1:dW H (dG F x)=some es')(h2:cq sz es'=true)
    (h3:fT H nx sz (dG F s) es'=some (v,W,n)) (hk:0<n->¬U nx):cK E N o F H U v W (fun i=>U i\/(0<n/\i=nx)):=by
 unfold fT at h3;split at h3
 ·rename_i es;split at h3
  ·simp at h3;obtain⟨rfl,rfl,rfl⟩:=h3;exact(rF hE hc hd (by assumption) h1).used fun i h=>.inl h
  ·rename_i e r;split at h3
   ·rename_i hl;simp only[ai,b9]at h3;obtain⟨rfl,rfl,rfl⟩:=h3;exact(t7 hE hc hd (by assumption) h1 (rD h2) (by simp) hl (hk (by omega))).used fun i h=>h.imp id fun h=>⟨by omega,h⟩
   ·simp at h3
 ·split at h3
  ·rename_i id es hb;split at h3
   ·rename_i hl;simp only[ai,b9]at h3;obtain⟨rfl,rfl,rfl⟩:=h3;exact(zT hE hc hd hb h1 (rD h2) hl (hk (by omega))).used fun i h=>h.imp (fun h=>h) fun h=>⟨by omega,h⟩
   ·simp at h3
  ·simp at h3
set_option maxHeartbeats 4000000 in
theorem ue(hE:E.OK){op:fC}{v:AV}{W:List (Nat×dy)}{n nx:Nat}(h:bD F H nx op=some (v,W,n))(hc:ey E o=some op)(hd:∀k,o.dst=some k->k<N)(hn:op.lW=true->o.dst=none)(hk:0<n->¬U nx) :
    cK E N o F H U v W (fun i=>U i\/(0<n/\i=nx)):=by
 have qQ:∀i,(U i\/i=nx)->U i\/(0<1/\i=nx):=fun i h=>h.imp id fun h=>⟨by omega,h⟩;have hold:∀i,U i->U i\/(0<0/\i=nx):=fun i h=>.inl h;cases op with
 |mv x=>simp[bD]at h;obtain⟨rfl,rfl,rfl⟩:=h;exact(KF hE hc hd).used hold
 |pick c a b =>
  simp only[bD]at h;split at h
  ·simp at h;obtain⟨rfl,rfl,rfl⟩:=h;exact(Fv hE hc hd (by assumption)).used hold
  ·simp at h
 |alloc cs=>simp[bD]at h;obtain⟨rfl,rfl,rfl⟩:=h;exact(BF hE hc hd (hk (by omega))).used qQ
 |box x =>
  simp only[bD]at h;split at h
  ·split at h
   ·simp at h;obtain⟨rfl,rfl,rfl⟩:=h;exact(GG hE hc hd (hk (by omega)) (by assumption) (by assumption)).used qQ
   ·simp at h
  ·simp at h
 |build zs ps =>
  simp only[bD]at h;split at h
  ·simp at h;obtain⟨rfl,rfl,rfl⟩:=h;exact(BO hE hc hd (by assumption)).used hold
  ·simp at h
 |cv sz len zs ps =>
  simp only[bD]at h;split at h
  ·split at h
   ·split at h
    ·simp at h;obtain⟨rfl,rfl,rfl⟩:=h;exact(zZ hE hc hd (hk (by omega)) (by assumption) (by assumption) (by assumption)).used qQ
    ·simp at h
   ·simp at h
  ·simp at h
 |load agg n x =>
  simp only[bD]at h;split at h
  ·split at h
   ·simp at h;obtain⟨rfl,rfl,rfl⟩:=h;exact(Fk hE hc hd (by assumption) (by assumption)).used hold
   ·simp at h
  ·simp at h
 |store m x y =>
  simp only[bD]at h;split at h
  ·split at h
   ·split at h
    ·rename_i hb;simp at h;obtain⟨rfl,rfl,rfl⟩:=h;exact(CW hE hc (hn rfl) (by assumption) hb.1 hb.2 (by assumption)).used hold
    ·simp at h
   ·simp at h
  ·simp at h
 |jU x =>
  simp only[bD]at h;split at h
  ·simp at h;obtain⟨rfl,rfl,rfl⟩:=h;exact(B1 hE hc hd (by assumption)).used hold
  ·simp at h
 |bin op k x y =>
  cases k with
  |none =>
   simp only[bD]at h;split at h
   ·simp at h;obtain⟨rfl,rfl,rfl⟩:=h;exact(GF hE hc hd (by assumption)).used hold
   ·simp at h
  |some k =>
   simp only[bD]at h;split at h
   ·split at h
    ·simp at h;obtain⟨rfl,rfl,rfl⟩:=h;exact(JL hE hc hd (by assumption) (by assumption)).used hold
    ·simp at h
   ·simp at h
 |not x =>
  simp only[bD]at h;split at h
  ·simp at h;obtain⟨rfl,rfl,rfl⟩:=h;exact(HZ hE hc hd (by assumption)).used hold
  ·simp at h
 |neg x =>
  simp only[bD]at h;split at h
  ·simp only[ai,b9]at h;obtain⟨rfl,rfl,rfl⟩:=h;exact(HX hE hc hd (by assumption)).used hold
  ·simp at h
 |conv k x =>
  simp only[bD]at h;split at h
  ·simp at h;obtain⟨rfl,rfl,rfl⟩:=h;exact(EG hE hc hd (by assumption)).used hold
  ·simp at h
 |kO n x=>simp[bD]at h;obtain⟨rfl,rfl,rfl⟩:=h;exact(HV hE hc hd).used hold
 |xb n f c=>simp[bD]at h;obtain⟨rfl,rfl,rfl⟩:=h;exact(HT hE hc hd).used hold
 |fieldAddr off x =>
  simp only[bD]at h;split at h
  ·split at h
   ·simp at h;obtain⟨rfl,rfl,rfl⟩:=h;exact(uB hE hc hd (by assumption) (by assumption)).used hold
   ·simp at h
  ·simp at h
 |oy agg off n x =>
  simp only[bD]at h;split at h
  ·split at h
   ·simp at h;obtain⟨rfl,rfl,rfl⟩:=h;exact(Ak hE hc hd (by assumption) (by assumption)).used hold
   ·simp at h
  ·simp at h
 |fA sz x i =>
  simp only[bD]at h;split at h
  ·rename_i n hi;obtain⟨k,hi⟩:=yX hi;split at h
   ·simp at h;obtain⟨rfl,rfl,rfl⟩:=h;exact(Hz hE hc hd hi (by assumption)).used hold
   ·simp at h
  ·simp at h
 |uP agg len sz x i =>
  simp only[bD]at h;split at h
  ·rename_i n hi;obtain⟨k,hi⟩:=yX hi;split at h
   ·split at h
    ·rename_i hb;split at h
     ·simp at h;obtain⟨rfl,rfl,rfl⟩:=h;exact(F7 hE hc hd (by assumption) hi hb.1 hb.2 (by assumption)).used hold
     ·simp at h
    ·simp at h
   ·simp at h
  ·simp at h
 |dB len sz x i =>
  simp only[bD]at h;split at h
  ·rename_i n hi;obtain⟨k,hi⟩:=yX hi;split at h
   ·split at h
    ·rename_i hb;simp at h;obtain⟨rfl,rfl,rfl⟩:=h;exact(AF hE hc hd hb.1 hi hb.2.1 hb.2.2 (by assumption)).used hold
    ·simp at h
   ·simp at h
  ·simp at h
 |slice sz x lo hi =>
  simp only[bD]at h;split at h
  ·split at h
   ·simp at h;obtain⟨rfl,rfl,rfl⟩:=h;exact(CQ hE hc hd (by assumption) (by assumption) (by assumption)).used hold
   ·simp at h
  ·simp at h
 |gZ len sz x lo hi =>
  cases lo with
  |some _=>simp[bD]at h
  |none =>
   cases hi with
   |some _=>simp[bD]at h
   |none =>
    simp only[bD]at h;split at h
    ·rename_i id dT;split at h
     ·split at h
      ·split at h
       ·simp at h;obtain⟨rfl,rfl,rfl⟩:=h;exact(wo hE hc hd (B4 dT) (by assumption) (by assumption) (by assumption)).used hold
       ·simp at h
      ·simp at h
     ·simp at h
    ·split at h
     ·simp at h;obtain⟨rfl,rfl,rfl⟩:=h;exact(Es hE hc hd (by assumption)).used hold
     ·simp at h
 |append sz bytes s x =>
  simp only[bD]at h;split at h
  ·split at h
   ·exact Gx hE hc hd (by assumption) (by assumption) h hk
   ·simp at h
  ·simp at h
 |len x =>
  simp only[bD]at h;split at h
  ·simp at h;obtain⟨rfl,rfl,rfl⟩:=h;exact(HN hE hc hd (by assumption)).used hold
  ·simp at h
 |uV x =>
  simp only[bD]at h;split at h
  ·simp at h;obtain⟨rfl,rfl,rfl⟩:=h;exact(Fj hE hc hd (by assumption)).used hold
  ·simp at h
 |G2 x =>
  simp only[bD]at h;split at h
  ·split at h
   ·simp at h;obtain⟨rfl,rfl,rfl⟩:=h;exact(GB hE hc hd (by assumption) (by assumption)).used hold
   ·simp at h
  ·simp at h
 |wj n=>simp[bD]at h;obtain⟨rfl,rfl,rfl⟩:=h;exact(Fi hE hc hd).used hold
 |extract x i =>
  simp only[bD]at h;split at h
  ·simp at h;obtain⟨rfl,rfl,rfl⟩:=h;exact(xW hE hc hd (by assumption)).used hold
  ·simp at h
 |t8 xs =>
  simp only[bD]at h;split at h
  ·simp at h;obtain⟨rfl,rfl,rfl⟩:=h;exact(HR hE hc hd (by assumption)).used hold
  ·simp at h
 |tb xs =>
  simp only[bD]at h;split at h
  ·simp at h;obtain⟨rfl,rfl,rfl⟩:=h;exact(HS hE hc hd (by assumption)).used hold
  ·simp at h
 |mkMap=>simp only[bD,ai,b9]at h;obtain⟨rfl,rfl,rfl⟩:=h;exact(CC hE hc hd (hk (by omega))).used qQ
 |jT s ok z m k =>
  simp only[bD]at h;split at h
  ·rename_i id es x e1 e2;obtain⟨g1,g2⟩:=AW e1;split at h
   ·simp only[ai,b9]at h;obtain⟨rfl,rfl,rfl⟩:=h;exact(AU hE hc hd g1 g2 (si e2) (by assumption)).used hold
   ·simp at h
  ·simp at h
 |lk s m k v =>
  simp only[bD]at h;split at h
  ·rename_i id es x p e1 e2 e3;obtain⟨g1,g2⟩:=AW e1;split at h
   ·simp only[ai,b9]at h;obtain⟨rfl,rfl,rfl⟩:=h;exact(AX hE hc g1 g2 (si e2) (si e3) (by assumption)).used hold
   ·simp at h
  ·simp at h
 |_=>simp[bD]at h
end
end
section
def iq:List AO->List Nat
 |[]=>[]
 |x::r=>x.tmps++iq r
def gT:List (Nat×Nat×AO)->List Nat
 |[]=>[]
 |(_,_,x)::r=>x.tmps++gT r
def kW:Option AO->List Nat
 |some x=>x.tmps
 |none=>[]
def fp:fC->List Nat
 | .mv x| .box x| .load _ _ x| .jU x| .not x| .neg x| .conv _ x| .Vj x| .G2 x| .kO _ x| .fieldAddr _ x| .oy _ _ _ x| .len x| .uV x| .extract x _=>x.tmps
 | .pick c a b=>c.tmps++(a.tmps++b.tmps)
 | .alloc _| .wj _| .mkMap| .TJ _| .CH _| .QX _| .other=>[]
 | .jT _ _ _ m k=>m.tmps++k.tmps
 | .lk _ m k v=>m.tmps++(k.tmps++v.tmps)
 | .build _ ps=>gT ps
 | .cv _ _ _ ps=>gT ps
 | .store _ x y| .bin _ _ x y| .fA _ x y| .dB _ _ x y| .uP _ _ _ x y| .append _ _ x y=>x.tmps++y.tmps
 | .xb _ f c=>iq f++iq c
 | .slice _ x lo hi| .gZ _ _ x lo hi=>x.tmps++(kW lo++kW hi)
 | .call _ l| .t8 l| .tb l=>iq l
 | .fJ f l=>f.tmps++iq l
def cw:AV->List Nat
 | .ptr id _ _=>[id]
 | .ms id=>[id]
 | .gd id _ _=>[id]
 | .tQ id _ _=>[id]
 | .map id=>[id]
 |_=>[]
def ix(F:Fr):fC->List Nat
 | .load _ _ x| .jU x| .fieldAddr _ x| .len x| .G2 x| .store _ x _| .fA _ x _| .dB _ _ x _| .slice _ x _ _| .gZ _ _ x _ _| .jT _ _ _ x _| .lk _ x _ _=>cw (dG F x)
 | .bin _ (some _) x y| .append _ _ x y=>cw (dG F x)++cw (dG F y)
 |_=>[]
section
variable{F F':Fr}{H H':Hp}
theorem bC{x:AO}(h:∀t∈x.tmps,F' t=F t):dG F' x=dG F x:=by
 cases x with
 |t n=>exact h n (by simp[AO.tmps])
 |_=>rfl
theorem gu:∀{xs:List AO},(∀t∈iq xs,F' t=F t)->ff F' xs=ff F xs
 |[],h=>rfl
 |x::r,h=>by
  simp only[ff];rw[bC fun t ht=>h t (by simp[iq,ht]),gu fun t ht=>h t (by simp[iq,ht])]
theorem oz:∀{ps:List (Nat×Nat×AO)} {zs:List AV},(∀t∈gT ps,F' t=F t)->fq F' zs ps=fq F zs ps
 |[],zs,h=>rfl
 |(off,n,x)::r,zs,h=>by
  simp only[fq];rw[bC fun t ht=>h t (by simp[gT,ht])];split
  ·split
   ·exact oz fun t ht=>h t (by simp[gT,ht])
   ·rfl
  ·rfl
theorem nL:∀{ps:List (Nat×Nat×AO)},(∀t∈gT ps,F' t=F t)->bt F' ps=bt F ps
 |[],h=>rfl
 |(off,n,x)::r,h=>by
  simp only[bt];rw[bC fun t ht=>h t (by simp[gT,ht]),nL fun t ht=>h t (by simp[gT,ht])]
theorem tT{x:Option AO}(h:∀t∈kW x,F' t=F t):nf F' x=nf F x:=by
 cases x with
 |none=>rfl
 |some x =>
  simp only[nf];rw[bC (x:=x) h]
theorem vZ{v:AV}(h:∀i∈cw v,H' i=H i):fi H' v=fi H v:=by
 cases v with
 |ptr id i off=>simp only[fi];rw[h id (by simp[cw])]
 |pv p=>cases p <;>rfl
 |_=>rfl
theorem ny{v:AV}(h:∀i∈cw v,H' i=H i):dR H' v=dR H v:=by
 cases v with
 |ptr id i off=>simp only[dR];rw[h id (by simp[cw])]
 |pv p=>cases p <;>rfl
 |_=>rfl
theorem Cy{v:AV}(h:∀i∈cw v,H' i=H i):aO H' v=aO H v:=by
 cases v with
 |ms id=>simp only[aO];rw[h id (by simp[cw])]
 |gd id off len=>simp only[aO];rw[h id (by simp[cw])]
 |pv p=>cases p <;>rfl
 |_=>rfl
theorem BI{len sz:Nat}{v:AV}(h:∀i∈cw v,H' i=H i):zU H' len sz v=zU H len sz v:=by
 cases v with
 |ptr id i off=>simp only[zU];rw[h id (by simp[cw])]
 |pv p=>cases p <;>rfl
 |_=>rfl
theorem vz{v:AV}(h:∀i∈cw v,H' i=H i):dW H' v=dW H v:=by
 cases v with
 |tQ id off len=>simp only[dW];rw[h id (by simp[cw])]
 |ms id=>simp only[dW];rw[h id (by simp[cw])]
 |gd id off len=>simp only[dW];rw[h id (by simp[cw])]
 |pv p=>cases p <;>rfl
 |_=>rfl
theorem zW{sz:Nat}{v:AV}(h:∀i∈cw v,H' i=H i):eN H' sz v=eN H sz v:=by
 cases v with
 |ms id=>simp only[eN];rw[h id (by simp[cw])]
 |gd id off len =>
  cases off with
  |zero=>simp only[eN];rw[h id (by simp[cw])]
  |succ n=>rfl
 |pv p=>cases p <;>rfl
 |_=>rfl
theorem CY{sz l:Nat}{u:Option Nat}{v:AV}(h:∀i∈cw v,H' i=H i):nZ H' sz l u v=nZ H sz l u v:=by
 cases v with
 |ms id=>simp only[nZ];rw[h id (by simp[cw])]
 |gd id off len=>simp only[nZ];rw[h id (by simp[cw])]
 |pv p=>cases p <;>rfl
 |_=>rfl
theorem Ce{sz:Nat}{n:Int}{v:AV}(h:∀i∈cw v,H' i=H i):kE H' sz n v=kE H sz n v:=by
 cases v with
 |ms id=>simp only[kE];rw[h id (by simp[cw])]
 |gd id off len=>simp only[kE];rw[h id (by simp[cw])]
 |pv p=>cases p <;>rfl
 |_=>rfl
theorem zu{v:AV}{cs:List AV}(h:∀i∈cw v,H' i=H i):jz H' v cs=jz H v cs:=by
 cases v with
 |ptr id i off=>simp only[jz];rw[h id (by simp[cw])]
 |pv p=>cases p <;>rfl
 |_=>rfl
theorem BH{nx sz:Nat}{v:AV}{es:List (List PV)}(h:∀i∈cw v,H' i=H i):fT H' nx sz v es=fT H nx sz v es:=by
 cases v <;>simp only[fT] <;>rw[zW h]
theorem EK{k:Jd}{c:Bool}{x y:AV}(hx:∀i∈cw x,H' i=H i)(hy:∀i∈cw y,H' i=H i):ja H' k c x y=ja H k c x y:=by
 have key:∀{v:AV} {id:Nat},id∈cw v->(∀i∈cw v,H' i=H i)->(H' id).info=(H id).info:=fun h1 h2=>by rw[h2 _ h1]
 unfold ja;split <;>first|rfl|(rename_i id i a jd j b;rw[key (v:=.ptr id i a) (by simp[cw]) hx];done)|(rename_i id i off;rw[key (v:=.ptr id i off) (by simp[cw]) (by first|exact hx|exact hy)])|(rename_i id;rw[key (v:=.ms id) (by simp[cw]) (by first|exact hx|exact hy)])
theorem sR{v:AV}(h:∀i∈cw v,H' i=H i):mapOf H' v=mapOf H v:=by
 cases v with
 |map id=>simp only[mapOf];rw[h id (by simp[cw])]
 |pv p=>cases p <;>rfl
 |_=>rfl
theorem I2{v:AV}{id:Nat}(h:B3 v=some id):id∈cw v:=by
 rw[B4 h];simp[cw]
theorem C3{op:fC}{k:Nat}(hF:∀t∈fp op,F' t=F t)(hH:∀i∈ix F op,H' i=H i):bD F' H' k op=bD F H k op:=by
 cases op with
 |jT s ok z m kk =>
  simp only[fp]at hF;simp only[bD];rw[bC (x:=m) fun t ht=>hF t (by simp[ht]),bC (x:=kk) fun t ht=>hF t (by simp[ht]),sR hH]
 |lk s m kk v =>
  simp only[fp]at hF;simp only[bD];rw[bC (x:=m) fun t ht=>hF t (by simp[ht]),bC (x:=kk) fun t ht=>hF t (by simp[ht]),bC (x:=v) fun t ht=>hF t (by simp[ht]),sR hH]
 |mv x=>simp only[bD];rw[bC hF]
 |pick c a b =>
  simp only[fp]at hF;simp only[bD];rw[bC (x:=c) fun t ht=>hF t (by simp[ht]),bC (x:=a) fun t ht=>hF t (by simp[ht]),bC (x:=b) fun t ht=>hF t (by simp[ht])]
 |box x=>simp only[bD];rw[bC hF]
 |build zs ps=>simp only[bD];rw[oz hF]
 |cv sz len zs ps=>simp only[bD];rw[oz hF,nL hF]
 |load agg n x=>simp only[bD];rw[bC hF,vZ hH]
 |store m x y =>
  simp only[fp]at hF;simp only[bD];rw[bC (x:=x) fun t ht=>hF t (by simp[ht]),bC (x:=y) fun t ht=>hF t (by simp[ht])];split
  ·rw[zu hH]
  ·rfl
 |jU x=>simp only[bD];rw[bC hF,ny hH]
 |bin op kk x y =>
  simp only[fp]at hF;cases kk with
  |none=>simp only[bD];rw[bC (x:=x) fun t ht=>hF t (by simp[ht]),bC (x:=y) fun t ht=>hF t (by simp[ht])]
  |some e =>
   simp only[ix]at hH;simp only[bD];rw[bC (x:=x) fun t ht=>hF t (by simp[ht]),bC (x:=y) fun t ht=>hF t (by simp[ht]),EK (fun i hi=>hH i (by simp[hi])) (fun i hi=>hH i (by simp[hi]))]
 |not x=>simp only[bD];rw[bC hF]
 |neg x=>simp only[bD];rw[bC hF]
 |conv kk x=>simp only[bD];rw[bC hF]
 |kO n x=>simp only[bD];rw[bC hF]
 |xb n f c =>
  simp only[fp]at hF;simp only[bD];rw[gu (xs:=f) fun t ht=>hF t (by simp[ht]),gu (xs:=c) fun t ht=>hF t (by simp[ht])]
 |fieldAddr off x=>simp only[bD];rw[bC hF,ny hH]
 |oy agg off n x=>simp only[bD];rw[bC hF]
 |fA sz x i =>
  simp only[fp]at hF;simp only[bD];rw[bC (x:=x) fun t ht=>hF t (by simp[ht]),bC (x:=i) fun t ht=>hF t (by simp[ht])];split
  ·rw[Ce hH]
  ·rfl
 |uP agg len sz x i =>
  simp only[fp]at hF;simp only[bD];rw[bC (x:=x) fun t ht=>hF t (by simp[ht]),bC (x:=i) fun t ht=>hF t (by simp[ht])]
 |dB len sz x i =>
  simp only[fp]at hF;simp only[bD];rw[bC (x:=x) fun t ht=>hF t (by simp[ht]),bC (x:=i) fun t ht=>hF t (by simp[ht]),ny hH]
 |slice sz x lo hi =>
  simp only[fp]at hF;simp only[bD];rw[bC (x:=x) fun t ht=>hF t (by simp[ht]),tT (x:=lo) fun t ht=>hF t (by simp[ht]),tT (x:=hi) fun t ht=>hF t (by simp[ht])];split
  ·rw[CY hH]
  ·rfl
 |gZ len sz x lo hi =>
  simp only[fp]at hF;cases lo with
  |some _=>rfl
  |none =>
   cases hi with
   |some _=>rfl
   |none =>
    simp only[bD];rw[bC (x:=x) fun t ht=>hF t (by simp[ht])];split
    ·rename_i id dT;rw[hH id (I2 dT)]
    ·rw[BI hH]
 |append sz bytes s x =>
  simp only[fp]at hF;simp only[ix]at hH;simp only[bD];rw[bC (x:=s) fun t ht=>hF t (by simp[ht]),bC (x:=x) fun t ht=>hF t (by simp[ht]),vz fun i hi=>hH i (by simp[hi])];split
  ·rw[BH fun i hi=>hH i (by simp[hi])]
  ·rfl
 |len x=>simp only[bD];rw[bC hF,Cy hH]
 |uV x=>simp only[bD];rw[bC hF]
 |G2 x=>simp only[bD];rw[bC hF,vz hH]
 |extract x i=>simp only[bD];rw[bC hF]
 |t8 xs=>simp only[bD];rw[gu hF]
 |tb xs=>simp only[bD];rw[gu hF]
 |_=>rfl
theorem CM{op:fC}(hF:∀t∈fp op,F' t=F t):ix F' op=ix F op:=by
 cases op <;>simp only[fp]at hF <;>simp only[ix]
 case bin op k x y =>
  cases k <;>simp only[ix];rw[bC (x:=x) fun t ht=>hF t (by simp[ht]),bC (x:=y) fun t ht=>hF t (by simp[ht])]
 case append=>rw[bC fun t ht=>hF t (by simp[ht]),bC fun t ht=>hF t (by simp[ht])]
 all_goals rw[bC fun t ht=>hF t (by simp[ht])]
end
def aT:AV->Option (Nat×List AV×List AV)
 | .pv (.func n fs cs)=>some (n,dK fs,dK cs)
 | .func n fs cs=>some (n,fs,cs)
 |_=>none
theorem mW{V:View}{as bs:List AV}{vs us:List Value}(h1:ee V as vs)(h2:ee V bs us):ee V (as++bs) (vs++us):=by
 induction as generalizing vs with
 |nil=>simp only[ee]at h1;subst h1;exact h2
 |cons a r ih =>
  simp only[ee]at h1;obtain⟨u,PZ,rfl,g1,g2⟩:=h1;simp only[aG,ee];exact⟨u,PZ++us,rfl,g1,ih g2⟩
theorem DG{V:View}{x:AV}{n:Nat}{fs cs:List AV}{v:Value}(h:aT x=some (n,fs,cs))(hv:VA V x v):∃vs us:List Value,v=.func (.func (V.E.ρ n)) vs.toArray us.toArray/\ee V fs vs/\ee V cs us:=by
 unfold aT at h;split at h
 ·simp at h;obtain⟨rfl,rfl,rfl⟩:=h;simp only[VA,VP]at hv;obtain⟨vs,us,h1,h2,h3⟩:=hv;exact⟨vs,us,h1,lZ.2 h2,lZ.2 h3⟩
 ·simp at h;obtain⟨rfl,rfl,rfl⟩:=h;simpa only[VA]using hv
 ·simp at h
def Ej(E:Env)(n:Nat)(ps:List PV)(sz:Nat)(es:List (List PV)):Prop :=
 Ed E n/\∀(X:Ctx) (M:Nat->Nat) (F:Fr) (H:Hp) (U:Nat->Prop) (k:Nat) (a:Act) (w:World) (vs:List Value),X.E=E->Rel X M F H U a w->¬U k->VPs X.E w (jt X w M H) ps vs ->
  Calls E.P (E.ρ n) vs.toArray w fun e w'=>∃v M',e=.returned v/\Rel X M' F (wr H [(k,.row sz es)]) (fun i=>U i\/i=k) a w'/\VA (aB X w' (fun i=>U i\/i=k) M' (wr H [(k,.row sz es)])) (.ms k) v
inductive Ev(E:Env)(F:Fr)(H:Hp)(k:Nat):fC->AV->List (Nat×dy)->Nat->List Nat->Prop
 |ev {op v W n}:bD F H k op=some (v,W,n)->Ev E F H k op v W n (ix F op)
 |call {n xs ps r}:cd (ff F xs)=some ps->Pure E n ps r->Ev E F H k (.call n xs) (.pv r) [] 0 []
 |own {n xs ps sz es}:cd (ff F xs)=some ps->Ej E n ps sz es->Ev E F H k (.call n xs) (.ms k) [(k,.row sz es)] 1 []
 |fJ {n f xs fs cs ps r}:aT (dG F f)=some (n,fs,cs)->cd (fs++(ff F xs++cs))=some ps->Pure E n ps r->Ev E F H k (.fJ f xs) (.pv r) [] 0 []
theorem Ev.Li{E:Env}{F F':Fr}{H H':Hp}{k:Nat}{op:fC}{v:AV}{W:List (Nat×dy)}{n:Nat}{rd:List Nat}(h:Ev E F H k op v W n rd)
    (hF:∀t∈fp op,F' t=F t) (hH:∀i∈rd,H' i=H i):Ev E F' H' k op v W n rd:=by
 cases h with
 |ev h1 =>
  rw[<-CM hF];exact .ev (by rw[C3 hF hH];exact h1)
 |call h1 h2=>exact .call (by rw[gu hF];exact h1) h2
 |own h1 h2=>exact .own (by rw[gu hF];exact h1) h2
 |fJ h0 h1 h2=>exact .fJ (by rw[bC fun t ht=>hF t (by simp[fp,ht])];exact h0) (by rw[gu fun t ht=>hF t (by simp[fp,ht])];exact h1) h2
theorem I3{E:Env}{N:Nat}(hE:E.OK){F:Fr}{H:Hp}{U:Nat->Prop}{o:Oper}{n k sz:Nat}{l:List AO}{ps:List PV}{es:List (List PV)}(hc:ey E o=some (.call n l))(hd:∀k,o.dst=some k->k<N)(h1:cd (ff F l)=some ps)(h2:Ej E n ps sz es)(hk:¬U k) :
    cK E N o F H U (.ms k) [(k,.row sz es)] (fun i=>U i\/i=k):=by
 obtain⟨c,f,ho,hb,hf,hl⟩:=uS hc;intro X M a w Q hX hN R;subst hX;have e:=hE.FH f n hf;subst e;rw[Oper.wp,rN ho hb,lE h2.1,sZ];have h3:=eQ _ _ _ h1 (ml hE R hl);have hargs:(#[]++c.args.map a.eval++ #[]:Array Value)=(List.map a.eval c.args.toList).toArray:=by rw[vV];simp
 rw[hargs];refine(h2.2 X M F H U k a w _ rfl R hk h3).mono fun e w' hh=>?_;obtain⟨v,M',rfl,R',hv⟩:=hh;exact⟨M',R'.put hv (fun k hk=>by rw[hN];exact hd k hk)⟩
theorem BT{E:Env}{N:Nat}(hE:E.OK){F:Fr}{H:Hp}{U:Nat->Prop}{o:Oper}{n:Nat}{f:AO}{l:List AO}{fs cs:List AV}{ps:List PV}{r:PV}(hc:ey E o=some (.fJ f l))(hd:∀k,o.dst=some k->k<N)(h0:aT (dG F f)=some (n,fs,cs))(h1:cd (fs++(ff F l++cs))=some ps)(h2:Pure E n ps r) :
    cK E N o F H U (.pv r) [] U:=by
 obtain⟨c,t,ho,hb,rfl,hl⟩:=wZ hc;intro X M a w Q hX hN R;subst hX;obtain⟨vs,us,g1,g2,g3⟩:=DG h0 (R.fr t);have Hr:execOp a.eval o=callFunc (X.E.ρ n) (vs.toArray++c.args.map a.eval++us.toArray):=by
  unfold execOp;rw[ho];simp only[resolve,hb];show(Deferred.ofValue (a.tmps.getD t undef) (c.args.map a.eval) >>= fun d=>invoke d.target d.args)=_;rw[g1];rfl
 rw[Oper.wp,Hr,lE h2.1,sZ];have h3:=eQ _ _ _ h1 (mW g2 (mW (ml hE R hl) g3));have h4:=h2.2 (fun b=>X.K b\/∃i,H i≠ .dead/\M i=b) w _ R.inv (fun b hb=>by
  rcases hb with hb|⟨i,hi,rfl⟩
  ·exact dA (R.K b hb) R.keeps.size
  ·exact(R.own i hi).1) (dL ⟨fun b hb=>⟨hb.1,fun h=>by
   rcases h with h|⟨i,hi,h⟩
   ·exact hb.2.1 h
   ·exact hb.2.2 i hi h⟩,fun _ _=>rfl⟩ _ _ h3)
 have hargs:(vs.toArray++c.args.map a.eval++us.toArray:Array Value)=(vs++(List.map a.eval c.args.toList++us)).toArray:=by rw[vV];simp
 rw[hargs];refine h4.mono fun e w' hh=>?_;obtain⟨v,rfl,g4,g5⟩:=hh;have R':=R.grown g5;refine⟨M,R'.put ?_ (fun k hk=>by rw[hN];exact hd k hk)⟩;simp only[VA];refine iC ⟨fun b hb=>⟨hb.1,fun h=>hb.2 (.inl h),fun i hi h=>hb.2 (.inr ⟨i,hi,h⟩)⟩,fun _ _=>rfl⟩ _ _ g4
theorem Ev.JH{E:Env}{N:Nat}(hE:E.OK){F:Fr}{H:Hp}{U:Nat->Prop}{k:Nat}{op:fC}{v:AV}{W:List (Nat×dy)}{n:Nat}{rd:List Nat}(h:Ev E F H k op v W n rd){o:Oper}
    (hc:ey E o=some op) (hd:∀k,o.dst=some k->k<N) (hn:op.lW=true->o.dst=none) (hk:0<n->¬U k):cK E N o F H U v W (fun i=>U i\/(0<n/\i=k)):=by
 cases h with
 |ev h1=>exact ue hE h1 hc hd hn hk
 |call h1 h2=>exact(EA hE hc hd h1 h2).used fun i h=>.inl h
 |own h1 h2=>exact(I3 hE hc hd h1 h2 (hk (by omega))).used fun i h=>h.imp id fun h=>⟨by omega,h⟩
 |fJ h0 h1 h2=>exact(BT hE hc hd h0 h1 h2).used fun i h=>.inl h
end
structure En where
 x:aV
 skip:Bool
 k:Nat
 v:AV
 W:List (Nat×dy)
 n:Nat
 rd:List Nat
def mI:Option (Nat×Bool)->List Nat
 |some (t,_)=>[t]
 |none=>[]
def En.reads(e:En):List Nat:=fp e.x.op++mI e.x.guard
def keys:List (Nat×dy)->List Nat
 |[]=>[]
 |(k,_)::r=>k::keys r
structure FS where
 F:Fr
 H:Hp
 U:Nat->Prop
def En.step(e:En)(s:FS):FS:=⟨put s.F e.x.dst e.v,wr s.H e.W,fun i=>s.U i\/(0<e.n/\i=e.k)⟩
def En.ok(E:Env)(e:En)(s:FS):Prop :=
 (e.skip=true/\cH s.F e.x.guard=some false/\e.v=.pv (.tuple [])/\e.W=[]/\e.n=0) \/
 (e.skip=false/\cH s.F e.x.guard=some true/\Ev E s.F s.H e.k e.x.op e.v e.W e.n e.rd/\(0<e.n->¬s.U e.k))
def su(e f:En):Prop :=
 (∀d,e.x.dst=some d->d∉f.reads/\f.x.dst≠some d)/\(∀d,f.x.dst=some d->d∉e.reads) /\
 (∀i∈keys e.W,i∉f.rd/\i∉keys f.W)/\(∀i∈keys f.W,i∉e.rd)/\(0<e.n->0<f.n->e.k≠f.k)
theorem me{H:Hp}:∀{W:List (Nat×dy)} {i:Nat},i∉keys W->wr H W i=H i
 |[],i,h=>rfl
 |(k,B)::r,i,h=>by
  simp only[keys,aS,not_or]at h;rw[ep H B r (fun he=>h.1 he.symm)];exact me h.2
theorem IM{H H':Hp}:∀{W:List (Nat×dy)} {i:Nat},i∈keys W->wr H W i=wr H' W i
 |[],i,h=>by simp[keys]at h
 |(k,B)::r,i,h=>by
  by_cases hk:k=i
  ·subst hk;rw[ea,ea]
  ·rw[ep H B r hk,ep H' B r hk];simp only[keys,aS]at h;exact IM (h.resolve_left fun he=>hk he.symm)
theorem jv{F:Fr}{d:Option Nat}{v:AV}{t:Nat}(h:d≠some t):put F d v t=F t:=by
 cases d with
 |none=>rfl
 |some k=>simp only[put];rw[eX fun he=>h (by rw[he])];rfl
theorem rl{F:Fr}{k:Nat}{v:AV}:put F (some k) v k=v:=by
 simp only[put];rw[cm];rfl
theorem nq{F F':Fr}{g:Option (Nat×Bool)}(h:∀t∈mI g,F' t=F t):cH F' g=cH F g:=by
 cases g with
 |none=>rfl
 |some p =>
  obtain⟨t,b⟩:=p;simp only[cH];rw[h t (by simp[mI])]
theorem En.vc{E:Env}{e:En}{s s':FS}(h:e.ok E s)(hF:∀t∈e.reads,s'.F t=s.F t)(hH:∀i∈e.rd,s'.H i=s.H i)(hU:0<e.n->¬s'.U e.k):e.ok E s':=by
 rcases h with⟨h1,h2,h3⟩|⟨h1,h2,h3,h4⟩
 ·exact .inl ⟨h1,by rw[nq fun t ht=>hF t (by simp[En.reads,ht])];exact h2,h3⟩
 ·exact .inr ⟨h1,by rw[nq fun t ht=>hF t (by simp[En.reads,ht])];exact h2,h3.Li (fun t ht=>hF t (by simp[En.reads,ht])) hH,hU⟩
theorem xn{e f:En}(h:su e f)(s:FS):f.step (e.step s)=e.step (f.step s):=by
 obtain⟨h1,h2,h3,h4,h5⟩:=h;simp only[En.step,FS.mk.injEq];refine⟨?_,?_,?_⟩
 ·funext t;by_cases hf:f.x.dst=some t
  ·have he:e.x.dst≠some t:=fun he=>(h1 t he).2 hf;rw[jv he,hf,rl,rl]
  ·rw[jv hf];by_cases he:e.x.dst=some t
   ·rw[he,rl,rl]
   ·rw[jv he,jv he,jv hf]
 ·funext i;by_cases hf:i∈keys f.W
  ·have he:i∉keys e.W:=fun he=>(h3 i he).2 hf;rw[me (H:=wr s.H f.W) he];exact IM hf
  ·rw[me hf];by_cases he:i∈keys e.W
   ·exact IM he
   ·rw[me he,me he,me hf]
 ·funext i;apply propext;constructor
  ·rintro((h|h)|h)
   ·exact .inl (.inl h)
   ·exact .inr h
   ·exact .inl (.inr h)
  ·rintro((h|h)|h)
   ·exact .inl (.inl h)
   ·exact .inr h
   ·exact .inl (.inr h)
def Gf(E:Env):List En->FS->Prop
 |[],_=>True
 |e::r,s=>e.ok E s/\Gf E r (e.step s)
def fin:List En->FS->FS
 |[],s=>s
 |e::r,s=>fin r (e.step s)
theorem GH{E:Env}{e:En}:∀{l1 l2:List En} {s:FS},Gf E (l1++e::l2) s->(∀f∈l1,su f e)->e.ok E s/\Gf E (l1++l2) (e.step s)/\fin (l1++e::l2) s=fin (l1++l2) (e.step s)
 |[],l2,s,h,hi=>⟨h.1,h.2,rfl⟩
 |f::l1,l2,s,h,hi=>by
  obtain⟨hf,hr⟩:=h;obtain⟨he,UM,pW⟩:=GH hr (fun g hg=>hi g (by simp[hg]));have OS:=hi f (by simp);obtain⟨h1,h2,h3,h4,h5⟩:=OS;refine⟨En.vc he (fun t ht=>?_) (fun i cS=>?_) (fun hn hu=>?_),⟨?_,?_⟩,?_⟩
  ·simp only[En.step];rw[jv fun hd=>(h1 t hd).1 ht]
  ·simp only[En.step];rw[me fun hk=>(h3 i hk).1 cS]
  ·rcases he with he|he
   ·rw[he.2.2.2.2]at hn;exact absurd hn (by omega)
   ·exact he.2.2.2 hn (.inl hu)
  ·refine En.vc hf (fun t ht=>?_) (fun i cS=>?_) (fun hn hu=>?_)
   ·simp only[En.step];rw[jv fun hd=>h2 t hd ht]
   ·simp only[En.step];rw[me fun hk=>h4 i hk cS]
   ·rcases hf with hf|hf
    ·rw[hf.2.2.2.2]at hn;exact absurd hn (by omega)
    ·rcases hu with hu|hu
     ·exact hf.2.2.2 hn hu
     ·exact h5 hn hu.1 hu.2
  ·rw[<-xn ⟨h1,h2,h3,h4,h5⟩];exact UM
  ·simp only[aG,fin];rw[pW,xn ⟨h1,h2,h3,h4,h5⟩]
theorem uW{fG:Array Bool}{k i:Nat}:(fG.setIfInBounds k true).getD i true=if k=i then true else fG.getD i true:=by
 by_cases h:k=i
 ·subst h;rw[aW rfl];by_cases hk:k<fG.size <;>simp[hk]
 ·rw[aw h];simp[ec h]
inductive lM(dp:Nat->List Nat):Nat->Nat->Prop
 |one {i j:Nat}:i∈dp j->lM dp i j
 |step {i j k:Nat}:lM dp i j->j∈dp k->lM dp i k
theorem lM.fG{dp:Nat->List Nat}{L:Nat->Prop}(Ke:∀i,L i->∀d∈dp i,L d){i j:Nat}(h:lM dp i j):(∀d∈dp j,L d)->L i:=by
 induction h with
 |one h=>exact fun ha=>ha _ h
 |step h1 h2 ih=>exact fun ha=>ih fun d hd=>Ke _ (ha _ h2) d hd
theorem wG{E:Env}{N:Nat}(hE:E.OK){ops:Array Oper}{X:Ctx}(hX:X.E=E)(hN:X.N=N){Q:Exit->Act->World->Prop}{S:FS}(hQ:∀M a w,Rel X M S.F S.H S.U a w->Q .normal a w)(dp:Nat->List Nat) :
    ∀(n:Nat) (es:List (Nat×En)) (fG:Array Bool) (s:FS) (M:Nat->Nat) (a:Act) (w:World),es.length=n ->
     (∀p∈es,∃o,ops[p.1]? =some o/\sD E N ops o=some p.2.x/\(p.2.x.op.lW=true->p.2.x.dst=none))->(∀i,fG.getD i true=false↔i∈es.map (·.1))->fG.size=ops.size ->
     es.Pairwise (fun p q=>p.1<q.1/\(lM dp p.1 q.1\/su p.2 q.2))->(∀p∈es,∀d∈p.2.x.kC,d<p.1)->(∀p∈es,p.2.x.kC=dp p.1)->(∀i,fG.getD i true=true->∀d∈dp i,fG.getD d true=true) ->
     Gf E (es.map (·.2)) s->fin (es.map (·.2)) s=S->Rel X M s.F s.H s.U a w->wpAny E.P .any ops Q n fG a w
 |0,es,fG,s,M,a,w,hn,Ki,LG,lK,wb,MB,J6,Ke,iw,pW,R=>by
  have:es=[]:=cu hn;subst this;refine⟨?_,hQ M a w (by rw[<-pW];exact R)⟩;rw[List.eq_nil_iff_forall_not_mem];intro j hj;have:=(mem_ready.1 hj).1;rw[LG]at this;simp at this
 |n+1,es,fG,s,M,a,w,hn,Ki,LG,lK,wb,MB,J6,Ke,iw,pW,R=>by
  constructor
  ·intro RY;exfalso;obtain⟨p,r,rfl⟩:∃p r,es=p::r:=by cases es with
    |nil=>simp at hn
    |cons p r=>exact⟨p,r,rfl⟩
   have Tg:p.1∈Region.ready .any ops fG:=by
    rw[mem_ready];obtain⟨o,ho,hc,_⟩:=Ki p (by simp);refine⟨(LG p.1).2 (by simp),o,ho,fun e he hb=>?_⟩;have hd:e.on∈p.2.x.kC:=by
     unfold sD at hc;split at hc
     ·split at hc
      ·simp at hc;rw[<-hc];simp only[cC,List.mem_filter];exact⟨e,⟨by simpa using he,hb⟩,rfl⟩
      ·simp at hc
     ·simp at hc
    have hlt:=MB p (by simp) _ hd;have lT:p.1<ops.size:=(ck.1 ho).1;have P9:¬fG.getD e.on true=false:=by
     rw[LG];intro hm;simp only[aX,aS,cC]at hm;rcases hm with h|⟨q,hq,h⟩
     ·omega
     ·have:=(List.rel_of_pairwise_cons wb hq).1;omega
    have:e.on<fG.size:=by omega
    simp[this]at P9⊢;exact P9
   rw[RY]at Tg;simp at Tg
  ·intro k hk;obtain⟨UB,o,ho,hall⟩:=mem_ready.1 hk;have Hv:=(LG k).1 UB;simp only[cC]at Hv;obtain⟨p,hp,rfl⟩:=Hv;obtain⟨l1,l2,rfl⟩:=List.append_of_mem hp;obtain⟨o',wS,hc,MM⟩:=Ki p hp;rw[ho]at wS;obtain rfl:o=o':=by simpa using wS
   have Lz:∀d∈dp p.1,fG.getD d true=true:=fun d hd=>by
    rw[<-J6 p hp]at hd;have:∃e∈o.after,Region.binds .any e=true/\e.on=d:=by
     unfold sD at hc;split at hc
     ·split at hc
      ·simp at hc;rw[<-hc]at hd;simp only[cC,List.mem_filter]at hd;obtain⟨e,⟨h3,h4⟩,h5⟩:=hd;exact⟨e,by simpa using h3,h4,h5⟩
      ·simp at hc
     ·simp at hc
    obtain⟨e,h3,h4,h5⟩:=this;have h6:=hall e h3 h4;rw[h5]at h6;by_cases hlt:d<fG.size
    ·simp[hlt]at h6⊢;exact h6
    ·simp[Array.getElem?_eq_none (Nat.le_of_not_lt hlt)]at h6
   have RR:∀q∈l1,su q.2 p.2:=fun q hq=>by
    have h1:=(vT.1 wb).2.2 q hq p (by simp);rcases h1.2 with h2|h2
    ·exfalso;have UL:fG.getD q.1 true=false:=(LG q.1).2 (by simp;exact .inl ⟨q.2,hq⟩);have:=h2.fG (L:=fun i=>fG.getD i true=true) Ke Lz;rw[UL]at this;simp at this
    ·exact h2
   have hb:=GH (e:=p.2) (l1:=l1.map (·.2)) (l2:=l2.map (·.2)) (s:=s) (by simpa using iw) (fun f hf=>by
    simp only[cC]at hf;obtain⟨q,hq,rfl⟩:=hf;exact RR q hq)
   obtain⟨wT,Pk,OT⟩:=hb;have ih:=fun M' a' w' (R':Rel X M' (p.2.step s).F (p.2.step s).H (p.2.step s).U a' w')=>wG hE hX hN hQ dp n (l1++l2) (fG.setIfInBounds p.1 true) (p.2.step s) M' a' w' (by simp at hn⊢;omega)
    (fun q hq=>Ki q (by rcases ct.1 hq with h|h <;>simp[h]))
    (fun i=>by
     rw[uW];have F5:=vT.1 wb;constructor
     ·intro h;by_cases P0:p.1=i
      ·rw[aW P0]at h;simp at h
      ·rw[aw P0,LG]at h;simp only[bj,aX,ct,aS]at h⊢;rcases h with h|h|h
       ·exact .inl h
       ·exact absurd h.symm P0
       ·exact .inr h
     ·intro h;have ew:p.1≠i:=by
       intro he;subst he;simp only[bj,ct,cC]at h;rcases h with⟨q,hq,h⟩|⟨q,hq,h⟩
       ·have:=(F5.2.2 q hq p (by simp)).1;omega
       ·have:=(List.rel_of_pairwise_cons F5.2.1 hq).1;omega
      rw[aw ew,LG];simp only[bj,aX,ct,aS]at h⊢;rcases h with h|h
      ·exact .inl h
      ·exact .inr (.inr h))
    (by simpa using lK)
    (by
     have F5:=vT.1 wb;rw[vT];exact⟨F5.1,(gO.1 F5.2.1).2,fun x hx y hy=>F5.2.2 x hx y (by simp[hy])⟩)
    (fun q hq=>MB q (by rcases ct.1 hq with h|h <;>simp[h]))
    (fun q hq=>J6 q (by rcases ct.1 hq with h|h <;>simp[h]))
    (fun i hi d hd=>by
     rw[uW]at hi⊢;by_cases di:p.1=d
     ·rw[aW di]
     ·rw[aw di];by_cases cS:p.1=i
      ·subst cS;exact Lz d hd
      ·rw[aw cS]at hi;exact Ke i hi d hd)
    (by simpa using Pk) (by rw[<-pW];simpa using OT.symm) R'
   obtain⟨c1,c2,c3,c4⟩:=l6 hc;unfold wpOp;rw[ho];simp only;have R0:Rl X M ⟨[],[],0⟩ a w->True:=fun _=>trivial;have Hs:∀b,cH s.F p.2.x.guard=some b->Region.wanted o (yielded ops a.tmps)=b:=fun b hg=>by
    subst hN;unfold Region.wanted;unfold tY at c4;split at c4
    ·rename_i h;simp at c4;rw[<-c4]at hg;simp[cH]at hg;rw[h];simp[hg]
    ·rename_i j want h;rw[h];simp only;split at c4
     ·rename_i t ht;split at c4
      ·rename_i hlt;simp at c4;rw[<-c4]at hg;simp only[cH]at hg;have hv:=R.fr t;have lK:t<a.tmps.size:=by rw[R.size];exact hlt
       have aK:a.tmps[t]? =some (a.tmps.getD t undef):=by simp[lK]
       split at hg
       ·rename_i c hF;rw[hF]at hv;simp only[VA,VP]at hv;simp at hg;subst hg;unfold yielded;rw[ht,Option.bind_some,aK,hv];simp
       ·rename_i hF;rw[hF]at hv;simp only[VA,VP,VPs]at hv;obtain⟨vs,h1,rfl⟩:=hv;simp at hg;subst hg;unfold yielded;rw[ht,Option.bind_some,aK,h1];simp
       ·simp at hg
      ·simp at c4
     ·simp at c4
   rcases wT with⟨k1,k2,k3,k4,k5⟩|⟨k1,k2,k3,k4⟩
   ·rw[aw (by rw[Hs false k2];simp)];refine ih M (a.put o.dst undef) w ?_;simp only[En.step,k3,k4,k5];rw[<-c2];have:=Rel.put R (d:=o.dst) (av:=.pv (.tuple [])) (v:=undef) (by simp only[VA,VP,VPs];exact⟨[],rfl,rfl⟩) (fun k hk=>by rw[hN];exact c3 k hk);exact this.pq fun i h=>.inl h
   ·rw[aW (Hs true k2)];left;refine Oper.wp_mono ?_ (k3.JH (U:=s.U) hE c1 c3 (fun h=>by rw[c2];exact MM h) k4 X M a w Q hX hN R)
    rintro a' w' ⟨M',R'⟩
    refine ih M' a' w' ?_;simp only[En.step];rw[<-c2];exact R'
section
def mem(a:Nat):List Nat->Bool
 |[]=>false
 |b::r=>cond (Nat.beq a b) true (mem a r)
theorem mem_iff{a:Nat}:∀{l:List Nat},mem a l=true↔a∈l
 |[]=>by simp[mem]
 |b::r=>by
  simp only[mem];by_cases h:a=b
  ·subst h;rw[cm];simp
  ·rw[eX h];simp[mem_iff,h]
def fo:List Nat->List Nat->Bool
 |[],_=>true
 |a::r,l=>cond (mem a l) false (fo r l)
theorem ni:∀{l l':List Nat},fo l l'=true->∀i∈l,i∉l'
 |[],l',h,i,hi=>by simp at hi
 |a::r,l',h,i,hi=>by
  simp only[fo]at h;cases hm:mem a l' with
  |true=>rw[hm]at h;simp at h
  |false =>
   rw[hm]at h;rcases aS.1 hi with rfl|hi
   ·intro hc;rw[mem_iff.2 hc]at hm;simp at hm
   ·exact ni h i hi
def kG:Option Nat->List Nat
 |some d=>[d]
 |none=>[]
def iI(e f:En):Bool :=
 fo (kG e.x.dst) f.reads&&(fo (kG e.x.dst) (kG f.x.dst)&&(fo (kG f.x.dst) e.reads&&(fo (keys e.W) f.rd&&(fo (keys e.W) (keys f.W)&&(fo (keys f.W) e.rd &&
  (Nat.beq e.n 0||(Nat.beq f.n 0||!(Nat.beq e.k f.k))))))))
theorem wX{e f:En}(h:iI e f=true):su e f:=by
 simp only[iI,bq]at h;obtain⟨h1,h2,h3,h4,h5,h6,h7⟩:=h;refine⟨fun d hd=>⟨ni h1 d (by simp[hd,kG]),fun hf=>?_⟩,fun d hd=>ni h3 d (by simp[hd,kG]),fun i hi=>⟨ni h4 i hi,ni h5 i hi⟩,fun i hi=>ni h6 i hi,fun he hf=>?_⟩
 ·exact ni h2 d (by simp[hd,kG]) (by simp[hf,kG])
 ·simp only[ke,Bool.not_eq_true']at h7;rcases h7 with h|h|h
  ·have:=cX h;omega
  ·have:=cX h;omega
  ·intro hk;rw[hk,cm]at h;simp at h
def kX(i:Nat):List Nat->Bool
 |[]=>true
 |d::r=>Nat.blt d i&&kX i r
def ij(e:En):Bool:=match e.x.op with
 | .store _ _ _=>match e.x.dst with
  |none=>true
  |some _=>false
 |_=>true
def iY(i:Nat)(e:En):List En->Bool
 |[]=>true
 |f::r=>(mem i f.x.kC||iI e f)&&iY i e r
def sy(l:List Nat):List Nat->Bool
 |[]=>false
 |d::r=>cond (mem d l) true (sy l r)
def vp(l:List Nat)(j:Nat)(e:En):List En->Bool
 |[]=>true
 |f::r=>cond (sy l f.x.kC) (vp (j::l) (j+1) e r) (iI e f&&vp l (j+1) e r)
def eA(i:Nat):List En->Bool
 |[]=>true
 |e::r=>kX i e.x.kC&&(ij e&&((iY i e r||vp [i] (i+1) e r)&&eA (i+1) r))
theorem zQ{i:Nat}:∀{l:List Nat},kX i l=true->∀d∈l,d<i
 |[],h,d,hd=>by simp at hd
 |a::r,h,d,hd=>by
  simp only[kX,bq]at h;rcases aS.1 hd with rfl|hd
  ·have:=h.1;rw[Nat.blt_eq]at this;exact this
  ·exact zQ h.2 d hd
theorem CV{e:En}(h:ij e=true)(hs:e.x.op.lW=true):e.x.dst=none:=by
 unfold ij at h;split at h
 ·split at h
  ·assumption
  ·simp at h
 ·rename_i ew;cases gD:e.x.op <;>rw[gD]at hs <;>simp[fC.lW]at hs;exact absurd gD (ew _ _ _)
theorem xi{i:Nat}{e:En}:∀{l:List En},iY i e l=true->∀f∈l,i∈f.x.kC\/su e f
 |[],h,f,hf=>by simp at hf
 |g::r,h,f,hf=>by
  simp only[iY,bq,ke]at h;rcases aS.1 hf with rfl|hf
  ·rcases h.1 with h|h
   ·exact .inl (mem_iff.1 h)
   ·exact .inr (wX h)
  ·exact xi h.2 f hf
def idxFrom(i:Nat):List En->List (Nat×En)
 |[]=>[]
 |e::r=>(i,e)::idxFrom (i+1) r
theorem iO:∀{l:List En} {i:Nat} {p:Nat×En},p∈idxFrom i l↔∃j,l[j]? =some p.2/\p.1=i+j
 |[],i,p=>by simp[idxFrom]
 |e::r,i,p=>by
  simp only[idxFrom,aS];rw[iO];constructor
  ·rintro(rfl|⟨j,h1,h2⟩)
   ·exact⟨0,rfl,rfl⟩
   ·exact⟨j+1,by simpa using h1,by omega⟩
  ·rintro⟨j,h1,h2⟩
   cases j with
   |zero=>left;simp at h1;exact Prod.ext (by simpa using h2) h1.symm
   |succ j=>right;exact⟨j,by simpa using h1,by omega⟩
theorem oF:∀{l:List En} {i:Nat},(idxFrom i l).map (·.2)=l
 |[],i=>rfl
 |e::r,i=>by simp[idxFrom,oF]
theorem oE:∀{l:List En} {i:Nat},(idxFrom i l).length=l.length
 |[],i=>rfl
 |e::r,i=>by simp[idxFrom,oE]
theorem zS{l:List Nat}:∀{r:List Nat},sy l r=true->∃d∈r,d∈l
 |[],h=>by simp[sy]at h
 |d::r,h=>by
  simp only[sy]at h;cases hm:mem d l with
  |true=>exact⟨d,by simp,mem_iff.1 hm⟩
  |false =>
   rw[hm]at h;obtain⟨d',h1,h2⟩:=zS (r:=r) h;exact⟨d',by simp[h1],h2⟩
theorem vq{dp:Nat->List Nat}{i:Nat}{e:En}:∀{r:List En} {l:List Nat} {j:Nat},(∀p∈idxFrom j r,p.2.x.kC=dp p.1)->(∀d∈l,d=i\/lM dp i d)->vp l j e r=true->∀q∈idxFrom j r,lM dp i q.1\/su e q.2
 |[],l,j,_,_,_,q,hq=>by simp[idxFrom]at hq
 |f::r,l,j,hd,hl,h,q,hq=>by
  simp only[vp]at h;simp only[idxFrom,aS]at hq hd;have di:∀p∈idxFrom (j+1) r,p.2.x.kC=dp p.1:=fun p hp=>hd p (.inr hp);cases ha:sy l f.x.kC with
  |true =>
   rw[ha]at h;obtain⟨d,h1,h2⟩:=zS ha;have hr:lM dp i j:=by
    have e1:f.x.kC=dp j:=hd (j,f) (.inl rfl);rw[e1]at h1;rcases hl d h2 with h3|h3
    ·subst h3;exact .one h1
    ·exact .step h3 h1
   rcases hq with rfl|hq
   ·exact .inl hr
   ·exact vq di (fun d hd=>by
     rcases aS.1 hd with rfl|hd
     ·exact .inr hr
     ·exact hl d hd) h q hq
  |false =>
   rw[ha]at h;simp only[fm,bq]at h;rcases hq with rfl|hq
   ·exact .inr (wX h.1)
   ·exact vq di hl h.2 q hq
theorem qz{dp:Nat->List Nat}:∀{l:List En} {i:Nat},(∀p∈idxFrom i l,p.2.x.kC=dp p.1)->eA i l=true->(idxFrom i l).Pairwise (fun p q=>p.1<q.1/\(lM dp p.1 q.1\/su p.2 q.2))/\(∀p∈idxFrom i l,∀d∈p.2.x.kC,d<p.1) /\
    (∀p∈idxFrom i l,p.2.x.op.lW=true->p.2.x.dst=none)
 |[],i,_,h=>by simp[idxFrom]
 |e::r,i,hd,h=>by
  simp only[eA,bq,ke]at h;obtain⟨h1,h2,h3,h4⟩:=h;simp only[idxFrom,aS]at hd;have di:∀p∈idxFrom (i+1) r,p.2.x.kC=dp p.1:=fun p hp=>hd p (.inr hp);obtain⟨g1,g2,g3⟩:=qz di h4;simp only[idxFrom,gO,aS];refine⟨⟨fun q hq=>?_,g1⟩,?_,?_⟩
  ·obtain⟨j,k1,k2⟩:=iO.1 hq;refine⟨by show i<q.1;omega,?_⟩;rcases h3 with h3|h3
   ·rcases xi h3 q.2 (dH k1)with h5|h5
    ·rw[di q hq]at h5;exact .inl (.one h5)
    ·exact .inr h5
   ·exact vq di (fun d hd=>.inl (by simpa using hd)) h3 q hq
  ·rintro p (rfl|hp) d hd
   ·exact zQ h1 d hd
   ·exact g2 p hp d hd
  ·rintro p (rfl|hp) hs
   ·exact CV h2 hs
   ·exact g3 p hp hs
inductive BC(E:Env):List aV->St->List En->St->Prop
 |nil {st}:BC E [] st [] st
 |cons {x l st v W n rd es bV}:cH (look st.fr) x.guard=some true->Ev E (look st.fr) (ah st.hp) st.nx x.op v W n rd->BC E l ⟨dt st x.dst v,W++st.hp,st.nx+n⟩ es bV ->
    BC E (x::l) st (⟨x,false,st.nx,v,W,n,rd⟩::es) bV
 |skip {x l st es bV}:cH (look st.fr) x.guard=some false->BC E l ⟨dt st x.dst (.pv (.tuple [])),st.hp,st.nx⟩ es bV ->
    BC E (x::l) st (⟨x,true,st.nx,.pv (.tuple []),[],0,[]⟩::es) bV
theorem Gw{H:Hp}{k sz:Nat}{s v:AV}{es:List (List PV)}{W:List (Nat×dy)}{n:Nat}(h:fT H k sz s es=some (v,W,n)):n<=1:=by
 unfold fT at h
 repeat' split at h
 all_goals first|(simp only[ai,b9]at h;omega)|(exact absurd h (by simp))
theorem GY{F:Fr}{H:Hp}{k:Nat}{op:fC}{v:AV}{W:List (Nat×dy)}{n:Nat}(h:bD F H k op=some (v,W,n)):n<=1:=by
 unfold bD at h
 repeat' split at h
 all_goals first|(simp only[ai,b9]at h;omega)|(exact absurd h (by simp))|exact Gw h
theorem Ev.one{E:Env}{F:Fr}{H:Hp}{k:Nat}{op:fC}{v:AV}{W:List (Nat×dy)}{n:Nat}{rd:List Nat}(h:Ev E F H k op v W n rd):n<=1:=by
 cases h with
 |ev h1=>exact GY h1
 |_=>omega
theorem BC.run{E:Env}{l:List aV}{st bV:St}{es:List En}(h:BC E l st es bV):∀(U:Nat->Prop),(∀i,U i↔i<st.nx) ->
    Gf E es ⟨look st.fr,ah st.hp,U⟩/\∃U',fin es ⟨look st.fr,ah st.hp,U⟩=⟨look bV.fr,ah bV.hp,U'⟩/\(∀i,U' i↔i<bV.nx):=by
 induction h with
 |nil=>exact fun U hU=>⟨trivial,U,rfl,hU⟩
 | @cons x l st v W n rd es bV hg vN ht ih =>
  intro U hU;have h1:=vN.one;obtain⟨g1,U',g2,g3⟩:=ih (fun i=>U i\/(0<n/\i=st.nx)) (fun i=>by
   rw[hU];constructor
   ·rintro(h|⟨h,h'⟩) <;>(show i<st.nx+n) <;>omega
   ·intro(h:i<st.nx+n);omega)
  have lU:En.step ⟨x,false,st.nx,v,W,n,rd⟩ ⟨look st.fr,ah st.hp,U⟩=⟨look (dt st x.dst v),ah (W++st.hp),fun i=>U i\/(0<n/\i=st.nx)⟩:=by
   simp only[En.step];rw[fX,kZ]
  refine⟨⟨.inr ⟨rfl,hg,vN,fun _ hu=>?_⟩,by rw[lU];exact g1⟩,U',by simp only[fin];rw[lU];exact g2,g3⟩;have:=(hU st.nx).1 hu;omega
 | @skip x l st es bV hg ht ih =>
  intro U hU;obtain⟨g1,U',g2,g3⟩:=ih (fun i=>U i\/(0<0/\i=st.nx)) (fun i=>by
   rw[hU];constructor
   ·rintro(h|⟨h,h'⟩)
    ·exact h
    ·omega
   ·intro h;exact .inl h)
  have lU:En.step ⟨x,true,st.nx,.pv (.tuple []),[],0,[]⟩ ⟨look st.fr,ah st.hp,U⟩=⟨look (dt st x.dst (.pv (.tuple []))),ah st.hp,fun i=>U i\/(0<0/\i=st.nx)⟩:=by
   simp only[En.step];rw[fX];rfl
  exact⟨⟨.inl ⟨rfl,hg,rfl,rfl,rfl⟩,by rw[lU];exact g1⟩,U',by simp only[fin];rw[lU];exact g2,g3⟩
theorem BC.xs{E:Env}{l:List aV}{st bV:St}{es:List En}(h:BC E l st es bV):es.map (·.x)=l:=by
 induction h with
 |nil=>rfl
 |cons _ _ _ ih=>simp[ih]
 |skip _ _ ih=>simp[ih]
def Jp(E:Env)(l:List aV)(Q:St->Prop)(st:St)(acc:List En):Prop:=∃es bV,BC E l st es bV/\eA 0 (acc.reverse++es)=true/\Q bV
section
variable{E:Env}{Q:St->Prop}{st:St}{x:aV}{l:List aV}{acc:List En}
theorem Jp.nil(hc:eA 0 acc.reverse=true)(h:Q st):Jp E [] Q st acc:=⟨[],st,.nil,by simpa using hc,h⟩
theorem Jp.cons{v:AV}{W:List (Nat×dy)}{n:Nat}{rd:List Nat}(hg:cH (look st.fr) x.guard=some true)(vN:Ev E (look st.fr) (ah st.hp) st.nx x.op v W n rd)
    (h:Jp E l Q ⟨dt st x.dst v,W++st.hp,st.nx+n⟩ (⟨x,false,st.nx,v,W,n,rd⟩::acc)):Jp E (x::l) Q st acc:=by
 obtain⟨es,bV,h1,h2,h3⟩:=h;exact⟨_,bV,.cons hg vN h1,by simpa using h2,h3⟩
theorem Jp.skip(hg:cH (look st.fr) x.guard=some false)
    (h:Jp E l Q ⟨dt st x.dst (.pv (.tuple [])),st.hp,st.nx⟩ (⟨x,true,st.nx,.pv (.tuple []),[],0,[]⟩::acc)):Jp E (x::l) Q st acc:=by
 obtain⟨es,bV,h1,h2,h3⟩:=h;exact⟨_,bV,.skip hg h1,by simpa using h2,h3⟩
end
theorem WP.draw{E:Env}(tf:E.OK){N:Nat}{Q:Exit->St->Prop}{st:St}{l:List aV}(h:Jp E l (Q .normal) st []):WP E N (.draw l) Q st:=by
 obtain⟨es,bV,Tq,Kd,hQ⟩:=h;intro code hc X M a w Q' hE hN R hq;obtain⟨id,ops,rfl,h1⟩:=Ck hc;obtain⟨h2,h3⟩:=pT h1;have LJ:=Tq.xs;have hlen:es.length=ops.size:=by
  have:(es.map (·.x)).length=l.length:=by rw[LJ]
  rw[al]at this;rw[this,h2];simp
 obtain⟨iw,U',pW,Uj⟩:=Tq.run (fun i=>i<st.nx) (fun i=>pt);simp only[cy,aE]at Kd;have J6:∀p∈idxFrom 0 es,p.2.x.kC=(fun i=>((es[i]?).map (·.x.kC)).getD []) p.1:=fun p hp=>by
  obtain⟨j,k1,k2⟩:=iO.1 hp;have:p.1=j:=by omega
  simp only[this,k1,Eh,ia]
 obtain⟨c1,c2,c3⟩:=qz (dp:=(fun i=>((es[i]?).map (·.x.kC)).getD [])) J6 Kd;refine wp_region_any (hE▸tf.mixed) ?_;subst hE;refine wG (E:=X.E) (N:=N) (S:=⟨look bV.fr,ah bV.hp,U'⟩) tf rfl hN (fun M' a' w' R'=>hq _ M' bV a' w' hQ (R'.pq fun i hi=>(Uj i).1 hi)) (fun i=>((es[i]?).map (·.x.kC)).getD []) ops.size (idxFrom 0 es) _ ⟨look st.fr,ah st.hp,fun i=>i<st.nx⟩ M a _
  (by rw[oE,hlen]) ?_ ?_ (by simp) c1 c2 J6 ?_ (by rw[oF];exact iw) (by rw[oF];exact pW) (R.drew _)
 ·intro p hp;obtain⟨j,k1,k2⟩:=iO.1 hp;have hl:l[j]? =some p.2.x:=by rw[<-LJ,fj,k1];rfl
  obtain⟨o,h4,h5⟩:=h3 j _ hl;refine⟨o,?_,?_,c3 p hp⟩
  ·rw[k2,aQ,<-cr];exact h4
  ·rw[<-hN];rw[hN];exact h5
 ·intro i;simp only[cC];constructor
  ·intro h;have hi:i<ops.size:=by
    rcases Nat.lt_or_ge i ops.size with h'|h'
    ·exact h'
    ·simp[Array.getElem?_eq_none,h']at h
   have cS:i<es.length:=by omega
   exact⟨(i,es[i]),iO.2 ⟨i,by simp[cS],by simp⟩,rfl⟩
  ·rintro⟨p,hp,rfl⟩
   obtain⟨j,k1,k2⟩:=iO.1 hp;have:p.1<ops.size:=by
    have:=(aA.1 k1).1;omega
   simp[this]
 ·intro i hi d hd;have cS:¬i<ops.size:=fun h=>by simp[h]at hi
  have:es[i]? =none:=List.getElem?_eq_none (by omega);simp only[this,Option.map_none,fe,List.not_mem_nil]at hd
end
section
section
variable(id:Nat)(es:List (List PV))
mutual
def gW:AV->AV
 | .ms i=>cond (Nat.beq i id) (.pv (.slice es)) (.ms i)
 | .gd i off len=>cond (Nat.beq i id) (cond (Nat.ble (off+len) es.length) (.pv (.slice ((es.drop off).take len))) .bot) (.gd i off len)
 | .ptr i j off=>cond (Nat.beq i id) (match es[j]? with|some e=>.pv (.gQ e off)|none=>.bot) (.ptr i j off)
 | .func f fs cs=>mkFun f (iU fs) (iU cs)
 | .iface t v=>match gW v with
  | .pv p=>.pv (.iface t p)
  |u=>.iface t u
 | .agg cs=>jY (iU cs)
 | .tuple cs=>.tuple (iU cs)
 |v=>v
def iU:List AV->List AV
 |[]=>[]
 |c::r=>gW c::iU r
end
def nm:dy->dy
 | .var cs=>.var (iU id es cs)
 |B=>B
def uF:List (Nat×AV)->List (Nat×AV)
 |[]=>[]
 |(t,v)::r=>(t,gW id es v)::uF r
def pB:List (Nat×dy)->List (Nat×dy)
 |[]=>[]
 |(i,B)::r=>(i,nm id es B)::pB r
end
theorem oI{id:Nat}{es:List (List PV)}:∀(l:List (Nat×AV)) (t:Nat),look (uF id es l) t=gW id es (look l t)
 |[],t=>by simp only[uF,look,gW]
 |(k,v)::r,t=>by
  simp only[uF,look];cases Nat.beq k t <;>simp only[gP,fm];exact oI r t
theorem kN{id:Nat}{es:List (List PV)}:∀(l:List (Nat×dy)) (t:Nat),ah (pB id es l) t=nm id es (ah l t)
 |[],t=>by simp only[pB,ah,nm]
 |(k,v)::r,t=>by
  simp only[pB,ah];cases Nat.beq k t <;>simp only[gP,fm];exact kN r t
theorem qI{id:Nat}{es:List (List PV)}:∀(l:List AV),(iU id es l).length=l.length
 |[]=>rfl
 |c::r=>by simp only[iU,aC,qI r]
section
variable{X:Ctx}{M:Nat->Nat}{F:Fr}{H:Hp}{U:Nat->Prop}{a:Act}{w:World}{id sz:Nat}{es:List (List PV)}
theorem rG(i id:Nat):(Nat.beq i id=true/\i=id)\/(Nat.beq i id=false/\i≠id):=by
 by_cases h:i=id
 ·exact .inl ⟨by rw[h];exact cm id,h⟩
 ·exact .inr ⟨eX h,h⟩
theorem HU{V:View}{n:Nat}{fs cs:List AV}{vs us:List Value}(h1:ee V fs vs)(h2:ee V cs us):VA V (mkFun n fs cs) (.func (.func (V.E.ρ n)) vs.toArray us.toArray):=by
 unfold mkFun n9;split
 ·rename_i f c hh;split at hh
  ·rename_i a b ha hb;simp at hh;obtain⟨rfl,rfl⟩:=hh;simp only[VA,VP];exact⟨vs,us,rfl,mG ha h1,mG hb h2⟩
  ·simp at hh
 ·simp only[VA];exact⟨vs,us,rfl,h1,h2⟩
mutual
theorem yL(R:Rel X M F H U a w)(dT:H id=.row sz es){H':Hp}(T:iM (aB X w U M H) (aB X w U M H'))(wT:jt X w M H' (M id)):(v:AV)->(u:Value)->VA (aB X w U M H) v u->VA (aB X w U M H') (gW id es v) u
 | .pv p,u,h=>by simp only[gW];exact db T _ _ h
 | .bu,u,h=>by simp only[gW];exact db T _ _ h
 | .bot,u,h=>by simp only[gW,VA]
 | .map i,u,h=>by simp only[gW];exact db T _ _ h
 | .tQ i off len,u,h=>by simp only[gW];exact db T _ _ h
 | .ms i,u,h=>by
  simp only[gW];rcases rG i id with⟨hb,rfl⟩|⟨hb,ew⟩ <;>rw[hb] <;>simp only[gP,fm]
  ·simp only[VA]at h⊢;obtain⟨cap,t,gS,h1,h2,_,_⟩:=h.2.2 (sz,es.length) (by simp[aB,dT,dy.info]);have uJ:=R.blk i;rw[dT]at uJ;obtain⟨c,t',g1,g2,g3⟩:=uJ;simp only[VP];refine⟨_,_,_,h1,rfl,h2,fun hp=>⟨M i,0,sz,rfl,wT,?_⟩⟩;exact gg T.stays _ _ _ _ (fun _=>rfl) g3
  ·exact db T _ _ h
 | .gd i off len,u,h=>by
  simp only[gW];rcases rG i id with⟨hb,rfl⟩|⟨hb,ew⟩ <;>rw[hb] <;>simp only[gP,fm]
  ·cases hle:Nat.ble (off+len) es.length <;>simp only[gP,fm]
   ·simp only[VA]
   ·have hle:=fb hle;simp only[VA]at h⊢;obtain⟨A,cap,t,gS,h1,h2,_,_,h5⟩:=h.2.2 (sz,es.length) (by simp[aB,dT,dy.info]);have uJ:=R.blk i;rw[dT]at uJ;obtain⟨c,t',g1,g2,g3⟩:=uJ;simp only[VP];have hl:((es.drop off).take len).length=len:=by simp;omega
    refine⟨_,_,_,h1,hl.symm,by omega,fun hp=>?_⟩;rw[hl]at hp;refine⟨M i,off*sz,sz,h5 (.inl hp),wT,?_⟩;have:=kV (gg T.stays _ _ _ _ (fun _=>rfl) g3) off len;rw[aQ]at this;exact this
  ·exact db T _ _ h
 | .ptr i j off,u,h=>by
  simp only[gW];rcases rG i id with⟨hb,rfl⟩|⟨hb,ew⟩ <;>rw[hb] <;>simp only[gP,fm]
  ·split
   ·rename_i e he;simp only[VA]at h⊢;have h1:=h.2.2 (sz,es.length) (by simp[aB,dT,dy.info]);have uJ:=R.blk i;rw[dT]at uJ;obtain⟨c,t',g1,g2,g3⟩:=uJ;simp only[VP];refine⟨M i,j*sz,h1,wT,?_⟩;have g:=((eF es 0).1 g3 j e he).2;rw[aQ]at g;exact mF T.stays _ _ _ (fun _=>rfl) g
   ·simp only[VA]
  ·exact db T _ _ h
 | .func f fs cs,u,h=>by
  simp only[VA]at h;obtain⟨vs,us,rfl,h1,h2⟩:=h;simp only[gW];exact HU (lh R dT T wT fs vs h1) (lh R dT T wT cs us h2)
 | .iface t v,u,h=>by
  simp only[VA]at h;obtain⟨x,rfl,h1⟩:=h;have h2:=yL R dT T wT v x h1;simp only[gW];split
  ·rename_i p hp;rw[hp]at h2;simp only[VA,VP]at h2⊢;exact⟨x,rfl,h2⟩
  ·simp only[VA];exact⟨x,rfl,h2⟩
 | .agg cs,u,h=>by
  simp only[VA]at h;obtain⟨vs,rfl,h1⟩:=h;simp only[gW];exact mM (lh R dT T wT cs vs h1)
 | .tuple cs,u,h=>by
  simp only[VA]at h;obtain⟨vs,rfl,h1⟩:=h;simp only[gW,VA];exact⟨vs,rfl,lh R dT T wT cs vs h1⟩
theorem lh(R:Rel X M F H U a w)(dT:H id=.row sz es){H':Hp}(T:iM (aB X w U M H) (aB X w U M H'))(wT:jt X w M H' (M id)):(l:List AV)->(vs:List Value)->ee (aB X w U M H) l vs->ee (aB X w U M H') (iU id es l) vs
 |[],vs,h=>by simpa only[iU,ee]using h
 |c::r,vs,h=>by
  simp only[ee]at h;obtain⟨u,us,rfl,h1,h2⟩:=h;simp only[iU,ee];exact⟨u,us,rfl,yL R dT T wT c u h1,lh R dT T wT r us h2⟩
end
theorem Rel.Ns(R:Rel X M F H U a w)(dT:H id=.row sz es){H':Hp}(hd:H' id=.dead)(hH:∀i,i≠id->H' i=nm id es (H i)){F':Fr}(hF:∀t,F' t=gW id es (F t)):Rel X M F' H' U a w:=by
 have qP:∀B:dy,(nm id es B).info=B.info:=fun B=>by cases B <;>rfl
 have Ly:∀B:dy,nm id es B=.dead->B=.dead:=fun B h=>by cases B <;>simp[nm]at h⊢
 have fK:∀i,H' i≠ .dead->i≠id/\H i≠ .dead:=fun i h=>by
  by_cases h':i=id
  ·subst h';exact absurd hd h
  ·refine⟨h',fun hn=>h ?_⟩;rw[hH i h',hn];rfl
 have T:iM (aB X w U M H) (aB X w U M H'):=by
  refine⟨rfl,⟨fun b hb=>⟨hb.1,hb.2.1,fun i hi=>hb.2.2 i (fK i hi).2⟩,fun _ _=>rfl⟩,fun i h=>h,fun i s hu hs=>?_⟩;by_cases h':i=id
  ·subst h';simp only[aB]at hs;rw[hd]at hs;simp[dy.info]at hs
  ·simp only[aB]at hs⊢;rw[hH i h',qP]at hs;exact⟨hs,trivial,trivial⟩
 have ew:H id≠ .dead:=by rw[dT];simp
 have wT:jt X w M H' (M id):=⟨(R.own id ew).1,(R.own id ew).2.1,fun i hi he=>(fK i hi).1 (R.inj i id (fK i hi).2 ew he)⟩;refine{defers:=R.defers,size:=R.size,keeps:=R.keeps,K:=R.K,used:=fun i hi=>R.used i (fK i hi).2,inj:=fun i j hi hj=>R.inj i j (fK i hi).2 (fK j hj).2,own:=fun i hi=>R.own i (fK i hi).2,
                                                                                                                                blk:=fun i=>?_,fr:=fun t=>by rw[hF];exact yL R dT T wT _ _ (R.fr t),gh:=fun v u h=>db T _ _ (R.gh v u h)}
 by_cases h':i=id
 ·subst h';rw[hd];trivial
 ·rw[hH i h'];have hb:=R.blk i;cases hB:H i with
  |var cs =>
   rw[hB]at hb;obtain⟨c,t,g1,g2,g3⟩:=hb;simp only[nm];refine⟨c,t,g1,by rw[g2,qI],?_⟩;obtain⟨vs,k1,k2,k3⟩:=gf g3;exact kS (lh R dT T wT cs vs k1) k2 k3
  |_ =>
   rw[hB]at hb;simp only[nm];exact fw T _ (fun _=>rfl) hb
end
def nT(id:Nat)(st:St):St:=match ah st.hp id with
 | .row _ es=>⟨uF id es st.fr,(id,.dead)::pB id es st.hp,st.nx⟩
 |_=>st
def qH(id:Nat)(st:St)(vs:List AV):List AV:=match ah st.hp id with
 | .row _ es=>iU id es vs
 |_=>vs
theorem Rl.Ns{X:Ctx}{M:Nat->Nat}{st:St}{a:Act}{w:World}(R:Rl X M st a w)(id:Nat):Rl X M (nT id st) a w:=by
 unfold nT;split
 ·rename_i sz es h;refine Rel.Ns R h (by simp only[ah,cm];rfl) (fun i hi=>?_) fun t=>oI _ _;simp only[ah];rw[eX (fun h=>hi h.symm)];exact kN _ _
 ·exact R
theorem Rl.qH{X:Ctx}{M:Nat->Nat}{st:St}{a:Act}{w:World}(R:Rl X M st a w)(id:Nat){args:List AV}{vs:List Value}(h:ee (aB X w (fun i=>i<st.nx) M (ah st.hp)) args vs) :
    ee (aB X w (fun i=>i<(nT id st).nx) M (ah (nT id st).hp)) (qH id st args) vs:=by
 have R':=R.Ns id;unfold Ab.qH;unfold nT at R'⊢;cases hB:ah st.hp id with
 |row sz es =>
  simp only[hB]at R'⊢;have ew:ah st.hp id≠ .dead:=by rw[hB];simp
  have hd:ah ((id,dy.dead)::pB id es st.hp) id=.dead:=by simp only[ah,cm];rfl
  have hH:∀i,i≠id->ah ((id,dy.dead)::pB id es st.hp) i=nm id es (ah st.hp i):=fun i hi=>by
   simp only[ah];rw[eX (fun h=>hi h.symm)];exact kN _ _
  have fK:∀i,ah ((id,dy.dead)::pB id es st.hp) i≠ .dead->i≠id/\ah st.hp i≠ .dead:=fun i h=>by
   by_cases h':i=id
   ·subst h';exact absurd hd h
   ·refine⟨h',fun hn=>h ?_⟩;rw[hH i h',hn];rfl
  have T:iM (aB X w (fun i=>i<st.nx) M (ah st.hp)) (aB X w (fun i=>i<st.nx) M (ah ((id,dy.dead)::pB id es st.hp))):=by
   refine⟨rfl,⟨fun b hb=>⟨hb.1,hb.2.1,fun i hi=>hb.2.2 i (fK i hi).2⟩,fun _ _=>rfl⟩,fun i h=>h,fun i s hu hs=>?_⟩;by_cases h':i=id
   ·subst h';simp only[aB]at hs;rw[hd]at hs;simp[dy.info]at hs
   ·simp only[aB]at hs⊢;rw[hH i h']at hs;have:(nm id es (ah st.hp i)).info=(ah st.hp i).info:=by cases ah st.hp i <;>rfl
    rw[this]at hs;exact⟨hs,trivial,trivial⟩
  have wT:jt X w M (ah ((id,dy.dead)::pB id es st.hp)) (M id):=⟨(Rel.own R id ew).1,(Rel.own R id ew).2.1,fun i hi he=>(fK i hi).1 (Rel.inj R i id (fK i hi).2 ew he)⟩;exact lh R hB T wT _ _ h
 |_=>simp only[hB]at R'⊢;exact h
def gi:List Nat->St->List AV->St×List AV
 |[],st,vs=>(st,vs)
 |i::r,st,vs=>gi r (nT i st) (qH i st vs)
theorem Rl.JT{X:Ctx}{M:Nat->Nat}{a:Act}{w:World}:∀(l:List Nat) {st:St} {args:List AV} {vs:List Value},Rl X M st a w->ee (aB X w (fun i=>i<st.nx) M (ah st.hp)) args vs ->
    Rl X M (gi l st args).1 a w/\ee (aB X w (fun i=>i<(gi l st args).1.nx) M (ah (gi l st args).1.hp)) (gi l st args).2 vs
 |[],st,args,vs,R,h=>⟨R,h⟩
 |i::r,st,args,vs,R,h=>Rl.JT r (R.Ns i) (R.qH i h)
mutual
def sm:AV->List Nat
 | .ms i=>[i]
 | .gd i _ _=>[i]
 | .ptr i _ _=>[i]
 | .func _ fs cs=>fB fs++fB cs
 | .iface _ v=>sm v
 | .agg cs=>fB cs
 | .tuple cs=>fB cs
 |_=>[]
def fB:List AV->List Nat
 |[]=>[]
 |c::r=>sm c++fB r
end
end
theorem lM.trans{dp:Nat->List Nat}{i j k:Nat}(h1:lM dp i j)(h2:lM dp j k):lM dp i k:=by
 induction h2 with
 |one h=>exact .step h1 h
 |step _ h ih=>exact .step ih h
def G9(E:Env)(n:Nat)(args:List AV)(h0:Hp)(n0:Nat)(v:AV)(h1:Hp)(n1:Nat):Prop :=
 Ed E n/\∀X M F a w vs,X.E=E->Rel X M F h0 (fun i=>i<n0) a w->ee (aB X w (fun i=>i<n0) M h0) args vs ->
  Calls E.P (E.ρ n) vs.toArray w fun e w'=>∃u M',e=.returned u/\Rel X M' F h1 (fun i=>i<n1) a w'/\VA (aB X w' (fun i=>i<n1) M' h1) v u
structure Hn where
 x:aV
 kd:Nat
 v:AV
 rd:List Nat
 h0:List (Nat×dy)
 n0:Nat
 h1:List (Nat×dy)
 n1:Nat
def Hn.reads(e:Hn):List Nat:=fp e.x.op++mI e.x.guard
def Hn.step(e:Hn)(s:FS):FS:=⟨put s.F e.x.dst e.v,if e.kd=2 then ah e.h1 else s.H,if e.kd=2 then(fun i=>i<e.n1)else s.U⟩
def Hn.ok(E:Env)(e:Hn)(s:FS):Prop :=
 (e.kd=0/\cH s.F e.x.guard=some false/\e.v=.pv (.tuple [])) \/
 (e.kd=1/\cH s.F e.x.guard=some true/\Ev E s.F s.H e.n0 e.x.op e.v [] 0 e.rd) \/
 (e.kd=2/\cH s.F e.x.guard=some true/\s.H=ah e.h0/\s.U=(fun i=>i<e.n0)/\∃n xs,e.x.op=.call n xs/\G9 E n (ff s.F xs) (ah e.h0) e.n0 e.v (ah e.h1) e.n1)
theorem Hn.vc{E:Env}{e:Hn}{s s':FS}(h:e.ok E s)(hF:∀t∈e.reads,s'.F t=s.F t)(hH:e.kd=1->∀i∈e.rd,s'.H i=s.H i)(hU:e.kd=2->s'.H=s.H/\s'.U=s.U):e.ok E s':=by
 have hg:cH s'.F e.x.guard=cH s.F e.x.guard:=nq fun t ht=>hF t (by simp[Hn.reads,ht]);rcases h with⟨h1,h2,h3⟩|⟨h1,h2,h3⟩|⟨h1,h2,h3,h4,n,xs,h5,h6⟩
 ·exact .inl ⟨h1,by rw[hg];exact h2,h3⟩
 ·exact .inr (.inl ⟨h1,by rw[hg];exact h2,h3.Li (fun t ht=>hF t (by simp[Hn.reads,ht])) (hH h1)⟩)
 ·obtain⟨u1,u2⟩:=hU h1;refine .inr (.inr ⟨h1,by rw[hg];exact h2,u1.trans h3,u2.trans h4,n,xs,h5,?_⟩);rw[gu fun t ht=>hF t (by simp[Hn.reads,h5,fp,ht])];exact h6
def NS(E:Env):List Hn->FS->Prop
 |[],_=>True
 |e::r,s=>e.ok E s/\NS E r (e.step s)
def H5:List Hn->FS->FS
 |[],s=>s
 |e::r,s=>H5 r (e.step s)
def O6:fC->Bool
 | .call _ _=>true
 |_=>false
def PE:fC->Bool
 | .load _ _ _| .jU _| .fieldAddr _ _| .len _| .G2 _| .store _ _ _| .fA _ _ _| .dB _ _ _ _| .slice _ _ _ _| .gZ _ _ _ _ _| .bin _ (some _) _ _| .append _ _ _ _| .jT _ _ _ _ _| .lk _ _ _ _=>false
 |_=>true
def NO(e:Hn):Prop:=(e.kd=2->O6 e.x.op=true)/\(PE e.x.op=true->e.rd=[])
inductive rC(E:Env):List aV->St->List Hn->St->Prop
 |nil {st}:rC E [] st [] st
 |float {x l st v rd es bV}:cH (look st.fr) x.guard=some true->Ev E (look st.fr) (ah st.hp) st.nx x.op v [] 0 rd->(PE x.op=true->rd=[])->rC E l ⟨dt st x.dst v,st.hp,st.nx⟩ es bV->rC E (x::l) st (⟨x,1,v,rd,[],st.nx,[],0⟩::es) bV
 |Hq {x l st v n xs hp' cE es bV}:cH (look st.fr) x.guard=some true->x.op=.call n xs->G9 E n (ff (look st.fr) xs) (ah st.hp) st.nx v (ah hp') cE->rC E l ⟨dt st x.dst v,hp',cE⟩ es bV->rC E (x::l) st (⟨x,2,v,[],st.hp,st.nx,hp',cE⟩::es) bV
 |skip {x l st es bV}:cH (look st.fr) x.guard=some false->rC E l ⟨dt st x.dst (.pv (.tuple [])),st.hp,st.nx⟩ es bV->rC E (x::l) st (⟨x,0,.pv (.tuple []),[],[],0,[],0⟩::es) bV
theorem rC.run{E:Env}{l:List aV}{st bV:St}{es:List Hn}(h:rC E l st es bV):NS E es ⟨look st.fr,ah st.hp,fun i=>i<st.nx⟩/\H5 es ⟨look st.fr,ah st.hp,fun i=>i<st.nx⟩=⟨look bV.fr,ah bV.hp,fun i=>i<bV.nx⟩:=by
 induction h with
 |nil=>exact⟨trivial,rfl⟩
 | @float x l st v rd es bV hg vN To ht ih =>
  have lU:Hn.step ⟨x,1,v,rd,[],st.nx,[],0⟩ ⟨look st.fr,ah st.hp,fun i=>i<st.nx⟩=⟨look (dt st x.dst v),ah st.hp,fun i=>i<st.nx⟩:=by
   simp only[Hn.step];rw[fX,aw (by omega),aw (by omega)]
  refine⟨⟨.inr (.inl ⟨rfl,hg,vN⟩),by rw[lU];exact ih.1⟩,?_⟩;simp only[H5];rw[lU];exact ih.2
 | @Hq x l st v n xs hp' cE es bV hg gD hc ht ih =>
  have lU:Hn.step ⟨x,2,v,[],st.hp,st.nx,hp',cE⟩ ⟨look st.fr,ah st.hp,fun i=>i<st.nx⟩=⟨look (dt st x.dst v),ah hp',fun i=>i<cE⟩:=by
   simp only[Hn.step];rw[fX,aW trivial,aW trivial]
  refine⟨⟨.inr (.inr ⟨rfl,hg,rfl,rfl,n,xs,gD,hc⟩),by rw[lU];exact ih.1⟩,?_⟩;simp only[H5];rw[lU];exact ih.2
 | @skip x l st es bV hg ht ih =>
  have lU:Hn.step ⟨x,0,.pv (.tuple []),[],[],0,[],0⟩ ⟨look st.fr,ah st.hp,fun i=>i<st.nx⟩=⟨look (dt st x.dst (.pv (.tuple []))),ah st.hp,fun i=>i<st.nx⟩:=by
   simp only[Hn.step];rw[fX,aw (by omega),aw (by omega)]
  refine⟨⟨.inl ⟨rfl,hg,rfl⟩,by rw[lU];exact ih.1⟩,?_⟩;simp only[H5];rw[lU];exact ih.2
theorem rC.xs{E:Env}{l:List aV}{st bV:St}{es:List Hn}(h:rC E l st es bV):es.map (·.x)=l:=by
 induction h with
 |nil=>rfl
 |float _ _ _ _ ih=>simp[ih]
 |Hq _ _ _ _ ih=>simp[ih]
 |skip _ _ ih=>simp[ih]
theorem rC.Ha{E:Env}{l:List aV}{st bV:St}{es:List Hn}(h:rC E l st es bV):∀e∈es,NO e:=by
 induction h with
 |nil=>exact fun e he=>by simp at he
 |float _ _ To _ ih =>
  intro e he;rcases aS.1 he with rfl|he
  ·exact⟨fun h=>by simp at h,To⟩
  ·exact ih e he
 |Hq _ gD _ _ ih =>
  intro e he;rcases aS.1 he with rfl|he
  ·exact⟨fun _=>by rw[gD];rfl,fun _=>rfl⟩
  ·exact ih e he
 |skip _ _ ih =>
  intro e he;rcases aS.1 he with rfl|he
  ·exact⟨fun h=>by simp at h,fun _=>rfl⟩
  ·exact ih e he
section
section
variable{E:Env}{N:Nat}{hp:List (Nat×dy)}{nx:Nat}
end
/-! ### QL -/
section
variable(nx more pair:Nat)(bl:List aV)
end
def Vh:fC->List AO
 | .mv x=>[x]
 | .extract x _=>[x]
 | .t8 xs=>xs
 | .tb xs=>xs
 |_=>[]
def IB:List AO->List Nat
 |[]=>[]
 | .t n::r=>n::IB r
 |_::r=>IB r
def PB(t:Nat):List Nat->Bool
 |[]=>false
 |a::r=>Nat.beq a t||PB t r
def GV(wr:List Nat):List Nat->List Nat
 |[]=>[]
 |a::r=>cond (PB a wr) (GV wr r) (a::GV wr r)
def carry:List Nat->List aV->List Nat
 |_,[]=>[]
 |wr,x::r=>GV wr (IB (Vh x.op))++carry (match x.dst with
  |some d=>d::wr
  |none=>wr) r
end
section
open Go.ChangeMaps (setBlock)
section
variable{X:Ctx}{M:Nat->Nat}{F:Fr}{H:Hp}{U:Nat->Prop}{a:Act}{w:World}
theorem Rel.OR(R:Rel X M F H U a w){H':Hp}(h:∀i,H' i=H i):Rel X M F H' U a w:=by
 obtain rfl:H'=H:=funext h;exact R
end
end
section
structure cL where
 fn:Nat->Option bg
 raw:Nat->Bool
 flat:Nat->Bool
 own:Nat->Bool
 still:Nat->Bool
 fP:Nat->Option (List AV->List (Nat×dy)->Nat->Option (AV×List (Nat×dy)×Nat))
abbrev Hl:=List (Nat×dy)
abbrev Cl:=Nat->List AV->Hl->Nat->Option (AV×Hl×Nat)
mutual
def lf:PV->Bool
 | .bool _| .int _ _| .str _| .sc| .nw| .dJ=>true
 | .iface _ v=>lf v
 | .agg l| .tuple l=>mu l
 |_=>false
def mu:List PV->Bool
 |[]=>true
 |p::r=>lf p&&mu r
end
section
variable(T:cL)(C:Cl)
def eZ(H:Hp):AV->Option Nat
 | .ms id=>match H id with
  | .row sz _=>some sz
  |_=>none
 |_=>none
def dq(n:Nat)(ps:List PV):Option (Option Nat×PV) :=
 match C n (dK ps) [] 0 with
 |some (v,hp,_)=>match dD (ah hp) v with
  |some p=>some (eZ (ah hp) v,p)
  |none=>none
 |none=>none
def qh(own:Bool)(d:Option Nat)(st:St):Option Nat×PV->St
 |(some sz,.slice es)=>match own with
  |true=>⟨dt st d (.ms st.nx),(st.nx,.row sz es)::st.hp,st.nx+1⟩
  |false=>⟨dt st d (.pv (.slice es)),st.hp,st.nx⟩
 |(_,p)=>⟨dt st d (.pv p),st.hp,st.nx⟩
def DE:Option Nat×PV->Bool
 |(some _,.slice es)=>es.all mu
 |_=>false
def eM(n:Nat)(args:List AV)(d:Option Nat)(st:St):Option St :=
 match T.raw n with
 |true=>match C n args st.hp st.nx with
  |some (v,hp,nx)=>some ⟨dt st d v,hp,nx⟩
  |none=>none
 |false=>match cd args with
  |some ps=>match dq C n ps with
   |some r=>some (qh (T.own n) d st r)
   |none=>none
  |none=>match T.flat n with
   |true=>match gz (ah st.hp) args with
    |some ps=>match dq C n ps with
     |some (o,p)=>match lf p with
      |true=>some ⟨dt st d (.pv p),st.hp,st.nx⟩
      |false=>match T.own n&&DE (o,p)with
       |true=>some (qh true d st (o,p))
       |false=>none
     |none=>none
    |none=>none
   |false=>match gi (fB args) st args with
    |(bV,Lj)=>match cd Lj with
     |some ps=>match dq C n ps with
      |some r=>some (qh (T.own n) d bV r)
      |none=>none
     |none=>none
def ou(x:aV):Bool:=match x.op with
 | .store _ _ _=>match x.dst with
  |none=>true
  |some _=>false
 |_=>true
def o8:fC->St->Option St
 | .cv _ _ zs ps,st=>match fq (look st.fr) zs ps with
  |some cs=>some (gi (fB cs) st []).1
  |none=>none
 |_,_=>none
theorem zP{op:fC}{st st1:St}(h:o8 op st=some st1):op.lW=false/\∃l,st1=(gi l st []).1:=by
 unfold o8 at h;split at h
 ·split at h
  ·simp at h;exact⟨rfl,_,h.symm⟩
  ·simp at h
 ·simp at h
def rK(x:aV)(st:St):Option St :=
 match x.op with
 | .call n xs=>eM T C n (ff (look st.fr) xs) x.dst st
 | .fJ f xs=>match aT (dG (look st.fr) f)with
  |some (n,fs,cs)=>eM T C n (fs++(ff (look st.fr) xs++cs)) x.dst st
  |none=>none
 |op=>match bD (look st.fr) (ah st.hp) st.nx op with
  |some (v,W,n)=>match ou x with
   |true=>some ⟨dt st x.dst v,W++st.hp,st.nx+n⟩
   |false=>none
  |none=>match o8 op st with
   |some st1=>match bD (look st1.fr) (ah st1.hp) st1.nx op with
    |some (v,W,n)=>some ⟨dt st1 x.dst v,W++st1.hp,st1.nx+n⟩
    |none=>none
   |none=>none
def BZ(x:aV)(st:St):Option St :=
 match cH (look st.fr) x.guard with
 |some true=>rK T C x st
 |some false=>some ⟨dt st x.dst (.pv (.tuple [])),st.hp,st.nx⟩
 |none=>none
def gY:List aV->St->Option St
 |[],st=>some st
 |x::r,st=>match BZ T C x st with
  |some bV=>gY r bV
  |none=>none
def gU(own:Bool)(nx:Nat)(r:Option Nat×PV):AV×List (Nat×dy)×Nat:=match own with
 |false=>(.pv r.2,[],0)
 |true=>match r with
  |(some sz,.slice es)=>(.ms nx,[(nx,.row sz es)],1)
  |(_,p)=>(.pv p,[],0)
def zw(x:aV)(st:St)(q:AV×List (Nat×dy)×Nat):En×St:=(⟨x,false,st.nx,q.1,q.2.1,q.2.2,[]⟩,⟨dt st x.dst q.1,q.2.1++st.hp,st.nx+q.2.2⟩)
def cL.sd(T:cL)(n:Nat):Bool:=Nat.beq n 279&&T.own n
def eI(x:aV)(st:St):Option (En×St) :=
 match x.op with
 | .call n xs=>match T.raw n,cd (ff (look st.fr) xs)with
  |false,some ps=>match dq C n ps with
   |some r=>some (zw x st (gU (T.sd n) st.nx r))
   |none=>none
  |_,_=>none
 | .fJ f xs=>match aT (dG (look st.fr) f)with
  |some (n,fs,cs)=>match T.raw n,cd (fs++(ff (look st.fr) xs++cs))with
   |false,some ps=>match dq C n ps with
    |some (_,p)=>some (⟨x,false,st.nx,.pv p,[],0,[]⟩,⟨dt st x.dst (.pv p),st.hp,st.nx⟩)
    |none=>none
   |_,_=>none
  |none=>none
 |op=>match bD (look st.fr) (ah st.hp) st.nx op with
  |some (v,W,n)=>some (⟨x,false,st.nx,v,W,n,ix (look st.fr) op⟩,⟨dt st x.dst v,W++st.hp,st.nx+n⟩)
  |none=>none
def jf(x:aV)(st:St):Option (En×St) :=
 match cH (look st.fr) x.guard with
 |some true=>eI T C x st
 |some false=>some (⟨x,true,st.nx,.pv (.tuple []),[],0,[]⟩,⟨dt st x.dst (.pv (.tuple [])),st.hp,st.nx⟩)
 |none=>none
def j0:List aV->St->Option (List En×St)
 |[],st=>some ([],st)
 |x::r,st=>match jf T C x st with
  |some (e,bV)=>match j0 r bV with
   |some (es,Bk)=>some (e::es,Bk)
   |none=>none
  |none=>none
def iE(H:Hp):Hl->List Nat
 |[]=>[]
 |(i,_)::r=>match H i with
  | .row _ _=>i::iE H r
  |_=>iE H r
def lg(still:Bool)(st:St):St:=match still with
 |true=>(gi (iE (ah st.hp) st.hp) st []).1
 |false=>st
def eY(still:Bool)(l:List aV)(st:St):Option St :=
 match j0 T C l (lg still st)with
 |some (es,bV)=>match eA 0 es with
  |true=>some bV
  |false=>none
 |none=>none
noncomputable def run(still:Bool):Nat->bz->St->Option (Exit×St)
 |0,_,_=>none
 |k+1,.skip,st=>some (.normal,st)
 |k+1,.ops l,st=>match gY T C l st with
  |some bV=>some (.normal,bV)
  |none=>none
 |k+1,.draw l,st=>match eY T C still l st with
  |some bV=>some (.normal,bV)
  |none=>none
 |k+1,.seq a b,st=>match run still k a st with
  |some (.normal,bV)=>run still k b bV
  |r=>r
 |k+1,.cond c a b,st=>match dG (look st.fr) c with
  | .pv (.bool true)=>run still k a st
  | .pv (.bool false)=>run still k b st
  |_=>none
 |k+1,.block id b,st=>match run still k b st with
  |some (.exit i,bV)=>match Nat.beq i id with
   |true=>some (.normal,bV)
   |false=>some (.exit i,bV)
  |r=>r
 |k+1,.loop b,st=>match run still k b st with
  |some (.normal,bV)=>run still k (.loop b) bV
  |r=>r
 |k+1,.exit id,st=>some (.exit id,st)
 |k+1,.ret,st=>some (.ret,st)
end
def fy:Nat->List AV->List (Nat×AV)
 |_,[]=>[]
 |k,p::r=>(k,p)::fy (k+1) r
def L2(f:bg):Option (Exit×St)->Option (AV×Hl×Nat)
 |some (.ret,st)=>match kH (look st.fr) (ah st.hp) f.res with
  |some vs=>some (gG vs,st.hp,st.nx)
  |none=>none
 |some (.normal,st)=>match kH (look st.fr) (ah st.hp) f.res with
  |some vs=>some (gG vs,st.hp,st.nx)
  |none=>none
 |_=>none
noncomputable def den(T:cL):Nat->Cl
 |0=>fun _ _ _ _=>none
 |k+1=>fun n args hp nx=>match T.fP n with
  |some g=>g args hp nx
  |none=>match T.fn n with
   |some f=>match Nat.ble args.length f.N with
    |true=>L2 f (run T (den T k) (T.still n) k f.body ⟨fy 0 args,hp,nx⟩)
    |false=>none
   |none=>none
end
def kl(E:Env)(n:Nat)(args:List AV)(hp:Hl)(nx:Nat)(v:AV)(hp':Hl)(cE:Nat):Prop :=
 Ed E n/\∀X M F a w vs,X.E=E->Rel X M F (ah hp) (fun i=>i<nx) a w->ee (aB X w (fun i=>i<nx) M (ah hp)) args vs ->
  Calls E.P (E.ρ n) vs.toArray w fun e w'=>∃u M',e=.returned u/\Rel X M' F (ah hp') (fun i=>i<cE) a w'/\VA (aB X w' (fun i=>i<cE) M' (ah hp')) v u
def Jh(E:Env)(C:Cl):Prop:=∀n args hp nx v hp' cE,C n args hp nx=some (v,hp',cE)->kl E n args hp nx v hp' cE
theorem oY.step{E:Env}{N:Nat}{x:aV}{l:List aV}{Q:St->Prop}{st st1:St}(hg:cH (look st.fr) x.guard=some true)
    (hd:∀o,ey E o=some x.op->o.dst=x.dst->(∀k,o.dst=some k->k<N)->∀X M a w (Q:Act->World->Prop) Q',X.E=E->X.N=N->Rl X M st a w->(∀M' a' w',Rl X M' st1 a' w'->Q a' w')->o.wp E.P a w Q Q')
    (h:oY E N l Q st1):oY E N (x::l) Q st:=by
 intro ops k hk hl X M a w Q' hE hN R hq;obtain⟨o,ho,hc⟩:=hl 0 x rfl;obtain⟨h1,h2,h3,h4⟩:=l6 hc;simp only[aC,List.range'_succ];rw[wpOps_cons];unfold wpOp;rw[show ops[k]? =some o from ho];simp only;have hw:=qM (X:=X) (o:=o) R (by rw[hN];exact h4) hg;rw[aW hw];left;refine hd o h1 h2 h3 X M a w _ _ hE hN R fun M' a' w' R'=>?_;refine h ops (k+1) (by simp at hk;omega) (fun j y hy=>?_) X M' a' w' Q' hE hN R' hq;have:=hl (j+1) y (by simpa using hy);rwa [<-eS,Nat.add_right_comm]at this
theorem oY.JH{E:Env}{N:Nat}{x:aV}{l:List aV}{Q:St->Prop}{st:St}{v:AV}{W:List (Nat×dy)}{n:Nat}(hg:cH (look st.fr) x.guard=some true)
    (hd:∀o,ey E o=some x.op->o.dst=x.dst->(∀k,o.dst=some k->k<N)->cK E N o (look st.fr) (ah st.hp) (fun i=>i<st.nx) v W (fun i=>i<st.nx+n))
    (h:oY E N l Q ⟨dt st x.dst v,W++st.hp,st.nx+n⟩):oY E N (x::l) Q st:=oY.cons hg (fun o h1 h2 h3=>hd o h1 h2 h3) h
theorem uY:∀(ps:List AV) (k t:Nat),look (fy k ps) t=if k<=t then(match ps[t-k]? with|some p=>p|none=>.bot)else .bot
 |[],k,t=>by
  simp only[fy,look,List.getElem?_nil];split <;>rfl
 |p::r,k,t=>by
  simp only[fy,look];by_cases h:k=t
  ·subst h;rw[cm];simp
  ·rw[eX h];simp only[fm];rw[uY r (k+1) t];by_cases h2:k<=t
   ·obtain⟨j,hj⟩:∃j,t-k=j+1:=⟨t-k-1,by omega⟩;rw[aW (by omega),aW h2,hj,eB,show t-(k+1)=j by omega]
   ·rw[aw (by omega),aw h2]
def Conv(E:Env)(v:AV)(hp:Hl)(nx:Nat)(v':AV)(hp':Hl)(cE:Nat):Prop :=
 ∀X M F a w u,X.E=E->Rel X M F (ah hp) (fun i=>i<nx) a w->VA (aB X w (fun i=>i<nx) M (ah hp)) v u ->
  Rel X M F (ah hp') (fun i=>i<cE) a w/\VA (aB X w (fun i=>i<cE) M (ah hp')) v' u
theorem kl.DX{E:Env}{n:Nat}{af:bg}{args:List AV}{hp hp':Hl}{nx cE:Nat}{v:AV}(hE:E.OK)(hf:cFunc E n=some af)(hN:args.length<=af.N)
    (h:WP E af.N af.body (fun e st=>(e=.ret\/e=.normal)/\∃vs,kH (look st.fr) (ah st.hp) af.res=some vs/\Conv E (gG vs) st.hp st.nx v hp' cE) ⟨fy 0 args,hp,nx⟩):kl E n args hp nx v hp' cE:=by
 unfold cFunc at hf;split at hf
 ·rename_i fn hfn;split at hf
  ·simp at hf
  ·rename_i P7;split at hf
   ·rename_i c Lv;split at hf
    ·rename_i b l hb hl;simp at hf;subst hf;refine⟨⟨fn,hfn,by simpa using P7,by simp[Lv]⟩,fun X M F a w vs hX R hv=>?_⟩;refine calls_of_wp hfn Lv ?_;have hlen:=ef hv;have lK:(vs.toArray++Array.replicate (fn.ntmps-vs.toArray.size) undef).size=fn.ntmps:=by
      simp only[Array.size_append,List.size_toArray,Array.size_replicate];simp only at hN;omega
     let X':Ctx:=⟨E,X.K,w,fun b=>∃i,ah hp i≠ .dead/\M i=b,fn.ntmps,fun v u=>X.G v u\/∃t,v=F t/\u=a.tmps.getD t undef,⟨hX▸R.inv,fun p hp=>fun⟨i,hi,he⟩=>R.gl p (hX▸hp) i hi he⟩⟩
     have uO:∀w U M H,aB X' w U M H=aB X w U M H:=fun w U M H=>by simp only[aB,X',hX];rfl
     have R0:Rl X' M ⟨fy 0 args,hp,nx⟩ {tmps:=vs.toArray++Array.replicate (fn.ntmps-vs.toArray.size) undef,defers:=[]} w:=by
      refine{defers:=rfl,size:=lK,keeps:=jE.refl,K:=fun b hb=>dA (R.K b hb) R.keeps.size,used:=R.used,inj:=R.inj,own:=fun i hi=>⟨(R.own i hi).1,(R.own i hi).2.1,.inl ⟨i,hi,rfl⟩⟩,
             blk:=fun i=>by rw[uO];exact R.blk i,gh:=fun v u hg=>?_,fr:=fun t=>?_}
      ·simp only;rw[uY,uO];simp only[aN,bA,Nat.sub_zero];split
       ·rename_i p hp;obtain⟨l1,m1⟩:=(ic _ _).1 hv;have hlt:t<vs.length:=by rw[l1];exact(aA.1 hp).1
        have:(vs.toArray++Array.replicate (fn.ntmps-vs.toArray.size) undef).getD t undef=vs[t]:=by
         simp[Array.getElem?_append,hlt]
        rw[this];exact m1 t p _ hp (by simp[hlt])
       ·simp only[VA]
      ·rw[uO];rcases hg with hg|⟨t,rfl,rfl⟩
       ·exact R.gh v u hg
       ·exact R.fr t
     refine h c hb X' _ _ _ _ rfl rfl R0 fun e M' bV a' w' hQ R'=>?_;have main:(∃vs,kH (look bV.fr) (ah bV.hp) l=some vs/\Conv E (gG vs) bV.hp bV.nx v hp' cE) ->
                                                                         a'.defers=[]/\∃x,(results fn a'.tmps).run E.P w'=.ok x w'/\∃u M',Ending.returned x=.returned u/\Rel X M' F (ah hp') (fun i=>i<cE) a w'/\VA (aB X w' (fun i=>i<cE) M' (ah hp')) v u:=by
      rintro⟨vs,g1,OP⟩
      obtain⟨us,k1,k2,k3⟩:=zm R' hl g1;have iw:(fn.results.mapM fun x=>(match x with| .tmp t=>pure (a'.tmps.getD t undef)| .cell a t=>do loadVar t (<-asAddr (a'.tmps.getD a undef)):Sem Value)).run E.P w'=.ok us.toArray w':=by
       have hm:(fn.results.toList.mapM fun x=>(match x with| .tmp t=>pure (a'.tmps.getD t undef)| .cell a t=>do loadVar t (<-asAddr (a'.tmps.getD a undef)):Sem Value)).run E.P w'=.ok us w':=Ii k1 k3;rw[Array.mapM_eq_mapM_toList,map_eq_pure_bind,rb hm];rfl
      refine⟨R'.defers,if h:us.toArray.size=1 then us.toArray[0]else .tuple us.toArray,?_,_,M',rfl,OP X M' F a w' _ hX ?_ ?_⟩
      ·unfold results;exact rb iw
      ·refine{defers:=R.defers,size:=R.size,keeps:=R.keeps.trans R'.keeps fun b hb hs=>?_,K:=R.K,used:=R'.used,inj:=R'.inj,own:=fun i hi=>?_,blk:=fun i=>by rw[<-uO];exact R'.blk i,fr:=fun t=>?_,gh:=fun v u hg=>?_}
       ·obtain⟨i,hi,rfl⟩:=hs;rcases(R.own i hi).2.2 with h1|h1
        ·exact h1
        ·omega
       ·obtain⟨o1,o2,o3⟩:=R'.own i hi;refine⟨o1,o2,?_⟩;rcases o3 with⟨j,hj,Uy⟩|o3
        ·rw[<-Uy];exact(R.own j hj).2.2
        ·exact .inr (cQ R.keeps.size o3)
       ·rw[<-uO];exact R'.gh _ _ (.inr ⟨t,rfl,rfl⟩)
       ·rw[<-uO];exact R'.gh _ _ (.inl hg)
      ·rw[<-uO];have MH:=ef k2;unfold gG;split
       ·rename_i v;simp only[ee]at k2;obtain⟨u,PZ,rfl,k4,rfl⟩:=k2;simpa using k4
       ·rename_i ew;rw[dif_neg]
        ·simp only[VA];exact⟨us,rfl,k2⟩
        ·intro h1;have:vs.length=1:=by rw[<-MH];simpa using h1
         obtain⟨v,rfl⟩:=IX.1 this;exact ew v rfl
     obtain⟨he,hm⟩:=hQ;rcases he with rfl|rfl
     ·exact main hm
     ·exact main hm
    ·simp at hf
   ·simp at hf
 ·simp at hf
theorem kl.KI{E:Env}{n:Nat}{af:bg}{args:List AV}{hp hp':Hl}{nx cE:Nat}{v:AV}(hE:E.OK)(hf:cFunc E n=some af)(hN:args.length<=af.N)
    (h:WP E af.N af.body (fun e st=>(e=.ret\/e=.normal)/\∃vs,kH (look st.fr) (ah st.hp) af.res=some vs/\gG vs=v/\st.hp=hp'/\st.nx=cE) ⟨fy 0 args,hp,nx⟩):kl E n args hp nx v hp' cE:=by
 refine kl.DX hE hf hN (WP.mono h ?_)
 rintro e st ⟨he,vs,h1,h2,h3,h4⟩
 refine⟨he,vs,h1,fun X M F a w u hX R hu=>?_⟩;subst h2 h3 h4;exact⟨R,hu⟩
theorem kl.pure{E:Env}{n:Nat}{ps:List PV}{v:AV}{hp:Hl}{nx:Nat}{p:PV}(h:kl E n (dK ps) [] 0 v hp nx)(hp':dD (ah hp) v=some p):Pure E n ps p:=by
 refine⟨h.1,fun K w vs hI hK hv=>?_⟩
 let X:Ctx:=⟨E,K,w,fun _=>False,0,fun _ _=>False,⟨hI,fun _ _ h=>h⟩⟩
 have R:Rel X (fun _=>0) (fun _=>.bot) (ah []) (fun i=>i<0) {tmps:= #[],defers:=[]} w :=
  {defers:=rfl,size:=rfl,keeps:=jE.refl,K:=hK,used:=fun i hi=>absurd rfl hi,inj:=fun i j hi=>absurd rfl hi,own:=fun i hi=>absurd rfl hi,blk:=fun i=>trivial,gh:=fun _ _ h=>h.elim,fr:=fun t=>by simp only[VA]}
 refine(h.2 X _ _ _ w vs rfl R ?_).mono fun e w' hh=>?_
 ·refine lZ.2 (dL ⟨fun b hb=>⟨hb.1,hb.2,fun i hi=>absurd rfl hi⟩,fun _ _=>rfl⟩ _ _ hv)
 ·obtain⟨u,M',rfl,R',hu⟩:=hh;exact⟨u,rfl,vw R' (fun b hb=>⟨hb.1,hb.2.1⟩) (fun i hi=>⟨(R'.own i hi).1,(R'.own i hi).2.1⟩) _ _ _ hp' hu,R'.keeps⟩
section
mutual
theorem qD{E:Env}{w w':World}{ok ok':Nat->Prop}:(p:PV)->(v:Value)->lf p=true->VP E w ok p v->VP E w' ok' p v
 | .bool b,v,h,hv=>by simpa only[VP]using hv
 | .int k n,v,h,hv=>by simpa only[VP]using hv
 | .str s,v,h,hv=>by simpa only[VP]using hv
 | .sc,v,h,hv=>by simpa only[VP]using hv
 | .nw,v,h,hv=>by simpa only[VP]using hv
 | .dJ,v,h,hv=>by simpa only[VP]using hv
 | .gQ _ _,v,h,hv=>by simp[lf]at h
 | .slice _,v,h,hv=>by simp[lf]at h
 | .map _,v,h,hv=>by simp[lf]at h
 | .func _ _ _,v,h,hv=>by simp[lf]at h
 | .iface t p,v,h,hv=>by
  simp only[lf]at h;simp only[VP]at hv⊢;obtain⟨u,h1,h2⟩:=hv;exact⟨u,h1,qD p u h h2⟩
 | .agg l,v,h,hv=>by
  simp only[lf]at h;simp only[VP]at hv⊢;obtain⟨u,h1,h2⟩:=hv;exact⟨u,h1,rT l u h h2⟩
 | .tuple l,v,h,hv=>by
  simp only[lf]at h;simp only[VP]at hv⊢;obtain⟨u,h1,h2⟩:=hv;exact⟨u,h1,rT l u h h2⟩
theorem rT{E:Env}{w w':World}{ok ok':Nat->Prop}:(l:List PV)->(vs:List Value)->mu l=true->VPs E w ok l vs->VPs E w' ok' l vs
 |[],vs,h,hv=>by simpa only[VPs]using hv
 |p::r,vs,h,hv=>by
  simp only[mu,bq]at h;simp only[VPs]at hv⊢;obtain⟨u,us,h1,h2,h3⟩:=hv;exact⟨u,us,h1,qD p u h.1 h2,rT r us h.2 h3⟩
end
section
variable{E:Env}{N:Nat}{T:cL}{C:Cl}{st st1:St}
theorem Rel.GM{X:Ctx}{M:Nat->Nat}{F:Fr}{H:Hp}{U:Nat->Prop}{a:Act}{w:World}(R:Rel X M F H U a w){n:Nat}{args:List AV}{vs:List Value}{ps:List PV}{p:PV}(hv:ee (aB X w U M H) args vs)
    (h1:gz H args=some ps) (h2:Pure X.E n ps p) (h3:lf p=true) :
    Calls X.E.P (X.E.ρ n) vs.toArray w fun e w'=>∃v,e=.returned v/\Rel X M F H U a w'/\VA (aB X w' U M H) (.pv p) v:=by
 have iV:VPs X.E w (PI X.K w) ps vs:=jy R (fun b hb=>⟨hb.1,hb.2.1⟩) (fun i hi=>⟨(R.own i hi).1,(R.own i hi).2.1⟩) _ _ _ h1 hv;refine(h2.2 X.K w vs R.inv (fun b hb=>dA (R.K b hb) R.keeps.size) iV).mono fun e w' hh=>?_;obtain⟨v,rfl,g1,g2⟩:=hh;refine⟨v,rfl,R.grown g2,?_⟩;simp only[VA];exact qD p v h3 g1
theorem Rel.Ez{X:Ctx}{M:Nat->Nat}{F:Fr}{H:Hp}{U:Nat->Prop}{a:Act}{w:World}(R:Rel X M F H U a w){n:Nat}{args:List AV}{vs:List Value}{ps:List PV}{p:PV}(hv:ee (aB X w U M H) args vs)
    (h1:cd args=some ps) (h2:Pure X.E n ps p) :
    Calls X.E.P (X.E.ρ n) vs.toArray w fun e w'=>∃v,e=.returned v/\Rel X M F H U a w'/\VA (aB X w' U M H) (.pv p) v:=by
 have h3:=eQ _ _ _ h1 hv;refine(h2.2 (fun b=>X.K b\/∃i,H i≠ .dead/\M i=b) w _ R.inv (fun b hb=>by
  rcases hb with hb|⟨i,hi,rfl⟩
  ·exact dA (R.K b hb) R.keeps.size
  ·exact(R.own i hi).1) (dL ⟨fun b hb=>⟨hb.1,fun h=>by
   rcases h with h|⟨i,hi,h⟩
   ·exact hb.2.1 h
   ·exact hb.2.2 i hi h⟩,fun _ _=>rfl⟩ _ _ h3)).mono fun e w' hh=>?_
 obtain⟨v,rfl,g1,g2⟩:=hh;refine⟨v,rfl,R.grown g2,?_⟩;simp only[VA];exact iC ⟨fun b hb=>⟨hb.1,fun h=>hb.2 (.inl h),fun i hi h=>hb.2 (.inr ⟨i,hi,h⟩)⟩,fun _ _=>rfl⟩ _ _ g1
theorem jr{n:Nat}{ps:List PV}{o:Option Nat}{p:PV}(h:dq C n ps=some (o,p)):∃v hp nx,C n (dK ps) [] 0=some (v,hp,nx)/\dD (ah hp) v=some p/\o=eZ (ah hp) v:=by
 unfold dq at h;split at h
 ·rename_i v hp nx h1;split at h
  ·rename_i q h2;simp at h;obtain⟨rfl,rfl⟩:=h;exact⟨v,hp,nx,h1,h2,rfl⟩
  ·simp at h
 ·simp at h
theorem xH{E:Env}{w w':World}{ok ok':Nat->Prop}{b sz:Nat}{es:List (List PV)}(hf:es.all mu=true)(hc:∀o,w'.cell? ⟨b,o,none⟩=w.cell? ⟨b,o,none⟩)(h:dm E w ok es b 0 sz):dm E w' ok' es b 0 sz:=by
 refine(eF es 0).2 fun i e he=>?_;obtain⟨h1,h2⟩:=(eF es 0).1 h i e he;refine⟨h1,?_⟩;have OS:mu e=true:=NP.1 hf e (dH he);generalize 0+i*sz=o at h2⊢;clear h1 he;induction e generalizing o with
 |nil=>simp only[iz]
 |cons p r ih =>
  simp only[mu,bq]at OS;simp only[iz]at h2⊢;obtain⟨⟨u,g1,g2,g3⟩,g4⟩:=h2;exact⟨⟨u,by rw[hc];exact g1,g2,qD p u OS.1 g3⟩,ih OS.2 (o+1) g4⟩
theorem B5{X:Ctx}{M:Nat->Nat}{F:Fr}{H:Hp}{U:Nat->Prop}{k:Nat}{a:Act}{w:World}{vs:List Value}(R:Rel X M F H U a w)(Kf:¬U k){n:Nat}{ps:List PV}{id sz cE:Nat}{es:List (List PV)}{hp:Hl}(h2:kl X.E n (dK ps) [] 0 (.ms id) hp cE)(h3:ah hp id=.row sz es)
    (K1:Nat->Prop) (Qj:∀b,K1 b->b<w.heap.size) (Ta:∀b,X.K b->K1 b) (iV:VPs X.E w (PI K1 w) ps vs) (Hx:(∀i,H i≠ .dead->K1 (M i))\/es.all mu=true) :
    Calls X.E.P (X.E.ρ n) vs.toArray w fun e w'=>∃v M',e=.returned v/\Rel X M' F (wr H [(k,.row sz es)]) (fun i=>U i\/i=k) a w'/\VA (aB X w' (fun i=>U i\/i=k) M' (wr H [(k,.row sz es)])) (.ms k) v:=by
 let X1:Ctx:=⟨X.E,K1,w,fun _=>False,0,fun _ _=>False,⟨R.inv,fun _ _ h=>h⟩⟩
 have R1:Rel X1 (fun _=>0) (fun _=>.bot) (ah []) (fun i=>i<0) {tmps:= #[],defers:=[]} w :=
  {defers:=rfl,size:=rfl,keeps:=jE.refl,K:=Qj,used:=fun i hi=>absurd rfl hi,inj:=fun i j hi=>absurd rfl hi,own:=fun i hi=>absurd rfl hi,blk:=fun i=>trivial,gh:=fun _ _ h=>h.elim,fr:=fun t=>by simp only[VA]}
 have hargs:ee (aB X1 w (fun i=>i<0) (fun _=>0) (ah [])) (dK ps) vs:=by
  exact lZ.2 (dL ⟨fun b hb=>⟨hb.1,hb.2,fun i hi=>absurd rfl hi⟩,fun _ _=>rfl⟩ _ _ iV)
 refine(h2.2 X1 _ _ _ w vs rfl R1 hargs).mono fun e w' hh=>?_;obtain⟨u,M',rfl,R',hu⟩:=hh;have hk:jE (fun _=>False) w w':=R'.keeps;have Ly:H k=.dead:=xA fun h=>Kf (R.used k h);have hH:∀i,k≠i->wr H [(k,.row sz es)] i=H i:=fun i h=>by rw[ep H _ [] h];rfl
 have dT:ah hp id≠ .dead:=by rw[h3];simp
 obtain⟨o1,o2,o3⟩:=R'.own id dT;have lK:w.heap.size<=M' id:=o3.resolve_left (fun h=>h);have T:iM (aB X w U M H) (aB X w' (fun i=>U i\/i=k) (wy M k (M' id)) (wr H [(k,.row sz es)])):=by
  refine R.turn hk.size (fun b hb _=>hk.block b hb (fun h=>h)) (fun i hi=>?_) (fun i h=>.inl h) (fun i s hu hs=>?_)
  ·by_cases h:k=i
   ·subst h;exact .inr (by rw[cU];exact lK)
   ·rw[hH i h]at hi;exact .inl ⟨i,hi,cI h⟩
  ·by_cases h:k=i
   ·subst h;exact absurd hu Kf
   ·rw[hH i h]at hs;refine⟨hs,cI h,fI (hk.block _ (R.own i ?_).1 (fun h=>h))⟩;intro h';rw[h']at hs;simp[dy.info]at hs
 simp only[VA]at hu;obtain⟨cap,t,gS,g1,g2,g3,g4⟩:=hu.2.2 (sz,es.length) (by simp[aB,h3,dy.info]);have uJ:=R'.blk id;rw[h3]at uJ;obtain⟨c,t',k1,k2,k3⟩:=uJ;refine⟨u,wy M k (M' id),rfl,?_,?_⟩
 ·refine{defers:=R.defers,size:=R.size,keeps:=R.keeps.trans hk (fun _ _ h=>h.elim),K:=R.K,used:=fun i hi=>?_,inj:=fun i j hi hj rX=>?_,own:=fun i hi=>?_,blk:=fun i=>?_,fr:=fun t=>db T _ _ (R.fr t),gh:=fun v u h=>db T _ _ (R.gh v u h)}
  ·by_cases h:k=i
   ·exact .inr h.symm
   ·rw[hH i h]at hi;exact .inl (R.used i hi)
  ·by_cases h1:k=i
   ·subst h1;by_cases h2:k=j
    ·exact h2
    ·rw[hH j h2]at hj;rw[cU,cI h2]at rX;have:=(R.own j hj).1;omega
   ·rw[hH i h1]at hi;by_cases h2:k=j
    ·subst h2;rw[cU,cI h1]at rX;have:=(R.own i hi).1;omega
    ·rw[hH j h2]at hj;rw[cI h1,cI h2]at rX;exact R.inj i j hi hj rX
  ·by_cases h:k=i
   ·subst h;rw[cU];exact⟨o1,fun h=>o2 (Ta _ h),.inr (cQ R.keeps.size lK)⟩
   ·rw[hH i h]at hi;rw[cI h];obtain⟨q1,q2,q3⟩:=R.own i hi;exact⟨dA q1 hk.size,q2,q3⟩
  ·by_cases h:k=i
   ·subst h;rw[cU,ea];refine⟨c,t',k1,k2,?_⟩;rcases Hx with Hx|Hx
    ·have wT:∀b,jt X1 w' M' (ah hp) b->jt X w' (wy M k (M' id)) (wr H [(k,.row sz es)]) b:=fun b hb=>by
      refine⟨hb.1,fun h=>hb.2.1 (Ta _ h),fun i hi=>?_⟩;by_cases h:k=i
      ·subst h;rw[cU];exact hb.2.2 id dT
      ·rw[hH i h]at hi;rw[cI h];exact fun he=>hb.2.1 (he▸Hx i hi)
     exact gg ⟨wT,fun _ _=>rfl⟩ _ _ _ _ (fun _=>rfl) k3
    ·exact xH Hx (fun _=>rfl) k3
   ·rw[hH i h,cI h];exact fw T _ (fun ew=>hk.block _ (R.own i ew).1 (fun h=>h)) (R.blk i)
 ·simp only[VA];refine⟨.inr rfl,hu.2.1,fun s hs=>?_⟩;have:some (sz,es.length)=some s:=by rw[<-hs];simp only[aB];rw[ea];rfl
  simp only[ai]at this;subst this;simp only[aB,cU];exact⟨cap,t,gS,g1,g2,g3,g4⟩
theorem Ej.of{E:Env}{n:Nat}{ps:List PV}{id sz cE:Nat}{es:List (List PV)}{hp:Hl}(h2:kl E n (dK ps) [] 0 (.ms id) hp cE)(h3:ah hp id=.row sz es):Ej E n ps sz es:=by
 refine⟨h2.1,fun X M F H U k a w vs Mx R Kf iV=>?_⟩;subst Mx;refine B5 R Kf h2 h3 (fun b=>X.K b\/∃i,H i≠ .dead/\M i=b) (fun b hb=>?_) (fun b h=>.inl h) (dL ⟨fun b hb=>⟨hb.1,fun h=>?_⟩,fun _ _=>rfl⟩ _ _ iV) (.inl fun i hi=>.inr ⟨i,hi,rfl⟩)
 ·rcases hb with hb|⟨i,hi,rfl⟩
  ·exact dA (R.K b hb) R.keeps.size
  ·exact(R.own i hi).1
 ·rcases h with h|⟨i,hi,h⟩
  ·exact hb.2.1 h
  ·exact hb.2.2 i hi h
theorem Rel.GL{X:Ctx}{M:Nat->Nat}{F:Fr}{H:Hp}{nx:Nat}{a:Act}{w:World}(R:Rel X M F H (fun i=>i<nx) a w){n:Nat}{args:List AV}{vs:List Value}{ps:List PV}{id sz cE:Nat}{es:List (List PV)}{hp:Hl}
    (hv:ee (aB X w (fun i=>i<nx) M H) args vs) (h1:gz H args=some ps) (h2:kl X.E n (dK ps) [] 0 (.ms id) hp cE) (h3:ah hp id=.row sz es) (hf:es.all mu=true) :
    Calls X.E.P (X.E.ρ n) vs.toArray w fun e w'=>∃v M',e=.returned v/\Rel X M' F (wr H [(nx,.row sz es)]) (fun i=>i<nx+1) a w'/\VA (aB X w' (fun i=>i<nx+1) M' (wr H [(nx,.row sz es)])) (.ms nx) v:=by
 have iV:VPs X.E w (PI X.K w) ps vs:=jy R (fun b hb=>⟨hb.1,hb.2.1⟩) (fun i hi=>⟨(R.own i hi).1,(R.own i hi).2.1⟩) _ _ _ h1 hv;have Mx:=B5 R (Nat.lt_irrefl nx) h2 h3 X.K (fun b hb=>dA (R.K b hb) R.keeps.size) (fun _ h=>h) iV (.inr hf);have hU:(fun i=>i<nx\/i=nx)=(fun i=>i<nx+1):=funext fun i=>propext (by omega);rw[hU]at Mx;exact Mx
theorem Rel.JC{X:Ctx}{M:Nat->Nat}{F:Fr}{H:Hp}{nx:Nat}{a:Act}{w:World}(R:Rel X M F H (fun i=>i<nx) a w){n:Nat}{args:List AV}{vs:List Value}{ps:List PV}{id sz cE:Nat}{es:List (List PV)}{hp:Hl}
    (hv:ee (aB X w (fun i=>i<nx) M H) args vs) (h1:cd args=some ps) (h2:kl X.E n (dK ps) [] 0 (.ms id) hp cE) (h3:ah hp id=.row sz es) :
    Calls X.E.P (X.E.ρ n) vs.toArray w fun e w'=>∃v M',e=.returned v/\Rel X M' F (wr H [(nx,.row sz es)]) (fun i=>i<nx+1) a w'/\VA (aB X w' (fun i=>i<nx+1) M' (wr H [(nx,.row sz es)])) (.ms nx) v:=by
 have Mx:=(Ej.of h2 h3).2 X M F H (fun i=>i<nx) nx a w vs rfl R (Nat.lt_irrefl _) (eQ _ _ _ h1 hv);have hU:(fun i=>i<nx\/i=nx)=(fun i=>i<nx+1):=funext fun i=>propext (by omega);rw[hU]at Mx;exact Mx
theorem vj(hC:Jh E C){n:Nat}{args:List AV}{d:Option Nat}{r:Option Nat×PV}{own:Bool}{ps:List PV}{o:Oper}(hd:o.dst=d)(Bv:∀k,o.dst=some k->k<N)(h1:cd args=some ps)(h2:dq C n ps=some r){vs:List Value}
    {X:Ctx} {M:Nat->Nat} {a:Act} {w:World} {Q:Act->World->Prop} {Q'} (hE:X.E=E) (hN:X.N=N) (R:Rl X M st a w) (hv:ee (aB X w (fun i=>i<st.nx) M (ah st.hp)) args vs)
    (hx:∀{w},(Ed E n)->(execOp a.eval o).run E.P w=.ok (.enter (E.ρ n) vs.toArray) w) (hq:∀M' a' w',Rl X M' (qh own d st r) a' w'->Q a' w'):o.wp E.P a w Q Q':=by
 obtain⟨o',p⟩:=r;obtain⟨v,hp,nx,g1,g2,rfl⟩:=jr h2;have eE:=hC _ _ _ _ _ _ _ g1;have hP:=eE.pure g2;have plain:qh own d st (eZ (ah hp) v,p)=⟨dt st d (.pv p),st.hp,st.nx⟩->o.wp E.P a w Q Q':=by
  intro he;rw[Oper.wp,hx hP.1,sZ];subst hE;refine(Rel.Ez R hv h1 hP).mono fun e w' hh=>?_;obtain⟨u,rfl,R',hu⟩:=hh;refine hq M _ _ ?_;rw[he];unfold Rl;rw[fX,<-hd];exact R'.put hu (fun k hk=>by rw[hN];exact Bv k hk)
 cases v with
 |ms id =>
  cases hB:ah hp id with
  |row sz es =>
   have ql:p=.slice es:=by
    simp only[dD,dF,hB,ai]at g2;exact g2.symm
   subst ql;cases own with
   |false=>exact plain (by simp only[eZ,hB,qh])
   |true =>
    have he:qh true d st (eZ (ah hp) (.ms id),.slice es)=⟨dt st d (.ms st.nx),(st.nx,.row sz es)::st.hp,st.nx+1⟩:=by simp only[eZ,hB,qh]
    rw[Oper.wp,hx hP.1,sZ];subst hE;refine(Rel.JC R hv h1 eE hB).mono fun e w' hh=>?_;obtain⟨u,M',rfl,R',hu⟩:=hh;refine hq M' _ _ ?_;rw[he];unfold Rl;simp only;rw[fX,<-hd];exact R'.put hu (fun k hk=>by rw[hN];exact Bv k hk)
  |_=>exact plain (by simp only[eZ,hB,qh])
 |_=>exact plain (by simp only[eZ,qh])
theorem qB(hC:Jh E C){n:Nat}{args:List AV}{d:Option Nat}(h:eM T C n args d st=some st1){o:Oper}(hd:o.dst=d)(Bv:∀k,o.dst=some k->k<N)
    (hex:∀X M a w,X.E=E->Rl X M st a w->∃vs:List Value,(∀{w},(Ed E n)->(execOp a.eval o).run E.P w=.ok (.enter (E.ρ n) vs.toArray) w)/\ee (aB X w (fun i=>i<st.nx) M (ah st.hp)) args vs) :
    ∀X M a w (Q:Act->World->Prop) Q',X.E=E->X.N=N->Rl X M st a w->(∀M' a' w',Rl X M' st1 a' w'->Q a' w')->o.wp E.P a w Q Q':=by
 intro X M a w Q Q' hE hN R hq;obtain⟨vs,hx,hv⟩:=hex X M a w hE R;unfold eM at h;split at h
 ·split at h
  ·rename_i v hp nx hc;simp at h;subst h;obtain⟨e1,e2⟩:=hC _ _ _ _ _ _ _ hc;rw[Oper.wp,hx e1,sZ];refine(e2 X M _ a w vs hE R hv).mono fun e w' hh=>?_;obtain⟨u,M',rfl,R',hu⟩:=hh;refine hq M' _ _ ?_;unfold Rl;rw[fX,<-hd];exact R'.put hu (fun k hk=>by rw[hN];exact Bv k hk)
  ·simp at h
 ·split at h
  ·rename_i ps iV;split at h
   ·rename_i r hr;simp at h;subst h;exact vj hC hd Bv iV hr hE hN R hv hx hq
   ·simp at h
  ·split at h
   ·split at h
    ·rename_i ps iV;split at h
     ·rename_i o' p hr;split at h
      ·rename_i wR;simp at h;subst h;obtain⟨v,hp,nx,g1,g2,rfl⟩:=jr hr;have hP:=(hC _ _ _ _ _ _ _ g1).pure g2;rw[Oper.wp,hx hP.1,sZ];subst hE;refine(R.GM hv iV hP wR).mono fun e w' hh=>?_;obtain⟨u,rfl,R',hu⟩:=hh;refine hq M _ _ ?_;unfold Rl;rw[fX,<-hd];exact R'.put hu (fun k hk=>by rw[hN];exact Bv k hk)
      ·split at h
       ·rename_i wR;simp at h;subst h;obtain⟨v,hp,nx,g1,g2,rfl⟩:=jr hr;have eE:=hC _ _ _ _ _ _ _ g1;rw[bq]at wR;have NA:=wR.2;cases v with
        |ms id =>
         cases hB:ah hp id with
         |row sz es =>
          have ql:p=.slice es:=by
           simp only[dD,dF,hB,ai]at g2;exact g2.symm
          subst ql;simp only[eZ,hB,DE]at NA;have he:qh true d st (eZ (ah hp) (.ms id),.slice es)=⟨dt st d (.ms st.nx),(st.nx,.row sz es)::st.hp,st.nx+1⟩:=by simp only[eZ,hB,qh]
          rw[Oper.wp,hx (eE.pure g2).1,sZ];subst hE;refine(Rel.GL R hv iV eE hB NA).mono fun e w' hh=>?_;obtain⟨u,M',rfl,R',hu⟩:=hh;refine hq M' _ _ ?_;rw[he];unfold Rl;simp only;rw[fX,<-hd];exact R'.put hu (fun k hk=>by rw[hN];exact Bv k hk)
         |_=>simp only[eZ,hB,DE]at NA;exact absurd NA (by decide)
        |_=>simp only[eZ,DE]at NA;exact absurd NA (by decide)
       ·simp at h
     ·simp at h
    ·simp at h
   ·obtain⟨R2,MQ⟩:=Rl.JT (fB args) R hv;generalize gi (fB args) st args=q at h R2 MQ;obtain⟨bV,Lj⟩:=q;simp only at h R2 MQ;split at h
    ·rename_i ps iV;split at h
     ·rename_i r hr;simp at h;subst h;exact vj hC hd Bv iV hr hE hN R2 MQ hx hq
     ·simp at h
    ·simp at h
theorem C7{i:Nat}{st:St}{g:Option (Nat×Bool)}{b:Bool}(h:cH (look st.fr) g=some b):cH (look (nT i st).fr) g=some b:=by
 unfold nT;split
 ·cases g with
  |none=>exact h
  |some q =>
   obtain⟨t,c⟩:=q;simp only[cH,oI]at h⊢;cases hl:look st.fr t <;>rw[hl]at h
   ·simpa only[gW]using h
   all_goals simp at h
 ·exact h
theorem uH{g:Option (Nat×Bool)}{b:Bool}:∀(l:List Nat) (st:St) (vs:List AV),cH (look st.fr) g=some b->cH (look (gi l st vs).1.fr) g=some b
 |[],_,_,h=>h
 |_::r,_,_,h=>uH r _ _ (C7 h)
theorem oY.Ns{E:Env}{N:Nat}{l:List aV}{Q:St->Prop}{st:St}(ll:List Nat)(h:oY E N l Q (gi ll st []).1):oY E N l Q st:=by
 intro ops k hk hl X M a w Q' hE hN R hq;exact h ops k hk hl X M a w Q' hE hN (Rl.JT ll (args:=[]) (vs:=[]) R (by simp only[ee])).1 hq
theorem wL(tf:E.OK)(hC:Jh E C){x:aV}{l:List aV}{Q:St->Prop}(h:BZ T C x st=some st1)(hk:oY E N l Q st1):oY E N (x::l) Q st:=by
 unfold BZ at h;split at h
 ·rename_i hg;unfold rK at h;split at h
  ·rename_i n xs gD;refine oY.step hg (fun o hc hd Bv=>qB hC h hd Bv fun X M a w hX R=>?_) hk;rw[gD]at hc;subst hX;obtain⟨c,f,ho,hb,hf,hl⟩:=uS hc;refine⟨c.args.toList.map a.eval,fun pV=>?_,ml tf R hl⟩;have e:=tf.FH f n hf;subst e;rw[rN ho hb,lE pV];have hargs:(#[]++c.args.map a.eval++ #[]:Array Value)=(List.map a.eval c.args.toList).toArray:=by rw[vV];simp
   rw[hargs]
  ·rename_i f xs gD;split at h
   ·rename_i n fs cs MC;refine oY.step hg (fun o hc hd Bv=>qB hC h hd Bv fun X M a w hX R=>?_) hk;rw[gD]at hc;subst hX;obtain⟨c,t,ho,hb,rfl,hl⟩:=wZ hc;obtain⟨vs,us,g1,g2,g3⟩:=DG MC (R.fr t);refine⟨vs++(c.args.toList.map a.eval++us),fun pV=>?_,mW g2 (mW (ml tf R hl) g3)⟩;have Hr:execOp a.eval o=callFunc (X.E.ρ n) (vs.toArray++c.args.map a.eval++us.toArray):=by
     unfold execOp;rw[ho];simp only[resolve,hb];show(Deferred.ofValue (a.tmps.getD t undef) (c.args.map a.eval) >>= fun d=>invoke d.target d.args)=_;rw[g1];rfl
    rw[Hr,lE pV];have hargs:(vs.toArray++c.args.map a.eval++us.toArray:Array Value)=(vs++(List.map a.eval c.args.toList++us)).toArray:=by rw[vV];simp
    rw[hargs]
   ·simp at h
  ·rename_i op _ _;split at h
   ·rename_i v W n vN;split at h
    ·rename_i jb;simp at h;subst h;refine oY.JH hg (fun o hc hd Bv=>?_) hk;refine(ue (U:=fun i=>i<st.nx) tf vN hc Bv (fun hs=>?_) (fun _=>Nat.lt_irrefl _)).used fun i hi=>?_
     ·unfold ou at jb;split at jb
      ·split at jb
       ·rename_i Un;rw[hd,Un]
       ·simp at jb
      ·rename_i ew;cases gD:x.op <;>rw[gD]at hs <;>simp[fC.lW]at hs;exact absurd gD (ew _ _ _)
     ·rcases hi with hi|⟨_,rfl⟩ <;>omega
    ·simp at h
   ·split at h
    ·rename_i wq ha;obtain⟨UH,ll,rfl⟩:=zP ha;split at h
     ·rename_i v W n vN;simp at h;subst h;refine oY.Ns ll (oY.JH (uH ll _ _ hg) (fun o hc hd Bv=>?_) hk);refine(ue (U:=fun i=>i<(gi ll st []).1.nx) tf vN hc Bv (fun hs=>?_) (fun _=>Nat.lt_irrefl _)).used fun i hi=>?_
      ·rw[UH]at hs;exact absurd hs (by decide)
      ·rcases hi with hi|⟨_,rfl⟩ <;>omega
     ·simp at h
    ·simp at h
 ·rename_i hg;simp at h;subst h;exact oY.skip hg hk
 ·simp at h
theorem rp(tf:E.OK)(hC:Jh E C){Q:St->Prop}:∀{l:List aV} {st st1:St},gY T C l st=some st1->Q st1->oY E N l Q st
 |[],st,st1,h,hq=>by simp[gY]at h;subst h;exact oY.nil hq
 |x::r,st,st1,h,hq=>by
  simp only[gY]at h;split at h
  ·rename_i bV h1;exact wL tf hC h1 (rp tf hC h hq)
  ·simp at h
theorem GZ(hC:Jh E C){F:Fr}{H:Hp}{k n:Nat}{xs:List AO}{ps:List PV}{q:Option Nat×PV}(iV:cd (ff F xs)=some ps)(hr:dq C n ps=some q)(own:Bool) :
    Ev E F H k (.call n xs) (gU own k q).1 (gU own k q).2.1 (gU own k q).2.2 []:=by
 obtain⟨o,p⟩:=q;obtain⟨v,hp,nx,g1,g2,rfl⟩:=jr hr;have eE:=hC _ _ _ _ _ _ _ g1;have plain:gU own k (eZ (ah hp) v,p)=(.pv p,[],0)->Ev E F H k (.call n xs) (gU own k (eZ (ah hp) v,p)).1 (gU own k (eZ (ah hp) v,p)).2.1 (gU own k (eZ (ah hp) v,p)).2.2 []:=fun e=>by
  rw[e];exact .call iV (eE.pure g2)
 cases own with
 |false=>exact plain rfl
 |true =>
  cases v with
  |ms id =>
   cases hB:ah hp id with
   |row sz es =>
    have ql:p=.slice es:=by
     simp only[dD,dF,hB,ai]at g2;exact g2.symm
    subst ql;rw[show gU true k (eZ (ah hp) (.ms id),.slice es)=(.ms k,[(k,.row sz es)],1) by simp only[eZ,hB,gU]];exact .own iV (Ej.of eE hB)
   |_=>exact plain (by simp only[eZ,hB,gU])
  |_=>exact plain (by simp only[eZ,gU])
theorem vC(hC:Jh E C):∀{l:List aV} {st st1:St} {es:List En},j0 T C l st=some (es,st1)->BC E l st es st1
 |[],st,st1,es,h=>by simp[j0]at h;obtain⟨rfl,rfl⟩:=h;exact .nil
 |x::r,st,st1,es,h=>by
  simp only[j0]at h;split at h
  ·rename_i e bV h1;split at h
   ·rename_i es' Bk h2;simp at h;obtain⟨rfl,rfl⟩:=h;have ih:=vC hC h2;unfold jf at h1;split at h1
    ·rename_i hg;unfold eI at h1;split at h1
     ·rename_i n xs gD;split at h1
      ·rename_i ps eE iV;split at h1
       ·rename_i q hr;simp only[ai,zw,b9]at h1;obtain⟨rfl,rfl⟩:=h1;refine BC.cons (E:=E) (x:=x) (l:=r) (st:=st) hg ?_ ih;rw[gD];exact GZ hC iV hr _
       ·simp at h1
      ·simp at h1
     ·rename_i f xs gD;split at h1
      ·rename_i n fs cs MC;split at h1
       ·rename_i ps eE iV;split at h1
        ·rename_i o' p hr;simp at h1;obtain⟨rfl,rfl⟩:=h1;obtain⟨v,hp,nx,g1,g2,rfl⟩:=jr hr;have:=BC.cons (E:=E) (x:=x) (l:=r) (st:=st) (v:=.pv p) (W:=[]) (n:=0) (rd:=[]) hg (by rw[gD];exact .fJ MC iV ((hC _ _ _ _ _ _ _ g1).pure g2)) ih;exact this
        ·simp at h1
       ·simp at h1
      ·simp at h1
     ·split at h1
      ·rename_i v W n vN;simp at h1;obtain⟨rfl,rfl⟩:=h1;exact BC.cons hg (.ev vN) ih
      ·simp at h1
    ·rename_i hg;simp at h1;obtain⟨rfl,rfl⟩:=h1;exact BC.skip hg ih
    ·simp at h1
   ·simp at h
  ·simp at h
theorem WP.PH{c:bz}{Q:Exit->St->Prop}{st bV:St}(h:∀X M a w,Rl X M st a w->Rl X M bV a w)(k:WP E N c Q bV):WP E N c Q st:=by
 intro code hc X M a w Q' hE hN R hq;exact k code hc X M a w Q' hE hN (h X M a w R) hq
theorem sn(tf:E.OK)(hC:Jh E C){s:Bool}:∀(c:bz) (k:Nat) (st:St) (e:Exit) (st1:St),run T C s k c st=some (e,st1)->∀Q:Exit->St->Prop,Q e st1->WP E N c Q st:=by
 intro c;induction c with
 |skip =>
  intro k st e st1 h Q hq;cases k with
  |zero=>simp[run]at h
  |succ k=>simp[run]at h;obtain⟨rfl,rfl⟩:=h;exact WP.skip hq
 |ops l =>
  intro k st e st1 h Q hq;cases k with
  |zero=>simp[run]at h
  |succ k =>
   simp only[run]at h;split at h
   ·rename_i bV h1;simp at h;obtain⟨rfl,rfl⟩:=h;exact WP.ops tf (rp tf hC h1 hq)
   ·simp at h
 |draw l =>
  intro k st e st1 h Q hq;cases k with
  |zero=>simp[run]at h
  |succ k =>
   simp only[run]at h;split at h
   ·rename_i bV h1;simp at h;obtain⟨rfl,rfl⟩:=h;unfold eY at h1;split at h1
    ·rename_i es wq h2;split at h1
     ·rename_i Kd;simp at h1;subst h1;refine WP.PH (fun X M a w R=>?_) (WP.draw tf ⟨es,_,vC hC h2,by simpa using Kd,hq⟩);unfold lg;split
      ·exact(Rl.JT _ R (args:=[]) (vs:=[]) (by simp[ee])).1
      ·exact R
     ·simp at h1
    ·simp at h1
   ·simp at h
 |seq a b G6 MV =>
  intro k st e st1 h Q hq;cases k with
  |zero=>simp[run]at h
  |succ k =>
   simp only[run]at h;refine WP.seq ?_;split at h
   ·rename_i bV h1;exact G6 k st _ _ h1 _ (MV k bV _ _ h Q hq)
   ·rename_i ew;refine G6 k st _ _ h _ ?_;cases e with
    |normal=>exact absurd h (ew _)
    |_=>exact hq
 |cond c a b G6 MV =>
  intro k st e st1 h Q hq;cases k with
  |zero=>simp[run]at h
  |succ k =>
   simp only[run]at h;split at h
   ·rename_i hc;exact WP.cond tf hc (fun _=>G6 k st _ _ h Q hq) (fun h=>by simp at h)
   ·rename_i hc;exact WP.cond tf hc (fun h=>by simp at h) (fun _=>MV k st _ _ h Q hq)
   ·simp at h
 |block id b ih =>
  intro k st e st1 h Q hq;cases k with
  |zero=>simp[run]at h
  |succ k =>
   simp only[run]at h;refine WP.block ?_;split at h
   ·rename_i i bV h1;refine ih k st _ _ h1 _ ?_;simp only[BM];split at h
    ·rename_i hi;simp at h;obtain⟨rfl,rfl⟩:=h;rw[hi];exact hq
    ·rename_i hi;simp at h;obtain⟨rfl,rfl⟩:=h;rw[hi];exact hq
   ·rename_i ew;refine ih k st _ _ h _ ?_;cases e with
    |exit i=>exact absurd h (ew _ _)
    |_=>exact hq
 |loop b ih =>
  intro k st e st1 h Q hq;refine WP.loop (fun n st=>run T C s n (.loop b) st=some (e,st1)) k h fun n st hI=>?_;cases n with
  |zero=>simp[run]at hI
  |succ n =>
   simp only[run]at hI;split at hI
   ·rename_i bV h1;exact ih n st _ _ h1 _ ⟨n,by omega,hI⟩
   ·rename_i ew;refine ih n st _ _ hI _ ?_;cases e with
    |normal=>exact absurd hI (ew _)
    |_=>exact hq
 |exit id =>
  intro k st e st1 h Q hq;cases k with
  |zero=>simp[run]at h
  |succ k=>simp[run]at h;obtain⟨rfl,rfl⟩:=h;exact WP.exit hq
 |ret =>
  intro k st e st1 h Q hq;cases k with
  |zero=>simp[run]at h
  |succ k=>simp[run]at h;obtain⟨rfl,rfl⟩:=h;exact WP.ret hq
end
structure Tied(E:Env)(T:cL):Prop where
 fn:∀n f,T.fP n=none->T.fn n=some f->cFunc E n=some f
 fP:∀n g,T.fP n=some g->∀args hp nx v hp' cE,g args hp nx=some (v,hp',cE)->kl E n args hp nx v hp' cE
theorem pd{E:Env}{T:cL}(hE:E.OK)(hT:Tied E T):∀k,Jh E (den T k)
 |0=>fun n args hp nx v hp' cE h=>by simp[den]at h
 |k+1=>fun n args hp nx v hp' cE h=>by
  simp only[den]at h;split at h
  ·rename_i g hg;exact hT.fP n g hg _ _ _ _ _ _ h
  ·rename_i hp0;split at h
   ·rename_i f hf;split at h
    ·rename_i hN;refine kl.KI hE (hT.fn n f hp0 hf) (fb hN) ?_;unfold L2 at h;split at h
     ·rename_i st hr;split at h
      ·rename_i vs G5;simp at h;exact sn hE (pd hE hT k) _ _ _ _ _ hr _ ⟨.inl rfl,vs,G5,h.1,h.2.1,h.2.2⟩
      ·simp at h
     ·rename_i st hr;split at h
      ·rename_i vs G5;simp at h;exact sn hE (pd hE hT k) _ _ _ _ _ hr _ ⟨.inr rfl,vs,G5,h.1,h.2.1,h.2.2⟩
      ·simp at h
     ·simp at h
    ·simp at h
   ·simp at h
end
section
def pO{α:Type}(f:Nat->Option α)(r:α):Prop:=∃k0,∀k,k0<=k->f k=some r
theorem pO.one{α:Type}{f:Nat->Option α}{r r':α}(h:pO f r)(h':pO f r'):r=r':=by
 obtain⟨k,h⟩:=h;obtain⟨k',h'⟩:=h';have h1:=h (max k k') (Nat.le_max_left _ _);have h2:=h' (max k k') (Nat.le_max_right _ _);rw[h1]at h2;exact Option.some.inj h2
open Classical in
noncomputable def D(T:cL):Cl:=fun n args hp nx=>if h:∃r,pO (fun k=>den T k n args hp nx) r then some h.choose else none
theorem wz{T:cL}{n:Nat}{args:List AV}{hp:Hl}{nx:Nat}{r:AV×Hl×Nat}:D T n args hp nx=some r↔pO (fun k=>den T k n args hp nx) r:=by
 unfold D;constructor
 ·intro h;split at h
  ·rename_i hh;have:=hh.choose_spec;rw[Option.some.inj h]at this;exact this
  ·simp at h
 ·intro h;have hh:∃r,pO (fun k=>den T k n args hp nx) r:=⟨r,h⟩;rw[dif_pos hh,hh.choose_spec.one h]
theorem D5{E:Env}{T:cL}(hE:E.OK)(hT:Tied E T):Jh E (D T):=fun n args hp nx v hp' cE h=>by
 obtain⟨k,hk⟩:=wz.1 h;exact pd hE hT k n args hp nx v hp' cE (hk k (ax _))
inductive rz(T:cL)(C:Cl)(s:Bool):bz->St->Exit->St->Prop
 |skip {st}:rz T C s .skip st .normal st
 |ops {l st bV}:gY T C l st=some bV->rz T C s (.ops l) st .normal bV
 |draw {l st bV}:eY T C s l st=some bV->rz T C s (.draw l) st .normal bV
 |seq {a b st bV e Bk}:rz T C s a st .normal bV->rz T C s b bV e Bk->rz T C s (.seq a b) st e Bk
 |Nf {a b st e bV}:e≠ .normal->rz T C s a st e bV->rz T C s (.seq a b) st e bV
 |SG {c a b st e bV}:dG (look st.fr) c=.pv (.bool true)->rz T C s a st e bV->rz T C s (.cond c a b) st e bV
 |R3 {c a b st e bV}:dG (look st.fr) c=.pv (.bool false)->rz T C s b st e bV->rz T C s (.cond c a b) st e bV
 |BN {id b st bV}:rz T C s b st (.exit id) bV->rz T C s (.block id b) st .normal bV
 |block {id b st e bV}:e≠ .exit id->rz T C s b st e bV->rz T C s (.block id b) st e bV
 |loop {b st bV e Bk}:rz T C s b st .normal bV->rz T C s (.loop b) bV e Bk->rz T C s (.loop b) st e Bk
 |HP {b st e bV}:e≠ .normal->rz T C s b st e bV->rz T C s (.loop b) st e bV
 |exit {id st}:rz T C s (.exit id) st (.exit id) st
 |ret {st}:rz T C s .ret st .ret st
section
variable{T:cL}{s:Bool}
theorem l7{n:Nat}{ps:List PV}{r:Option Nat×PV}(h:dq (D T) n ps=some r):pO (fun k=>dq (den T k) n ps) r:=by
 unfold dq at h;split at h
 ·rename_i v hp nx h1;obtain⟨k0,hk⟩:=wz.1 h1;refine⟨k0,fun k hle=>?_⟩;have:=hk k hle;simp only at this;unfold dq;simp only[this];exact h
 ·simp at h
theorem sH{n:Nat}{args:List AV}{d:Option Nat}{st bV:St}(h:eM T (D T) n args d st=some bV):pO (fun k=>eM T (den T k) n args d st) bV:=by
 unfold eM at h;split at h
 ·rename_i eE;split at h
  ·rename_i v hp nx h1;obtain⟨k0,hk⟩:=wz.1 h1;refine⟨k0,fun k hle=>?_⟩;unfold eM;simp only[eE];have:=hk k hle;simp only at this;rw[this];exact h
  ·simp at h
 ·rename_i eE;split at h
  ·rename_i ps iV;split at h
   ·rename_i r h1;obtain⟨k0,hk⟩:=l7 h1;refine⟨k0,fun k hle=>?_⟩;unfold eM;have:=hk k hle;simp only at this;simp only[eE,iV,this];exact h
   ·simp at h
  ·rename_i iV;split at h
   ·rename_i wR;split at h
    ·rename_i ps Cc;split at h
     ·rename_i o p h1;obtain⟨k0,hk⟩:=l7 h1;refine⟨k0,fun k hle=>?_⟩;unfold eM;have:=hk k hle;simp only at this;simp only[eE,iV,wR,Cc,this];exact h
     ·simp at h
    ·simp at h
   ·rename_i wR;split at h;rename_i wq O0 hq;split at h
    ·rename_i ps Cc;split at h
     ·rename_i r h1;obtain⟨k0,hk⟩:=l7 h1;refine⟨k0,fun k hle=>?_⟩;unfold eM;have:=hk k hle;simp only at this;simp only[eE,iV,wR,hq,Cc,this];exact h
     ·simp at h
    ·simp at h
theorem GR{x:aV}{st bV:St}(h:BZ T (D T) x st=some bV):pO (fun k=>BZ T (den T k) x st) bV:=by
 unfold BZ at h;split at h
 ·rename_i hg;have:pO (fun k=>rK T (den T k) x st) bV:=by
   unfold rK at h;split at h
   ·rename_i n xs gD;obtain⟨k0,hk⟩:=sH h;refine⟨k0,fun k hle=>?_⟩;unfold rK;rw[gD];exact hk k hle
   ·rename_i f xs gD;split at h
    ·rename_i n fs cs hf;obtain⟨k0,hk⟩:=sH h;refine⟨k0,fun k hle=>?_⟩;unfold rK;rw[gD];simp only[hf];exact hk k hle
    ·simp at h
   ·rename_i h1 h2;refine⟨0,fun k _=>?_⟩;unfold rK;split
    ·rename_i n xs gD;exact absurd gD (h1 _ _)
    ·rename_i f xs gD;exact absurd gD (h2 _ _)
    ·exact h
  obtain⟨k0,hk⟩:=this;refine⟨k0,fun k hle=>?_⟩;unfold BZ;simp only[hg];exact hk k hle
 ·rename_i hg;refine⟨0,fun k _=>?_⟩;unfold BZ;simp only[hg];exact h
 ·simp at h
theorem sT:∀{l:List aV} {st bV:St},gY T (D T) l st=some bV->pO (fun k=>gY T (den T k) l st) bV
 |[],st,bV,h=>⟨0,fun k _=>h⟩
 |x::r,st,bV,h=>by
  simp only[gY]at h;split at h
  ·rename_i st1 h1;obtain⟨k0,hk⟩:=GR h1;obtain⟨k1,F4⟩:=sT h;refine⟨max k0 k1,fun k hle=>?_⟩;simp only[gY];have e1:=hk k (cQ (Nat.le_max_left _ _) hle);have e2:=F4 k (cQ (Nat.le_max_right _ _) hle);simp only at e1 e2;rw[e1];exact e2
  ·simp at h
theorem FT{x:aV}{st:St}{r:En×St}(h:jf T (D T) x st=some r):pO (fun k=>jf T (den T k) x st) r:=by
 unfold jf at h;split at h
 ·rename_i hg;have:pO (fun k=>eI T (den T k) x st) r:=by
   unfold eI at h;split at h
   ·rename_i n xs gD;split at h
    ·rename_i ps eE iV;split at h
     ·rename_i q h1;obtain⟨k0,hk⟩:=l7 h1;refine⟨k0,fun k hle=>?_⟩;have:=hk k hle;simp only at this;unfold eI;rw[gD];simp only[eE,iV,this];exact h
     ·simp at h
    ·simp at h
   ·rename_i f xs gD;split at h
    ·rename_i n fs cs MC;split at h
     ·rename_i ps eE iV;split at h
      ·rename_i o p h1;obtain⟨k0,hk⟩:=l7 h1;refine⟨k0,fun k hle=>?_⟩;have:=hk k hle;simp only at this;unfold eI;rw[gD];simp only[MC,eE,iV,this];exact h
      ·simp at h
     ·simp at h
    ·simp at h
   ·rename_i h1 R7;refine⟨0,fun k _=>?_⟩;unfold eI;split
    ·rename_i n xs gD;exact absurd gD (h1 _ _)
    ·rename_i f xs gD;exact absurd gD (R7 _ _)
    ·exact h
  obtain⟨k0,hk⟩:=this;refine⟨k0,fun k hle=>?_⟩;unfold jf;simp only[hg];exact hk k hle
 ·rename_i hg;refine⟨0,fun k _=>?_⟩;unfold jf;simp only[hg];exact h
 ·simp at h
theorem xr:∀{l:List aV} {st:St} {r:List En×St},j0 T (D T) l st=some r->pO (fun k=>j0 T (den T k) l st) r
 |[],st,r,h=>⟨0,fun k _=>h⟩
 |x::l,st,r,h=>by
  simp only[j0]at h;split at h
  ·rename_i e st1 h1;split at h
   ·rename_i es wq h2;obtain⟨k0,hk⟩:=FT h1;obtain⟨k1,F4⟩:=xr h2;refine⟨max k0 k1,fun k hle=>?_⟩;have e1:=hk k (cQ (Nat.le_max_left _ _) hle);have e2:=F4 k (cQ (Nat.le_max_right _ _) hle);simp only at e1 e2;simp only[j0,e1,e2];exact h
   ·simp at h
  ·simp at h
theorem zn{l:List aV}{st bV:St}(h:eY T (D T) s l st=some bV):pO (fun k=>eY T (den T k) s l st) bV:=by
 unfold eY at h;split at h
 ·rename_i es st1 h1;obtain⟨k0,hk⟩:=xr h1;refine⟨k0,fun k hle=>?_⟩;have:=hk k hle;simp only at this;unfold eY;simp only[this];exact h
 ·simp at h
theorem rz.late{c:bz}{st bV:St}{e:Exit}(h:rz T (D T) s c st e bV):∃k0,∀k j,k0<=k->k0<=j->run T (den T j) s k c st=some (e,bV):=by
 induction h with
 |skip=>exact⟨1,fun k j h1 h2=>by obtain⟨m,rfl⟩:∃m,k=m+1:=⟨k-1,by omega⟩;rfl⟩
 |ops h =>
  obtain⟨k0,hk⟩:=sT h;refine⟨k0+1,fun k j h1 h2=>?_⟩;obtain⟨m,rfl⟩:∃m,k=m+1:=⟨k-1,by omega⟩;have:=hk j (by omega);simp only at this;simp only[run,this]
 |draw h =>
  obtain⟨k0,hk⟩:=zn h;refine⟨k0+1,fun k j h1 h2=>?_⟩;obtain⟨m,rfl⟩:∃m,k=m+1:=⟨k-1,by omega⟩;have:=hk j (by omega);simp only at this;simp only[run,this]
 |seq _ _ G6 MV =>
  obtain⟨k0,hk⟩:=G6;obtain⟨k1,F4⟩:=MV;refine⟨k0+k1+1,fun k j h1 h2=>?_⟩;obtain⟨m,rfl⟩:∃m,k=m+1:=⟨k-1,by omega⟩;simp only[run,hk m j (by omega) (by omega),F4 m j (by omega) (by omega)]
 | @Nf a b st e bV ew _ G6 =>
  obtain⟨k0,hk⟩:=G6;refine⟨k0+1,fun k j h1 h2=>?_⟩;obtain⟨m,rfl⟩:∃m,k=m+1:=⟨k-1,by omega⟩;simp only[run,hk m j (by omega) (by omega)];cases e with
  |normal=>exact absurd rfl ew
  |_=>rfl
 |SG hc _ ih =>
  obtain⟨k0,hk⟩:=ih;refine⟨k0+1,fun k j h1 h2=>?_⟩;obtain⟨m,rfl⟩:∃m,k=m+1:=⟨k-1,by omega⟩;simp only[run,hc,hk m j (by omega) (by omega)]
 |R3 hc _ ih =>
  obtain⟨k0,hk⟩:=ih;refine⟨k0+1,fun k j h1 h2=>?_⟩;obtain⟨m,rfl⟩:∃m,k=m+1:=⟨k-1,by omega⟩;simp only[run,hc,hk m j (by omega) (by omega)]
 |BN _ ih =>
  obtain⟨k0,hk⟩:=ih;refine⟨k0+1,fun k j h1 h2=>?_⟩;obtain⟨m,rfl⟩:∃m,k=m+1:=⟨k-1,by omega⟩;simp only[run,hk m j (by omega) (by omega),cm]
 | @block id b st e bV ew _ ih =>
  obtain⟨k0,hk⟩:=ih;refine⟨k0+1,fun k j h1 h2=>?_⟩;obtain⟨m,rfl⟩:∃m,k=m+1:=⟨k-1,by omega⟩;simp only[run,hk m j (by omega) (by omega)];cases e with
  |exit i =>
   have:i≠id:=fun h=>ew (by rw[h]);simp only[eX this]
  |_=>rfl
 |loop _ _ G6 MV =>
  obtain⟨k0,hk⟩:=G6;obtain⟨k1,F4⟩:=MV;refine⟨k0+k1+1,fun k j h1 h2=>?_⟩;obtain⟨m,rfl⟩:∃m,k=m+1:=⟨k-1,by omega⟩;simp only[run,hk m j (by omega) (by omega),F4 m j (by omega) (by omega)]
 | @HP b st e bV ew _ G6 =>
  obtain⟨k0,hk⟩:=G6;refine⟨k0+1,fun k j h1 h2=>?_⟩;obtain⟨m,rfl⟩:∃m,k=m+1:=⟨k-1,by omega⟩;simp only[run,hk m j (by omega) (by omega)];cases e with
  |normal=>exact absurd rfl ew
  |_=>rfl
 |exit=>exact⟨1,fun k j h1 h2=>by obtain⟨m,rfl⟩:∃m,k=m+1:=⟨k-1,by omega⟩;rfl⟩
 |ret=>exact⟨1,fun k j h1 h2=>by obtain⟨m,rfl⟩:∃m,k=m+1:=⟨k-1,by omega⟩;rfl⟩
theorem Ga{n:Nat}{f:bg}{args:List AV}{hp:Hl}{nx:Nat}{e:Exit}{st:St}{vs:List AV}(hp0:T.fP n=none)(hf:T.fn n=some f)(hN:Nat.ble args.length f.N=true)(h:rz T (D T) (T.still n) f.body ⟨fy 0 args,hp,nx⟩ e st)
    (he:e=.ret\/e=.normal) (hr:kH (look st.fr) (ah st.hp) f.res=some vs):D T n args hp nx=some (gG vs,st.hp,st.nx):=by
 rw[wz];obtain⟨k0,hk⟩:=h.late;refine⟨k0+1,fun k hle=>?_⟩;obtain⟨m,rfl⟩:∃m,k=m+1:=⟨k-1,by omega⟩;simp only[den,hp0,hf,hN,hk m m (by omega) (by omega)];rcases he with rfl|rfl <;>simp only[L2,hr]
theorem BR{n:Nat}{f:bg}{ps:List PV}{e:Exit}{st:St}{vs:List AV}{p:PV}(hp0:T.fP n=none)(hf:T.fn n=some f)(hN:Nat.ble (dK ps).length f.N=true)(h:rz T (D T) (T.still n) f.body ⟨fy 0 (dK ps),[],0⟩ e st)
    (he:e=.ret\/e=.normal) (hr:kH (look st.fr) (ah st.hp) f.res=some vs) (hp:dD (ah st.hp) (gG vs)=some p):dq (D T) n ps=some (eZ (ah st.hp) (gG vs),p):=by
 unfold dq;rw[Ga hp0 hf hN h he hr];simp only[hp]
theorem im{n:Nat}{g:List AV->List (Nat×dy)->Nat->Option (AV×List (Nat×dy)×Nat)}{args:List AV}{hp:Hl}{nx:Nat}{r:AV×Hl×Nat}(hp0:T.fP n=some g)(h:g args hp nx=some r):D T n args hp nx=some r:=by
 rw[wz];refine⟨1,fun k hle=>?_⟩;obtain⟨m,rfl⟩:∃m,k=m+1:=⟨k-1,by omega⟩;simp only[den,hp0,h]
end
end
section
def Je(C C':Cl):Prop:=∀n args hp nx r,C n args hp nx=some r->C' n args hp nx=some r
section
variable{T:cL}{s:Bool}{C C':Cl}
theorem jq(H:Je C C'){n:Nat}{ps:List PV}{r:Option Nat×PV}(h:dq C n ps=some r):dq C' n ps=some r:=by
 unfold dq at h;split at h
 ·rename_i v hp nx h1;unfold dq;simp only[H _ _ _ _ _ h1];exact h
 ·simp at h
theorem sI(H:Je C C'){n:Nat}{args:List AV}{d:Option Nat}{st bV:St}(h:eM T C n args d st=some bV):eM T C' n args d st=some bV:=by
 unfold eM at h;split at h
 ·rename_i eE;split at h
  ·rename_i v hp nx h1;unfold eM;simp only[eE,H _ _ _ _ _ h1];exact h
  ·simp at h
 ·rename_i eE;split at h
  ·rename_i ps iV;split at h
   ·rename_i r h1;unfold eM;simp only[eE,iV,jq H h1];exact h
   ·simp at h
  ·rename_i iV;split at h
   ·rename_i wR;split at h
    ·rename_i ps Cc;split at h
     ·rename_i o p h1;unfold eM;simp only[eE,iV,wR,Cc,jq H h1];exact h
     ·simp at h
    ·simp at h
   ·rename_i wR;split at h;rename_i wq O0 hq;split at h
    ·rename_i ps Cc;split at h
     ·rename_i r h1;unfold eM;simp only[eE,iV,wR,hq,Cc,jq H h1];exact h
     ·simp at h
    ·simp at h
theorem GS(H:Je C C'){x:aV}{st bV:St}(h:BZ T C x st=some bV):BZ T C' x st=some bV:=by
 unfold BZ at h;split at h
 ·rename_i hg;have:rK T C' x st=some bV:=by
   unfold rK at h;split at h
   ·rename_i n xs gD;unfold rK;rw[gD];exact sI H h
   ·rename_i f xs gD;split at h
    ·rename_i n fs cs hf;unfold rK;rw[gD];simp only[hf];exact sI H h
    ·simp at h
   ·rename_i h1 h2;unfold rK;split
    ·rename_i n xs gD;exact absurd gD (h1 _ _)
    ·rename_i f xs gD;exact absurd gD (h2 _ _)
    ·exact h
  unfold BZ;simp only[hg];exact this
 ·rename_i hg;unfold BZ;simp only[hg];exact h
 ·simp at h
theorem sU(H:Je C C'):∀{l:List aV} {st bV:St},gY T C l st=some bV->gY T C' l st=some bV
 |[],st,bV,h=>h
 |x::r,st,bV,h=>by
  simp only[gY]at h;split at h
  ·rename_i st1 h1;simp only[gY,GS H h1];exact sU H h
  ·simp at h
theorem FU(H:Je C C'){x:aV}{st:St}{r:En×St}(h:jf T C x st=some r):jf T C' x st=some r:=by
 unfold jf at h;split at h
 ·rename_i hg;have:eI T C' x st=some r:=by
   unfold eI at h;split at h
   ·rename_i n xs gD;split at h
    ·rename_i ps eE iV;split at h
     ·rename_i q h1;unfold eI;rw[gD];simp only[eE,iV,jq H h1];exact h
     ·simp at h
    ·simp at h
   ·rename_i f xs gD;split at h
    ·rename_i n fs cs MC;split at h
     ·rename_i ps eE iV;split at h
      ·rename_i o p h1;unfold eI;rw[gD];simp only[MC,eE,iV,jq H h1];exact h
      ·simp at h
     ·simp at h
    ·simp at h
   ·rename_i h1 R7;unfold eI;split
    ·rename_i n xs gD;exact absurd gD (h1 _ _)
    ·rename_i f xs gD;exact absurd gD (R7 _ _)
    ·exact h
  unfold jf;simp only[hg];exact this
 ·rename_i hg;unfold jf;simp only[hg];exact h
 ·simp at h
theorem xt(H:Je C C'):∀{l:List aV} {st:St} {r:List En×St},j0 T C l st=some r->j0 T C' l st=some r
 |[],st,r,h=>h
 |x::l,st,r,h=>by
  simp only[j0]at h;split at h
  ·rename_i e st1 h1;split at h
   ·rename_i es wq h2;simp only[j0,FU H h1,xt H h2];exact h
   ·simp at h
  ·simp at h
theorem zo(H:Je C C'){l:List aV}{st bV:St}(h:eY T C s l st=some bV):eY T C' s l st=some bV:=by
 unfold eY at h;split at h
 ·rename_i es st1 h1;unfold eY;simp only[xt H h1];exact h
 ·simp at h
theorem Bg(H:Je C C'):∀(k:Nat) (c:bz) (st:St) (r:Exit×St),run T C s k c st=some r->∀k',k<=k'->run T C' s k' c st=some r
 |0,c,st,r,h,k',hk=>by simp[run]at h
 |k+1,c,st,r,h,k',hk=>by
  obtain⟨m,rfl⟩:∃m,k'=m+1:=⟨k'-1,by omega⟩;have ih:=fun c st r h=>Bg H k c st r h m (by omega);cases c with
  |skip=>exact h
  |ops l =>
   simp only[run]at h⊢;split at h
   ·rename_i bV h1;simp only[sU H h1];exact h
   ·simp at h
  |draw l =>
   simp only[run]at h⊢;split at h
   ·rename_i bV h1;simp only[zo H h1];exact h
   ·simp at h
  |seq a b =>
   simp only[run]at h⊢;split at h
   ·rename_i bV h1;simp only[ih _ _ _ h1];exact ih _ _ _ h
   ·rename_i ew;rw[ih _ _ _ h];obtain⟨e,bV⟩:=r;cases e with
    |normal=>exact absurd h (ew _)
    |_=>rfl
  |cond c a b =>
   simp only[run]at h⊢;split at h
   ·rename_i hc;exact ih _ _ _ h
   ·rename_i hc;exact ih _ _ _ h
   ·simp at h
  |block id b =>
   simp only[run]at h⊢;split at h
   ·rename_i i bV h1;simp only[ih _ _ _ h1];exact h
   ·rename_i ew;rw[ih _ _ _ h];obtain⟨e,bV⟩:=r;cases e with
    |exit i=>exact absurd h (ew _ _)
    |_=>rfl
  |loop b =>
   simp only[run]at h⊢;split at h
   ·rename_i bV h1;simp only[ih _ _ _ h1];exact ih _ _ _ h
   ·rename_i ew;rw[ih _ _ _ h];obtain⟨e,bV⟩:=r;cases e with
    |normal=>exact absurd h (ew _)
    |_=>rfl
  |exit id=>exact h
  |ret=>exact h
end
theorem A7{T:cL}:∀(k k':Nat),k<=k'->Je (den T k) (den T k')
 |0,k',hk,n,args,hp,nx,r,h=>by simp[den]at h
 |k+1,k',hk,n,args,hp,nx,r,h=>by
  obtain⟨m,rfl⟩:∃m,k'=m+1:=⟨k'-1,by omega⟩;simp only[den]at h⊢;cases hp0:T.fP n with
  |some g=>simp only[hp0]at h⊢;exact h
  |none =>
   simp only[hp0]at h⊢;cases hf:T.fn n with
   |none=>simp only[hf]at h;simp at h
   |some f =>
    simp only[hf]at h⊢;cases hN:Nat.ble args.length f.N with
    |false=>simp only[hN]at h;simp at h
    |true =>
     simp only[hN]at h⊢;have key:∀q,run T (den T k) (T.still n) k f.body ⟨fy 0 args,hp,nx⟩=some q->run T (den T m) (T.still n) m f.body ⟨fy 0 args,hp,nx⟩=some q:=fun q hq=>Bg (A7 k m (by omega)) _ _ _ _ hq _ (by omega);cases hq:run T (den T k) (T.still n) k f.body ⟨fy 0 args,hp,nx⟩with
     |none=>rw[hq]at h;simp[L2]at h
     |some q=>rw[key q hq];rw[hq]at h;exact h
theorem NN{T:cL}{k n:Nat}{args:List AV}{hp:Hl}{nx:Nat}{r:AV×Hl×Nat}(h:den T k n args hp nx=some r):D T n args hp nx=some r :=
 wz.2 ⟨k,fun k' hk=>A7 k k' hk _ _ _ _ _ h⟩
theorem Ey{T:cL}{k n:Nat}{ps:List PV}{r:Option Nat×PV}(h:dq (den T k) n ps=some r):dq (D T) n ps=some r :=
 jq (fun _ _ _ _ _ h=>NN h) h
def Kt(p:PV->Bool):Option (Option Nat×PV)->Bool
 |some (none,q)=>p q
 |_=>false
def LM:PV->Bool
 | .bool b=>b
 |_=>false
theorem BS{T:cL}{k n:Nat}{ps:List PV}(h:Kt LM (dq (den T k) n ps)=true):dq (D T) n ps=some (none,.bool true):=by
 refine Ey (k:=k) ?_;cases hc:dq (den T k) n ps with
 |none=>rw[hc]at h;simp[Kt]at h
 |some r =>
  rw[hc]at h;obtain⟨o,p⟩:=r;cases o with
  |some _=>simp[Kt]at h
  |none=>cases p <;>simp[Kt,LM]at h;rw[h]
end
section
section
variable(T:cL)(s:Bool)
def Wp(c:bz)(st:St)(Q:Exit->St->Prop):Prop:=∃e bV,rz T (D T) s c st e bV/\Q e bV
def tM(l:List aV)(st:St)(K:St->Prop):Prop:=∃bV,gY T (D T) l st=some bV/\K bV
def Dl(a b:bz)(st:St)(Q:Exit->St->Prop):AV->Prop
 | .pv (.bool true)=>Wp T s a st Q
 | .pv (.bool false)=>Wp T s b st Q
 |_=>False
def vr(b:bz)(Q:Exit->St->Prop):Exit->St->Prop
 | .normal,st=>Wp T s b st Q
 |e,st=>Q e st
def vY(id:Nat)(Q:Exit->St->Prop):Exit->St->Prop
 | .exit i,st=>(i=id->Q .normal st)/\(i≠id->Q (.exit i) st)
 |e,st=>Q e st
end
section
variable{T:cL}{s:Bool}{st:St}{Q:Exit->St->Prop}{K:St->Prop}
theorem tU{a b:bz}:Dl T s a b st Q (.pv (.bool true))↔Wp T s a st Q:=pt
theorem sB{a b:bz}:Dl T s a b st Q (.pv (.bool false))↔Wp T s b st Q:=pt
theorem sV{b:bz}:vr T s b Q .normal st↔Wp T s b st Q:=pt
theorem vt{b:bz}:vr T s b Q .ret st↔Q .ret st:=pt
theorem xl{b:bz}{i:Nat}:vr T s b Q (.exit i) st↔Q (.exit i) st:=pt
theorem sA{id:Nat}:vY id Q .normal st↔Q .normal st:=pt
theorem tS{id:Nat}:vY id Q .ret st↔Q .ret st:=pt
theorem wH{id i:Nat}:vY id Q (.exit i) st↔(i=id->Q .normal st)/\(i≠id->Q (.exit i) st):=pt
theorem Dd:Wp T s .skip st Q↔Q .normal st:=by
 constructor
 ·rintro⟨e,bV,h,hq⟩;cases h;exact hq
 ·exact fun h=>⟨_,_,.skip,h⟩
theorem Gp:Wp T s .ret st Q↔Q .ret st:=by
 constructor
 ·rintro⟨e,bV,h,hq⟩;cases h;exact hq
 ·exact fun h=>⟨_,_,.ret,h⟩
theorem Dc{id:Nat}:Wp T s (.exit id) st Q↔Q (.exit id) st:=by
 constructor
 ·rintro⟨e,bV,h,hq⟩;cases h;exact hq
 ·exact fun h=>⟨_,_,.exit,h⟩
theorem BD{l:List aV}:Wp T s (.ops l) st Q↔tM T l st (Q .normal):=by
 constructor
 ·rintro⟨e,bV,h,hq⟩;cases h;rename_i h;exact⟨_,h,hq⟩
 ·rintro⟨bV,h,hq⟩;exact⟨_,_,.ops h,hq⟩
theorem mh{a b:bz}:Wp T s (.seq a b) st Q↔Wp T s a st (vr T s b Q):=by
 constructor
 ·rintro⟨e,bV,h,hq⟩
  cases h with
  |seq h1 h2=>exact⟨_,_,h1,_,_,h2,hq⟩
  |Nf ew h1 =>
   refine⟨_,_,h1,?_⟩;cases e with
   |normal=>exact absurd rfl ew
   |_=>exact hq
 ·rintro⟨e,bV,h,hq⟩
  cases e with
  |normal=>obtain⟨e2,wq,h2,hq⟩:=hq;exact⟨_,_,.seq h h2,hq⟩
  |_=>exact⟨_,_,.Nf (by simp) h,hq⟩
theorem Db{c:AO}{a b:bz}:Wp T s (.cond c a b) st Q↔Dl T s a b st Q (dG (look st.fr) c):=by
 constructor
 ·rintro⟨e,bV,h,hq⟩
  cases h with
  |SG hc h1=>rw[hc];exact⟨_,_,h1,hq⟩
  |R3 hc h1=>rw[hc];exact⟨_,_,h1,hq⟩
 ·intro h;unfold Dl at h;split at h
  ·rename_i hc;obtain⟨_,_,h1,hq⟩:=h;exact⟨_,_,.SG hc h1,hq⟩
  ·rename_i hc;obtain⟨_,_,h1,hq⟩:=h;exact⟨_,_,.R3 hc h1,hq⟩
  ·exact h.elim
theorem zN{id:Nat}{b:bz}:Wp T s (.block id b) st Q↔Wp T s b st (vY id Q):=by
 constructor
 ·rintro⟨e,bV,h,hq⟩
  cases h with
  |BN h1=>exact⟨_,_,h1,fun _=>hq,fun h=>absurd rfl h⟩
  |block ew h1 =>
   refine⟨_,_,h1,?_⟩;cases e with
   |exit i=>exact⟨fun h=>absurd (by rw[h]) ew,fun _=>hq⟩
   |_=>exact hq
 ·rintro⟨e,bV,h,hq⟩
  cases e with
  |exit i =>
   by_cases hi:i=id
   ·subst hi;exact⟨_,_,.BN h,hq.1 rfl⟩
   ·exact⟨_,_,.block (by simp[hi]) h,hq.2 hi⟩
  |_=>exact⟨_,_,.block (by simp) h,hq⟩
theorem ay{b:bz}:Wp T s (.loop b) st Q↔Wp T s b st (vr T s (.loop b) Q):=by
 constructor
 ·rintro⟨e,bV,h,hq⟩
  cases h with
  |loop h1 h2=>exact⟨_,_,h1,_,_,h2,hq⟩
  |HP ew h1 =>
   refine⟨_,_,h1,?_⟩;cases e with
   |normal=>exact absurd rfl ew
   |_=>exact hq
 ·rintro⟨e,bV,h,hq⟩
  cases e with
  |normal=>obtain⟨e2,wq,h2,hq⟩:=hq;exact⟨_,_,.loop h h2,hq⟩
  |_=>exact⟨_,_,.HP (by simp) h,hq⟩
theorem Wp.mono{c:bz}{Q':Exit->St->Prop}(h:Wp T s c st Q)(hq:∀e st,Q e st->Q' e st):Wp T s c st Q':=by
 obtain⟨e,bV,h1,h2⟩:=h;exact⟨e,bV,h1,hq _ _ h2⟩
theorem xK:tM T [] st K↔K st:=by
 constructor
 ·rintro⟨bV,h,hq⟩;simp[gY]at h;subst h;exact hq
 ·exact fun h=>⟨_,rfl,h⟩
theorem Jr{x:aV}{l:List aV}:tM T (x::l) st K↔∃bV,BZ T (D T) x st=some bV/\tM T l bV K:=by
 unfold tM;simp only[gY];constructor
 ·rintro⟨bV,h,hq⟩
  split at h
  ·rename_i st1 h1;exact⟨_,h1,_,h,hq⟩
  ·simp at h
 ·rintro⟨st1,h1,bV,h,hq⟩
  exact⟨bV,by rw[h1];exact h,hq⟩
def Dp(T:cL)(d:Option Nat)(l:List aV)(st:St)(K:St->Prop):Option (AV×List (Nat×dy)×Nat)->Prop
 |some (v,W,n)=>tM T l ⟨dt st d v,W++st.hp,st.nx+n⟩ K
 |none=>False
def iN(T:cL)(n:Nat)(args:List AV)(d:Option Nat)(l:List aV)(st:St)(K:St->Prop):Prop:=∃bV,eM T (D T) n args d st=some bV/\tM T l bV K
def Ao(T:cL)(xs:List AV)(d:Option Nat)(l:List aV)(st:St)(K:St->Prop):Option (Nat×List AV×List AV)->Prop
 |some (n,a,b)=>iN T n (a++(xs++b)) d l st K
 |none=>False
def Q6(T:cL)(d:Option Nat)(op:fC)(l:List aV)(st:St)(K:St->Prop):Option (AV×List (Nat×dy)×Nat)->Prop
 |some r=>Dp T d l st K (some r)
 |none=>match o8 op st with
  |some st1=>Dp T d l st1 K (bD (look st1.fr) (ah st1.hp) st1.nx op)
  |none=>False
def vR(T:cL)(d:Option Nat)(op:fC)(l:List aV)(st:St)(K:St->Prop):Prop :=
 match op with
 | .call n xs=>iN T n (ff (look st.fr) xs) d l st K
 | .fJ f xs=>Ao T (ff (look st.fr) xs) d l st K (aT (dG (look st.fr) f))
 | .store m x y=>match d with
  |none=>Dp T none l st K (bD (look st.fr) (ah st.hp) st.nx (.store m x y))
  |some _=>False
 | .cv sz len zs ps=>Q6 T d (.cv sz len zs ps) l st K (bD (look st.fr) (ah st.hp) st.nx (.cv sz len zs ps))
 |op=>Dp T d l st K (bD (look st.fr) (ah st.hp) st.nx op)
def pU(T:cL)(d:Option Nat)(op:fC)(l:List aV)(st:St)(K:St->Prop):Option Bool->Prop
 |some true=>vR T d op l st K
 |some false=>tM T l ⟨dt st d (.pv (.tuple [])),st.hp,st.nx⟩ K
 |none=>False
theorem Ag{d:Option Nat}{l:List aV}{v:AV}{W:List (Nat×dy)}{n:Nat}:Dp T d l st K (some (v,W,n))↔tM T l ⟨dt st d v,W++st.hp,st.nx+n⟩ K:=pt
theorem zY{d:Option Nat}{op:fC}{l:List aV}{v:AV}{W:List (Nat×dy)}{n:Nat}:Q6 T d op l st K (some (v,W,n))↔tM T l ⟨dt st d v,W++st.hp,st.nx+n⟩ K:=pt
theorem pe{xs:List AV}{d:Option Nat}{l:List aV}{n:Nat}{a b:List AV}:Ao T xs d l st K (some (n,a,b))↔iN T n (a++(xs++b)) d l st K:=pt
theorem sM{d:Option Nat}{op:fC}{l:List aV}:pU T d op l st K (some true)↔vR T d op l st K:=pt
theorem qL{d:Option Nat}{op:fC}{l:List aV}:pU T d op l st K (some false)↔tM T l ⟨dt st d (.pv (.tuple [])),st.hp,st.nx⟩ K:=pt
theorem tN{d:Option Nat}{op:fC}{g:Option (Nat×Bool)}{ds:List Nat}{l:List aV}:tM T (⟨d,op,g,ds⟩::l) st K↔pU T d op l st K (cH (look st.fr) g):=by
 rw[Jr];unfold BZ;simp only;cases hg:cH (look st.fr) g with
 |none=>simp[pU]
 |some b =>
  cases b with
  |false=>simp[pU]
  |true =>
   simp only[pU];unfold rK;cases op with
   |call n xs=>rfl
   |fJ f xs =>
    simp only[vR];cases aT (dG (look st.fr) f)with
    |none=>simp[Ao]
    |some q=>obtain⟨n,a,b⟩:=q;simp only[Ao];rfl
   |store m x y =>
    simp only[vR,ou];cases d with
    |none =>
     simp only;cases bD (look st.fr) (ah st.hp) st.nx (.store m x y)with
     |none=>simp[Dp,o8]
     |some q=>obtain⟨v,W,n⟩:=q;simp[Dp,dt]
    |some d =>
     simp only;cases bD (look st.fr) (ah st.hp) st.nx (.store m x y)with
     |none=>simp[o8]
     |some q=>simp
   |cv sz len zs ps =>
    simp only[vR,ou];cases bD (look st.fr) (ah st.hp) st.nx (.cv sz len zs ps)with
    |some q=>obtain⟨v,W,n⟩:=q;simp[Q6,Dp]
    |none =>
     simp only[Q6];cases o8 (.cv sz len zs ps) st with
     |none=>simp
     |some st1 =>
      simp only;cases bD (look st1.fr) (ah st1.hp) st1.nx (.cv sz len zs ps)with
      |none=>simp[Dp]
      |some q=>obtain⟨v,W,n⟩:=q;simp[Dp]
   |_ =>
    simp only[vR,ou,o8]
    first
     |(generalize bD _ _ _ _=z;cases z with
       |none=>simp[Dp]
       |some q=>obtain⟨v,W,n⟩:=q;simp[Dp])
     |simp[bD,Dp]
end
theorem la{T:cL}{n:Nat}{args:List AV}{d:Option Nat}{l:List aV}{st:St}{K:St->Prop}{ps:List PV}{r:Option Nat×PV}(eE:T.raw n=false)(h1:cd args=some ps)(h2:dq (D T) n ps=some r) :
    iN T n args d l st K↔tM T l (qh (T.own n) d st r) K:=by
 unfold iN eM;simp only[eE,h1,h2,ai];constructor
 ·rintro⟨bV,rfl,h⟩;exact h
 ·exact fun h=>⟨_,rfl,h⟩
end
section
def quiet:fC->Bool
 | .mv _| .pick _ _ _| .build _ _| .load _ _ _| .jU _| .bin _ _ _ _| .not _| .neg _| .uP _ _ _ _ _| .conv _ _| .kO _ _| .xb _ _ _| .fieldAddr _ _| .oy _ _ _ _| .fA _ _ _| .dB _ _ _ _| .slice _ _ _ _| .len _| .uV _| .G2 _| .wj _| .extract _ _| .t8 _| .tb _| .fJ _ _| .jT _ _ _ _ _=>true
 | .call n _=>!(Nat.beq n 279)
 |_=>false
def J0:fC->Bool
 | .mv _| .pick _ _ _| .build _ _| .bin _ none _ _| .not _| .neg _| .uP _ _ _ _ _| .conv _ _| .kO _ _| .xb _ _ _| .uV _| .wj _| .extract _ _| .t8 _| .tb _| .fJ _ _=>true
 | .call n _=>!(Nat.beq n 279)
 |_=>false
def Ni(x:aV):Bool:=match x.op with
 | .store _ _ _=>match x.dst with
  |none=>true
  |some _=>false
 |_=>true
def vm(x:aV):List Nat:=fp x.op++mI x.guard
def HA(x y:aV):Bool:=fo (kG x.dst) (vm y)&&(fo (kG x.dst) (kG y.dst)&&(fo (kG y.dst) (vm x)&&((quiet x.op&&quiet y.op)||(J0 x.op||J0 y.op))))
def E5(i:Nat)(x:aV):List aV->Bool
 |[]=>true
 |y::r=>(mem i y.kC||HA x y)&&E5 i x r
def calm(i:Nat):List aV->Bool
 |[]=>true
 |x::r=>Ni x&&(kX i x.kC&&(E5 i x r&&calm (i+1) r))
theorem Bb{F:Fr}{H:Hp}{k:Nat}{op:fC}{v:AV}{W:List (Nat×dy)}{n:Nat}(hq:quiet op=true)(h:bD F H k op=some (v,W,n)):W=[]/\n=0:=by
 unfold bD at h
 repeat' split at h
 all_goals first|(simp[quiet]at hq;done)|(simp only[ai,b9]at h;exact⟨h.2.1.symm,h.2.2.symm⟩)|(exact absurd h (by simp))
section
variable{T:cL}{C:Cl}
def IY(e:En):Prop:=(quiet e.x.op=true->e.W=[]/\e.n=0)/\(J0 e.x.op=true->e.W=[]/\e.n=0/\e.rd=[])
theorem EJ{op:fC}(h:J0 op=true):quiet op=true:=by
 unfold J0 at h;split at h <;>first|rfl|(simp at h;done)|(simp only[quiet];exact h)
theorem Mf{F:Fr}{op:fC}(h:J0 op=true):ix F op=[]:=by
 unfold J0 at h;split at h <;>first|rfl|simp at h
theorem Bn{x:aV}{st bV:St}{e:En}(h:jf T C x st=some (e,bV)):e.x=x/\IY e:=by
 unfold jf at h;split at h
 ·unfold eI at h;split at h
  ·rename_i n xs gD;split at h
   ·split at h
    ·rename_i q hq;simp only[ai,zw,b9]at h;obtain⟨rfl,rfl⟩:=h;have key:Nat.beq n 279=false->(gU (T.sd n) st.nx q).2.1=[]/\(gU (T.sd n) st.nx q).2.2=0:=fun hn=>by
      have:T.sd n=false:=by unfold cL.sd;rw[hn];rfl
      rw[this];exact⟨rfl,rfl⟩
     refine⟨rfl,fun h=>?_,fun h=>?_⟩
     ·simp only[gD,quiet,Bool.not_eq_true']at h;exact key h
     ·simp only[gD,J0,Bool.not_eq_true']at h;exact⟨(key h).1,(key h).2,rfl⟩
    ·simp at h
   ·simp at h
  ·split at h
   ·split at h
    ·split at h
     ·simp at h;obtain⟨rfl,rfl⟩:=h;exact⟨rfl,fun _=>⟨rfl,rfl⟩,fun _=>⟨rfl,rfl,rfl⟩⟩
     ·simp at h
    ·simp at h
   ·simp at h
  ·split at h
   ·rename_i v W n vN;simp at h;obtain⟨rfl,rfl⟩:=h;refine⟨rfl,fun hq=>?_,fun hd=>?_⟩
    ·obtain⟨h1,h2⟩:=Bb hq vN;exact⟨h1,h2⟩
    ·obtain⟨h1,h2⟩:=Bb (EJ hd) vN;exact⟨h1,h2,Mf hd⟩
   ·simp at h
 ·simp at h;obtain⟨rfl,rfl⟩:=h;exact⟨rfl,fun _=>⟨rfl,rfl⟩,fun _=>⟨rfl,rfl,rfl⟩⟩
 ·simp at h
theorem oq:∀(l:List Nat),fo l []=true
 |[]=>rfl
 |a::r=>by simp only[fo,mem,oq r];rfl
theorem u5:∀{l:List aV} {i:Nat} {st bV:St} {es:List En},calm i l=true->j0 T C l st=some (es,bV)->eA i es=true/\es.map (·.x)=l/\∀e∈es,IY e
 |[],i,st,bV,es,hc,h=>by simp[j0]at h;obtain⟨rfl,rfl⟩:=h;simp[eA]
 |x::r,i,st,bV,es,hc,h=>by
  simp only[calm,bq]at hc;obtain⟨hq,hd,hr,hc⟩:=hc;simp only[j0]at h;split at h
  ·rename_i e st1 h1;split at h
   ·rename_i es' wq h2;simp at h;obtain⟨rfl,rfl⟩:=h;obtain⟨k1,k2⟩:=Bn h1;obtain⟨g1,g2,g3⟩:=u5 hc h2;refine⟨?_,by simp[k1,g2],?_⟩
    ·simp only[eA,bq,ke];refine⟨by rw[k1];exact hd,?_,.inl ?_,g1⟩
     ·unfold ij;rw[k1];exact hq
     ·have key:∀{fs:List En} {l:List aV},fs.map (·.x)=l->(∀f∈fs,IY f)->E5 i x l=true->iY i e fs=true:=by
       intro fs;induction fs with
       |nil=>intro l _ _ _;rfl
       |cons f fs ih =>
        intro l hl hw S6;subst hl;simp only[aX,E5,bq]at S6;simp only[iY,bq];refine⟨?_,ih rfl (fun f hf=>hw f (by simp[hf])) S6.2⟩;have:=S6.1;simp only[ke]at this⊢;rcases this with h|h
        ·exact .inl h
        ·refine .inr ?_;have w:=hw f (by simp);simp only[HA,bq,ke]at h;obtain⟨d1,d2,d3,h⟩:=h;simp only[iI,En.reads,k1,bq];refine⟨d1,d2,d3,?_⟩;rcases h with⟨q1,q2⟩|q1|q2
         ·obtain⟨a1,a2⟩:=k2.1 (by rw[k1];exact q1);obtain⟨b1,b2⟩:=w.1 q2;simp only[a1,a2,b1,b2,keys,fo,cm,sX,true_and,and_self]
         ·obtain⟨a1,a2,a3⟩:=k2.2 (by rw[k1];exact q1);simp only[a1,a2,a3,keys,fo,oq,cm,sX,true_and,and_self]
         ·obtain⟨b1,b2,b3⟩:=w.2 q2;simp only[b1,b2,b3,keys,fo,oq,cm,sX,M6,true_and,and_self]
      exact key g2 g3 hr
    ·intro f hf;simp only[aS]at hf;rcases hf with rfl|hf
     ·exact k2
     ·exact g3 f hf
   ·simp at h
  ·simp at h
end
def vL(T:cL)(l:List aV)(st:St)(K:St->Prop):Prop:=∃es bV,j0 T (D T) l st=some (es,bV)/\K bV
theorem eg{T:cL}{st:St}{Q:Exit->St->Prop}{l:List aV}(hc:calm 0 l=true):Wp T false (.draw l) st Q↔vL T l st (Q .normal):=by
 constructor
 ·rintro⟨e,bV,h,hq⟩
  cases h;rename_i h;unfold eY at h;split at h
  ·rename_i es st1 h1;split at h
   ·simp at h;subst h;exact⟨es,_,h1,hq⟩
   ·simp at h
  ·simp at h
 ·rintro⟨es,bV,h,hq⟩
  refine⟨_,_,.draw ?_,hq⟩;unfold eY;have:j0 T (D T) l (lg false st)=some (es,bV):=h;rw[this];simp only[(u5 hc h).1]
section
variable{T:cL}{st:St}{K:St->Prop}
def QZ(T:cL)(d:Option Nat)(l:List aV)(st:St)(K:St->Prop):Option (AV×List (Nat×dy)×Nat)->Prop
 |some (v,W,n)=>vL T l ⟨dt st d v,W++st.hp,st.nx+n⟩ K
 |none=>False
def cn(T:cL)(n:Nat)(args:List AV)(d:Option Nat)(l:List aV)(st:St)(K:St->Prop):Prop :=
 T.raw n=false/\∃ps o p,cd args=some ps/\dq (D T) n ps=some (o,p)/\vL T l ⟨dt st d (.pv p),st.hp,st.nx⟩ K
def Lm(T:cL)(n:Nat)(args:List AV)(d:Option Nat)(l:List aV)(st:St)(K:St->Prop):Prop :=
 T.raw n=false/\∃ps r,cd args=some ps/\dq (D T) n ps=some r/\vL T l ⟨dt st d (gU (T.own n) st.nx r).1,(gU (T.own n) st.nx r).2.1++st.hp,st.nx+(gU (T.own n) st.nx r).2.2⟩ K
def Og(T:cL)(xs:List AV)(d:Option Nat)(l:List aV)(st:St)(K:St->Prop):Option (Nat×List AV×List AV)->Prop
 |some (n,a,b)=>cn T n (a++(xs++b)) d l st K
 |none=>False
theorem wN{xs:List AV}{d:Option Nat}{l:List aV}{n:Nat}{a b:List AV}:Og T xs d l st K (some (n,a,b))↔cn T n (a++(xs++b)) d l st K:=pt
def DY(T:cL)(d:Option Nat)(op:fC)(l:List aV)(st:St)(K:St->Prop):Prop :=
 match op with
 | .call n xs=>cond (Nat.beq n 279) (Lm T n (ff (look st.fr) xs) d l st K) (cn T n (ff (look st.fr) xs) d l st K)
 | .fJ f xs=>Og T (ff (look st.fr) xs) d l st K (aT (dG (look st.fr) f))
 |op=>QZ T d l st K (bD (look st.fr) (ah st.hp) st.nx op)
def yO(T:cL)(d:Option Nat)(op:fC)(l:List aV)(st:St)(K:St->Prop):Option Bool->Prop
 |some true=>DY T d op l st K
 |some false=>vL T l ⟨dt st d (.pv (.tuple [])),st.hp,st.nx⟩ K
 |none=>False
theorem Ae{d:Option Nat}{l:List aV}{v:AV}{W:List (Nat×dy)}{n:Nat}:QZ T d l st K (some (v,W,n))↔vL T l ⟨dt st d v,W++st.hp,st.nx+n⟩ K:=pt
theorem sK{d:Option Nat}{op:fC}{l:List aV}:yO T d op l st K (some true)↔DY T d op l st K:=pt
theorem qJ{d:Option Nat}{op:fC}{l:List aV}:yO T d op l st K (some false)↔vL T l ⟨dt st d (.pv (.tuple [])),st.hp,st.nx⟩ K:=pt
theorem D9:vL T [] st K↔K st:=by
 constructor
 ·rintro⟨es,bV,h,hq⟩;simp[j0]at h;obtain⟨rfl,rfl⟩:=h;exact hq
 ·exact fun h=>⟨_,_,rfl,h⟩
theorem Lh{x:aV}{l:List aV}:vL T (x::l) st K↔∃e bV,jf T (D T) x st=some (e,bV)/\vL T l bV K:=by
 unfold vL;simp only[j0];constructor
 ·rintro⟨es,bV,h,hq⟩
  split at h
  ·rename_i e st1 h1;split at h
   ·rename_i es' wq h2;simp at h;obtain⟨rfl,rfl⟩:=h;exact⟨e,st1,h1,es',_,h2,hq⟩
   ·simp at h
  ·simp at h
 ·rintro⟨e,st1,h1,es',wq,h2,hq⟩
  exact⟨e::es',wq,by rw[h1];simp only[h2],hq⟩
theorem xI{x:aV}{l:List aV}{e:En}{st1:St}(h:jf T (D T) x st=some (e,st1)):vL T (x::l) st K↔vL T l st1 K:=by
 rw[Lh,h];constructor
 ·rintro⟨e',bV,h1,h2⟩
  simp at h1;obtain⟨rfl,rfl⟩:=h1;exact h2
 ·exact fun h2=>⟨_,_,rfl,h2⟩
theorem mY{x:aV}{l:List aV}(h:jf T (D T) x st=none):¬vL T (x::l) st K:=by
 rw[Lh,h]
 rintro⟨e',bV,h1,h2⟩
 simp at h1
theorem zL{d:Option Nat}{op:fC}{g:Option (Nat×Bool)}{ds:List Nat}{l:List aV}:vL T (⟨d,op,g,ds⟩::l) st K↔yO T d op l st K (cH (look st.fr) g):=by
 cases hg:cH (look st.fr) g with
 |none=>exact⟨fun h=>absurd h (mY (by unfold jf;simp only[hg])),fun h=>h.elim⟩
 |some b =>
  cases b with
  |false=>exact xI (by unfold jf;simp only[hg];rfl)
  |true =>
   simp only[yO];have h0:∀x:aV,x.guard=g->jf T (D T) x st=eI T (D T) x st:=fun x hx=>by unfold jf;simp only[hx,hg]
   have key:∀(x:aV) (n:Nat) (args:List AV),x.guard=g->(eI T (D T) x st=match T.raw n,cd args with
       |false,some ps=>match dq (D T) n ps with
        |some (_,p)=>some (⟨x,false,st.nx,.pv p,[],0,[]⟩,⟨dt st x.dst (.pv p),st.hp,st.nx⟩)
        |none=>none
       |_,_=>none)->(vL T (x::l) st K↔cn T n args x.dst l st K):=by
    intro x n args hx gD;have h1:jf T (D T) x st=eI T (D T) x st:=h0 _ hx;unfold cn;cases eE:T.raw n with
    |true=>exact⟨fun h=>absurd h (mY (by rw[h1,gD];simp only[eE])),fun h=>by simp at h⟩
    |false =>
     cases iV:cd args with
     |none=>exact⟨fun h=>absurd h (mY (by rw[h1,gD];simp only[eE,iV])),fun h=>by obtain⟨_,ps,o,p,h,_⟩:=h;simp at h⟩
     |some ps =>
      cases uL:dq (D T) n ps with
      |none =>
       refine⟨fun h=>absurd h (mY (by rw[h1,gD];simp only[eE,iV,uL])),fun h=>?_⟩;obtain⟨_,KP,o,p,h,h2,_⟩:=h;simp only[ai]at h;subst h;rw[uL]at h2;simp at h2
      |some r =>
       obtain⟨o,p⟩:=r;rw[xI (e:=⟨x,false,st.nx,.pv p,[],0,[]⟩) (st1:=⟨dt st x.dst (.pv p),st.hp,st.nx⟩) (by rw[h1,gD];simp only[eE,iV,uL])];constructor
       ·exact fun h=>⟨rfl,ps,o,p,rfl,uL,h⟩
       ·rintro⟨_,KP,o',p',h,h2,h3⟩
        simp only[ai]at h;subst h;rw[uL]at h2;simp at h2;obtain⟨rfl,rfl⟩:=h2;exact h3
   cases op with
   |call n xs =>
    simp only[DY];cases hb:Nat.beq n 279 with
    |false =>
     simp only[fm];refine key ⟨d,.call n xs,g,ds⟩ n _ rfl ?_;have ho:T.sd n=false:=by unfold cL.sd;rw[hb];rfl
     simp only[eI,ho];cases T.raw n with
     |true=>rfl
     |false =>
      cases cd (ff (look st.fr) xs)with
      |none=>rfl
      |some ps =>
       dsimp only;cases dq (D T) n ps with
       |none=>rfl
       |some r=>rfl
    |true =>
     simp only[gP];have ho:T.sd n=T.own n:=by unfold cL.sd;rw[hb];rfl
     have h1:=h0 ⟨d,.call n xs,g,ds⟩ rfl;unfold Lm;cases eE:T.raw n with
     |true=>exact⟨fun h=>absurd h (mY (by rw[h1];simp only[eI,eE])),fun h=>by simp at h⟩
     |false =>
      cases iV:cd (ff (look st.fr) xs)with
      |none=>exact⟨fun h=>absurd h (mY (by rw[h1];simp only[eI,eE,iV])),fun h=>by obtain⟨_,ps,r,h,_⟩:=h;simp at h⟩
      |some ps =>
       cases uL:dq (D T) n ps with
       |none =>
        refine⟨fun h=>absurd h (mY (by rw[h1];simp only[eI,eE,iV,uL])),fun h=>?_⟩;obtain⟨_,KP,r,h,h2,_⟩:=h;simp only[ai]at h;subst h;rw[uL]at h2;simp at h2
       |some r =>
        rw[xI (e:=(zw ⟨d,.call n xs,g,ds⟩ st (gU (T.own n) st.nx r)).1) (st1:=(zw ⟨d,.call n xs,g,ds⟩ st (gU (T.own n) st.nx r)).2) (by rw[h1];simp only[eI,eE,iV,uL,ho])];constructor
        ·exact fun h=>⟨rfl,ps,r,rfl,uL,h⟩
        ·rintro⟨_,KP,r',h,h2,h3⟩
         simp only[ai]at h;subst h;rw[uL]at h2;simp only[ai]at h2;subst h2;exact h3
   |fJ f xs =>
    simp only[DY];cases hf:aT (dG (look st.fr) f)with
    |none=>exact⟨fun h=>absurd h (mY (by rw[h0 _ rfl];simp only[eI,hf])),fun h=>h.elim⟩
    |some q =>
     obtain⟨n,a,b⟩:=q;exact key ⟨d,.fJ f xs,g,ds⟩ n _ rfl (by simp only[eI,hf] <;>rfl)
   |_ =>
    simp only[DY]
    first
     |(rename_i a1 a2 a3 a4 a5;cases vN:bD (look st.fr) (ah st.hp) st.nx (_ a1 a2 a3 a4 a5))
     |(refine(show _↔QZ T d l st K _ from ?_)
       generalize vN:bD _ _ _ _=z;cases z with
       |none=>exact⟨fun h=>absurd h (mY (by rw[h0 _ rfl];simp only[eI,vN])),fun h=>h.elim⟩
       |some q =>
        obtain⟨v,W,n⟩:=q;exact xI (by rw[h0 _ rfl];simp only[eI,vN];rfl))
theorem u4{n:Nat}{args:List AV}{d:Option Nat}{l:List aV}{ps:List PV}{o:Option Nat}{p:PV}(eE:T.raw n=false)(h1:cd args=some ps)(h2:dq (D T) n ps=some (o,p)) :
    cn T n args d l st K↔vL T l ⟨dt st d (.pv p),st.hp,st.nx⟩ K:=by
 unfold cn;simp only[eE,h1,h2,true_and,ai,b9];constructor
 ·rintro⟨KP,o',p',rfl,K5,h⟩
  rw[h2]at K5;simp at K5;obtain⟨rfl,rfl⟩:=K5;exact h
 ·exact fun h=>⟨ps,o,p,rfl,h2,h⟩
end
end
section
def zC(T:cL)(l:List aV)(st:St)(acc:List En)(K:List En->St->Prop):Prop:=∃es bV,j0 T (D T) l st=some (es,bV)/\K (acc.reverse++es) bV
theorem tk{T:cL}{st:St}{Q:Exit->St->Prop}{l:List aV}:Wp T false (.draw l) st Q↔zC T l st [] (fun es bV=>eA 0 es=true/\Q .normal bV):=by
 constructor
 ·rintro⟨e,bV,h,hq⟩
  cases h;rename_i h;unfold eY at h;split at h
  ·rename_i es st1 h1;split at h
   ·rename_i hc;simp at h;subst h;exact⟨es,_,h1,hc,hq⟩
   ·simp at h
  ·simp at h
 ·rintro⟨es,bV,h,hc,hq⟩
  refine⟨_,_,.draw ?_,hq⟩;unfold eY;have:j0 T (D T) l (lg false st)=some (es,bV):=h;rw[this];have w8:eA 0 es=true:=hc;simp only[w8]
theorem Gn{T:cL}{s:Bool}{st:St}{Q:Exit->St->Prop}{l:List aV}(hc:calm 0 l=true):Wp T s (.draw l) st Q↔vL T l (lg s st) (Q .normal):=by
 constructor
 ·rintro⟨e,bV,h,hq⟩
  cases h;rename_i h;unfold eY at h;split at h
  ·rename_i es st1 h1;split at h
   ·simp at h;subst h;exact⟨es,_,h1,hq⟩
   ·simp at h
  ·simp at h
 ·rintro⟨es,bV,h,hq⟩
  refine⟨_,_,.draw ?_,hq⟩;unfold eY;rw[h];simp only[(u5 hc h).1]
section
variable{T:cL}{st:St}{acc:List En}{K:List En->St->Prop}
def T4(T:cL)(x:aV)(l:List aV)(st:St)(acc:List En)(K:List En->St->Prop):Option (AV×List (Nat×dy)×Nat)->Prop
 |some (v,W,n)=>zC T l ⟨dt st x.dst v,W++st.hp,st.nx+n⟩ (⟨x,false,st.nx,v,W,n,ix (look st.fr) x.op⟩::acc) K
 |none=>False
def ik(T:cL)(x:aV)(n:Nat)(args:List AV)(l:List aV)(st:St)(acc:List En)(K:List En->St->Prop):Prop :=
 T.raw n=false/\∃ps o p,cd args=some ps/\dq (D T) n ps=some (o,p)/\zC T l ⟨dt st x.dst (.pv p),st.hp,st.nx⟩ (⟨x,false,st.nx,.pv p,[],0,[]⟩::acc) K
def GK(T:cL)(x:aV)(n:Nat)(args:List AV)(l:List aV)(st:St)(acc:List En)(K:List En->St->Prop):Prop :=
 T.raw n=false/\∃ps r,cd args=some ps/\dq (D T) n ps=some r/\zC T l (zw x st (gU (T.own n) st.nx r)).2 ((zw x st (gU (T.own n) st.nx r)).1::acc) K
def LO(T:cL)(x:aV)(l:List aV)(st:St)(acc:List En)(K:List En->St->Prop):Prop :=
 match x.op with
 | .call n xs=>cond (Nat.beq n 279) (GK T x n (ff (look st.fr) xs) l st acc K) (ik T x n (ff (look st.fr) xs) l st acc K)
 | .fJ f xs=>match aT (dG (look st.fr) f)with
  |some (n,a,b)=>ik T x n (a++(ff (look st.fr) xs++b)) l st acc K
  |none=>False
 |op=>T4 T x l st acc K (bD (look st.fr) (ah st.hp) st.nx op)
def yP(T:cL)(x:aV)(l:List aV)(st:St)(acc:List En)(K:List En->St->Prop):Option Bool->Prop
 |some true=>LO T x l st acc K
 |some false=>zC T l ⟨dt st x.dst (.pv (.tuple [])),st.hp,st.nx⟩ (⟨x,true,st.nx,.pv (.tuple []),[],0,[]⟩::acc) K
 |none=>False
theorem Af{x:aV}{l:List aV}{v:AV}{W:List (Nat×dy)}{n:Nat}:T4 T x l st acc K (some (v,W,n))↔zC T l ⟨dt st x.dst v,W++st.hp,st.nx+n⟩ (⟨x,false,st.nx,v,W,n,ix (look st.fr) x.op⟩::acc) K:=pt
theorem sL{x:aV}{l:List aV}:yP T x l st acc K (some true)↔LO T x l st acc K:=pt
theorem qK{x:aV}{l:List aV}:yP T x l st acc K (some false)↔zC T l ⟨dt st x.dst (.pv (.tuple [])),st.hp,st.nx⟩ (⟨x,true,st.nx,.pv (.tuple []),[],0,[]⟩::acc) K:=pt
theorem Da:zC T [] st acc K↔K acc.reverse st:=by
 constructor
 ·rintro⟨es,bV,h,hq⟩;simp[j0]at h;obtain⟨rfl,rfl⟩:=h;simpa using hq
 ·exact fun h=>⟨_,_,rfl,by simpa using h⟩
theorem xJ{x:aV}{l:List aV}{e:En}{st1:St}(h:jf T (D T) x st=some (e,st1)):zC T (x::l) st acc K↔zC T l st1 (e::acc) K:=by
 unfold zC;simp only[j0,h];constructor
 ·rintro⟨es,bV,h,hq⟩
  split at h
  ·rename_i es' wq h2;simp at h;obtain⟨rfl,rfl⟩:=h;exact⟨es',_,h2,by simpa using hq⟩
  ·simp at h
 ·rintro⟨es,bV,h2,hq⟩
  exact⟨e::es,bV,by simp only[h2],by simpa using hq⟩
theorem mZ{x:aV}{l:List aV}(h:jf T (D T) x st=none):¬zC T (x::l) st acc K:=by
 unfold zC;simp only[j0,h]
 rintro⟨e',bV,h1,h2⟩
 simp at h1
theorem zM{x:aV}{l:List aV}:zC T (x::l) st acc K↔yP T x l st acc K (cH (look st.fr) x.guard):=by
 cases hg:cH (look st.fr) x.guard with
 |none=>exact⟨fun h=>absurd h (mZ (by unfold jf;simp only[hg])),fun h=>h.elim⟩
 |some b =>
  cases b with
  |false=>exact xJ (by unfold jf;simp only[hg])
  |true =>
   simp only[yP];have h0:jf T (D T) x st=eI T (D T) x st:=by unfold jf;simp only[hg]
   have key:∀(n:Nat) (args:List AV),(eI T (D T) x st=match T.raw n,cd args with
       |false,some ps=>match dq (D T) n ps with
        |some (_,p)=>some (⟨x,false,st.nx,.pv p,[],0,[]⟩,⟨dt st x.dst (.pv p),st.hp,st.nx⟩)
        |none=>none
       |_,_=>none)->(zC T (x::l) st acc K↔ik T x n args l st acc K):=by
    intro n args gD;unfold ik;cases eE:T.raw n with
    |true=>exact⟨fun h=>absurd h (mZ (by rw[h0,gD];simp only[eE])),fun h=>by simp at h⟩
    |false =>
     cases iV:cd args with
     |none=>exact⟨fun h=>absurd h (mZ (by rw[h0,gD];simp only[eE,iV])),fun h=>by obtain⟨_,ps,o,p,h,_⟩:=h;simp at h⟩
     |some ps =>
      cases uL:dq (D T) n ps with
      |none =>
       refine⟨fun h=>absurd h (mZ (by rw[h0,gD];simp only[eE,iV,uL])),fun h=>?_⟩;obtain⟨_,KP,o,p,h,h2,_⟩:=h;simp only[ai]at h;subst h;rw[uL]at h2;simp at h2
      |some r =>
       obtain⟨o,p⟩:=r;rw[xJ (e:=⟨x,false,st.nx,.pv p,[],0,[]⟩) (st1:=⟨dt st x.dst (.pv p),st.hp,st.nx⟩) (by rw[h0,gD];simp only[eE,iV,uL])];constructor
       ·exact fun h=>⟨rfl,ps,o,p,rfl,uL,h⟩
       ·rintro⟨_,KP,o',p',h,h2,h3⟩
        simp only[ai]at h;subst h;rw[uL]at h2;simp at h2;obtain⟨rfl,rfl⟩:=h2;exact h3
   unfold LO;split
   ·rename_i n xs gD;cases hb:Nat.beq n 279 with
    |false =>
     simp only[fm];have ho:T.sd n=false:=by unfold cL.sd;rw[hb];rfl
     refine key n _ ?_;simp only[eI,gD,ho];cases T.raw n with
     |true=>rfl
     |false =>
      cases cd (ff (look st.fr) xs)with
      |none=>rfl
      |some ps =>
       dsimp only;cases dq (D T) n ps with
       |none=>rfl
       |some r=>rfl
    |true =>
     simp only[gP];have ho:T.sd n=T.own n:=by unfold cL.sd;rw[hb];rfl
     unfold GK;cases eE:T.raw n with
     |true=>exact⟨fun h=>absurd h (mZ (by rw[h0];simp only[eI,gD,eE])),fun h=>by simp at h⟩
     |false =>
      cases iV:cd (ff (look st.fr) xs)with
      |none=>exact⟨fun h=>absurd h (mZ (by rw[h0];simp only[eI,gD,eE,iV])),fun h=>by obtain⟨_,ps,r,h,_⟩:=h;simp at h⟩
      |some ps =>
       cases uL:dq (D T) n ps with
       |none =>
        refine⟨fun h=>absurd h (mZ (by rw[h0];simp only[eI,gD,eE,iV,uL])),fun h=>?_⟩;obtain⟨_,KP,r,h,h2,_⟩:=h;simp only[ai]at h;subst h;rw[uL]at h2;simp at h2
       |some r =>
        rw[xJ (e:=(zw x st (gU (T.own n) st.nx r)).1) (st1:=(zw x st (gU (T.own n) st.nx r)).2) (by rw[h0];simp only[eI,gD,eE,iV,uL,ho])];constructor
        ·exact fun h=>⟨rfl,ps,r,rfl,uL,h⟩
        ·rintro⟨_,KP,r',h,h2,h3⟩
         simp only[ai]at h;subst h;rw[uL]at h2;simp only[ai]at h2;subst h2;exact h3
   ·rename_i f xs gD;cases hf:aT (dG (look st.fr) f)with
    |none=>exact⟨fun h=>absurd h (mZ (by rw[h0];simp only[eI,gD,hf])),fun h=>h.elim⟩
    |some q =>
     obtain⟨n,a,b⟩:=q;exact key n _ (by simp only[eI,gD,hf] <;>rfl)
   ·rename_i qR RZ;have h1:eI T (D T) x st=match bD (look st.fr) (ah st.hp) st.nx x.op with
                       |some (v,W,n)=>some (⟨x,false,st.nx,v,W,n,ix (look st.fr) x.op⟩,⟨dt st x.dst v,W++st.hp,st.nx+n⟩)
                       |none=>none:=by
     unfold eI;split
     ·rename_i n xs gD;exact absurd gD (qR n xs)
     ·rename_i f xs gD;exact absurd gD (RZ f xs)
     ·rfl
    cases vN:bD (look st.fr) (ah st.hp) st.nx x.op with
    |none=>exact⟨fun h=>absurd h (mZ (by rw[h0,h1,vN])),fun h=>h.elim⟩
    |some q =>
     obtain⟨v,W,n⟩:=q;exact xJ (by rw[h0,h1,vN])
theorem BQ{x:aV}{n:Nat}{args:List AV}{l:List aV}{ps:List PV}{o:Option Nat}{p:PV}(eE:T.raw n=false)(h1:cd args=some ps)(h2:dq (D T) n ps=some (o,p)) :
    ik T x n args l st acc K↔zC T l ⟨dt st x.dst (.pv p),st.hp,st.nx⟩ (⟨x,false,st.nx,.pv p,[],0,[]⟩::acc) K:=by
 unfold ik;simp only[eE,h1,h2,true_and,ai,b9];constructor
 ·rintro⟨KP,o',p',rfl,K5,h⟩
  rw[h2]at K5;simp at K5;obtain⟨rfl,rfl⟩:=K5;exact h
 ·exact fun h=>⟨ps,o,p,rfl,h2,h⟩
end
end
section
theorem bG{k t:Nat}{v:AV}{r:List (Nat×AV)}:look ((k,v)::r) t=if k=t then v else look r t:=by
 simp only[look];by_cases h:k=t
 ·subst h;rw[cm,aW rfl];rfl
 ·rw[eX h,aw h];rfl
theorem aF{k t:Nat}{v:dy}{r:List (Nat×dy)}:ah ((k,v)::r) t=if k=t then v else ah r t:=by
 simp only[ah];by_cases h:k=t
 ·subst h;rw[cm,aW rfl];rfl
 ·rw[eX h,aw h];rfl
theorem SZ:(true==true)=true:=rfl
theorem SY:(true==false)=false:=rfl
theorem SX:(false==true)=false:=rfl
theorem SW:(false==false)=true:=rfl
theorem Dg{a b:Int}:(a==b)=decide (a=b):=by
 by_cases h:a=b <;>simp[h]
theorem Dk{a b:Int}:(a !=b)=!decide (a=b):=by
 by_cases h:a=b <;>simp[h]
theorem Di{a b:Nat}:Nat.ble a b=decide (a<=b):=by
 rw[Bool.eq_iff_iff,Nat.ble_eq,bO]
theorem xQ{a b:Nat}:Nat.beq a b=decide (a=b):=by
 rw[Bool.eq_iff_iff,Nat.beq_eq,bO]
theorem x7{c:AV}{r:List AV}:iW false 1 (c::r)=some c:=by simp[iW]
theorem wF:∀(l:List PV),jh (dK l)=some l
 |[]=>rfl
 |a::r=>by simp only[dK,jh,wF r]
theorem vh:∀(l:List PV),cd (dK l)=some l
 |[]=>by simp only[dK,cd]
 |a::r=>by simp only[dK,cd,eV,vh r]
theorem x8{n:Nat}{l:List PV}(h:(l.length=n)=True):iW true n (dK l)=some (.pv (.agg l)):=by
 have h:=of_eq_true h;subst h;have:(dK l).take l.length=dK l:=qo (by rw[nC];exact ax _);simp only[iW,this,nC,cm,jY,wF]
theorem aY{T:cL}{s:Bool}{b c:bz}{st:St}{Q:Exit->St->Prop}(h:b=c):Wp T s b st Q↔Wp T s c st Q:=by rw[h]
theorem uX{n:Nat}{c:AV}{r:List AV}:iW true n (c::r)=if Nat.beq ((c::r).take n).length n=true then some (jY ((c::r).take n))else none:=by
 simp only[iW];split <;>rename_i h <;>simp only[h,bA,aI,bK]
structure Std(T:cL)(n:Nat)(f:bg):Prop where
 fP:T.fP n=none
 fn:T.fn n=some f
 still:T.still n=false
 raw:T.raw n=false
 own:T.own n=false
def ba(T:cL)(n:Nat)(ps:List PV)(p:PV):Prop:=T.raw n=false/\T.own n=false/\∃o,dq (D T) n ps=some (o,p)
def wm(res:List zG)(st:St):Option PV:=match kH (look st.fr) (ah st.hp) res with
 |some vs=>dD (ah st.hp) (gG vs)
 |none=>none
def kT(res:List zG)(r:PV):Exit->St->Prop
 | .ret,st=>wm res st=some r
 | .normal,st=>wm res st=some r
 |_,_=>False
theorem A1{T:cL}{n:Nat}{f:bg}{ps:List PV}{r:PV}(hp0:T.fP n=none)(hf:T.fn n=some f)(hN:Nat.ble (dK ps).length f.N=true)(h:Wp T (T.still n) f.body ⟨fy 0 (dK ps),[],0⟩ (kT f.res r)) :
    ∃o,dq (D T) n ps=some (o,r):=by
 obtain⟨e,st,h1,h2⟩:=h;have he:(e=.ret\/e=.normal)/\wm f.res st=some r:=by
  cases e with
  |ret=>exact⟨.inl rfl,h2⟩
  |normal=>exact⟨.inr rfl,h2⟩
  |_=>exact h2.elim
 obtain⟨he,h3⟩:=he;unfold wm at h3;split at h3
 ·rename_i vs G5;exact⟨_,BR hp0 hf hN h1 he G5 h3⟩
 ·simp at h3
theorem gives{T:cL}{n:Nat}{f:bg}{ps:List PV}{r:PV}(h:Std T n f)(hN:Nat.ble (dK ps).length f.N=true)(hw:Wp T false f.body ⟨fy 0 (dK ps),[],0⟩ (kT f.res r)):ba T n ps r :=
 ⟨h.raw,h.own,A1 h.fP h.fn hN (by rw[h.still];exact hw)⟩
structure NU(T:cL)(n:Nat)(f:bg):Prop where
 fP:T.fP n=none
 fn:T.fn n=some f
 still:T.still n=true
 raw:T.raw n=false
 own:T.own n=false
theorem yN{T:cL}{n:Nat}{f:bg}{ps:List PV}{r:PV}(h:NU T n f)(hN:Nat.ble (dK ps).length f.N=true)(hw:Wp T true f.body ⟨fy 0 (dK ps),[],0⟩ (kT f.res r)):ba T n ps r :=
 ⟨h.raw,h.own,A1 h.fP h.fn hN (by rw[h.still];exact hw)⟩
theorem rj{d:Option Nat}{st:St}{o:Option Nat}{p:PV}:qh false d st (o,p)=⟨dt st d (.pv p),st.hp,st.nx⟩:=by
 unfold qh;split
 ·rename_i h;simp only[b9]at h;rw[<-h.2]
 ·rename_i h;simp only[b9]at h;rw[<-h.2]
section
variable{T:cL}{n:Nat}{ps:List PV}{p:PV}{args:List AV}{d:Option Nat}{l:List aV}{st:St}{K:St->Prop}
theorem ba.call(h:ba T n ps p):∀(args:List AV) (d:Option Nat) (l:List aV) (st:St) (K:St->Prop),((cd args=some ps)=True)->(iN T n args d l st K↔tM T l ⟨dt st d (.pv p),st.hp,st.nx⟩ K):=fun args d l st K h1=>by
 obtain⟨hr,ho,o,hc⟩:=h;rw[la hr (of_eq_true h1) hc,ho,rj]
theorem ba.cn(h:ba T n ps p):∀(args:List AV) (d:Option Nat) (l:List aV) (st:St) (K:St->Prop),((cd args=some ps)=True)->(cn T n args d l st K↔vL T l ⟨dt st d (.pv p),st.hp,st.nx⟩ K):=fun args d l st K h1=>by
 obtain⟨hr,ho,o,hc⟩:=h;exact u4 hr (of_eq_true h1) hc
theorem ba.ik(h:ba T n ps p):∀(x:aV) (args:List AV) (l:List aV) (st:St) (acc:List En) (K:List En->St->Prop),((cd args=some ps)=True)->(Ab.ik T x n args l st acc K↔zC T l ⟨dt st x.dst (.pv p),st.hp,st.nx⟩ (⟨x,false,st.nx,.pv p,[],0,[]⟩::acc) K):=fun x args l st acc K h1=>by
 obtain⟨hr,ho,o,hc⟩:=h;exact BQ hr (of_eq_true h1) hc
theorem ba.sE(h:ba T n ps p)(hf:T.flat n=true)(hp:lf p=true):∀(args:List AV) (d:Option Nat) (l:List aV) (st:St) (K:St->Prop),((cd args=none)=True)->((gz (ah st.hp) args=some ps)=True)->(iN T n args d l st K↔tM T l ⟨dt st d (.pv p),st.hp,st.nx⟩ K):=fun args d l st K h0 h1=>by
 have h0:=of_eq_true h0;have h1:=of_eq_true h1;obtain⟨hr,ho,o,hc⟩:=h;unfold iN eM;simp only[hr,h0,hf,h1,hc,hp,ai];constructor
 ·rintro⟨bV,rfl,h⟩;exact h
 ·exact fun h=>⟨_,rfl,h⟩
end
theorem f9{n:Int}(h1: -9223372036854775808<=n)(h2:n<9223372036854775808):IntKind.i64.wrap n=n:=by
 simp only[IntKind.wrap,IntKind.bits,IntKind.signed];simp;omega
structure jC where
 a:Int
 b:Int
 c:Int
 d:Int
 deriving DecidableEq
structure Node where
 id:Int
 bX:Int
 cap:jC
 held:jC
 deriving DecidableEq
structure fD where
 id:Int
 apart:Bool
 so:Int
 min:Int
 max:Int
 deriving DecidableEq
structure dx where
 id:Int
 load:Int
 prio:Int
 jV:jC
 node:Int
 deriving DecidableEq
structure bc where
 nodes:List Node
 aU:List fD
 pods:List dx
structure Want where
 eU:Int
 jV:jC
 stay:Bool
 deriving DecidableEq
structure Spec where
 aZ:List Want
 pre:Int
 eW:Int
structure Move where
 kind:Int
 eU:Int
 node:Int
 over:Int
 deriving DecidableEq
structure State where
 pods:List dx
 pre:Int
 eW:Int
 deriving DecidableEq
def bB(n:Node):List PV:=[.int .i64 n.id,.int .i64 n.bX,.int .u64 n.cap.a,.int .u64 n.cap.b,.int .u64 n.cap.c,.int .u64 n.cap.d,.int .u64 n.held.a,.int .u64 n.held.b,.int .u64 n.held.c,.int .u64 n.held.d]
def bN(l:fD):List PV:=[.int .i64 l.id,.bool l.apart,.int .i64 l.so,.int .i64 l.min,.int .i64 l.max]
def aJ(p:dx):List PV:=[.int .i64 p.id,.int .i64 p.load,.int .i64 p.prio,.int .u64 p.jV.a,.int .u64 p.jV.b,.int .u64 p.jV.c,.int .u64 p.jV.d,.int .i64 p.node]
def cg(w:Want):List PV:=[.int .i64 w.eU,.int .u64 w.jV.a,.int .u64 w.jV.b,.int .u64 w.jV.c,.int .u64 w.jV.d,.bool w.stay]
def bF(m:Move):List PV:=[.int .i64 m.kind,.int .i64 m.eU,.int .i64 m.node,.int .i64 m.over]
def cj(v:jC):List PV:=[.int .u64 v.a,.int .u64 v.b,.int .u64 v.c,.int .u64 v.d]
def aD(s:bc):PV:=.agg [.slice (s.nodes.map bB),.slice (s.aU.map bN),.slice (s.pods.map aJ)]
def bd(x:Spec):PV:=.agg [.slice (x.aZ.map cg),.int .i64 x.pre,.int .i64 x.eW]
def ar(t:State):PV:=.agg [.slice (t.pods.map aJ),.int .i64 t.pre,.int .i64 t.eW]
def du(m:Move):PV:=.agg (bF m)
def nY(p:dx):PV:=.agg (aJ p)
def i6(n:Int):PV:=.int .i64 n
theorem drop_nil{α:Type}{xs:List α}{i:Nat}(h:xs.drop i=[])(hi:i<=xs.length):xs.length=i:=by
 have:=de List.length h;simp at this;omega
theorem drop_cons{α:Type}{xs:List α}{i:Nat}{a:α}{r:List α}(h:xs.drop i=a::r)(hl:xs.length<=2^30) :
    xs[i]? =some a/\(i:Int)<(xs.length:Int)/\IntKind.i64.wrap ((i:Int)+1)=((i+1:Nat):Int)/\xs.drop (i+1)=r/\i+1<=xs.length/\i<2^30:=by
 have h1:xs[i]? =some a:=by
  have:=de (·[0]?) h;simpa using this
 have h2:i<xs.length:=(aA.1 h1).1;refine⟨h1,by omega,?_,by rw[<-jM,h];rfl,h2,by omega⟩;rw[f9] <;>omega
def gk(i c:Int):PV:=.iface 1 (.gQ [.int .i64 i,.int .i64 c] 0)
def cf(c:Int):PV:=.iface 0 (.int .i64 c)
end
theorem ak{a b:Prop}(ha:a)(hb:b):a/\b:=⟨ha,hb⟩
theorem aj:type_of% (ak (ak @bG @aF) (ak @bA.{1} @aI.{1})):=ak (ak @bG @aF) (ak @bA.{1} @aI.{1})
theorem ae:type_of% (ak (ak (ak (ak (ak (ak @mh @BD) (ak @Db (ak @Dd @Gp))) (ak (ak @Dc (ak @zN @tN)) (ak @xK (ak (ak @Ag @zY) @sM)))) (ak (ak (ak @qL (ak @tU @sB)) (ak @sV (ak @vt @xl))) (ak (ak @sA (ak @tS @wH)) (ak @bG (ak @aF @bA.{1}))))) (ak (ak (ak (ak @aI.{1} (ak @true_implies @false_implies)) (ak @and_true (ak @true_and @aE.{0}))) (ak (ak @aG.{0} (ak @Bool.and_self @aQ)) (ak @fa (ak @x7 @x8)))) (ak (ak (ak @uX (ak @gH.{0} @List.drop_succ_cons.{0})) (ak @kj.{0} (ak @List.take_zero.{0} @aC.{0}))) (ak (ak @bU.{0} (ak @Nat.beq_eq @beq_self_eq_true.{0})) (ak @ge_iff_le.{0} (ak @gt_iff_lt.{0} @gM.{0})))))) (ak (ak (ak (ak (ak @eB.{0} @Nat.add_eq_left) (ak @Nat.left_eq_add (ak @Nat.one_ne_zero @Di))) (ak (ak @xQ (ak @bO @ax)) (ak @Dg (ak @Dk @Int.natCast_inj)))) (ak (ak (ak @eq_self.{1} (ak @kA @p9)) (ak @al.{0,0} (ak @bY @fj.{0,0}))) (ak (ak @Eh.{0,0} (ak @Option.map_none.{0,0} @rA)) (ak @ai.{0} (ak @ne_eq.{1} @not_true_eq_false))))) (ak (ak (ak (ak @not_false_eq_true (ak @gP.{1} @fm.{1})) (ak @SZ (ak @SY @SX))) (ak (ak @SW (ak @Bool.not_true @Bool.not_false)) (ak @M6 (ak @sX @Bool.or_false)))) (ak (ak (ak @Bool.false_or (ak @zM @Da)) (ak @Af (ak @sL @qK))) (ak (ak @zL (ak @D9 @wN)) (ak @Ae (ak @sK @qJ))))))) :=
 (ak (ak (ak (ak (ak (ak @mh @BD) (ak @Db (ak @Dd @Gp))) (ak (ak @Dc (ak @zN @tN)) (ak @xK (ak (ak @Ag @zY) @sM)))) (ak (ak (ak @qL (ak @tU @sB)) (ak @sV (ak @vt @xl))) (ak (ak @sA (ak @tS @wH)) (ak @bG (ak @aF @bA.{1}))))) (ak (ak (ak (ak @aI.{1} (ak @true_implies @false_implies)) (ak @and_true (ak @true_and @aE.{0}))) (ak (ak @aG.{0} (ak @Bool.and_self @aQ)) (ak @fa (ak @x7 @x8)))) (ak (ak (ak @uX (ak @gH.{0} @List.drop_succ_cons.{0})) (ak @kj.{0} (ak @List.take_zero.{0} @aC.{0}))) (ak (ak @bU.{0} (ak @Nat.beq_eq @beq_self_eq_true.{0})) (ak @ge_iff_le.{0} (ak @gt_iff_lt.{0} @gM.{0})))))) (ak (ak (ak (ak (ak @eB.{0} @Nat.add_eq_left) (ak @Nat.left_eq_add (ak @Nat.one_ne_zero @Di))) (ak (ak @xQ (ak @bO @ax)) (ak @Dg (ak @Dk @Int.natCast_inj)))) (ak (ak (ak @eq_self.{1} (ak @kA @p9)) (ak @al.{0,0} (ak @bY @fj.{0,0}))) (ak (ak @Eh.{0,0} (ak @Option.map_none.{0,0} @rA)) (ak @ai.{0} (ak @ne_eq.{1} @not_true_eq_false))))) (ak (ak (ak (ak @not_false_eq_true (ak @gP.{1} @fm.{1})) (ak @SZ (ak @SY @SX))) (ak (ak @SW (ak @Bool.not_true @Bool.not_false)) (ak @M6 (ak @sX @Bool.or_false)))) (ak (ak (ak @Bool.false_or (ak @zM @Da)) (ak @Af (ak @sL @qK))) (ak (ak @zL (ak @D9 @wN)) (ak @Ae (ak @sK @qJ)))))))
theorem ag:type_of% (ak (ak (ak (ak (ak (ak (ak @vR.eq_1 (ak @vR.eq_2 @vR.eq_3)) (ak (ak @vR.eq_4 @vR.eq_6) (ak @vR.eq_5 @bD.eq_1))) (ak (ak @bD.eq_2 (ak @bD.eq_3 @bD.eq_4)) (ak @bD.eq_5 (ak @bD.eq_6 @bD.eq_7)))) (ak (ak (ak @bD.eq_8 (ak @bD.eq_9 @bD.eq_10)) (ak @bD.eq_11 (ak @bD.eq_12 @bD.eq_13))) (ak (ak @bD.eq_14 (ak @bD.eq_15 @bD.eq_16)) (ak (ak @bD.eq_17 @bD.eq_18) (ak @bD.eq_19 @bD.eq_20))))) (ak (ak (ak (ak @bD.eq_21 (ak @bD.eq_22 @bD.eq_23)) (ak @bD.eq_24 (ak @bD.eq_25 @bD.eq_26))) (ak (ak @bD.eq_27 (ak @bD.eq_28 @bD.eq_29)) (ak @bD.eq_30 (ak @bD.eq_31 (ak @bD.eq_32 (ak @bD.eq_33 (ak @bD.eq_34 (ak @bD.eq_35 (ak @mapOf.eq_1 (ak @mz.eq_1 (ak @rU.eq_1 @rU.eq_2))))))))))) (ak (ak (ak @dG.eq_1 (ak @dG.eq_2 @dG.eq_3)) (ak @ff.eq_1 (ak @ff.eq_2 @cH.eq_1))) (ak (ak @cH.eq_2 (ak @fy.eq_1 @fy.eq_2)) (ak (ak @dK.eq_1 @dK.eq_2) (ak @dt.eq_1 @dt.eq_2)))))) (ak (ak (ak (ak (ak @cellsOf.eq_1 (ak @cellsOf.eq_2 @cellsOf.eq_3)) (ak @cellsOf.eq_4 (ak @cellsOf.eq_5 @cellsOf.eq_6))) (ak (ak @lH.eq_1 (ak @lH.eq_2 @lG.eq_1)) (ak @lG.eq_2 (ak @lG.eq_3 @lG.eq_4)))) (ak (ak (ak @lG.eq_5 (ak @lG.eq_6 @jS.eq_1)) (ak @jS.eq_2 (ak @jS.eq_3 @dR.eq_1))) (ak (ak @dR.eq_2 (ak @dR.eq_3 @dR.eq_4)) (ak (ak @dR.eq_5 @dR.eq_6) (ak @dR.eq_7 @fi.eq_1))))) (ak (ak (ak (ak @fi.eq_2 (ak @fi.eq_3 @jY.eq_1)) (ak @jh.eq_1 (ak @jh.eq_2 @jh.eq_3))) (ak (ak @jz.eq_1 (ak @jz.eq_2 @eG.eq_1)) (ak (ak @eG.eq_2 @eG.eq_3) (ak @eG.eq_4 @iP.eq_1)))) (ak (ak (ak @iP.eq_2 (ak @iP.eq_3 @gC.eq_1)) (ak @gC.eq_2 (ak @gC.eq_3 @fq.eq_1))) (ak (ak @fq.eq_2 (ak @cd.eq_1 @cd.eq_2)) (ak (ak @eV.eq_1 @eV.eq_2) (ak @eV.eq_3 @eV.eq_4))))))) (ak (ak (ak (ak (ak (ak @eV.eq_5 (ak @eV.eq_6 @eV.eq_7)) (ak @ja.eq_1 (ak @ja.eq_2 @ja.eq_3))) (ak (ak @ja.eq_4 (ak @ja.eq_5 @ja.eq_6)) (ak @ja.eq_7 (ak @ja.eq_8 @ja.eq_9)))) (ak (ak (ak @ja.eq_10 (ak @ja.eq_11 @ja.eq_12)) (ak @ja.eq_13 (ak @ja.eq_14 @ja.eq_15))) (ak (ak @ja.eq_16 (ak @ja.eq_17 @ja.eq_18)) (ak (ak @ja.eq_19 @ja.eq_20) (ak @ja.eq_21 @ja.eq_22))))) (ak (ak (ak (ak (ak @ja.eq_23 @ja.eq_24) (ak @G3.eq_1 @G3.eq_2)) (ak @G3.eq_3 (ak @aO.eq_1 @aO.eq_2))) (ak (ak @aO.eq_3 (ak @aO.eq_4 @aa.eq_1)) (ak (ak @aa.eq_2 @aa.eq_3) (ak @aa.eq_4 @aa.eq_5)))) (ak (ak (ak @aa.eq_6 (ak @aa.eq_7 @aa.eq_8)) (ak @aa.eq_9 (ak @aa.eq_10 @dQ.eq_1))) (ak (ak @dQ.eq_2 (ak @dQ.eq_3 @dQ.eq_4)) (ak (ak @dQ.eq_5 @dQ.eq_6) (ak @dQ.eq_7 @dQ.eq_8)))))) (ak (ak (ak (ak (ak @dQ.eq_9 (ak @dQ.eq_10 @dQ.eq_11)) (ak @dQ.eq_12 (ak @dQ.eq_13 @tg.eq_1))) (ak (ak @tg.eq_2 (ak @kE.eq_1 @kE.eq_2)) (ak @kE.eq_3 (ak @kE.eq_4 @kT.eq_1)))) (ak (ak (ak @kT.eq_2 (ak @kT.eq_3 @wm.eq_1)) (ak @kH.eq_1 (ak @kH.eq_2 @kH.eq_3))) (ak (ak @gG.eq_1 (ak @gG.eq_2 @dD.eq_1)) (ak (ak @dD.eq_2 @dD.eq_3) (ak @dD.eq_4 @dD.eq_5))))) (ak (ak (ak (ak @dD.eq_6 (ak @gz.eq_1 @gz.eq_2)) (ak @dF.eq_1 (ak @dF.eq_2 @dF.eq_3))) (ak (ak @dF.eq_4 (ak @dF.eq_5 @dF.eq_6)) (ak (ak @dF.eq_7 @dF.eq_8) (ak @dF.eq_9 @hG.eq_1)))) (ak (ak (ak @hG.eq_2 (ak @eZ.eq_1 @eZ.eq_2)) (ak @oL.eq_1 (ak @oL.eq_2 @AO.Cv.eq_1))) (ak (ak @AO.Cv.eq_2 (ak @LO.eq_1 @DY.eq_1)) (ak (ak @DY.eq_2 @DY.eq_3) (ak @aT.eq_1 @aT.eq_2)))))))) :=
 (ak (ak (ak (ak (ak (ak (ak @vR.eq_1 (ak @vR.eq_2 @vR.eq_3)) (ak (ak @vR.eq_4 @vR.eq_6) (ak @vR.eq_5 @bD.eq_1))) (ak (ak @bD.eq_2 (ak @bD.eq_3 @bD.eq_4)) (ak @bD.eq_5 (ak @bD.eq_6 @bD.eq_7)))) (ak (ak (ak @bD.eq_8 (ak @bD.eq_9 @bD.eq_10)) (ak @bD.eq_11 (ak @bD.eq_12 @bD.eq_13))) (ak (ak @bD.eq_14 (ak @bD.eq_15 @bD.eq_16)) (ak (ak @bD.eq_17 @bD.eq_18) (ak @bD.eq_19 @bD.eq_20))))) (ak (ak (ak (ak @bD.eq_21 (ak @bD.eq_22 @bD.eq_23)) (ak @bD.eq_24 (ak @bD.eq_25 @bD.eq_26))) (ak (ak @bD.eq_27 (ak @bD.eq_28 @bD.eq_29)) (ak @bD.eq_30 (ak @bD.eq_31 (ak @bD.eq_32 (ak @bD.eq_33 (ak @bD.eq_34 (ak @bD.eq_35 (ak @mapOf.eq_1 (ak @mz.eq_1 (ak @rU.eq_1 @rU.eq_2))))))))))) (ak (ak (ak @dG.eq_1 (ak @dG.eq_2 @dG.eq_3)) (ak @ff.eq_1 (ak @ff.eq_2 @cH.eq_1))) (ak (ak @cH.eq_2 (ak @fy.eq_1 @fy.eq_2)) (ak (ak @dK.eq_1 @dK.eq_2) (ak @dt.eq_1 @dt.eq_2)))))) (ak (ak (ak (ak (ak @cellsOf.eq_1 (ak @cellsOf.eq_2 @cellsOf.eq_3)) (ak @cellsOf.eq_4 (ak @cellsOf.eq_5 @cellsOf.eq_6))) (ak (ak @lH.eq_1 (ak @lH.eq_2 @lG.eq_1)) (ak @lG.eq_2 (ak @lG.eq_3 @lG.eq_4)))) (ak (ak (ak @lG.eq_5 (ak @lG.eq_6 @jS.eq_1)) (ak @jS.eq_2 (ak @jS.eq_3 @dR.eq_1))) (ak (ak @dR.eq_2 (ak @dR.eq_3 @dR.eq_4)) (ak (ak @dR.eq_5 @dR.eq_6) (ak @dR.eq_7 @fi.eq_1))))) (ak (ak (ak (ak @fi.eq_2 (ak @fi.eq_3 @jY.eq_1)) (ak @jh.eq_1 (ak @jh.eq_2 @jh.eq_3))) (ak (ak @jz.eq_1 (ak @jz.eq_2 @eG.eq_1)) (ak (ak @eG.eq_2 @eG.eq_3) (ak @eG.eq_4 @iP.eq_1)))) (ak (ak (ak @iP.eq_2 (ak @iP.eq_3 @gC.eq_1)) (ak @gC.eq_2 (ak @gC.eq_3 @fq.eq_1))) (ak (ak @fq.eq_2 (ak @cd.eq_1 @cd.eq_2)) (ak (ak @eV.eq_1 @eV.eq_2) (ak @eV.eq_3 @eV.eq_4))))))) (ak (ak (ak (ak (ak (ak @eV.eq_5 (ak @eV.eq_6 @eV.eq_7)) (ak @ja.eq_1 (ak @ja.eq_2 @ja.eq_3))) (ak (ak @ja.eq_4 (ak @ja.eq_5 @ja.eq_6)) (ak @ja.eq_7 (ak @ja.eq_8 @ja.eq_9)))) (ak (ak (ak @ja.eq_10 (ak @ja.eq_11 @ja.eq_12)) (ak @ja.eq_13 (ak @ja.eq_14 @ja.eq_15))) (ak (ak @ja.eq_16 (ak @ja.eq_17 @ja.eq_18)) (ak (ak @ja.eq_19 @ja.eq_20) (ak @ja.eq_21 @ja.eq_22))))) (ak (ak (ak (ak (ak @ja.eq_23 @ja.eq_24) (ak @G3.eq_1 @G3.eq_2)) (ak @G3.eq_3 (ak @aO.eq_1 @aO.eq_2))) (ak (ak @aO.eq_3 (ak @aO.eq_4 @aa.eq_1)) (ak (ak @aa.eq_2 @aa.eq_3) (ak @aa.eq_4 @aa.eq_5)))) (ak (ak (ak @aa.eq_6 (ak @aa.eq_7 @aa.eq_8)) (ak @aa.eq_9 (ak @aa.eq_10 @dQ.eq_1))) (ak (ak @dQ.eq_2 (ak @dQ.eq_3 @dQ.eq_4)) (ak (ak @dQ.eq_5 @dQ.eq_6) (ak @dQ.eq_7 @dQ.eq_8)))))) (ak (ak (ak (ak (ak @dQ.eq_9 (ak @dQ.eq_10 @dQ.eq_11)) (ak @dQ.eq_12 (ak @dQ.eq_13 @tg.eq_1))) (ak (ak @tg.eq_2 (ak @kE.eq_1 @kE.eq_2)) (ak @kE.eq_3 (ak @kE.eq_4 @kT.eq_1)))) (ak (ak (ak @kT.eq_2 (ak @kT.eq_3 @wm.eq_1)) (ak @kH.eq_1 (ak @kH.eq_2 @kH.eq_3))) (ak (ak @gG.eq_1 (ak @gG.eq_2 @dD.eq_1)) (ak (ak @dD.eq_2 @dD.eq_3) (ak @dD.eq_4 @dD.eq_5))))) (ak (ak (ak (ak @dD.eq_6 (ak @gz.eq_1 @gz.eq_2)) (ak @dF.eq_1 (ak @dF.eq_2 @dF.eq_3))) (ak (ak @dF.eq_4 (ak @dF.eq_5 @dF.eq_6)) (ak (ak @dF.eq_7 @dF.eq_8) (ak @dF.eq_9 @hG.eq_1)))) (ak (ak (ak @hG.eq_2 (ak @eZ.eq_1 @eZ.eq_2)) (ak @oL.eq_1 (ak @oL.eq_2 @AO.Cv.eq_1))) (ak (ak @AO.Cv.eq_2 (ak @LO.eq_1 @DY.eq_1)) (ak (ak @DY.eq_2 @DY.eq_3) (ak @aT.eq_1 @aT.eq_2))))))))
theorem rL':type_of% (ak (ak ae ag) (ak (ak @List.drop.eq_1.{0} (ak @List.drop.eq_2.{0} @List.drop.eq_3.{0})) (ak @List.take.eq_1.{0} (ak @List.take.eq_2.{0} @List.take.eq_3.{0})))):=ak (ak ae ag) (ak (ak @List.drop.eq_1.{0} (ak @List.drop.eq_2.{0} @List.drop.eq_3.{0})) (ak @List.take.eq_1.{0} (ak @List.take.eq_2.{0} @List.take.eq_3.{0})))
theorem rM':type_of% (ak rL' (ak (ak (ak @aO.eq_1 @aO.eq_2) (ak @aO.eq_3 @aO.eq_4)) (ak (ak @aO.eq_5 @aT.eq_1) (ak @aT.eq_2 @aT.eq_3)))):=ak rL' (ak (ak (ak @aO.eq_1 @aO.eq_2) (ak @aO.eq_3 @aO.eq_4)) (ak (ak @aO.eq_5 @aT.eq_1) (ak @aT.eq_2 @aT.eq_3)))
section
section
variable{E:Env}{N:Nat}
theorem PS(d:Nat){P:Program}{w:World}{t:TypeId}{e n m}(h:P.underlying t=some (.slice e)):(Op.equalIn (d+1) t (.slice none n m) (.slice none 0 0)).run P w=.ok true w:=by simp[Op.equalIn,fQ h]
theorem oY.N6{d:Nat}{x y:AO}{es:List (List PV)}{ds:List Nat}{l:List aV}{Q:St->Prop}{st:St}(tf:E.OK)(hx:dG (look st.fr) x=.pv (.slice es))(hy:dG (look st.fr) y=.bu)
    (h:∀b,(es≠[]->b=false)->oY E N l Q ⟨dt st (some d) (.pv (.bool b)),st.hp,st.nx⟩):oY E N (⟨some d,.bin .eql (some .slice) x y,none,ds⟩::l) Q st:=by
 intro ops k hk hl X M a w Q' hE hN R hq;obtain⟨o,ho,hc⟩:=hl 0 _ rfl;obtain⟨h1,h2,h3,h4⟩:=l6 hc;simp only[aC,List.range'_succ];rw[wpOps_cons];unfold wpOp;rw[show ops[k]? =some o from ho];simp only;have hw:=qM (X:=X) (o:=o) (b:=true) R (by rw[hN];exact h4) rfl;rw[aW hw];left;subst hE;obtain⟨t,x',y',u,gD,Ul,Um,UA⟩:=yY h1;obtain⟨dd,hd,e,rfl⟩:=Aa UA.symm;have vx:=dc tf R Ul;have vy:=dc tf R Um;rw[hx]at vx;rw[hy]at vy;simp only[VA,VP]at vx vy;obtain⟨ad,len,cap,e1,e2,e3,e4⟩:=vx;have hex:execOp a.eval o=(do pure (Next.value (<-(do eqGuard .eql t x' y' (a.eval x') (a.eval y');binOp .eql t (a.eval x') (a.eval y')))):Sem Next):=by
  unfold execOp;rw[gD]
 have iw:∃b,(es≠[]->b=false)/\(execOp a.eval o).run X.E.P w=.ok (.value (.bool b)) w:=by
  rw[hex,e1,vy];have hg:(eqGuard .eql t x' y' (.slice ad len cap) (.slice none 0 0)).run X.E.P w=.ok () w:=by
   unfold eqGuard;simp only[Bool.not_true,bK,aI];rfl
  have hb:∀b,(Op.equalIn 10000 t (.slice ad len cap) (.slice none 0 0)).run X.E.P w=.ok b w->(binOp .eql t (.slice ad len cap) (.slice none 0 0)).run X.E.P w=.ok (.bool b) w:=by
   intro b hb;simp only[binOp];rw[rb (show(Op.equal t (.slice ad len cap) (.slice none 0 0)).run X.E.P w=.ok b w from hb)];rfl
  cases ad with
  |none =>
   refine⟨true,fun ew=>?_,cJ (by rw[rb hg];exact hb true (PS _ hd))⟩;obtain⟨b,o,sz,hh,_⟩:=e4 (by cases es <;>simp at ew⊢);simp at hh
  |some ad =>
   exact⟨false,fun _=>rfl,cJ (by rw[rb hg];exact hb false (Ic _ hd))⟩
 obtain⟨b,My,Qk⟩:=iw;rw[Oper.wp,Qk,Eg];refine h b My ops (k+1) (by simp at hk;omega) (fun j y hy=>?_) X M _ _ Q' rfl hN ?_ hq
 ·have:=hl (j+1) y (by simpa using hy);rwa [<-eS,Nat.add_right_comm]at this
 ·unfold Rl;simp only;rw[fX,show some d=o.dst from h2.symm];exact Rel.put R (by simp only[VA,VP]) (fun k hk=>by rw[hN];exact h3 k hk)
def cloneF(sz b:Nat):bg:=⟨8,[.t 2],
 (.seq (.ops [
  ⟨some 2,.mv (.c .bu),none,[]⟩])
  (.seq (.seq (.ops [
   ⟨some 3,.mv (.t 0),none,[]⟩,
   ⟨some 4,.bin .eql (some .slice) (.t 3) (.c .bu),none,[0]⟩])
  (.cond (.t 4)
   (.seq (.ops [
    ⟨some 2,.mv (.c .bu),none,[]⟩])
    .ret)
   .skip))
  (.seq (.ops [
   ⟨some 5,.cv sz 0 [] [],none,[]⟩,
   ⟨some 6,.mv (.t 0),none,[]⟩,
   ⟨some 7,.append sz b (.t 5) (.t 6),none,[0,1]⟩,
   ⟨some 2,.mv (.t 7),none,[2,2,0,1,2]⟩])
  .ret)))⟩
def iT(sz:Nat)(args:List AV)(hp:Hl)(nx:Nat):Option (AV×Hl×Nat) :=
 match args,hp with
 |[.pv (.slice [])],[]=>some (.pv (.slice []),[],nx+2)
 |[.pv (.slice (e::r))],[]=>if cq sz (e::r)=true/\(e::r).length<=2^30 then some (.ms (nx+1),[(nx+1,.row sz (e::r))],nx+2)else none
 |_,_=>none
def T0:cL:=⟨fun _=>none,fun _=>false,fun _=>false,fun _=>false,fun _=>false,fun _=>none⟩
theorem Jm:Tied E T0:=⟨fun n f h1 h2=>by simp[T0]at h2,fun n g h=>by simp[T0]at h⟩
theorem Gm{T:cL}(hE:E.OK)(hT:Tied E T){s:Bool}{c:bz}{st:St}{Q:Exit->St->Prop}(h:Wp T s c st Q):WP E N c Q st:=by
 obtain⟨e,bV,h1,h2⟩:=h;obtain⟨k0,hk⟩:=h1.late;exact sn hE (pd hE hT k0) _ _ _ _ _ (hk k0 k0 (ax _) (ax _)) _ h2
theorem clone_raw{n sz b:Nat}(hE:E.OK)(hf:cFunc E n=some (cloneF sz b))(args:List AV)(hp:Hl)(nx:Nat)(v:AV)(hp':Hl)(cE:Nat)(h:iT sz args hp nx=some (v,hp',cE)):kl E n args hp nx v hp' cE:=by
 have hT:=@Jm E;have key:∃es,args=[.pv (.slice es)]/\hp=[]:=by
  unfold iT at h;split at h
  ·exact⟨_,rfl,rfl⟩
  ·exact⟨_,rfl,rfl⟩
  ·simp at h
 obtain⟨es,rfl,rfl⟩:=key;refine kl.DX hE hf (by simp[cloneF]) ?_;unfold cloneF;simp only;refine WP.seq (Gm hE hT (s:=false) ?_);rw[BD,tN];simp only[cH,pU,vR,bD,Dp,dG,xK,xp];refine WP.seq (WP.seq (WP.ops hE ?_));refine wL (T:=T0) (C:=D T0) hE (D5 hE hT) (st1:=⟨(3,.pv (.slice es))::(2,.bu)::fy 0 [.pv (.slice es)],[],nx⟩) rfl ?_;refine oY.N6 (es:=es) hE rfl rfl fun bb Bu=>oY.nil ?_;simp only[xp];refine WP.cond (b:=bb) hE rfl (fun hb=>?_) (fun hb=>WP.skip ?_)
 ·subst hb;have Up:es=[]:=xA fun hh=>by simpa using Bu hh
  subst Up;refine Gm hE hT (s:=false) ?_;simp only[iT,ai,b9]at h;obtain⟨rfl,rfl,rfl⟩:=h;simp only[ae,vR,bD,dG,ff,cH,fy,dK,dt,cellsOf,lH,lG,Nat.reduceEqDiff,Nat.reduceAdd,reduceCtorEq,jS,dR,fi,jY,jh,jz,eG,Int.reduceToNat,Nat.reduceMul,Nat.reduceLT,iP,Int.reduceNeg,Int.reduceLE,Int.reduceLT,Int.reduceEq,gC,jY,Nat.reduceLeDiff,fq,cd,eV,ja,G3,aO,aa,dQ,tg,kE,List.drop,List.take,kT,wm,kH,gG,dD,gz,dF,hG,eZ,oL,AO.Cv,LO,DY,aT,xp];refine⟨.inl trivial,_,rfl,fun X M F a w u hX R hu=>⟨R.pq fun i hi=>by show i<nx+2;have:i<nx:=hi;omega,?_⟩⟩;simp only[VA]at hu;subst hu;simp only[VA,VP];exact⟨none,0,0,rfl,rfl,ax _,fun h=>by simp at h⟩
 ·subst hb;simp only[xp];refine Gm hE hT (s:=false) ?_;cases es with
  |nil =>
   simp only[iT,ai,b9]at h;obtain⟨rfl,rfl,rfl⟩:=h;simp only[ae,vR,bD,dG,ff,cH,fy,dK,dt,cellsOf,lH,lG,Nat.reduceEqDiff,Nat.reduceAdd,reduceCtorEq,jS,dR,fi,jY,jh,jz,eG,Int.reduceToNat,Nat.reduceMul,Nat.reduceLT,iP,Int.reduceNeg,Int.reduceLE,Int.reduceLT,Int.reduceEq,gC,jY,Nat.reduceLeDiff,fq,cd,eV,ja,G3,aO,aa,dQ,tg,kE,List.drop,List.take,kT,wm,kH,gG,dD,gz,dF,hG,eZ,oL,AO.Cv,LO,DY,aT,fq,bt,chunk,dW,eN,fT,cq,bW,cm,Nat.reducePow,aN];refine⟨.inl trivial,_,rfl,fun X M F a w u hX R hu=>?_⟩;have e1:wr (ah [(nx,.dead),(nx+1,.row sz []),(nx,.row sz [])]) [(nx+1,.dead)]=ah []:=by
    funext i;rw[<-kZ];simp only[aG,aE,ah];by_cases h1:nx+1=i
    ·subst h1;rw[cm];rfl
    ·rw[eX h1];by_cases h2:nx=i
     ·subst h2;rw[cm];rfl
     ·rw[eX h2];rfl
   have e2:ah [(nx,.dead),(nx+1,.row sz []),(nx,.row sz [])] (nx+1)=.row sz []:=by
    simp only[ah];rw[eX (by omega:nx≠nx+1),cm];rfl
   have R1:=R.kill (nx+1);rw[e1]at R1;refine⟨R1,?_⟩;have Rb:Rl X M ⟨[],[(nx,.dead),(nx+1,.row sz []),(nx,.row sz [])],nx+2⟩ a w:={R with fr:=fun t=>by simp only[look,VA]};have:=Rb.qH (nx+1) (args:=[.ms (nx+1)]) (vs:=[u]) (by simp only[ee];exact⟨u,[],rfl,hu,rfl⟩);have e3:qH (nx+1) ⟨[],[(nx,.dead),(nx+1,.row sz []),(nx,.row sz [])],nx+2⟩ [.ms (nx+1)]=[.pv (.slice [])]:=by
    simp only[Ab.qH,e2,iU,gW,cm,gP]
   have e4:nT (nx+1) ⟨[],[(nx,.dead),(nx+1,.row sz []),(nx,.row sz [])],nx+2⟩=⟨[],[(nx+1,.dead),(nx,.dead),(nx+1,.row sz []),(nx,.row sz [])],nx+2⟩:=by
    simp only[nT,e2,uF,pB,nm]
   rw[e3,e4]at this;have e5:ah [(nx+1,.dead),(nx,.dead),(nx+1,.row sz []),(nx,.row sz [])]=ah []:=by
    funext i;have:=congrFun e1 i;rw[<-kZ]at this;exact this
   simp only[e5]at this;simp only[ee]at this;obtain⟨u',PZ,h1,h2,h3⟩:=this;simp only[Ee]at h1;rw[h1.1];exact h2
  |cons e r =>
   simp only[iT]at h;split at h
   ·rename_i hc;simp only[ai,b9]at h;obtain⟨rfl,rfl,rfl⟩:=h;have h1:(List.all (e::r) fun e=>decide (e.length=sz))=true:=by simpa only[cq,xQ]using hc.1
    have h2:r.length+1<=2^30:=hc.2;simp only[ae,vR,bD,dG,ff,cH,fy,dK,dt,cellsOf,lH,lG,Nat.reduceEqDiff,Nat.reduceAdd,reduceCtorEq,jS,dR,fi,jY,jh,jz,eG,Int.reduceToNat,Nat.reduceMul,Nat.reduceLT,iP,Int.reduceNeg,Int.reduceLE,Int.reduceLT,Int.reduceEq,gC,jY,Nat.reduceLeDiff,fq,cd,eV,ja,G3,aO,aa,dQ,tg,kE,List.drop,List.take,kT,wm,kH,gG,dD,gz,dF,hG,eZ,oL,AO.Cv,LO,DY,aT,fq,bt,chunk,dW,eN,fT,cq,h1,h2,cm];refine⟨.inl trivial,_,rfl,fun X M F a w u hX R hu=>?_⟩;have:ah [(nx,.dead),(nx+1,.row sz (e::r)),(nx,.row sz [])]=ah [(nx+1,.row sz (e::r))]:=by
     funext i;simp only[ah];by_cases hi:nx=i
     ·subst hi;rw[cm,eX (by omega:nx+1≠nx)];rfl
     ·rw[eX hi];rfl
    simp only[this]at R hu;exact⟨R,hu⟩
   ·simp at h
end
end
section
inductive Sh where
 |bo
 |nu (k:IntKind)
 |st
 |sl (es:List Sh)
def Sh.flat:Sh->Bool
 | .sl _=>false
 |_=>true
section
variable(P:Program)
def Iq(rec:TypeId->Option (List Sh)):Nat->List Field->Option (List Sh)
 |_,[]=>some []
 |off,f::r=>match rec f.type with
  |some s=>if f.offset=off/\s.length=P.cellsOf f.type then match Iq rec (off+s.length) r with
     |some ss=>some (s++ss)
     |none=>none
   else none
  |none=>none
def vu(s:List Sh):Nat->List Sh
 |0=>[]
 |n+1=>s++vu s n
def shOf:Nat->TypeId->Option (List Sh)
 |0,_=>none
 |n+1,t=>match P.underlying t with
  |some .bool=>some [.bo]
  |some (.int k)=>some [.nu k]
  |some .string=>some [.st]
  |some (.slice e)=>match shOf n e with
   |some es=>if es.all Sh.flat=true/\es.length=P.cellsOf e/\0<es.length then some [.sl es]else none
   |none=>none
  |some (.struct fs)=>match Iq P (shOf n) 0 fs.toList with
   |some ss=>if ss.length=P.cellsOf t then some ss else none
   |none=>none
  |some (.array m e)=>match shOf n e with
   |some es=>if es.length=P.cellsOf e/\m*P.cellsOf e=P.cellsOf t then some (vu es m)else none
   |none=>none
  |_=>none
end
mutual
def Fits:Sh->PV->Prop
 | .bo,p=>∃x,p=.bool x
 | .nu k,p=>∃n,p=.int k n/\(Lit.int k n).wf=true
 | .st,p=>∃x,p=.str x/\x.size<=maxLen
 | .sl es,p=>∃l:List (List PV),p=.slice l/\∀e∈l,fS es e
def fS:List Sh->List PV->Prop
 |[],ps=>ps=[]
 |s::r,ps=>∃p q,ps=p::q/\Fits s p/\fS r q
end
theorem qn:∀{a b:List Sh} {p q:List PV},fS a p->fS b q->fS (a++b) (p++q)
 |[],b,p,q,h1,h2=>by simp only[fS]at h1;subst h1;exact h2
 |s::r,b,p,q,h1,h2=>by
  simp only[fS]at h1;obtain⟨x,y,rfl,h3,h4⟩:=h1;simp only[aG,fS];exact⟨x,y++q,rfl,h3,qn h4 h2⟩
theorem mV:∀{a:List Sh} {p:List PV},fS a p->p.length=a.length
 |[],p,h=>by simp only[fS]at h;subst h;rfl
 |s::r,p,h=>by
  simp only[fS]at h;obtain⟨x,y,rfl,h3,h4⟩:=h;simp[mV h4]
theorem tK{E:Env}{w:World}{ok:Nat->Prop}:∀{a b:List PV} {u v:List Value},VPs E w ok a u->VPs E w ok b v->VPs E w ok (a++b) (u++v)
 |[],b,u,v,h1,h2=>by simp only[VPs]at h1;subst h1;exact h2
 |p::r,b,u,v,h1,h2=>by
  simp only[VPs]at h1;obtain⟨x,y,rfl,h3,h4⟩:=h1;simp only[aG,VPs];exact⟨x,y++v,rfl,h3,tK h4 h2⟩
section
variable{E:Env}{P:Program}{w:World}{H:Type}{enc:TypeId×Value->H}{base:Nat}{spare:Nat->Bool}{held:Bool}
def jF(E:Env)(w:World)(TK:List Sh)(cs:List Value):Prop :=
 ∃ps,fS TK ps/\VPs E w (fun b=>b<w.heap.size) ps cs/\(∀v∈cs,cN v)/\(TK.all Sh.flat=true->∀v∈cs,∀a l c,v≠ .slice a l c)
theorem jF.nil:jF E w [] []:=⟨[],rfl,by simp[VPs],by simp,by simp⟩
theorem jF.append{a b:List Sh}{u v:List Value}(h1:jF E w a u)(h2:jF E w b v):jF E w (a++b) (u++v):=by
 obtain⟨p,f1,v1,s1,l1⟩:=h1;obtain⟨q,f2,v2,s2,l2⟩:=h2;refine⟨p++q,qn f1 f2,tK v1 v2,fun x hx=>?_,fun hf x hx=>?_⟩
 ·rcases ct.1 hx with h|h
  ·exact s1 x h
  ·exact s2 x h
 ·simp only[List.all_append,bq]at hf;rcases ct.1 hx with h|h
  ·exact l1 hf.1 x h
  ·exact l2 hf.2 x h
theorem jF.length{a:List Sh}{u:List Value}(h:jF E w a u):u.length=a.length:=by
 obtain⟨p,f1,v1,_⟩:=h;rw[<-mV f1];clear f1;rename_i hh;clear hh;induction p generalizing u with
 |nil=>simp only[VPs]at v1;subst v1;rfl
 |cons x r ih =>
  simp only[VPs]at v1;obtain⟨y,z,rfl,_,h⟩:=v1;simp[ih h]
def zH(ss:List Sh)(cs:List Value):Prop:=ss.all Sh.flat=true\/∀v∈cs,∀a l c,v=.slice (some a) l c->a.spot=none
theorem DZ{rec:TypeId->Option (List Sh)}{n:Nat}{cs:List Value}
    (wc:∀t ss pA x,rec t=some ss->DataW.trod enc P w base spare held n t pA=some x->zH ss pA->jF E w ss pA) :
    ∀(fs:List Field) (off:Nat) (ss:List Sh),zH ss cs->Iq P rec off fs=some ss->(∀f∈fs,∃x,DataW.trod enc P w base spare held n f.type ((cs.drop f.offset).take (P.cellsOf f.type))=some x)->jF E w ss ((cs.drop off).take ss.length)
 |[],off,ss,_,h,_=>by
  simp only[Iq,ai]at h;subst h;simpa using jF.nil
 |f::r,off,ss,J9,h,hall=>by
  simp only[Iq]at h;split at h
  ·rename_i s hs;split at h
   ·rename_i hc;split at h
    ·rename_i Nh ML;simp only[ai]at h;subst h;obtain⟨x,hx⟩:=hall f (by simp);have hf:(s++Nh).all Sh.flat=true->s.all Sh.flat=true/\Nh.all Sh.flat=true:=by
      intro h;rw[List.all_append,bq]at h;exact h
     have h1:=wc _ _ _ _ hs hx (J9.elim (fun h=>.inl (hf h).1) fun h=>.inr fun v hv=>h v (List.mem_of_mem_drop (List.mem_of_mem_take hv)));have h2:=DZ wc r (off+s.length) Nh (J9.elim (fun h=>.inl (hf h).2) .inr) ML (fun g hg=>hall g (by simp[hg]));rw[hc.1,<-hc.2]at h1;have:(cs.drop off).take (s++Nh).length=(cs.drop off).take s.length++(cs.drop (off+s.length)).take Nh.length:=by
      rw[aM,List.take_add,jM]
     rw[this];exact h1.append h2
    ·simp at h
   ·simp at h
  ·simp at h
theorem B2{es:List Sh}{n:Nat}{e:TypeId}{cs:List Value}
    (wc:∀pA x,DataW.trod enc P w base spare held n e pA=some x->zH es pA->jF E w es pA) (hl:es.length=P.cellsOf e) :
    ∀(m k:Nat),zH (vu es m) cs->(∀i,i<m->∃x,DataW.trod enc P w base spare held n e ((cs.drop ((k+i)*P.cellsOf e)).take (P.cellsOf e))=some x)->jF E w (vu es m) ((cs.drop (k*P.cellsOf e)).take (m*P.cellsOf e))
 |0,k,_,_=>by simpa[vu]using jF.nil
 |m+1,k,J9,hall=>by
  have hf:(es++vu es m).all Sh.flat=true->es.all Sh.flat=true/\(vu es m).all Sh.flat=true:=by
   intro h;rw[List.all_append,bq]at h;exact h
  obtain⟨x,hx⟩:=hall 0 (by omega);have h1:=wc _ _ hx (J9.elim (fun h=>.inl (hf h).1) fun h=>.inr fun v hv=>h v (List.mem_of_mem_drop (List.mem_of_mem_take hv)));have h2:=B2 wc hl m (k+1) (J9.elim (fun h=>.inl (hf h).2) .inr) (fun i hi=>by
   have:=hall (i+1) (by omega);rwa [show k+(i+1)=k+1+i by omega]at this)
  have:(cs.drop (k*P.cellsOf e)).take ((m+1)*P.cellsOf e)=(cs.drop (k*P.cellsOf e)).take (P.cellsOf e)++(cs.drop ((k+1)*P.cellsOf e)).take (m*P.cellsOf e):=by
   rw[Nat.succ_mul,Nat.add_comm (m*P.cellsOf e),List.take_add,jM,Nat.succ_mul]
  rw[this];exact h1.append h2
theorem xL(b o n:Nat):(⟨b,o,none⟩:Addr).add n=⟨b,o+n,none⟩:=by
 unfold Addr.add;split
 ·rename_i h;subst h;rfl
 ·rfl
theorem vd{P:Program}{es:List Sh}{e:TypeId}{ab:Nat}(hlen:es.length=P.cellsOf e) :
    ∀(len ao:Nat),(∀i,i<len->∃pA,w.cells? base ((⟨ab,ao,none⟩:Addr).add (i*P.cellsOf e)) (P.cellsOf e)=some pA/\jF E w es pA) ->
     ∃rows:List (List PV),rows.length=len/\(∀r∈rows,fS es r)/\dm E w (fun b=>b<w.heap.size) rows ab ao (P.cellsOf e)
 |0,ao,_=>⟨[],rfl,by simp,by simp[dm]⟩
 |len+1,ao,h=>by
  obtain⟨pA,h1,ps,f1,v1,s1,_⟩:=h 0 (by omega);obtain⟨rows,g1,g2,g3⟩:=vd hlen len (ao+P.cellsOf e) (fun i hi=>by
   have:=h (i+1) (by omega);rw[xL]at this⊢;rwa [Nat.succ_mul,Nat.add_comm (i*P.cellsOf e),<-eS]at this)
  obtain⟨_,c1,c2⟩:=World.cells?_some h1;refine⟨ps::rows,by simp[g1],fun r hr=>?_,?_⟩
  ·rcases aS.1 hr with rfl|hr
   ·exact f1
   ·exact g2 r hr
  ·simp only[dm];refine⟨by rw[mV f1,hlen],?_,g3⟩;have uK:∀i,i<P.cellsOf e->w.cell? ⟨ab,ao+i,none⟩=pA[i]? :=fun i hi=>by
    have:=c2 i hi;rwa [Nat.zero_mul,xL,xL,fa]at this
   clear f1 h1 c2 g3;rw[<-c1]at uK;have key:∀(ps:List PV) (pA:List Value) (o:Nat),VPs E w (fun b=>b<w.heap.size) ps pA->(∀v∈pA,cN v)->(∀i,i<pA.length->w.cell? ⟨ab,o+i,none⟩=pA[i]?)->iz E w (fun b=>b<w.heap.size) ps ab o:=by
    intro ps;induction ps with
    |nil=>intro pA o _ _ _;simp[iz]
    |cons p r ih =>
     intro pA o hv hs hc;simp only[VPs]at hv;obtain⟨u,us,rfl,k1,k2⟩:=hv;simp only[iz];refine⟨⟨u,?_,hs u (by simp),k1⟩,ih us (o+1) k2 (fun v hv=>hs v (by simp[hv])) fun i hi=>?_⟩
     ·have:=hc 0 (by simp);simpa using this
     ·have:=hc (i+1) (by simpa using hi);rw[show o+(i+1)=o+1+i by omega]at this;simpa using this
   exact key ps pA ao v1 s1 uK
theorem re{P:Program}:∀(d:Nat) (t:TypeId) (ss:List Sh),shOf P d t=some ss->∀(n:Nat) (cs:List Value) (x:DataW H×List MemPlace),DataW.trod enc P w base spare held n t cs=some x->zH ss cs->jF E w ss cs
 |0,t,ss,hs,_,_,_,_,_=>by simp[shOf]at hs
 |d+1,t,ss,hs,n,cs,x,h,J9=>by
  simp only[shOf]at hs;split at hs
  ·rename_i ht;simp at hs;subst hs;obtain⟨b,rfl,_⟩:=DataW.trod_bool ht h;exact⟨[.bool b],⟨_,_,rfl,⟨b,rfl⟩,rfl⟩,by simp[VPs,VP],by simp[cN],by simp⟩
  ·rename_i k ht;simp at hs;subst hs;obtain⟨m,rfl,_,hw⟩:=DataW.trod_int ht h;exact⟨[.int k m],⟨_,_,rfl,⟨m,rfl,hw⟩,rfl⟩,by simp[VPs,VP],by simp[cN],by simp⟩
  ·rename_i ht;simp at hs;subst hs;obtain⟨s,rfl,_,hw⟩:=DataW.trod_string ht h;exact⟨[.str s],⟨_,_,rfl,⟨s,rfl,hw⟩,rfl⟩,by simp[VPs,VP],by simp[cN],by simp⟩
  ·rename_i e ht;split at hs
   ·rename_i es he;split at hs
    ·rename_i hc;simp at hs;subst hs;obtain⟨OU,hlen,w9⟩:=hc;rcases DataW.trod_slice ht h with⟨rfl,_⟩|⟨a,len,cap,elems,rest,m,_,rfl,_,hb,hl,hm,hel,Lx,_⟩
     ·exact⟨[.slice []],⟨_,_,rfl,⟨[],rfl,by simp⟩,rfl⟩,⟨_,_,rfl,⟨none,0,0,rfl,rfl,ax _,fun h=>by simp at h⟩,rfl⟩,by simp[cN],by simp[Sh.flat]⟩
     ·have LA:a.spot=none:=by
       rcases J9 with h|h
       ·simp[Sh.flat]at h
       ·exact h _ (gN.2 rfl) a len cap rfl
      obtain⟨ab,ao,Vs⟩:=a;simp only at LA;subst LA;have each:∀i,i<len->∃pA,w.cells? base ((⟨ab,ao,none⟩:Addr).add (i*P.cellsOf e)) (P.cellsOf e)=some pA/\jF E w es pA:=by
       intro i hi;have h1:=Lx i hi;have:∃y,elems[i]? =some y:=⟨elems[i]'(by omega),by simp[hel,hi]⟩;obtain⟨y,hy⟩:=this;rw[hy,pz]at h1;obtain⟨pA,OM,RL⟩:=h1;exact⟨pA,OM,re d e es he _ _ _ RL (.inl OU)⟩
      obtain⟨rows,r1,r2,r3⟩:=vd hlen len ao each;refine⟨[.slice rows],⟨_,_,rfl,⟨rows,rfl,r2⟩,rfl⟩,?_,by simp[cN],by simp[Sh.flat]⟩;simp only[VPs,VP];refine⟨_,_,rfl,⟨some ⟨ab,ao,none⟩,len,cap,rfl,r1.symm,hl,fun hp=>⟨ab,ao,P.cellsOf e,rfl,?_,r3⟩⟩,rfl⟩;obtain⟨pA,c1,_⟩:=each 0 (by omega);have:=World.cells?_block c1 (by omega);rwa [xL]at this
    ·simp at hs
   ·simp at hs
  ·rename_i fs ht;split at hs
   ·rename_i Nh ML;split at hs
    ·rename_i hc;simp at hs;subst hs;obtain⟨xs,m,rfl,_,hlen,wW,hall⟩:=DataW.trod_struct ht h;have h1:=DZ (E:=E) (cs:=cs) (rec:=shOf P d) (n:=m) (enc:=enc) (base:=base) (spare:=spare) (held:=held) (fun t ss pA x hr hx MK=>re d t ss hr m pA x hx MK) fs.toList 0 Nh J9 ML (fun f hf=>by
      obtain⟨i,hi,rfl⟩:=List.getElem_of_mem hf;have cS:i<fs.size:=by simpa using hi
      have:=hall i fs[i] (by simp[cS]);refine⟨xs[i]'(by omega),?_⟩;rw[Array.getElem_toList,this];simp[wW,cS])
     rwa [hc,<-hlen,gH,zA]at h1
    ·simp at hs
   ·simp at hs
  ·rename_i m e ht;split at hs
   ·rename_i es he;split at hs
    ·rename_i hc;simp at hs;subst hs;obtain⟨xs,k,rfl,_,hlen,wW,hall⟩:=DataW.trod_array ht h;have h1:=B2 (E:=E) (cs:=cs) (es:=es) (e:=e) (n:=k) (enc:=enc) (base:=base) (spare:=spare) (held:=held) (fun pA x hx MK=>re d e es he k pA x hx MK) hc.1 m 0 J9 (fun i hi=>by
      have:=hall i hi;rw[aQ];exact⟨xs[i]'(by omega),by rw[this];simp[wW,hi]⟩)
     rwa [hc.2,<-hlen,Nat.zero_mul,gH,zA]at h1
    ·simp at hs
   ·simp at hs
  ·simp at hs
theorem ru{r:Reach}{base:Nat}{u:TypeId}{a:Addr}{l c:Nat}(h:Cell.okWide P w r base u (.slice (some a) l c)):a.spot=none:=by
 unfold Cell.okWide at h;split at h <;>rename_i h2 <;>first|(simp at h2;done)|skip
 unfold Cell.ok at h;split at h <;>rename_i h3 h4 <;>first|(simp at h4;done)|skip
 all_goals first|exact h.elim|(simp at h4;obtain⟨rfl,rfl,rfl⟩:=h4;exact h.2.2.2.1)
theorem open_agg{r:Reach}{d:Nat}{t:TypeId}{v:Value}{ss:List Sh}{x:DataW H}{ps:List MemPlace}(jI:(match P.underlying t with|some (.struct _)=>true|some (.array _ _)=>true|_=>false)=true)
    (hs:shOf P d t=some ss) (hval:Value.okWide P w r base t v) (h:DataW.Trod enc P w 0 (fun _=>true) true t v x ps):∃l,fS ss l/\VP E w (fun b=>b<w.heap.size) (.agg l) v:=by
 obtain⟨n,h⟩:=h;have:∃cs,v=.agg cs/\Row.okWide P w r base t cs:=by
  unfold Value.okWide at hval;split at jI
  ·rename_i hu;rw[hu]at hval;obtain⟨cs,h1,_,h2⟩:=hval;exact⟨cs,h1,h2⟩
  ·rename_i hu;rw[hu]at hval;obtain⟨cs,h1,_,h2⟩:=hval;exact⟨cs,h1,h2⟩
  ·simp at jI
 obtain⟨cs,rfl,ts,_,_,uK⟩:=this;obtain⟨l,h1,h2,_,_⟩:=re (E:=E) d t ss hs n _ _ h (.inr fun v hv a l c LI=>by
  obtain⟨i,hi,Uv⟩:=List.getElem_of_mem (show v∈cs.toList from hv);obtain⟨u,_,h5⟩:=uK i v (by rw[<-cr,nR hi,Uv]);rw[LI]at h5;exact ru h5)
 refine⟨l,h1,?_⟩;simp only[VP];exact⟨cs.toList,by simp,h2⟩
theorem open_one{r:Reach}{d:Nat}{t:TypeId}{v:Value}{s:Sh}{x:DataW H}{ps:List MemPlace}(jI:(match P.underlying t with|some (.struct _)=>true|some (.array _ _)=>true|_=>false)=false)
    (hs:shOf P d t=some [s]) (hval:Value.okWide P w r base t v) (h:DataW.Trod enc P w 0 (fun _=>true) true t v x ps):∃p,Fits s p/\VP E w (fun b=>b<w.heap.size) p v:=by
 obtain⟨n,h⟩:=h;have hc:Cell.okWide P w r base t v:=by
  unfold Value.okWide at hval;split at hval
  ·rename_i hu;simp[hu]at jI
  ·rename_i hu;simp[hu]at jI
  ·exact hval
 have hv:v.cells.toList=[v]:=by
  cases v <;>first|rfl|skip
  unfold Cell.okWide at hc;split at hc <;>rename_i h2 <;>first|(simp at h2;done)|skip
  unfold Cell.ok at hc;split at hc <;>rename_i h3 h4 <;>first|(simp at h4;done)|exact hc.elim
 rw[hv]at h;obtain⟨l,h1,h2,_,_⟩:=re (E:=E) d t [s] hs n _ _ h (.inr fun u hu a l c LI=>by
  simp only[gN]at hu;subst hu;rw[LI]at hc;exact ru hc)
 simp only[fS]at h1;obtain⟨p,q,rfl,h3,rfl⟩:=h1;simp only[VPs]at h2;obtain⟨u,us,h4,h5,rfl⟩:=h2;simp only[Ee]at h4;exact⟨p,h3,h4.1▸h5⟩
end
end
section
def KB:List (Nat×Nat)->Nat->Option Nat
 |[],_=>none
 |(a,b)::r,n=>cond (Nat.beq a n) (some b) (KB r n)
def NH:List (Nat×Nat)->Nat->Option Nat
 |[],_=>none
 |(a,b)::r,n=>cond (Nat.beq b n) (some a) (NH r n)
def envOf(P:Program)(fs ts:List (Nat×Nat))(nt:Nat)(gl:List (Nat×Value)):Env :=
 ⟨P,fun n=>(KB fs n).getD 1000000,fun n=>(KB ts n).getD (1000000+n),NH fs,NH ts,nt,gl⟩
def Vc(fs:List (Nat×Nat)):Bool:=fs.all fun p=>Nat.beq ((KB fs p.1).getD 1000000) p.2
def Sy(ts:List (Nat×Nat))(nt:Nat):Bool:=ts.all (fun p=>Nat.beq ((KB ts p.1).getD (1000000+p.1)) p.2&&Nat.blt p.1 nt) &&
 (List.range nt).all fun n=>(List.range nt).all fun m=>Nat.beq n m||!(Nat.beq ((KB ts n).getD (1000000+n)) ((KB ts m).getD (1000000+m)))
theorem zb:∀{l:List (Nat×Nat)} {f n:Nat},NH l f=some n->(n,f)∈l
 |[],f,n,h=>by simp[NH]at h
 |(a,b)::r,f,n,h=>by
  simp only[NH]at h;by_cases hb:b=f
  ·subst hb;rw[cm]at h;simp at h;subst h;simp
  ·rw[eX hb]at h;exact bf _ (zb h)
theorem envOf_ok{P:Program}{fs ts:List (Nat×Nat)}{nt:Nat}{gl:List (Nat×Value)}(h1:Vc fs=true)(h2:Sy ts nt=true)(h3:P.follows .mixedOrders=true):(envOf P fs ts nt gl).OK where
 FH:=fun f n h=>by
  have:=NP.1 h1 _ (zb h);exact cX this
 NJ:=fun t n h=>by
  unfold Sy at h2;rw[bq]at h2;have:=NP.1 h2.1 _ (zb h);rw[bq]at this;exact⟨cX this.1,fb this.2⟩
 inj:=fun n m hn hm h=>by
  unfold Sy at h2;rw[bq]at h2;have:=NP.1 (NP.1 h2.2 n (List.mem_range.2 hn)) m (List.mem_range.2 hm);rw[ke]at this;rcases this with h'|h'
  ·exact cX h'
  ·have h:(KB ts n).getD (1000000+n)=(KB ts m).getD (1000000+m):=h;rw[h,cm]at h';simp at h'
 mixed:=h3
abbrev Ge:=List AV->Hl->Nat->Option (AV×Hl×Nat)
def Pz:List (Nat×bg)->Nat->Option bg
 |[],_=>none
 |(a,f)::r,n=>cond (Nat.beq a n) (some f) (Pz r n)
def PA:List (Nat×Ge)->Nat->Option Ge
 |[],_=>none
 |(a,f)::r,n=>cond (Nat.beq a n) (some f) (PA r n)
def Qx(l:List Nat)(n:Nat):Bool:=l.any fun a=>Nat.beq a n
def M3(l:List (Nat×bg))(raw flat own still:List Nat)(ps:List (Nat×Ge)):cL:=⟨Pz l,Qx raw,Qx flat,Qx own,Qx still,PA ps⟩
theorem DR:∀{l:List (Nat×bg)} {n:Nat} {f:bg},Pz l n=some f->(n,f)∈l
 |[],n,f,h=>by simp[Pz]at h
 |(a,b)::r,n,f,h=>by
  simp only[Pz]at h;by_cases hb:a=n
  ·subst hb;rw[cm]at h;simp at h;subst h;simp
  ·rw[eX hb]at h;exact bf _ (DR h)
theorem DS:∀{l:List (Nat×Ge)} {n:Nat} {f:Ge},PA l n=some f->(n,f)∈l
 |[],n,f,h=>by simp[PA]at h
 |(a,b)::r,n,f,h=>by
  simp only[PA]at h;by_cases hb:a=n
  ·subst hb;rw[cm]at h;simp at h;subst h;simp
  ·rw[eX hb]at h;exact bf _ (DS h)
def TiesL(E:Env):List (Nat×bg)->Prop
 |[]=>True
 |(n,f)::r=>cFunc E n=some f/\TiesL E r
def PrimsL(E:Env):List (Nat×Ge)->Prop
 |[]=>True
 |(n,g)::r=>(∀args hp nx v hp' cE,g args hp nx=some (v,hp',cE)->kl E n args hp nx v hp' cE)/\PrimsL E r
theorem TiesL.mem{E:Env}:∀{l:List (Nat×bg)},TiesL E l->∀{n:Nat} {f:bg},(n,f)∈l->cFunc E n=some f
 |(a,b)::r,h,n,f,hm=>by
  rcases aS.1 hm with hm|hm
  ·simp only[b9]at hm;obtain⟨rfl,rfl⟩:=hm;exact h.1
  ·exact TiesL.mem h.2 hm
theorem PrimsL.mem{E:Env}:∀{l:List (Nat×Ge)},PrimsL E l->∀{n:Nat} {g:Ge},(n,g)∈l->∀args hp nx v hp' cE,g args hp nx=some (v,hp',cE)->kl E n args hp nx v hp' cE
 |(a,b)::r,h,n,f,hm=>by
  rcases aS.1 hm with hm|hm
  ·simp only[b9]at hm;obtain⟨rfl,rfl⟩:=hm;exact h.1
  ·exact PrimsL.mem h.2 hm
theorem tied_of{E:Env}{l:List (Nat×bg)}{raw flat own still:List Nat}{ps:List (Nat×Ge)}(h1:TiesL E l)(h2:PrimsL E ps):Tied E (M3 l raw flat own still ps) where
 fn:=fun n f _ h=>h1.mem (DR h)
 fP:=fun n g h=>h2.mem (DS h)
theorem law_calls{E:Env}{T:cL}(hE:E.OK)(hT:Tied E T){n:Nat}{ps:List PV}(h:ba T n ps (.bool true)){w:World}{vs:List Value}(hI:E.inv w)(hv:VPs E w (fun b=>b<w.heap.size) ps vs) :
    Calls E.P (E.ρ n) vs.toArray w fun e w'=>e=.returned (.bool true)/\Go.RowKit.Below w.heap.size w w':=by
 obtain⟨_,_,o,hc⟩:=h;obtain⟨v,hp,nx,h1,h2,_⟩:=jr hc;have hP:=(D5 hE hT _ _ _ _ _ _ _ h1).pure h2;refine(hP.2 (fun _=>False) w vs hI (fun b hb=>hb.elim) (dL ⟨fun b hb=>⟨hb,fun h=>h⟩,fun _ _=>rfl⟩ _ _ hv)).mono fun e w' hh=>?_;obtain⟨u,rfl,h3,h4⟩:=hh;simp only[VP]at h3;subst h3;exact⟨rfl,h4.os,h4.tape,h4.output,h4.size,fun k hk=>h4.block k hk (fun h=>h)⟩
/-! ### What the Py are handed -/
def mw(n:Int):Prop:= -9223372036854775808<=n/\n<=9223372036854775807
def Cg(n:Int):Prop:=0<=n/\n<=18446744073709551615
theorem wf_i64{n:Int}(h:(Lit.int .i64 n).wf=true):mw n:=by
 simp only[Lit.wf,bq,bO]at h;exact h
theorem wf_u64{n:Int}(h:(Lit.int .u64 n).wf=true):Cg n:=by
 simp only[Lit.wf,bq,bO]at h;exact h
theorem oT{α:Type}{enc:α->List PV}{W:α->Prop}:∀{l:List (List PV)},(∀e∈l,∃x,e=enc x/\W x)->∃xs:List α,l=xs.map enc/\∀x∈xs,W x
 |[],_=>⟨[],rfl,by simp⟩
 |e::r,h=>by
  obtain⟨x,rfl,hx⟩:=h e (by simp);obtain⟨xs,rfl,LJ⟩:=oT (fun e he=>h e (bf _ he));exact⟨x::xs,rfl,by simpa using⟨hx,LJ⟩⟩
def jC.wf(v:jC):Prop:=Cg v.a/\Cg v.b/\Cg v.c/\Cg v.d
def Node.wf(n:Node):Prop:=mw n.id/\mw n.bX/\n.cap.wf/\n.held.wf
def fD.wf(l:fD):Prop:=mw l.id/\mw l.so/\mw l.min/\mw l.max
def dx.wf(p:dx):Prop:=mw p.id/\mw p.load/\mw p.prio/\p.jV.wf/\mw p.node
def Want.wf(w:Want):Prop:=mw w.eU/\w.jV.wf
def Move.wf(m:Move):Prop:=mw m.kind/\mw m.eU/\mw m.node/\mw m.over
def bc.wf(s:bc):Prop:=(∀n∈s.nodes,n.wf)/\(∀l∈s.aU,l.wf)/\∀p∈s.pods,p.wf
def Spec.wf(x:Spec):Prop:=(∀w∈x.aZ,w.wf)/\mw x.pre/\mw x.eW
def State.wf(t:State):Prop:=(∀p∈t.pods,p.wf)/\mw t.pre/\mw t.eW
def HY:List Sh:=[.nu .i64,.nu .i64,.nu .u64,.nu .u64,.nu .u64,.nu .u64,.nu .u64,.nu .u64,.nu .u64,.nu .u64]
def HO:List Sh:=[.nu .i64,.bo,.nu .i64,.nu .i64,.nu .i64]
def N8:List Sh:=[.nu .i64,.nu .i64,.nu .i64,.nu .u64,.nu .u64,.nu .u64,.nu .u64,.nu .i64]
def IK:List Sh:=[.nu .i64,.nu .u64,.nu .u64,.nu .u64,.nu .u64,.bo]
theorem ES{e:List PV}(h:fS HY e):∃n:Node,e=bB n/\n.wf:=by
 simp only[HY,fS,Fits]at h;obtain⟨_,_,rfl,⟨a,rfl,h1⟩,_,_,rfl,⟨b,rfl,h2⟩,_,_,rfl,⟨c,rfl,h3⟩,_,_,rfl,⟨d,rfl,h4⟩,_,_,rfl,⟨f,rfl,h5⟩,_,_,rfl,⟨g,rfl,h6⟩,_,_,rfl,⟨i,rfl,h7⟩,_,_,rfl,⟨j,rfl,h8⟩,_,_,rfl,⟨k,rfl,h9⟩,_,_,rfl,⟨l,rfl,h10⟩,rfl⟩:=h;exact⟨⟨a,b,⟨c,d,f,g⟩,⟨i,j,k,l⟩⟩,rfl,wf_i64 h1,wf_i64 h2,⟨wf_u64 h3,wf_u64 h4,wf_u64 h5,wf_u64 h6⟩,wf_u64 h7,wf_u64 h8,wf_u64 h9,wf_u64 h10⟩
theorem ER{e:List PV}(h:fS HO e):∃n:fD,e=bN n/\n.wf:=by
 simp only[HO,fS,Fits]at h;obtain⟨_,_,rfl,⟨a,rfl,h1⟩,_,_,rfl,⟨b,rfl⟩,_,_,rfl,⟨c,rfl,h3⟩,_,_,rfl,⟨d,rfl,h4⟩,_,_,rfl,⟨f,rfl,h5⟩,rfl⟩:=h;exact⟨⟨a,b,c,d,f⟩,rfl,wf_i64 h1,wf_i64 h3,wf_i64 h4,wf_i64 h5⟩
theorem H6{e:List PV}(h:fS N8 e):∃n:dx,e=aJ n/\n.wf:=by
 simp only[N8,fS,Fits]at h;obtain⟨_,_,rfl,⟨a,rfl,h1⟩,_,_,rfl,⟨b,rfl,h2⟩,_,_,rfl,⟨c,rfl,h3⟩,_,_,rfl,⟨d,rfl,h4⟩,_,_,rfl,⟨f,rfl,h5⟩,_,_,rfl,⟨g,rfl,h6⟩,_,_,rfl,⟨i,rfl,h7⟩,_,_,rfl,⟨j,rfl,h8⟩,rfl⟩:=h;exact⟨⟨a,b,c,⟨d,f,g,i⟩,j⟩,rfl,wf_i64 h1,wf_i64 h2,wf_i64 h3,⟨wf_u64 h4,wf_u64 h5,wf_u64 h6,wf_u64 h7⟩,wf_i64 h8⟩
theorem ET{e:List PV}(h:fS IK e):∃n:Want,e=cg n/\n.wf:=by
 simp only[IK,fS,Fits]at h;obtain⟨_,_,rfl,⟨a,rfl,h1⟩,_,_,rfl,⟨b,rfl,h2⟩,_,_,rfl,⟨c,rfl,h3⟩,_,_,rfl,⟨d,rfl,h4⟩,_,_,rfl,⟨f,rfl,h5⟩,_,_,rfl,⟨g,rfl⟩,rfl⟩:=h;exact⟨⟨a,⟨b,c,d,f⟩,g⟩,rfl,wf_i64 h1,wf_u64 h2,wf_u64 h3,wf_u64 h4,wf_u64 h5⟩
theorem fits_snap{e:List PV}(h:fS [.sl HY,.sl HO,.sl N8] e):∃s:bc,.agg e=aD s/\s.wf:=by
 simp only[fS,Fits]at h;obtain⟨_,_,rfl,⟨a,rfl,h1⟩,_,_,rfl,⟨b,rfl,h2⟩,_,_,rfl,⟨c,rfl,h3⟩,rfl⟩:=h;obtain⟨x,rfl,k1⟩:=oT (fun e he=>ES (h1 e he));obtain⟨y,rfl,k2⟩:=oT (fun e he=>ER (h2 e he));obtain⟨z,rfl,k3⟩:=oT (fun e he=>H6 (h3 e he));exact⟨⟨x,y,z⟩,rfl,k1,k2,k3⟩
theorem fits_spec{e:List PV}(h:fS [.sl IK,.nu .i64,.nu .i64] e):∃s:Spec,.agg e=bd s/\s.wf:=by
 simp only[fS,Fits]at h;obtain⟨_,_,rfl,⟨a,rfl,h1⟩,_,_,rfl,⟨b,rfl,h2⟩,_,_,rfl,⟨c,rfl,h3⟩,rfl⟩:=h;obtain⟨x,rfl,k1⟩:=oT (fun e he=>ET (h1 e he));exact⟨⟨x,b,c⟩,rfl,k1,wf_i64 h2,wf_i64 h3⟩
theorem fits_int{p:PV}(h:Fits (.nu .i64) p):∃n,p=.int .i64 n/\mw n:=by
 simp only[Fits]at h;obtain⟨n,rfl,h⟩:=h;exact⟨n,rfl,wf_i64 h⟩
end
section
section
variable{P:Program}{w:World}{t:TypeId}
theorem qp_pp1(d:Nat){e:TypeId}{n:Nat}{a:Addr}(h:P.underlying t=some (.pointer e))(hz:(sizeOf e).run P w=.ok n w)(hn:n≠0):(Op.equalIn (d+1) t (.pointer (some a)) (.pointer (some a))).run P w=.ok true w:=by
 simp only[Op.equalIn];rw[rb (bE h)];simp only;rw[rb hz];rw[aW hn];unfold sameAddr;simp[run_pure]
theorem PJ(d:Nat){ms u v x y}(h:P.underlying t=some (.interface ms))(ew:u≠v):(Op.equalIn (d+1) t (.iface u x) (.iface v y)).run P w=.ok false w:=by
 simp only[Op.equalIn];rw[rb (bE h)];simp only[ne_eq,ew,not_false_eq_true,bA];rfl
theorem Dh{x y:Value}{b:Bool}(h:(Op.equal t x y).run P w=.ok b w)(h1:(∀k n,x≠ .int k n)/\(∀s,x≠ .string s)/\(∀k n,x≠ .float k n)/\∀k n m,x≠ .complex k n m) :
    (binOp .eql t x y).run P w=.ok (.bool b) w/\(binOp .neq t x y).run P w=.ok (.bool (!b)) w:=by
 obtain⟨h2,h3,h4,h5⟩:=h1;cases x <;>first|exact absurd rfl (h2 _ _)|exact absurd rfl (h3 _)|exact absurd rfl (h4 _ _)|exact absurd rfl (h5 _ _ _) |
  (constructor
   ·simp only[binOp];rw[rb h];rfl
   ·simp only[binOp];rw[rb h];rfl)
theorem ie_same{ms:_}{u:TypeId}{x y:Value}{b:Bool}(h:P.underlying t=some (.interface ms))(hc:(P.info? u).map (·.comparable)=some true)(hb:(Op.equalIn 9999 u x y).run P w=.ok b w) :
    (binOp .eql t (.iface u x) (.iface u y)).run P w=.ok (.bool b) w/\(binOp .neq t (.iface u x) (.iface u y)).run P w=.ok (.bool (!b)) w:=by
 refine Dh ?_ ⟨by simp,by simp,by simp,by simp⟩;cases hi:P.info? u with
 |none=>rw[hi]at hc;cases hc
 |some i =>
  rw[hi]at hc;exact(LP 9999 h hi (Option.some.inj hc)).trans hb
theorem ie_other{ms:_}{u v:TypeId}{x y:Value}(h:P.underlying t=some (.interface ms))(ew:u≠v) :
    (binOp .eql t (.iface u x) (.iface v y)).run P w=.ok (.bool false) w/\(binOp .neq t (.iface u x) (.iface v y)).run P w=.ok (.bool true) w :=
 Dh (PJ 9999 h ew) ⟨by simp,by simp,by simp,by simp⟩
theorem ie_int{k:IntKind}{n m:Int}(h:P.underlying t=some (.int k)):(Op.equalIn 9999 t (.int k n) (.int k m)).run P w=.ok (decide (n=m)) w:=by
 have:=run_equalIn_int w 9998 t k k n m h;exact this
end
end
def LL(args:List AV)(hp:Hl)(nx:Nat):Option (AV×Hl×Nat) :=
 match args with
 |[.pv .dJ,.pv (.int .i64 _),.pv (.int .i64 _)]=>some (.pv (.bool false),hp,nx)
 |[.pv (.iface 0 (.int .i64 _)),.pv (.int .i64 _),.pv (.int .i64 _)]=>some (.pv (.bool false),hp,nx)
 |[.pv (.iface 1 (.gQ [.int .i64 a,.int .i64 n] 0)),.pv (.int .i64 x),.pv (.int .i64 y)]=>some (.pv (.bool (decide (a=x)&&decide (n=y))),hp,nx)
 |_=>none
theorem AN{w w':World}(h:Go.RowKit.Below w.heap.size w w'):jE (fun _=>False) w w':=⟨h.os,h.tape,h.output,h.size,fun b hb _=>h.block b hb⟩
theorem isP_raw{E:Env}{n:Nat}{g:Nat×Value}(pV:Ed E n)(hg:g∈E.gl)
    (h1:∀(x y:Int) (w:World),Calls E.P (E.ρ n) #[.nilIface,.int .i64 x,.int .i64 y] w fun e w'=>e=.returned (.bool false)/\Go.RowKit.Below w.heap.size w w')
    (h2:∀(m x y:Int) (w:World),w.cell? ⟨g.1,0,none⟩=some g.2->Calls E.P (E.ρ n) #[.iface (E.τ 0) (.int .i64 m),.int .i64 x,.int .i64 y] w fun e w'=>e=.returned (.bool false)/\Go.RowKit.Below w.heap.size w w')
    (h3:∀(b o:Nat) (a m x y:Int) (w:World),w.cell? ⟨g.1,0,none⟩=some g.2->w.cell? ⟨b,o,none⟩=some (.int .i64 a)->w.cell? ⟨b,o+1,none⟩=some (.int .i64 m) ->
     Calls E.P (E.ρ n) #[.iface (E.τ 1) (.pointer (some ⟨b,o,none⟩)),.int .i64 x,.int .i64 y] w fun e w'=>e=.returned (.bool (decide (a=x)&&decide (m=y)))/\Go.RowKit.Below w.heap.size w w')
    (args:List AV) (hp:Hl) (nx:Nat) (v:AV) (hp':Hl) (cE:Nat) (h:LL args hp nx=some (v,hp',cE)):kl E n args hp nx v hp' cE:=by
 refine⟨pV,fun X M F a w vs hX R hv=>?_⟩;subst hX;have hc:=(R.inv g hg).2;have fin:∀{b:Bool},v=.pv (.bool b)->hp'=hp->cE=nx->∀{e:Ending} {w':World},(e=.returned (.bool b)/\Go.RowKit.Below w.heap.size w w') ->
                                                                              ∃u M',e=.returned u/\Rel X M' F (ah hp') (fun i=>i<cE) a w'/\VA (aB X w' (fun i=>i<cE) M' (ah hp')) v u:=by
  rintro b rfl rfl rfl e w' ⟨rfl,hb⟩
  exact⟨_,M,rfl,R.grown (AN hb),by simp only[VA,VP]⟩
 unfold LL at h;split at h
 ·rename_i x y;simp only[ai,b9]at h;obtain⟨rfl,rfl,rfl⟩:=h;simp only[ee,VA,VP]at hv;obtain⟨_,_,rfl,rfl,_,_,rfl,rfl,_,_,rfl,rfl,rfl⟩:=hv;exact(h1 x y w).mono fun e w' hh=>fin rfl rfl rfl hh
 ·rename_i m x y;simp only[ai,b9]at h;obtain⟨rfl,rfl,rfl⟩:=h;simp only[ee,VA,VP]at hv;obtain⟨_,_,rfl,⟨_,rfl,rfl⟩,_,_,rfl,rfl,_,_,rfl,rfl,rfl⟩:=hv;exact(h2 m x y w hc).mono fun e w' hh=>fin rfl rfl rfl hh
 ·rename_i a' m x y;simp only[ai,b9]at h;obtain⟨rfl,rfl,rfl⟩:=h;simp only[ee,VA,VP,iz]at hv;obtain⟨_,_,rfl,⟨_,rfl,b,o,rfl,_,⟨_,c1,_,rfl⟩,⟨_,c2,_,rfl⟩,_⟩,_,_,rfl,rfl,_,_,rfl,rfl,rfl⟩:=hv;exact(h3 b o a' m x y w hc c1 c2).mono fun e w' hh=>fin rfl rfl rfl hh
 ·simp at h
def Sl(TU code:Int):PV->Option Bool
 | .dJ=>some false
 | .iface 0 (.int .i64 _)=>some false
 | .iface 1 (.gQ [.int .i64 a,.int .i64 n] 0)=>some (decide (a=TU)&&decide (n=code))
 |_=>none
structure xF(T:cL)(n:Nat)(g:Ge):Prop where
 fP:T.fP n=some g
 raw:T.raw n=false
 own:T.own n=false
theorem Pv{T:cL}{n:Nat}(S:xF T n LL){e:PV}{x y:Int}{b:Bool}(h:Sl x y e=some b):ba T n [e,.int .i64 x,.int .i64 y] (.bool b):=by
 refine⟨S.raw,S.own,none,?_⟩;have:LL (dK [e,.int .i64 x,.int .i64 y]) [] 0=some (.pv (.bool b),[],0):=by
  unfold Sl at h;split at h
  all_goals first|(simp at h;done)|skip
  all_goals
   simp only[ai]at h;subst h;simp only[dK,LL]
 unfold dq;rw[im S.fP this];simp only[dD,dF,eZ]
section
def cF(n:Int):List PV:=[.int .i64 n]
def qU:List (List PV)->Option (List Int)
 |[]=>some []
 |[.int .i64 n]::r=>match qU r with
  |some l=>some (n::l)
  |none=>none
 |_::_=>none
theorem qV:∀{es:List (List PV)} {ns:List Int},qU es=some ns->es=ns.map cF
 |[],ns,h=>by simp[qU]at h;subst h;rfl
 |e::r,ns,h=>by
  unfold qU at h;split at h
  ·rename_i h1;simp at h1
  ·rename_i n r' h1;simp only[Ee]at h1;obtain⟨rfl,rfl⟩:=h1;split at h
   ·rename_i l hl;simp only[ai]at h;subst h;rw[qV hl];rfl
   ·simp at h
  ·simp at h
theorem mL(ns:List Int):qU (ns.map cF)=some ns:=by
 induction ns with
 |nil=>rfl
 |cons n r ih=>simp only[aX,qU,cF,ih]
theorem sr{E:Env}{w:World}{ok:Nat->Prop}{b:Nat}:∀{ns:List Int} {o:Nat},dm E w ok (ns.map cF) b o 1->∀(j:Nat) (n:Int),ns[j]? =some n->w.cell? ⟨b,o+j,none⟩=some (.int .i64 n)
 |[],o,h,j,n,hj=>by simp at hj
 |m::r,o,h,j,n,hj=>by
  simp only[aX,dm,cF,iz,VP,and_true]at h;obtain⟨_,⟨u,h1,_,h2⟩,h3⟩:=h;cases j with
  |zero=>simp at hj;subst hj;rw[<-h2];exact h1
  |succ j =>
   have:=sr h3 j n (by simpa using hj);rwa [show o+1+j=o+(j+1) by omega]at this
theorem xu{E:Env}{w:World}{ok:Nat->Prop}{b:Nat}:∀{ns:List Int} {o:Nat},(∀(j:Nat) (n:Int),ns[j]? =some n->w.cell? ⟨b,o+j,none⟩=some (.int .i64 n))->dm E w ok (ns.map cF) b o 1
 |[],o,_=>by simp only[az,dm]
 |m::r,o,h=>by
  simp only[aX,dm,cF,iz,VP,and_true];refine⟨rfl,⟨_,h 0 m rfl,by simp[cN],rfl⟩,xu fun j n hj=>?_⟩;have:=h (j+1) n (by simpa using hj);rwa [show o+(j+1)=o+1+j by omega]at this
theorem xh{w:World}{b:Nat}{c:Array Value}{t:TypeId}{f:Nat×Nat}(h:w.heap[b]? =some (.cells c t f))(d:Array Int) :
    Sort.putRow (Value.int .i64) w b 0 d=fZ w b (.cells (Sort.putCells (Value.int .i64) 0 d c) t f):=by
 unfold Sort.putRow Sort.mapBlock fZ
 congr 1
 apply Array.ext_getElem?;intro i;by_cases hi:b=i
 ·subst hi;have hlt:b<w.heap.size:=(ck.1 h).1;rw[Array.getElem?_modify,h];simp[hlt,Sort.onCells]
 ·rw[Array.getElem?_modify,ec hi];simp[hi]
theorem sQ(w:World)(q:Nat):jE (fun _=>False) w (Sort.ahead w q):=⟨rfl,rfl,rfl,ax _,fun _ _ _=>rfl⟩
theorem Cw(w:World)(os:Array Obj):jE (fun _=>False) w (Sort.grow w os):=by
 refine⟨rfl,rfl,rfl,by simp[Sort.grow],fun b hb _=>?_⟩;simp only[Sort.grow];rw[Array.getElem?_append_left hb]
section
variable{X:Ctx}{M:Nat->Nat}{F:Fr}{hp:Hl}{U:Nat->Prop}{a:Act}{w:World}
theorem Rel.putRow(R:Rel X M F (ah hp) U a w){id:Nat}{ns:List Int}(hb:ah hp id=.row 1 (ns.map cF))(d:List Int)(hl:d.length=ns.length)(q:Nat) :
    Rel X M F (ah ((id,.row 1 (d.map cF))::hp)) U a (Sort.putRow (Value.int .i64) (Sort.ahead w q) (M id) 0 d.toArray):=by
 have R1:=R.grown (sQ w q);have hB:=R1.blk id;rw[hb]at hB;obtain⟨c,t,h1,h2,h3⟩:=hB;simp only[aB]at h1;simp only[al,Nat.mul_one]at h2;rw[xh h1];have e:ah ((id,.row 1 (d.map cF))::hp)=wr (ah hp) [(id,.row 1 (d.map cF))]:=by
  funext i;rw[<-kZ];rfl
 rw[e];have hlt:M id<(Sort.ahead w q).heap.size:=(ck.1 h1).1;refine R1.write _ _ id (by rw[hb];simp) (by simp) (by rw[hb];simp[dy.info,hl]) ?_ ?_
 ·simp only[World.shape?];rw[dC _ hlt,h1];simp[Sort.putCells]
 ·refine⟨_,t,dC _ hlt,by simp[Sort.putCells];omega,xu fun j n hj=>?_⟩;have pj:j<d.length:=(aA.1 hj).1;simp only[World.cell?,aB];rw[dC _ hlt];have Ux:j<c.size:=by omega
  simp only[Sort.putCells,aQ,Array.getElem?_mapIdx];rw[Array.getElem?_eq_getElem Ux];simp only[Eh];have:=(aA.1 hj).2;simp[pj,this]
theorem Rel.DU(R:Rel X M F (ah hp) U a w){id:Nat}{ns:List Int}{u:Value}(hb:ah hp id=.row 1 (ns.map cF))(hu:VA (aB X w U M (ah hp)) (.ms id) u) :
    ∃cap,u=.slice (some ⟨M id,0,none⟩) ns.length cap/\ns.length<=cap/\M id<w.heap.size/\Sort.Holds (Value.int .i64) w (M id) 0 ns.toArray:=by
 simp only[VA,aB]at hu;obtain⟨_,_,hu⟩:=hu;obtain⟨cap,t,gS,e1,e2,e3,e4⟩:=hu (1,ns.length) (by rw[hb];simp[dy.info]);have hB:=R.blk id;rw[hb]at hB;obtain⟨c,t',h1,h2,h3⟩:=hB;simp only[aB]at h1 h3;refine⟨cap,e1,e2,(ck.1 h1).1,fun j hj=>?_⟩;have Cb:j<ns.length:=by simpa using hj
 refine⟨?_,?_⟩
 ·have:=sr h3 j ns[j] (by simp[Cb]);rw[this];simp[Cb]
 ·simp only[World.frozen?,h1];simp
end
def Ch(x:Int):List Int->List Int
 |[]=>[x]
 |y::r=>if x<=y then x::y::r else y::Ch x r
def ga:List Int->List Int
 |[]=>[]
 |x::r=>Ch x (ga r)
theorem rY(x:Int):∀l,(Ch x l).Perm (x::l)
 |[]=>List.Perm.refl _
 |y::r=>by
  unfold Ch;split
  ·exact List.Perm.refl _
  ·exact((rY x r).cons y).trans (List.Perm.swap x y r)
theorem nE:∀l,(ga l).Perm l
 |[]=>List.Perm.refl _
 |x::r=>(rY x (ga r)).trans ((nE r).cons x)
theorem sP(x:Int):∀{l:List Int},l.Pairwise (fun a b=>a<=b)->(Ch x l).Pairwise (fun a b=>a<=b)
 |[],_=>by simp[Ch]
 |y::r,h=>by
  have h':=gO.1 h;unfold Ch;split
  ·rename_i MU;refine gO.2 ⟨fun z hz=>?_,h⟩;rcases aS.1 hz with rfl|hz
   ·exact MU
   ·exact Int.le_trans MU (h'.1 z hz)
  ·rename_i MU;refine gO.2 ⟨fun z hz=>?_,sP x h'.2⟩;rcases aS.1 ((rY x r).mem_iff.1 hz)with rfl|hz
   ·omega
   ·exact h'.1 z hz
theorem kL:∀ns:List Int,(ga ns).Pairwise (fun a b=>a<=b)
 |[]=>List.Pairwise.nil
 |x::r=>sP x (kL r)
theorem xm:∀{a b:List Int},a.Pairwise (fun x y=>x<=y)->b.Pairwise (fun x y=>x<=y)->a.Perm b->a=b
 |[],[],_,_,_=>rfl
 |[],y::s,_,_,h=>by have:=h.length_eq;simp at this
 |x::r,[],_,_,h=>by have:=h.length_eq;simp at this
 |x::r,y::s,ha,hb,h=>by
  rw[gO]at ha hb;have MU:x=y:=by
   have h1:=h.mem_iff.1 (bM (a:=x) (l:=r));have h2:=h.mem_iff.2 (bM (a:=y) (l:=s));rcases aS.1 h1 with h1|h1
   ·exact h1
   ·rcases aS.1 h2 with h2|h2
    ·exact h2.symm
    ·have:=ha.1 y h2;have:=hb.1 x h1;omega
  subst MU;rw[xm ha.2 hb.2 h.cons_inv]
theorem Bh(ns:List Int):(ns.mergeSort fun x y=>decide (x<=y))=ga ns:=by
 refine xm ?_ (kL ns) ((List.mergeSort_perm ns _).trans (nE ns).symm);have:=List.pairwise_mergeSort (le:=fun x y:Int=>decide (x<=y)) (fun a b c h1 h2=>by simp at *;omega) (fun a b=>by simp;omega) ns;exact this.imp fun h=>by simpa using h
theorem kK(ns:List Int):(ga ns).length=ns.length:=(nE ns).length_eq
theorem FP(ns:List Int)(x:Int):x∈ga ns↔x∈ns:=(nE ns).mem_iff
def oU(args:List AV)(hp:Hl)(nx:Nat):Option (AV×Hl×Nat) :=
 match args with
 |[.bu]=>some (.pv (.tuple []),hp,nx)
 |[.ms id]=>match ah hp id with
  | .row 1 es=>match qU es with
   |some ns=>if ns.length<=2^30 then some (.pv (.tuple []),(id,.row 1 ((ga ns).map cF))::hp,nx)else none
   |none=>none
  |_=>none
 |_=>none
theorem sortP_raw{E:Env}{n:Nat}(pV:Ed E n)
    (h1:∀(blk off cap:Nat) (zs:List Int) (w:World),Sort.Holds (Value.int .i64) w blk off zs.toArray->blk<w.heap.size->zs.length<4611686018427387904 ->
     Calls E.P (E.ρ n) #[.slice (some ⟨blk,off,none⟩) zs.length cap] w fun e w'=>e=.returned (.tuple #[])/\∃n os,w'=Sort.grow (Sort.putRow (Value.int .i64) (Sort.ahead w n) blk off (zs.mergeSort fun x y=>decide (x<=y)).toArray) os)
    (h2:∀(p:Option Addr) (cap:Nat) (w:World),Calls E.P (E.ρ n) #[.slice p 0 cap] w fun e w'=>e=.returned (.tuple #[])/\w'=w)
    (args:List AV) (hp:Hl) (nx:Nat) (v:AV) (hp':Hl) (cE:Nat) (h:oU args hp nx=some (v,hp',cE)):kl E n args hp nx v hp' cE:=by
 refine⟨pV,fun X M F a w vs hX R hv=>?_⟩;subst hX;unfold oU at h;split at h
 ·simp only[ai,b9]at h;obtain⟨rfl,rfl,rfl⟩:=h;simp only[ee,VA]at hv;obtain⟨_,_,rfl,rfl,rfl⟩:=hv;refine(h2 none 0 w).mono fun e w' hh=>?_;obtain⟨rfl,rfl⟩:=hh;exact⟨_,M,rfl,R,by simp only[VA,VP,VPs];exact⟨[],rfl,rfl⟩⟩
 ·rename_i id;split at h
  ·rename_i es hb;split at h
   ·rename_i ns hn;split at h
    ·rename_i hl;obtain rfl:=qV hn;simp only[ai,b9]at h;obtain⟨rfl,rfl,rfl⟩:=h;simp only[ee]at hv;obtain⟨u,_,rfl,hu,rfl⟩:=hv;obtain⟨cap,rfl,c1,c2,c3⟩:=R.DU hb hu;refine(h1 (M id) 0 cap ns w c3 c2 (by omega)).mono fun e w' hh=>?_;obtain⟨rfl,q,os,rfl⟩:=hh;rw[Bh];exact⟨_,M,rfl,(R.putRow hb (ga ns) (kK ns) q).grown (Cw _ os),by simp only[VA,VP,VPs];exact⟨[],rfl,rfl⟩⟩
    ·simp at h
   ·simp at h
  ·simp at h
 ·simp at h
def nH(ns:List Int):List Int:=Lib.compact ns
theorem ub(ns:List Int):(nH ns).length<=ns.length:=Lib.compact_length_le ns
def om(args:List AV)(hp:Hl)(nx:Nat):Option (AV×Hl×Nat) :=
 match args with
 |[.bu]=>some (.bu,hp,nx)
 |[.ms id]=>match ah hp id with
  | .row 1 es=>match qU es with
   |some ns=>if ns.length<=2^30 then some (.gd id 0 (nH ns).length,(id,.row 1 ((nH ns++List.replicate (ns.length-(nH ns).length) 0).map cF))::hp,nx)else none
   |none=>none
  |_=>none
 |_=>none
theorem compP_raw{E:Env}{n:Nat}(pV:Ed E n)
    (h1:∀(blk off cap:Nat) (zs:List Int) (w:World),Sort.Holds (Value.int .i64) w blk off zs.toArray->zs.length<=9223372036854775807->zs.length<=cap ->
     Calls E.P (E.ρ n) #[.slice (some ⟨blk,off,none⟩) zs.length cap] w fun e w'=>e=.returned (.slice (some ⟨blk,off,none⟩) (Lib.compact zs).length cap)/\∃q,w'=Sort.putRow (Value.int .i64) (Sort.ahead w q) blk off (Lib.compact zs++List.replicate (zs.length-(Lib.compact zs).length) 0).toArray)
    (h2:∀(p:Option Addr) (cap:Nat) (w:World),Calls E.P (E.ρ n) #[.slice p 0 cap] w fun e w'=>e=.returned (.slice p 0 cap)/\w'=w)
    (args:List AV) (hp:Hl) (nx:Nat) (v:AV) (hp':Hl) (cE:Nat) (h:om args hp nx=some (v,hp',cE)):kl E n args hp nx v hp' cE:=by
 refine⟨pV,fun X M F a w vs hX R hv=>?_⟩;subst hX;unfold om at h;split at h
 ·simp only[ai,b9]at h;obtain⟨rfl,rfl,rfl⟩:=h;simp only[ee,VA]at hv;obtain⟨_,_,rfl,rfl,rfl⟩:=hv;refine(h2 none 0 w).mono fun e w' hh=>?_;obtain⟨rfl,rfl⟩:=hh;exact⟨_,M,rfl,R,by simp only[VA]⟩
 ·rename_i id;split at h
  ·rename_i es hb;split at h
   ·rename_i ns hn;split at h
    ·rename_i hl;obtain rfl:=qV hn;simp only[ai,b9]at h;obtain⟨rfl,rfl,rfl⟩:=h;simp only[ee]at hv;obtain⟨u,_,rfl,hu,rfl⟩:=hv;have F6:=hu;obtain⟨cap,rfl,c1,c2,c3⟩:=R.DU hb hu;refine(h1 (M id) 0 cap ns w c3 (by omega) c1).mono fun e w' hh=>?_;obtain⟨rfl,q,rfl⟩:=hh;have hlen:(nH ns++List.replicate (ns.length-(nH ns).length) 0).length=ns.length:=by
      have:=ub ns;simp;omega
     have R2:=R.putRow hb (nH ns++List.replicate (ns.length-(nH ns).length) 0) hlen q;refine⟨_,M,rfl,R2,?_⟩;simp only[VA,aB]at F6⊢;obtain⟨g1,_,g3⟩:=F6;refine⟨g1,by simp[cN],fun s hs=>?_⟩;simp only[aF,bA,dy.info,al,ai]at hs;subst hs;obtain⟨U1,t,gS,e1,e2,e3,e4⟩:=g3 (1,ns.length) (by rw[hb];simp[dy.info]);simp only[Value.slice.injEq]at e1;obtain⟨_,_,rfl⟩:=e1;refine⟨_,cap,t,gS,rfl,cQ (ub ns) c1,?_,by simpa using e4,fun _=>by simp⟩;have hB:=(R.grown (sQ w q)).blk id;rw[hb]at hB;obtain⟨c,t',f1,_,_⟩:=hB;simp only[aB]at f1;have hlt:M id<(Sort.ahead w q).heap.size:=(ck.1 f1).1;have e5:w.shape? (M id)=(Sort.putRow (Value.int .i64) (Sort.ahead w q) (M id) 0 (nH ns++List.replicate (ns.length-(nH ns).length) 0).toArray).shape? (M id):=by
      rw[xh f1];simp only[World.shape?];rw[dC _ hlt];have:w.heap[M id]? =some (.cells c t' (0,0)):=f1;rw[this];simp[Sort.putCells]
     have e6:=e3;rw[e5]at e6;exact e6
    ·simp at h
   ·simp at h
  ·simp at h
 ·simp at h
end
section
def mostL(ns:List Int):Int:=Lib.maxOf ns
def leastL(ns:List Int):Int:=Lib.minOf ns
def qE(f:List Int->Int)(args:List AV)(hp:Hl)(nx:Nat):Option (AV×Hl×Nat) :=
 match args with
 |[.pv (.slice es)]=>match qU es with
  |some (n::r)=>if(n::r).length<=2^30 then some (.pv (.int .i64 (f (n::r))),hp,nx)else none
  |_=>none
 |_=>none
theorem foldP_raw{E:Env}{n:Nat}(f:List Int->Int)(pV:Ed E n)
    (h1:∀(b off n' c:Nat) (zs:List Int) (w:World),0<n'->n'<=zs.length->n'<=9223372036854775807->(∀j,j<zs.length->w.cell? ⟨b,off+j,none⟩=some (.int .i64 (zs.getD j 0))) ->
     Calls E.P (E.ρ n) #[.slice (some ⟨b,off,none⟩) n' c] w fun e w'=>e=.returned (.int .i64 (f (zs.take n')))/\w'=w)
    (args:List AV) (hp:Hl) (nx:Nat) (v:AV) (hp':Hl) (cE:Nat) (h:qE f args hp nx=some (v,hp',cE)):kl E n args hp nx v hp' cE:=by
 refine⟨pV,fun X M F a w vs hX R hv=>?_⟩;subst hX;unfold qE at h;split at h
 ·rename_i es;split at h
  ·rename_i m r hn;split at h
   ·rename_i hl;obtain rfl:=qV hn;simp only[ai,b9]at h;obtain⟨rfl,rfl,rfl⟩:=h;simp only[ee,VA,VP]at hv;obtain⟨u,_,rfl,⟨ad,len,cap,rfl,rfl,e2,e3⟩,rfl⟩:=hv;obtain⟨b,o,sz,rfl,_,e4⟩:=e3 (by simp);have lK:sz=1:=by
     simp only[aX,dm,cF]at e4;exact e4.1.symm
    subst lK;have hc:∀(j:Nat) (n:Int),(m::r)[j]? =some n->w.cell? ⟨b,o+j,none⟩=some (.int .i64 n):=sr e4;have hlen:((m::r).map cF).length=(m::r).length:=al ..
    rw[hlen]at *;refine(h1 b o (m::r).length cap (m::r) w (by simp) (ax _) (by omega) (fun j hj=>?_)).mono fun e w' hh=>?_
    ·have Cb:j<(m::r).length:=hj;rw[hc j (m::r)[j] (nR Cb),List.getD_eq_getElem?_getD,nR Cb];rfl
    ·obtain⟨rfl,rfl⟩:=hh;rw[zA];exact⟨_,M,rfl,R,by simp only[VA,VP]⟩
   ·simp at h
  ·simp at h
 ·simp at h
theorem DF{T:cL}{n:Nat}{f:List Int->Int}(S:xF T n (qE f))(ns:List Int)(h:ns≠[])(hl:ns.length<=2^30):ba T n [.slice (ns.map cF)] (.int .i64 (f ns)):=by
 refine⟨S.raw,S.own,none,?_⟩;have:qE f (dK [.slice (ns.map cF)]) [] 0=some (.pv (.int .i64 (f ns)),[],0):=by
  cases ns with
  |nil=>exact absurd rfl h
  |cons m r=>simp only[dK,qE,mL];rw[aW hl]
 unfold dq;rw[im S.fP this];simp only[dD,dF,eZ]
/-! ### M9,each once -/
def eo(ns:List Int):List Int:=nH (ga ns)
theorem rJ(l:List Int)(hs:l.Pairwise (fun a b=>a<=b)):∀m,m<=l.length->(Lib.compactUpTo l.toArray m).Pairwise (fun a b=>a<b)/\∀x,x∈Lib.compactUpTo l.toArray m↔∃j,j<m/\l[j]? =some x
 |0,_=>by simp[Lib.compactUpTo]
 |m+1,hm=>by
  obtain⟨h1,h2⟩:=rJ l hs m (by omega);have NC:m<l.length:=by omega
  have hg:l.toArray[m]! =l[m]:=by simp[NC]
  rw[Lib.compactUpTo_succ];by_cases hk:Lib.keeps l.toArray m=true
  ·rw[aW hk,hg];refine⟨?_,fun x=>?_⟩
   ·rw[vT];refine⟨h1,by simp,fun a ha b hb=>?_⟩;simp only[gN]at hb;subst hb;obtain⟨j,hj,ha⟩:=(h2 a).1 ha;have pj:j<l.length:=by omega
    have VE:a=l[j]:=by
     have:=(aA.1 ha).2;exact this.symm
    have wU:m-1<l.length:=by omega
    have VL:l[j]<=l[m-1]:=by
     by_cases e:j=m-1
     ·subst e;exact TN _
     ·exact List.pairwise_iff_getElem.1 hs j (m-1) pj wU (by omega)
    have VM:l[m-1]<=l[m]:=List.pairwise_iff_getElem.1 hs (m-1) m wU NC (by omega);have ne:l[m]≠l[m-1]:=by
     simp only[Lib.keeps,bO]at hk;rcases hk with h|h
     ·omega
     ·rw[hg]at h;simpa[wU]using h
    omega
   ·rw[ct,h2];simp only[gN];constructor
    ·rintro(⟨j,hj,hx⟩|rfl)
     ·exact⟨j,by omega,hx⟩
     ·exact⟨m,by omega,by simp[NC]⟩
    ·rintro⟨j,hj,hx⟩
     by_cases e:j=m
     ·subst e;right;have:=(aA.1 hx).2;exact this.symm
     ·exact .inl ⟨j,by omega,hx⟩
  ·rw[aw hk,bH];refine⟨h1,fun x=>?_⟩;rw[h2];simp only[Lib.keeps,bO,not_or,Classical.not_not]at hk;obtain⟨F4,NB⟩:=hk;have wU:m-1<l.length:=by omega
   rw[hg]at NB;have Uz:l[m]=l[m-1]:=by simpa[wU]using NB
   constructor
   ·rintro⟨j,hj,hx⟩
    exact⟨j,by omega,hx⟩
   ·rintro⟨j,hj,hx⟩
    by_cases e:j=m
    ·subst e;refine⟨j-1,by omega,?_⟩;have:=(aA.1 hx).2;rw[nR wU,<-Uz,this]
    ·exact⟨j,by omega,hx⟩
theorem FI(ns:List Int):(eo ns).Pairwise (fun a b=>a<b):=(rJ (ga ns) (kL ns) (ga ns).length (ax _)).1
theorem jx(ns:List Int)(x:Int):x∈eo ns↔x∈ns:=by
 unfold eo nH Lib.compact;rw[(rJ (ga ns) (kL ns) (ga ns).length (ax _)).2,<-FP ns x,M8];constructor
 ·rintro⟨j,_,h⟩;exact⟨j,h⟩
 ·rintro⟨j,h⟩;exact⟨j,(aA.1 h).1,h⟩
theorem fu(ns:List Int):(eo ns).length<=ns.length:=by
 have h1:=ub (ga ns);rw[kK]at h1;exact h1
theorem xk:∀{a b:List Int},a.Pairwise (fun x y=>x<y)->b.Pairwise (fun x y=>x<y)->(∀x,x∈a↔x∈b)->a=b
 |[],[],_,_,_=>rfl
 |[],y::s,_,_,h=>by have:=(h y).2 (by simp);simp at this
 |x::r,[],_,_,h=>by have:=(h x).1 (by simp);simp at this
 |x::r,y::s,ha,hb,h=>by
  rw[gO]at ha hb;have MU:x=y:=by
   have h1:=(h x).1 (by simp);have h2:=(h y).2 (by simp);rcases aS.1 h1 with h1|h1
   ·exact h1
   ·rcases aS.1 h2 with h2|h2
    ·exact h2.symm
    ·have:=ha.1 y h2;have:=hb.1 x h1;omega
  subst MU;refine de (x:: ·) (xk ha.2 hb.2 fun z=>?_);constructor
  ·intro hz;have:=ha.1 z hz;rcases aS.1 ((h z).1 (by simp[hz]))with h1|h1
   ·omega
   ·exact h1
  ·intro hz;have:=hb.1 z hz;rcases aS.1 ((h z).2 (by simp[hz]))with h1|h1
   ·omega
   ·exact h1
end
section
def fk(v:AV)(hp:Hl)(sz:Nat)(es:List (List PV))(lo nx:Nat):Prop:=(es=[]/\v=.bu)\/∃id,v=.ms id/\lo<=id/\id<nx/\ah hp id=.row sz es
section
variable{v:AV}{hp hp':Hl}{sz lo nx cE:Nat}{es:List (List PV)}
theorem fk.nil:fk .bu hp sz [] lo nx:=.inl ⟨rfl,rfl⟩
theorem fk.mono(h:fk v hp sz es lo nx)(h1:∀k,lo<=k->k<nx->ah hp' k=ah hp k)(h2:nx<=cE):fk v hp' sz es lo cE:=by
 rcases h with h|⟨id,a,b,c,d⟩
 ·exact .inl h
 ·exact .inr ⟨id,a,b,by omega,by rw[h1 id b c,d]⟩
theorem fk.push(h:fk v hp sz es lo nx)(b:dy):fk v ((nx,b)::hp) sz es lo (nx+1):=by
 refine h.mono (fun k h1 h2=>?_) (Nat.le_succ _);have:¬nx=k:=by omega
 simp only[aF,this,aI]
theorem fk.low(h:fk v hp sz es lo nx){i:Nat}(hi:i<lo)(b:dy):fk v ((i,b)::hp) sz es lo nx:=by
 refine h.mono (fun k h1 h2=>?_) (ax _);have:¬i=k:=by omega
 simp only[aF,this,aI]
theorem fk.over(h:fk v hp sz es lo nx){i:Nat}{b:dy}(hi:i<lo\/nx<=i):fk v ((i,b)::hp) sz es lo nx:=by
 refine h.mono (fun k h1 h2=>?_) (ax _);have:¬i=k:=by omega
 simp only[aF,this,aI]
theorem fk.up(h:fk v hp sz es lo nx)(h2:nx<=cE):fk v hp sz es lo cE:=h.mono (fun k _ _=>rfl) h2
theorem fk.snap(h:fk v hp sz es lo nx):dD (ah hp) v=some (.slice es):=by
 rcases h with⟨rfl,rfl⟩|⟨id,rfl,b,c,d⟩
 ·rfl
 ·simp only[dD,dF,d]
theorem fk.src(h:fk v hp sz es lo nx):dW (ah hp) v=some es:=by
 rcases h with⟨rfl,rfl⟩|⟨id,rfl,b,c,d⟩
 ·rfl
 ·simp only[dW,d]
theorem fk.len(h:fk v hp sz es lo nx):aO (ah hp) v=some es.length:=by
 rcases h with⟨rfl,rfl⟩|⟨id,rfl,b,c,d⟩
 ·rfl
 ·simp only[aO,d]
theorem fk.app(h:fk v hp sz es lo nx)(Hu:lo<=nx)(es':List (List PV))(hl:es.length+es'.length<=2^30) :
    ∃v' W n,fT (ah hp) nx sz v es'=some (v',W,n)/\(∀k,k<lo->ah (W++hp) k=ah hp k)/\fk v' (W++hp) sz (es++es') lo (nx+n):=by
 rcases h with⟨rfl,rfl⟩|⟨id,rfl,b,c,d⟩
 ·cases es' with
  |nil=>exact⟨.bu,[],0,rfl,fun k _=>rfl,.inl ⟨rfl,rfl⟩⟩
  |cons e r =>
   have P1:(e::r).length<=2^30:=by simpa using hl
   refine⟨.ms nx,[(nx,.row sz (e::r))],1,by simp only[fT,P1,bA],fun k hk=>?_,.inr ⟨nx,rfl,Hu,by omega,?_⟩⟩
   ·have:¬nx=k:=by omega
    simp only[aG,aE,aF,this,aI]
   ·simp only[aG,aE,aF,bA]
 ·refine⟨.ms nx,[(id,.dead),(nx,.row sz (es++es'))],1,?_,fun k hk=>?_,.inr ⟨nx,rfl,Hu,by omega,?_⟩⟩
  ·simp only[fT,eN,d,cm,hl,bA]
  ·have h1:¬nx=k:=by omega
   have h2:¬id=k:=by omega
   simp only[aG,aE,aF,h1,h2,aI]
  ·have h2:¬id=nx:=by omega
   simp only[aG,aE,aF,h2,bA,aI]
theorem fk.mj(h:fk v hp sz es lo nx)(Hu:lo<=nx)(e:List PV)(hl:es.length+1<=2^30) :
    ∃v' W n,fT (ah ((nx,.row sz [e])::hp)) (nx+1) sz v [e]=some (v',W,n)/\(∀k,k<lo->ah (W++(nx,.row sz [e])::hp) k=ah hp k)/\fk v' (W++(nx,.row sz [e])::hp) sz (es++[e]) lo (nx+1+n):=by
 obtain⟨v',W,n,h1,h2,h3⟩:=(h.push (.row sz [e])).app (by omega) [e] hl;refine⟨v',W,n,h1,fun k hk=>?_,h3⟩;have:¬nx=k:=by omega
 rw[h2 k hk];simp only[aF,this,aI]
end
theorem ba.Ln{T:cL}{n:Nat}{ps:List PV}{p:PV}(h:ba T n ps p)(hf:T.flat n=false){args:List AV}{d:Option Nat}{l:List aV}{st:St}{K:St->Prop}(h0:cd args=none)(h1:cd (gi (fB args) st args).2=some ps)
    (hk:tM T l ⟨dt (gi (fB args) st args).1 d (.pv p),(gi (fB args) st args).1.hp,(gi (fB args) st args).1.nx⟩ K):iN T n args d l st K:=by
 obtain⟨hr,ho,o,hc⟩:=h;refine⟨_,?_,hk⟩;unfold eM;simp only[hr,h0,hf,h1,hc,ho,rj]
theorem Ec{n:Int}(h1:0<=n)(h2:n<256):IntKind.u8.wrap n=n:=by
 simp only[IntKind.wrap,IntKind.bits,IntKind.signed];simp;omega
theorem zy{n:Int}(h1:0<=n)(h2:n<18446744073709551616):IntKind.u64.wrap n=n:=by
 simp only[IntKind.wrap,IntKind.bits,IntKind.signed];simp;omega
theorem FZ(n:Int):IntKind.u8.wrap n=n % 256:=by
 simp only[IntKind.wrap,IntKind.bits,IntKind.signed];simp
theorem xy(n:Int):IntKind.u64.wrap n=n % 18446744073709551616:=by
 simp only[IntKind.wrap,IntKind.bits,IntKind.signed];simp
end
end Go.Proofs.YtkjehofblipcaaaGreatDoor.Ab
