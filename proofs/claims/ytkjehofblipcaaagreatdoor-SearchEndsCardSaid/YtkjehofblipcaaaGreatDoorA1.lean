/- The layer, part 1: Ab30, Ab31, Ab32, Ab33, Ab34, Ab36, Ab37, Ab38, Ab39, Ab35, Ab40, Ab41, Ab42, Ab43, Ab44, Ab45, Ab46, Ab53, Sp0, Ab55, Ab47, Ab48, Ab49, Ab51, Ab52, Ab57, Ab58, SpU. -/
import Derived.Test.YtkjehofblipcaaaGreatDoorA0
set_option linter.unusedVariables false
set_option linter.unusedSimpArgs false
namespace Go.Proofs.YtkjehofblipcaaaGreatDoor.Ab
open Go
section
section
variable{E:Env}{N:Nat}{o:Oper}{F:Fr}{H:Hp}{U:Nat->Prop}
def kD(H:Hp)(sz:Nat)(n:Int):AV->Option AV
 | .pv (.slice es)=>if 0<=n then match es[n.toNat]? with
     |some e=>if Nat.beq e.length sz=true then some (.pv (.gX e 0))else none
     |none=>none
  else none
 | .ms id=>match H id with
  | .row s es=>if s=sz/\0<=n/\n.toNat<es.length then some (.ptr id n.toNat 0)else none
  |_=>none
 | .gd id off len=>match H id with
  | .row s es=>if s=sz/\0<=n/\n.toNat<len then some (.ptr id (off+n.toNat) 0)else none
  |_=>none
 |_=>none
def th:AV->Option Int
 | .pv (.int _ n)=>some n
 |_=>none
def AZ:AV->Option Nat
 | .ptr id 0 0=>some id
 |_=>none
def fR(H:Hp)(nx sz:Nat)(s:AV)(es':List (List PV)):Option (AV×List (Nat×dx)×Nat) :=
 match s with
 | .bu=>match es' with
  |[]=>some (.bu,[],0)
  |e::r=>if(e::r).length<=2^30 then some (.ms nx,[(nx,.row sz (e::r))],1)else none
 |v=>match eQ H sz v with
  |some (id,es)=>if es.length+es'.length<=2^30 then some (.ms nx,[(id,.dead),(nx,.row sz (es++es'))],1)else none
  |none=>none
def mapOf(H:Hp):AV->Option (Nat×List (PV×PV))
 | .map id=>match H id with
  | .map es=>some (id,es)
  |_=>none
 |_=>none
def mu:AV->Option PV
 | .pv p=>some p
 |_=>none
theorem AN{H:Hp}{v:AV}{id:Nat}{es:List (PV×PV)}(h:mapOf H v=some (id,es)):v=.map id/\H id=.map es:=by
 unfold mapOf at h;split at h
 ·split at h
  ·rename_i he;simp at h;obtain⟨rfl,rfl⟩:=h;exact⟨rfl,he⟩
  ·simp at h
 ·simp at h
theorem sj{v:AV}{p:PV}(h:mu v=some p):v=.pv p:=by
 unfold mu at h;split at h
 ·simp at h;subst h;rfl
 ·simp at h
def bE(F:Fr)(H:Hp)(nx:Nat):fE->Option (AV×List (Nat×dx)×Nat)
 | .mv x=>some (dF F x,[],0)
 | .pick c x y=>match dF F c with
  | .pv (.bool t)=>some (oK t (dF F x) (dF F y),[],0)
  |_=>none
 | .alloc cs=>some (.ptr nx 0 0,[(nx,.var cs)],1)
 | .box x=>match cellsOf (dF F x)with
  |some cs=>if lG cs=true then some (.ptr nx 0 0,[(nx,.var cs)],1)else none
  |none=>none
 | .build zs ps=>match ft F zs ps with
  |some cs=>some (jY cs,[],0)
  |none=>none
 | .cr sz len zs ps=>match ft F zs ps with
  |some cs=>match ca cs with
   |some pl=>if bt F ps=true then some (.ms nx,[(nx,.row sz (chunk sz len pl))],1)else none
   |none=>none
  |none=>none
 | .load agg n x=>match fk H (dF F x)with
  |some cs=>match iY agg n cs with
   |some v=>some (v,[],0)
   |none=>none
  |none=>none
 | .store m x y=>match cellsOf (dF F y)with
  |some cs=>match jA H (dF F x) cs with
   |some (id,B)=>if Nat.beq cs.length m=true/\lG cs=true then some (.bot,[(id,B)],0)else none
   |none=>none
  |none=>none
 | .jS x=>if dQ H (dF F x)=true then some (dF F x,[],0)else none
 | .bin op none x y=>match aa op (dF F x) (dF F y)with
  |some v=>some (v,[],0)
  |none=>none
 | .bin op (some k) x y=>match je H k (x.DL||y.DL) (dF F x) (dF F y)with
  |some b=>match G3 op b with
   |some c=>some (.pv (.bool c),[],0)
   |none=>none
  |none=>none
 | .not x=>match dF F x with
  | .pv (.bool b)=>some (.pv (.bool (!b)),[],0)
  |_=>none
 | .neg x=>match dF F x with
  | .pv (.int k n)=>some (.pv (.int k (k.wrap (0-n))),[],0)
  |_=>none
 | .conv k x=>match dF F x with
  | .pv (.int _ n)=>some (.pv (.int k (k.wrap n)),[],0)
  |_=>none
 | .lr n x=>some ((match dF F x with| .pv p=>.pv (.iface n p)|v=>.iface n v),[],0)
 | .xa n f c=>some (mkFun n (fg F f) (fg F c),[],0)
 | .fieldAddr off x=>match jQ off (dF F x)with
  |some v=>if dQ H (dF F x)=true then some (v,[],0)else none
  |none=>none
 | .ox agg off n x=>match xK (dF F x)with
  |some cs=>match iY agg n (cs.drop off)with
   |some v=>some (v,[],0)
   |none=>none
  |none=>none
 | .fC sz x i=>match th (dF F i)with
  |some n=>match kD H sz n (dF F x)with
   |some v=>some (v,[],0)
   |none=>none
  |none=>none
 | .uS agg len sz x i=>match th (dF F i)with
  |some n=>match xK (dF F x)with
   |some cs=>if 0<=n/\n.toNat<len then(match iY agg sz (cs.drop (n.toNat*sz))with
    |some v=>some (v,[],0)
    |none=>none)else none
   |none=>none
  |none=>none
 | .dA len sz x i=>match th (dF F i)with
  |some n=>match iP (n.toNat*sz) (dF F x)with
   |some v=>if dQ H (dF F x)=true/\0<=n/\n.toNat<len then some (v,[],0)else none
   |none=>none
  |none=>none
 | .slice sz x lo hi=>match nd F lo,nd F hi with
  |some l,some h=>match nX H sz (l.getD 0) h (dF F x)with
   |some v=>some (v,[],0)
   |none=>none
  |_,_=>none
 | .hY len sz x none none=>match AZ (dF F x)with
  |some id=>match H id with
   | .var cs=>match ca cs with
    |some pl=>if len*sz<=pl.length then some (.pv (.slice (chunk sz len pl)),[(id,.dead)],0)else none
    |none=>none
   |_=>none
  |none=>match zT H len sz (dF F x)with
   |some v=>some (v,[],0)
   |none=>none
 | .append sz bytes s x=>match dV H (dF F x)with
  |some es'=>if cn sz es'=true then fR H nx sz (dF F s) es' else none
  |none=>none
 | .len x=>match aS H (dF F x)with
  |some n=>some (.pv (.int .i64 n),[],0)
  |none=>none
 | .uY x=>match dF F x with
  | .pv (.str s)=>some (.pv (.int .i64 s.size),[],0)
  |_=>none
 | .G2 x=>match dV H (dF F x)with
  |some es=>match o9 es with
   |some ns=>some (.pv (.str (tY ns)),[],0)
   |none=>none
  |none=>none
 | .wm n=>some (.pv (.int .i64 n),[],0)
 | .extract x i=>match gA i (dF F x)with
  |some v=>some (v,[],0)
  |none=>none
 | .t8 xs=>match Fj Kc (fg F xs)with
  |some v=>some (v,[],0)
  |none=>none
 | .tb xs=>match Fj Kd (fg F xs)with
  |some v=>some (v,[],0)
  |none=>none
 | .mkMap=>some (.map nx,[(nx,.map [])],1)
 | .jR s ok z m k=>match mapOf H (dF F m),mu (dF F k)with
  |some (_,es),some x=>match lV s x es with
   |some r=>some (.pv (rV ok z r),[],0)
   |none=>none
  |_,_=>none
 | .lj s m k v=>match mapOf H (dF F m),mu (dF F k),mu (dF F v)with
  |some (id,es),some x,some p=>match oI s x p es with
   |some es'=>some (.bot,[(id,.map es')],0)
   |none=>none
  |_,_,_=>none
 |_=>none
theorem cL.used{v:AV}{W:List (Nat×dx)}{U' SR:Nat->Prop}(h:cL E N o F H U v W U')(hu:∀i,U' i->SR i):cL E N o F H U v W SR:=by
 intro X M a w Q hE hN R;refine Oper.wp_mono ?_ (h X M a w Q hE hN R)
 rintro a' w' ⟨M',R'⟩
 exact⟨M',R'.pr hu⟩
theorem yV{v:AV}{n:Int}(h:th v=some n):∃k,v=.pv (.int k n):=by
 unfold th at h;split at h <;>simp at h;subst h;exact⟨_,rfl⟩
theorem B0{v:AV}{id:Nat}(h:AZ v=some id):v=.ptr id 0 0:=by
 unfold AZ at h;split at h <;>simp at h;subst h;rfl
theorem Hv(hE:E.OK){sz:Nat}{x i:AO}{k:IntKind}{n:Int}{v:AV}(hc:ey E o=some (.fC sz x i))(hd:∀k,o.dst=some k->k<N)(h1:dF F i=.pv (.int k n))(h2:kD H sz n (dF F x)=some v):cL E N o F H U v [] U:=by
 unfold kD at h2;split at h2
 ·rename_i es ex;split at h2
  ·rename_i h0;split at h2
   ·rename_i e he;split at h2
    ·rename_i hl;simp at h2;subst h2;exact AD hE hc hd ex h1 h0 he (cU hl)
    ·simp at h2
   ·simp at h2
  ·simp at h2
 ·rename_i id ex;split at h2
  ·rename_i s es dT;split at h2
   ·rename_i hb;obtain⟨rfl,h0,hl⟩:=hb;simp at h2;subst h2;exact AB hE hc hd ex dT h1 h0 hl
   ·simp at h2
  ·simp at h2
 ·rename_i id off len ex;split at h2
  ·rename_i s es dT;split at h2
   ·rename_i hb;obtain⟨rfl,h0,hl⟩:=hb;simp at h2;subst h2;exact wg hE hc hd ex dT h1 h0 hl
   ·simp at h2
  ·simp at h2
 ·simp at h2
theorem Gw(hE:E.OK){sz bytes nx:Nat}{s x:AO}{es':List (List PV)}{v:AV}{W:List (Nat×dx)}{n:Nat}(hc:ey E o=some (.append sz bytes s x))(hd:∀k,o.dst=some k->k<N)(h1:dV H (dF F x)=some es')(h2:cn sz es'=true)
    (h3:fR H nx sz (dF F s) es'=some (v,W,n)) (hk:0<n->¬U nx):cL E N o F H U v W (fun i=>U i\/(0<n/\i=nx)):=by
 unfold fR at h3;split at h3
 ·rename_i es;split at h3
  ·simp at h3;obtain⟨rfl,rfl,rfl⟩:=h3;exact(rI hE hc hd (by assumption) h1).used fun i h=>.inl h
  ·rename_i e r;split at h3
   ·rename_i hl;simp only[ai,aZ]at h3;obtain⟨rfl,rfl,rfl⟩:=h3;exact(t7 hE hc hd (by assumption) h1 (rG h2) (by simp) hl (hk (by omega))).used fun i h=>h.imp id fun h=>⟨by omega,h⟩
   ·simp at h3
 ·split at h3
  ·rename_i id es hb;split at h3
   ·rename_i hl;simp only[ai,aZ]at h3;obtain⟨rfl,rfl,rfl⟩:=h3;exact(zS hE hc hd hb h1 (rG h2) hl (hk (by omega))).used fun i h=>h.imp (fun h=>h) fun h=>⟨by omega,h⟩
   ·simp at h3
  ·simp at h3
set_option maxHeartbeats 4000000 in
theorem uk(hE:E.OK){op:fE}{v:AV}{W:List (Nat×dx)}{n nx:Nat}(h:bE F H nx op=some (v,W,n))(hc:ey E o=some op)(hd:∀k,o.dst=some k->k<N)(hn:op.lT=true->o.dst=none)(hk:0<n->¬U nx) :
    cL E N o F H U v W (fun i=>U i\/(0<n/\i=nx)):=by
 have qV:∀i,(U i\/i=nx)->U i\/(0<1/\i=nx):=fun i h=>h.imp id fun h=>⟨by omega,h⟩;have hold:∀i,U i->U i\/(0<0/\i=nx):=fun i h=>.inl h;cases op with
 |mv x=>simp[bE]at h;obtain⟨rfl,rfl,rfl⟩:=h;exact(Ky hE hc hd).used hold
 |pick c a b =>
  simp only[bE]at h;split at h
  ·simp at h;obtain⟨rfl,rfl,rfl⟩:=h;exact(Ft hE hc hd (by assumption)).used hold
  ·simp at h
 |alloc cs=>simp[bE]at h;obtain⟨rfl,rfl,rfl⟩:=h;exact(Bz hE hc hd (hk (by omega))).used qV
 |box x =>
  simp only[bE]at h;split at h
  ·split at h
   ·simp at h;obtain⟨rfl,rfl,rfl⟩:=h;exact(GG hE hc hd (hk (by omega)) (by assumption) (by assumption)).used qV
   ·simp at h
  ·simp at h
 |build zs ps =>
  simp only[bE]at h;split at h
  ·simp at h;obtain⟨rfl,rfl,rfl⟩:=h;exact(BI hE hc hd (by assumption)).used hold
  ·simp at h
 |cr sz len zs ps =>
  simp only[bE]at h;split at h
  ·split at h
   ·split at h
    ·simp at h;obtain⟨rfl,rfl,rfl⟩:=h;exact(zY hE hc hd (hk (by omega)) (by assumption) (by assumption) (by assumption)).used qV
    ·simp at h
   ·simp at h
  ·simp at h
 |load agg n x =>
  simp only[bE]at h;split at h
  ·split at h
   ·simp at h;obtain⟨rfl,rfl,rfl⟩:=h;exact(Fh hE hc hd (by assumption) (by assumption)).used hold
   ·simp at h
  ·simp at h
 |store m x y =>
  simp only[bE]at h;split at h
  ·split at h
   ·split at h
    ·rename_i hb;simp at h;obtain⟨rfl,rfl,rfl⟩:=h;exact(CT hE hc (hn rfl) (by assumption) hb.1 hb.2 (by assumption)).used hold
    ·simp at h
   ·simp at h
  ·simp at h
 |jS x =>
  simp only[bE]at h;split at h
  ·simp at h;obtain⟨rfl,rfl,rfl⟩:=h;exact(AX hE hc hd (by assumption)).used hold
  ·simp at h
 |bin op k x y =>
  cases k with
  |none =>
   simp only[bE]at h;split at h
   ·simp at h;obtain⟨rfl,rfl,rfl⟩:=h;exact(GF hE hc hd (by assumption)).used hold
   ·simp at h
  |some k =>
   simp only[bE]at h;split at h
   ·split at h
    ·simp at h;obtain⟨rfl,rfl,rfl⟩:=h;exact(JG hE hc hd (by assumption) (by assumption)).used hold
    ·simp at h
   ·simp at h
 |not x =>
  simp only[bE]at h;split at h
  ·simp at h;obtain⟨rfl,rfl,rfl⟩:=h;exact(HW hE hc hd (by assumption)).used hold
  ·simp at h
 |neg x =>
  simp only[bE]at h;split at h
  ·simp only[ai,aZ]at h;obtain⟨rfl,rfl,rfl⟩:=h;exact(HU hE hc hd (by assumption)).used hold
  ·simp at h
 |conv k x =>
  simp only[bE]at h;split at h
  ·simp at h;obtain⟨rfl,rfl,rfl⟩:=h;exact(EB hE hc hd (by assumption)).used hold
  ·simp at h
 |lr n x=>simp[bE]at h;obtain⟨rfl,rfl,rfl⟩:=h;exact(HS hE hc hd).used hold
 |xa n f c=>simp[bE]at h;obtain⟨rfl,rfl,rfl⟩:=h;exact(HQ hE hc hd).used hold
 |fieldAddr off x =>
  simp only[bE]at h;split at h
  ·split at h
   ·simp at h;obtain⟨rfl,rfl,rfl⟩:=h;exact(uG hE hc hd (by assumption) (by assumption)).used hold
   ·simp at h
  ·simp at h
 |ox agg off n x =>
  simp only[bE]at h;split at h
  ·split at h
   ·simp at h;obtain⟨rfl,rfl,rfl⟩:=h;exact(Ah hE hc hd (by assumption) (by assumption)).used hold
   ·simp at h
  ·simp at h
 |fC sz x i =>
  simp only[bE]at h;split at h
  ·rename_i n hi;obtain⟨k,hi⟩:=yV hi;split at h
   ·simp at h;obtain⟨rfl,rfl,rfl⟩:=h;exact(Hv hE hc hd hi (by assumption)).used hold
   ·simp at h
  ·simp at h
 |uS agg len sz x i =>
  simp only[bE]at h;split at h
  ·rename_i n hi;obtain⟨k,hi⟩:=yV hi;split at h
   ·split at h
    ·rename_i hb;split at h
     ·simp at h;obtain⟨rfl,rfl,rfl⟩:=h;exact(F4 hE hc hd (by assumption) hi hb.1 hb.2 (by assumption)).used hold
     ·simp at h
    ·simp at h
   ·simp at h
  ·simp at h
 |dA len sz x i =>
  simp only[bE]at h;split at h
  ·rename_i n hi;obtain⟨k,hi⟩:=yV hi;split at h
   ·split at h
    ·rename_i hb;simp at h;obtain⟨rfl,rfl,rfl⟩:=h;exact(AA hE hc hd hb.1 hi hb.2.1 hb.2.2 (by assumption)).used hold
    ·simp at h
   ·simp at h
  ·simp at h
 |slice sz x lo hi =>
  simp only[bE]at h;split at h
  ·split at h
   ·simp at h;obtain⟨rfl,rfl,rfl⟩:=h;exact(CN hE hc hd (by assumption) (by assumption) (by assumption)).used hold
   ·simp at h
  ·simp at h
 |hY len sz x lo hi =>
  cases lo with
  |some _=>simp[bE]at h
  |none =>
   cases hi with
   |some _=>simp[bE]at h
   |none =>
    simp only[bE]at h;split at h
    ·rename_i id dT;split at h
     ·split at h
      ·split at h
       ·simp at h;obtain⟨rfl,rfl,rfl⟩:=h;exact(wq hE hc hd (B0 dT) (by assumption) (by assumption) (by assumption)).used hold
       ·simp at h
      ·simp at h
     ·simp at h
    ·split at h
     ·simp at h;obtain⟨rfl,rfl,rfl⟩:=h;exact(Em hE hc hd (by assumption)).used hold
     ·simp at h
 |append sz bytes s x =>
  simp only[bE]at h;split at h
  ·split at h
   ·exact Gw hE hc hd (by assumption) (by assumption) h hk
   ·simp at h
  ·simp at h
 |len x =>
  simp only[bE]at h;split at h
  ·simp at h;obtain⟨rfl,rfl,rfl⟩:=h;exact(HJ hE hc hd (by assumption)).used hold
  ·simp at h
 |uY x =>
  simp only[bE]at h;split at h
  ·simp at h;obtain⟨rfl,rfl,rfl⟩:=h;exact(Fg hE hc hd (by assumption)).used hold
  ·simp at h
 |G2 x =>
  simp only[bE]at h;split at h
  ·split at h
   ·simp at h;obtain⟨rfl,rfl,rfl⟩:=h;exact(GA hE hc hd (by assumption) (by assumption)).used hold
   ·simp at h
  ·simp at h
 |wm n=>simp[bE]at h;obtain⟨rfl,rfl,rfl⟩:=h;exact(Ff hE hc hd).used hold
 |extract x i =>
  simp only[bE]at h;split at h
  ·simp at h;obtain⟨rfl,rfl,rfl⟩:=h;exact(xV hE hc hd (by assumption)).used hold
  ·simp at h
 |t8 xs =>
  simp only[bE]at h;split at h
  ·simp at h;obtain⟨rfl,rfl,rfl⟩:=h;exact(HO hE hc hd (by assumption)).used hold
  ·simp at h
 |tb xs =>
  simp only[bE]at h;split at h
  ·simp at h;obtain⟨rfl,rfl,rfl⟩:=h;exact(HP hE hc hd (by assumption)).used hold
  ·simp at h
 |mkMap=>simp only[bE,ai,aZ]at h;obtain⟨rfl,rfl,rfl⟩:=h;exact(CA hE hc hd (hk (by omega))).used qV
 |jR s ok z m k =>
  simp only[bE]at h;split at h
  ·rename_i id es x e1 e2;obtain⟨g1,g2⟩:=AN e1;split at h
   ·simp only[ai,aZ]at h;obtain⟨rfl,rfl,rfl⟩:=h;exact(AM hE hc hd g1 g2 (sj e2) (by assumption)).used hold
   ·simp at h
  ·simp at h
 |lj s m k v =>
  simp only[bE]at h;split at h
  ·rename_i id es x p e1 e2 e3;obtain⟨g1,g2⟩:=AN e1;split at h
   ·simp only[ai,aZ]at h;obtain⟨rfl,rfl,rfl⟩:=h;exact(AP hE hc g1 g2 (sj e2) (sj e3) (by assumption)).used hold
   ·simp at h
  ·simp at h
 |_=>simp[bE]at h
end
end
section
def im:List AO->List Nat
 |[]=>[]
 |x::r=>x.tmps++im r
def gV:List (Nat×Nat×AO)->List Nat
 |[]=>[]
 |(_,_,x)::r=>x.tmps++gV r
def kU:Option AO->List Nat
 |some x=>x.tmps
 |none=>[]
def fq:fE->List Nat
 | .mv x| .box x| .load _ _ x| .jS x| .not x| .neg x| .conv _ x| .Vh x| .G2 x| .lr _ x| .fieldAddr _ x| .ox _ _ _ x| .len x| .uY x| .extract x _=>x.tmps
 | .pick c a b=>c.tmps++(a.tmps++b.tmps)
 | .alloc _| .wm _| .mkMap| .TJ _| .CE _| .QT _| .other=>[]
 | .jR _ _ _ m k=>m.tmps++k.tmps
 | .lj _ m k v=>m.tmps++(k.tmps++v.tmps)
 | .build _ ps=>gV ps
 | .cr _ _ _ ps=>gV ps
 | .store _ x y| .bin _ _ x y| .fC _ x y| .dA _ _ x y| .uS _ _ _ x y| .append _ _ x y=>x.tmps++y.tmps
 | .xa _ f c=>im f++im c
 | .slice _ x lo hi| .hY _ _ x lo hi=>x.tmps++(kU lo++kU hi)
 | .call _ l| .t8 l| .tb l=>im l
 | .fK f l=>f.tmps++im l
def cu:AV->List Nat
 | .ptr id _ _=>[id]
 | .ms id=>[id]
 | .gd id _ _=>[id]
 | .tT id _ _=>[id]
 | .map id=>[id]
 |_=>[]
def iJ(F:Fr):fE->List Nat
 | .load _ _ x| .jS x| .fieldAddr _ x| .len x| .G2 x| .store _ x _| .fC _ x _| .dA _ _ x _| .slice _ x _ _| .hY _ _ x _ _| .jR _ _ _ x _| .lj _ x _ _=>cu (dF F x)
 | .bin _ (some _) x y| .append _ _ x y=>cu (dF F x)++cu (dF F y)
 |_=>[]
section
variable{F F':Fr}{H H':Hp}
theorem bD{x:AO}(h:∀t∈x.tmps,F' t=F t):dF F' x=dF F x:=by
 cases x with
 |t n=>exact h n (by simp[AO.tmps])
 |_=>rfl
theorem gq:∀{xs:List AO},(∀t∈im xs,F' t=F t)->fg F' xs=fg F xs
 |[],h=>rfl
 |x::r,h=>by
  simp only[fg];rw[bD fun t ht=>h t (by simp[im,ht]),gq fun t ht=>h t (by simp[im,ht])]
theorem oy:∀{ps:List (Nat×Nat×AO)} {zs:List AV},(∀t∈gV ps,F' t=F t)->ft F' zs ps=ft F zs ps
 |[],zs,h=>rfl
 |(off,n,x)::r,zs,h=>by
  simp only[ft];rw[bD fun t ht=>h t (by simp[gV,ht])];split
  ·split
   ·exact oy fun t ht=>h t (by simp[gV,ht])
   ·rfl
  ·rfl
theorem nK:∀{ps:List (Nat×Nat×AO)},(∀t∈gV ps,F' t=F t)->bt F' ps=bt F ps
 |[],h=>rfl
 |(off,n,x)::r,h=>by
  simp only[bt];rw[bD fun t ht=>h t (by simp[gV,ht]),nK fun t ht=>h t (by simp[gV,ht])]
theorem tW{x:Option AO}(h:∀t∈kU x,F' t=F t):nd F' x=nd F x:=by
 cases x with
 |none=>rfl
 |some x =>
  simp only[nd];rw[bD (x:=x) h]
theorem vY{v:AV}(h:∀i∈cu v,H' i=H i):fk H' v=fk H v:=by
 cases v with
 |ptr id i off=>simp only[fk];rw[h id (by simp[cu])]
 |pv p=>cases p <;>rfl
 |_=>rfl
theorem ny{v:AV}(h:∀i∈cu v,H' i=H i):dQ H' v=dQ H v:=by
 cases v with
 |ptr id i off=>simp only[dQ];rw[h id (by simp[cu])]
 |pv p=>cases p <;>rfl
 |_=>rfl
theorem Cw{v:AV}(h:∀i∈cu v,H' i=H i):aS H' v=aS H v:=by
 cases v with
 |ms id=>simp only[aS];rw[h id (by simp[cu])]
 |gd id off len=>simp only[aS];rw[h id (by simp[cu])]
 |pv p=>cases p <;>rfl
 |_=>rfl
theorem BC{len sz:Nat}{v:AV}(h:∀i∈cu v,H' i=H i):zT H' len sz v=zT H len sz v:=by
 cases v with
 |ptr id i off=>simp only[zT];rw[h id (by simp[cu])]
 |pv p=>cases p <;>rfl
 |_=>rfl
theorem vC{v:AV}(h:∀i∈cu v,H' i=H i):dV H' v=dV H v:=by
 cases v with
 |tT id off len=>simp only[dV];rw[h id (by simp[cu])]
 |ms id=>simp only[dV];rw[h id (by simp[cu])]
 |gd id off len=>simp only[dV];rw[h id (by simp[cu])]
 |pv p=>cases p <;>rfl
 |_=>rfl
theorem zV{sz:Nat}{v:AV}(h:∀i∈cu v,H' i=H i):eQ H' sz v=eQ H sz v:=by
 cases v with
 |ms id=>simp only[eQ];rw[h id (by simp[cu])]
 |gd id off len =>
  cases off with
  |zero=>simp only[eQ];rw[h id (by simp[cu])]
  |succ n=>rfl
 |pv p=>cases p <;>rfl
 |_=>rfl
theorem CV{sz l:Nat}{u:Option Nat}{v:AV}(h:∀i∈cu v,H' i=H i):nX H' sz l u v=nX H sz l u v:=by
 cases v with
 |ms id=>simp only[nX];rw[h id (by simp[cu])]
 |gd id off len=>simp only[nX];rw[h id (by simp[cu])]
 |pv p=>cases p <;>rfl
 |_=>rfl
theorem Cd{sz:Nat}{n:Int}{v:AV}(h:∀i∈cu v,H' i=H i):kD H' sz n v=kD H sz n v:=by
 cases v with
 |ms id=>simp only[kD];rw[h id (by simp[cu])]
 |gd id off len=>simp only[kD];rw[h id (by simp[cu])]
 |pv p=>cases p <;>rfl
 |_=>rfl
theorem zt{v:AV}{cs:List AV}(h:∀i∈cu v,H' i=H i):jA H' v cs=jA H v cs:=by
 cases v with
 |ptr id i off=>simp only[jA];rw[h id (by simp[cu])]
 |pv p=>cases p <;>rfl
 |_=>rfl
theorem BB{nx sz:Nat}{v:AV}{es:List (List PV)}(h:∀i∈cu v,H' i=H i):fR H' nx sz v es=fR H nx sz v es:=by
 cases v <;>simp only[fR] <;>rw[zV h]
theorem EG{k:J8}{c:Bool}{x y:AV}(hx:∀i∈cu x,H' i=H i)(hy:∀i∈cu y,H' i=H i):je H' k c x y=je H k c x y:=by
 have key:∀{v:AV} {id:Nat},id∈cu v->(∀i∈cu v,H' i=H i)->(H' id).info=(H id).info:=fun h1 h2=>by rw[h2 _ h1]
 unfold je;split <;>first|rfl|(rename_i id i a jd j b;rw[key (v:=.ptr id i a) (by simp[cu]) hx];done)|(rename_i id i off;rw[key (v:=.ptr id i off) (by simp[cu]) (by first|exact hx|exact hy)])|(rename_i id;rw[key (v:=.ms id) (by simp[cu]) (by first|exact hx|exact hy)])
theorem sR{v:AV}(h:∀i∈cu v,H' i=H i):mapOf H' v=mapOf H v:=by
 cases v with
 |map id=>simp only[mapOf];rw[h id (by simp[cu])]
 |pv p=>cases p <;>rfl
 |_=>rfl
theorem HZ{v:AV}{id:Nat}(h:AZ v=some id):id∈cu v:=by
 rw[B0 h];simp[cu]
theorem BW{op:fE}{k:Nat}(hF:∀t∈fq op,F' t=F t)(hH:∀i∈iJ F op,H' i=H i):bE F' H' k op=bE F H k op:=by
 cases op with
 |jR s ok z m kk =>
  simp only[fq]at hF;simp only[bE];rw[bD (x:=m) fun t ht=>hF t (by simp[ht]),bD (x:=kk) fun t ht=>hF t (by simp[ht]),sR hH]
 |lj s m kk v =>
  simp only[fq]at hF;simp only[bE];rw[bD (x:=m) fun t ht=>hF t (by simp[ht]),bD (x:=kk) fun t ht=>hF t (by simp[ht]),bD (x:=v) fun t ht=>hF t (by simp[ht]),sR hH]
 |mv x=>simp only[bE];rw[bD hF]
 |pick c a b =>
  simp only[fq]at hF;simp only[bE];rw[bD (x:=c) fun t ht=>hF t (by simp[ht]),bD (x:=a) fun t ht=>hF t (by simp[ht]),bD (x:=b) fun t ht=>hF t (by simp[ht])]
 |box x=>simp only[bE];rw[bD hF]
 |build zs ps=>simp only[bE];rw[oy hF]
 |cr sz len zs ps=>simp only[bE];rw[oy hF,nK hF]
 |load agg n x=>simp only[bE];rw[bD hF,vY hH]
 |store m x y =>
  simp only[fq]at hF;simp only[bE];rw[bD (x:=x) fun t ht=>hF t (by simp[ht]),bD (x:=y) fun t ht=>hF t (by simp[ht])];split
  ·rw[zt hH]
  ·rfl
 |jS x=>simp only[bE];rw[bD hF,ny hH]
 |bin op kk x y =>
  simp only[fq]at hF;cases kk with
  |none=>simp only[bE];rw[bD (x:=x) fun t ht=>hF t (by simp[ht]),bD (x:=y) fun t ht=>hF t (by simp[ht])]
  |some e =>
   simp only[iJ]at hH;simp only[bE];rw[bD (x:=x) fun t ht=>hF t (by simp[ht]),bD (x:=y) fun t ht=>hF t (by simp[ht]),EG (fun i hi=>hH i (by simp[hi])) (fun i hi=>hH i (by simp[hi]))]
 |not x=>simp only[bE];rw[bD hF]
 |neg x=>simp only[bE];rw[bD hF]
 |conv kk x=>simp only[bE];rw[bD hF]
 |lr n x=>simp only[bE];rw[bD hF]
 |xa n f c =>
  simp only[fq]at hF;simp only[bE];rw[gq (xs:=f) fun t ht=>hF t (by simp[ht]),gq (xs:=c) fun t ht=>hF t (by simp[ht])]
 |fieldAddr off x=>simp only[bE];rw[bD hF,ny hH]
 |ox agg off n x=>simp only[bE];rw[bD hF]
 |fC sz x i =>
  simp only[fq]at hF;simp only[bE];rw[bD (x:=x) fun t ht=>hF t (by simp[ht]),bD (x:=i) fun t ht=>hF t (by simp[ht])];split
  ·rw[Cd hH]
  ·rfl
 |uS agg len sz x i =>
  simp only[fq]at hF;simp only[bE];rw[bD (x:=x) fun t ht=>hF t (by simp[ht]),bD (x:=i) fun t ht=>hF t (by simp[ht])]
 |dA len sz x i =>
  simp only[fq]at hF;simp only[bE];rw[bD (x:=x) fun t ht=>hF t (by simp[ht]),bD (x:=i) fun t ht=>hF t (by simp[ht]),ny hH]
 |slice sz x lo hi =>
  simp only[fq]at hF;simp only[bE];rw[bD (x:=x) fun t ht=>hF t (by simp[ht]),tW (x:=lo) fun t ht=>hF t (by simp[ht]),tW (x:=hi) fun t ht=>hF t (by simp[ht])];split
  ·rw[CV hH]
  ·rfl
 |hY len sz x lo hi =>
  simp only[fq]at hF;cases lo with
  |some _=>rfl
  |none =>
   cases hi with
   |some _=>rfl
   |none =>
    simp only[bE];rw[bD (x:=x) fun t ht=>hF t (by simp[ht])];split
    ·rename_i id dT;rw[hH id (HZ dT)]
    ·rw[BC hH]
 |append sz bytes s x =>
  simp only[fq]at hF;simp only[iJ]at hH;simp only[bE];rw[bD (x:=s) fun t ht=>hF t (by simp[ht]),bD (x:=x) fun t ht=>hF t (by simp[ht]),vC fun i hi=>hH i (by simp[hi])];split
  ·rw[BB fun i hi=>hH i (by simp[hi])]
  ·rfl
 |len x=>simp only[bE];rw[bD hF,Cw hH]
 |uY x=>simp only[bE];rw[bD hF]
 |G2 x=>simp only[bE];rw[bD hF,vC hH]
 |extract x i=>simp only[bE];rw[bD hF]
 |t8 xs=>simp only[bE];rw[gq hF]
 |tb xs=>simp only[bE];rw[gq hF]
 |_=>rfl
theorem CJ{op:fE}(hF:∀t∈fq op,F' t=F t):iJ F' op=iJ F op:=by
 cases op <;>simp only[fq]at hF <;>simp only[iJ]
 case bin op k x y =>
  cases k <;>simp only[iJ];rw[bD (x:=x) fun t ht=>hF t (by simp[ht]),bD (x:=y) fun t ht=>hF t (by simp[ht])]
 case append=>rw[bD fun t ht=>hF t (by simp[ht]),bD fun t ht=>hF t (by simp[ht])]
 all_goals rw[bD fun t ht=>hF t (by simp[ht])]
end
def aU:AV->Option (Nat×List AV×List AV)
 | .pv (.func n fs cs)=>some (n,dL fs,dL cs)
 | .func n fs cs=>some (n,fs,cs)
 |_=>none
theorem mV{V:View}{as bs:List AV}{vs us:List Value}(h1:ed V as vs)(h2:ed V bs us):ed V (as++bs) (vs++us):=by
 induction as generalizing vs with
 |nil=>simp only[ed]at h1;subst h1;exact h2
 |cons a r ih =>
  simp only[ed]at h1;obtain⟨u,PU,rfl,g1,g2⟩:=h1;simp only[aI,ed];exact⟨u,PU++us,rfl,g1,ih g2⟩
theorem DC{V:View}{x:AV}{n:Nat}{fs cs:List AV}{v:Value}(h:aU x=some (n,fs,cs))(hv:VA V x v):∃vs us:List Value,v=.func (.func (V.E.ρ n)) vs.toArray us.toArray/\ed V fs vs/\ed V cs us:=by
 unfold aU at h;split at h
 ·simp at h;obtain⟨rfl,rfl,rfl⟩:=h;simp only[VA,VP]at hv;obtain⟨vs,us,h1,h2,h3⟩:=hv;exact⟨vs,us,h1,lW.2 h2,lW.2 h3⟩
 ·simp at h;obtain⟨rfl,rfl,rfl⟩:=h;simpa only[VA]using hv
 ·simp at h
def Ee(E:Env)(n:Nat)(ps:List PV)(sz:Nat)(es:List (List PV)):Prop :=
 E8 E n/\∀(X:Ctx) (M:Nat->Nat) (F:Fr) (H:Hp) (U:Nat->Prop) (k:Nat) (a:Act) (w:World) (vs:List Value),X.E=E->Rel X M F H U a w->¬U k->VPs X.E w (ju X w M H) ps vs ->
  Calls E.P (E.ρ n) vs.toArray w fun e w'=>∃v M',e=.returned v/\Rel X M' F (wr H [(k,.row sz es)]) (fun i=>U i\/i=k) a w'/\VA (aB X w' (fun i=>U i\/i=k) M' (wr H [(k,.row sz es)])) (.ms k) v
inductive Ev(E:Env)(F:Fr)(H:Hp)(k:Nat):fE->AV->List (Nat×dx)->Nat->List Nat->Prop
 |ev {op v W n}:bE F H k op=some (v,W,n)->Ev E F H k op v W n (iJ F op)
 |call {n xs ps r}:ca (fg F xs)=some ps->Pure E n ps r->Ev E F H k (.call n xs) (.pv r) [] 0 []
 |own {n xs ps sz es}:ca (fg F xs)=some ps->Ee E n ps sz es->Ev E F H k (.call n xs) (.ms k) [(k,.row sz es)] 1 []
 |fK {n f xs fs cs ps r}:aU (dF F f)=some (n,fs,cs)->ca (fs++(fg F xs++cs))=some ps->Pure E n ps r->Ev E F H k (.fK f xs) (.pv r) [] 0 []
theorem Ev.Ld{E:Env}{F F':Fr}{H H':Hp}{k:Nat}{op:fE}{v:AV}{W:List (Nat×dx)}{n:Nat}{rd:List Nat}(h:Ev E F H k op v W n rd)
    (hF:∀t∈fq op,F' t=F t) (hH:∀i∈rd,H' i=H i):Ev E F' H' k op v W n rd:=by
 cases h with
 |ev h1 =>
  rw[<-CJ hF];exact .ev (by rw[BW hF hH];exact h1)
 |call h1 h2=>exact .call (by rw[gq hF];exact h1) h2
 |own h1 h2=>exact .own (by rw[gq hF];exact h1) h2
 |fK h0 h1 h2=>exact .fK (by rw[bD fun t ht=>hF t (by simp[fq,ht])];exact h0) (by rw[gq fun t ht=>hF t (by simp[fq,ht])];exact h1) h2
theorem I0{E:Env}{N:Nat}(hE:E.OK){F:Fr}{H:Hp}{U:Nat->Prop}{o:Oper}{n k sz:Nat}{l:List AO}{ps:List PV}{es:List (List PV)}(hc:ey E o=some (.call n l))(hd:∀k,o.dst=some k->k<N)(h1:ca (fg F l)=some ps)(h2:Ee E n ps sz es)(hk:¬U k) :
    cL E N o F H U (.ms k) [(k,.row sz es)] (fun i=>U i\/i=k):=by
 obtain⟨c,f,ho,hb,hf,hl⟩:=uV hc;intro X M a w Q hX hN R;subst hX;have e:=hE.FG f n hf;subst e;rw[Oper.wp,rO ho hb,lD h2.1,sZ];have h3:=eT _ _ _ h1 (mi hE R hl);have hargs:(#[]++c.args.map a.eval++ #[]:Array Value)=(List.map a.eval c.args.toList).toArray:=by rw[vW];simp
 rw[hargs];refine(h2.2 X M F H U k a w _ rfl R hk h3).mono fun e w' hh=>?_;obtain⟨v,M',rfl,R',hv⟩:=hh;exact⟨M',R'.put hv (fun k hk=>by rw[hN];exact hd k hk)⟩
theorem BN{E:Env}{N:Nat}(hE:E.OK){F:Fr}{H:Hp}{U:Nat->Prop}{o:Oper}{n:Nat}{f:AO}{l:List AO}{fs cs:List AV}{ps:List PV}{r:PV}(hc:ey E o=some (.fK f l))(hd:∀k,o.dst=some k->k<N)(h0:aU (dF F f)=some (n,fs,cs))(h1:ca (fs++(fg F l++cs))=some ps)(h2:Pure E n ps r) :
    cL E N o F H U (.pv r) [] U:=by
 obtain⟨c,t,ho,hb,rfl,hl⟩:=wY hc;intro X M a w Q hX hN R;subst hX;obtain⟨vs,us,g1,g2,g3⟩:=DC h0 (R.fr t);have Hj:execOp a.eval o=callFunc (X.E.ρ n) (vs.toArray++c.args.map a.eval++us.toArray):=by
  unfold execOp;rw[ho];simp only[resolve,hb];show(Deferred.ofValue (a.tmps.getD t undef) (c.args.map a.eval) >>= fun d=>invoke d.target d.args)=_;rw[g1];rfl
 rw[Oper.wp,Hj,lD h2.1,sZ];have h3:=eT _ _ _ h1 (mV g2 (mV (mi hE R hl) g3));have h4:=h2.2 (fun b=>X.K b\/∃i,H i≠ .dead/\M i=b) w _ R.inv (fun b hb=>by
  rcases hb with hb|⟨i,hi,rfl⟩
  ·exact dy (R.K b hb) R.keeps.size
  ·exact(R.own i hi).1) (dJ ⟨fun b hb=>⟨hb.1,fun h=>by
   rcases h with h|⟨i,hi,h⟩
   ·exact hb.2.1 h
   ·exact hb.2.2 i hi h⟩,fun _ _=>rfl⟩ _ _ h3)
 have hargs:(vs.toArray++c.args.map a.eval++us.toArray:Array Value)=(vs++(List.map a.eval c.args.toList++us)).toArray:=by rw[vW];simp
 rw[hargs];refine h4.mono fun e w' hh=>?_;obtain⟨v,rfl,g4,g5⟩:=hh;have R':=R.grown g5;refine⟨M,R'.put ?_ (fun k hk=>by rw[hN];exact hd k hk)⟩;simp only[VA];refine iz ⟨fun b hb=>⟨hb.1,fun h=>hb.2 (.inl h),fun i hi h=>hb.2 (.inr ⟨i,hi,h⟩)⟩,fun _ _=>rfl⟩ _ _ g4
theorem Ev.JC{E:Env}{N:Nat}(hE:E.OK){F:Fr}{H:Hp}{U:Nat->Prop}{k:Nat}{op:fE}{v:AV}{W:List (Nat×dx)}{n:Nat}{rd:List Nat}(h:Ev E F H k op v W n rd){o:Oper}
    (hc:ey E o=some op) (hd:∀k,o.dst=some k->k<N) (hn:op.lT=true->o.dst=none) (hk:0<n->¬U k):cL E N o F H U v W (fun i=>U i\/(0<n/\i=k)):=by
 cases h with
 |ev h1=>exact uk hE h1 hc hd hn hk
 |call h1 h2=>exact(Ew hE hc hd h1 h2).used fun i h=>.inl h
 |own h1 h2=>exact(I0 hE hc hd h1 h2 (hk (by omega))).used fun i h=>h.imp id fun h=>⟨by omega,h⟩
 |fK h0 h1 h2=>exact(BN hE hc hd h0 h1 h2).used fun i h=>.inl h
end
structure En where
 x:aV
 skip:Bool
 k:Nat
 v:AV
 W:List (Nat×dx)
 n:Nat
 rd:List Nat
def mI:Option (Nat×Bool)->List Nat
 |some (t,_)=>[t]
 |none=>[]
def En.reads(e:En):List Nat:=fq e.x.op++mI e.x.guard
def keys:List (Nat×dx)->List Nat
 |[]=>[]
 |(k,_)::r=>k::keys r
structure FS where
 F:Fr
 H:Hp
 U:Nat->Prop
def En.step(e:En)(s:FS):FS:=⟨put s.F e.x.dst e.v,wr s.H e.W,fun i=>s.U i\/(0<e.n/\i=e.k)⟩
def En.ok(E:Env)(e:En)(s:FS):Prop :=
 (e.skip=true/\cH s.F e.x.guard=some false/\e.v=.pv (.tuple [])/\e.W=[]/\e.n=0) \/
 (e.skip=false/\cH s.F e.x.guard=some true/\Ev E s.F s.H e.k e.x.op e.v e.W e.n e.rd/\(0<e.n->¬s.U e.k))
def sw(e f:En):Prop :=
 (∀d,e.x.dst=some d->d∉f.reads/\f.x.dst≠some d)/\(∀d,f.x.dst=some d->d∉e.reads) /\
 (∀i∈keys e.W,i∉f.rd/\i∉keys f.W)/\(∀i∈keys f.W,i∉e.rd)/\(0<e.n->0<f.n->e.k≠f.k)
theorem lY{H:Hp}:∀{W:List (Nat×dx)} {i:Nat},i∉keys W->wr H W i=H i
 |[],i,h=>rfl
 |(k,B)::r,i,h=>by
  simp only[keys,aQ,not_or]at h;rw[eu H B r (fun he=>h.1 he.symm)];exact lY h.2
theorem II{H H':Hp}:∀{W:List (Nat×dx)} {i:Nat},i∈keys W->wr H W i=wr H' W i
 |[],i,h=>by simp[keys]at h
 |(k,B)::r,i,h=>by
  by_cases hk:k=i
  ·subst hk;rw[dY,dY]
  ·rw[eu H B r hk,eu H' B r hk];simp only[keys,aQ]at h;exact II (h.resolve_left fun he=>hk he.symm)
theorem jw{F:Fr}{d:Option Nat}{v:AV}{t:Nat}(h:d≠some t):put F d v t=F t:=by
 cases d with
 |none=>rfl
 |some k=>simp only[put];rw[f6 fun he=>h (by rw[he])];rfl
theorem rq{F:Fr}{k:Nat}{v:AV}:put F (some k) v k=v:=by
 simp only[put];rw[cg];rfl
theorem nq{F F':Fr}{g:Option (Nat×Bool)}(h:∀t∈mI g,F' t=F t):cH F' g=cH F g:=by
 cases g with
 |none=>rfl
 |some p =>
  obtain⟨t,b⟩:=p;simp only[cH];rw[h t (by simp[mI])]
theorem En.vf{E:Env}{e:En}{s s':FS}(h:e.ok E s)(hF:∀t∈e.reads,s'.F t=s.F t)(hH:∀i∈e.rd,s'.H i=s.H i)(hU:0<e.n->¬s'.U e.k):e.ok E s':=by
 rcases h with⟨h1,h2,h3⟩|⟨h1,h2,h3,h4⟩
 ·exact .inl ⟨h1,by rw[nq fun t ht=>hF t (by simp[En.reads,ht])];exact h2,h3⟩
 ·exact .inr ⟨h1,by rw[nq fun t ht=>hF t (by simp[En.reads,ht])];exact h2,h3.Ld (fun t ht=>hF t (by simp[En.reads,ht])) hH,hU⟩
theorem xn{e f:En}(h:sw e f)(s:FS):f.step (e.step s)=e.step (f.step s):=by
 obtain⟨h1,h2,h3,h4,h5⟩:=h;simp only[En.step,FS.mk.injEq];refine⟨?_,?_,?_⟩
 ·funext t;by_cases hf:f.x.dst=some t
  ·have he:e.x.dst≠some t:=fun he=>(h1 t he).2 hf;rw[jw he,hf,rq,rq]
  ·rw[jw hf];by_cases he:e.x.dst=some t
   ·rw[he,rq,rq]
   ·rw[jw he,jw he,jw hf]
 ·funext i;by_cases hf:i∈keys f.W
  ·have he:i∉keys e.W:=fun he=>(h3 i he).2 hf;rw[lY (H:=wr s.H f.W) he];exact II hf
  ·rw[lY hf];by_cases he:i∈keys e.W
   ·exact II he
   ·rw[lY he,lY he,lY hf]
 ·funext i;apply propext;constructor
  ·rintro((h|h)|h)
   ·exact .inl (.inl h)
   ·exact .inr h
   ·exact .inl (.inr h)
  ·rintro((h|h)|h)
   ·exact .inl (.inl h)
   ·exact .inr h
   ·exact .inl (.inr h)
def Ge(E:Env):List En->FS->Prop
 |[],_=>True
 |e::r,s=>e.ok E s/\Ge E r (e.step s)
def fin:List En->FS->FS
 |[],s=>s
 |e::r,s=>fin r (e.step s)
theorem GH{E:Env}{e:En}:∀{l1 l2:List En} {s:FS},Ge E (l1++e::l2) s->(∀f∈l1,sw f e)->e.ok E s/\Ge E (l1++l2) (e.step s)/\fin (l1++e::l2) s=fin (l1++l2) (e.step s)
 |[],l2,s,h,hi=>⟨h.1,h.2,rfl⟩
 |f::l1,l2,s,h,hi=>by
  obtain⟨hf,hr⟩:=h;obtain⟨he,UJ,qa⟩:=GH hr (fun g hg=>hi g (by simp[hg]));have OQ:=hi f (by simp);obtain⟨h1,h2,h3,h4,h5⟩:=OQ;refine⟨En.vf he (fun t ht=>?_) (fun i cW=>?_) (fun hn hu=>?_),⟨?_,?_⟩,?_⟩
  ·simp only[En.step];rw[jw fun hd=>(h1 t hd).1 ht]
  ·simp only[En.step];rw[lY fun hk=>(h3 i hk).1 cW]
  ·rcases he with he|he
   ·rw[he.2.2.2.2]at hn;exact absurd hn (by omega)
   ·exact he.2.2.2 hn (.inl hu)
  ·refine En.vf hf (fun t ht=>?_) (fun i cW=>?_) (fun hn hu=>?_)
   ·simp only[En.step];rw[jw fun hd=>h2 t hd ht]
   ·simp only[En.step];rw[lY fun hk=>h4 i hk cW]
   ·rcases hf with hf|hf
    ·rw[hf.2.2.2.2]at hn;exact absurd hn (by omega)
    ·rcases hu with hu|hu
     ·exact hf.2.2.2 hn hu
     ·exact h5 hn hu.1 hu.2
  ·rw[<-xn ⟨h1,h2,h3,h4,h5⟩];exact UJ
  ·simp only[aI,fin];rw[qa,xn ⟨h1,h2,h3,h4,h5⟩]
theorem uZ{fH:Array Bool}{k i:Nat}:(fH.setIfInBounds k true).getD i true=if k=i then true else fH.getD i true:=by
 by_cases h:k=i
 ·subst h;rw[aW rfl];by_cases hk:k<fH.size <;>simp[hk]
 ·rw[ar h];simp[eb h]
inductive lK(dp:Nat->List Nat):Nat->Nat->Prop
 |one {i j:Nat}:i∈dp j->lK dp i j
 |step {i j k:Nat}:lK dp i j->j∈dp k->lK dp i k
theorem lK.fH{dp:Nat->List Nat}{L:Nat->Prop}(K7:∀i,L i->∀d∈dp i,L d){i j:Nat}(h:lK dp i j):(∀d∈dp j,L d)->L i:=by
 induction h with
 |one h=>exact fun ha=>ha _ h
 |step h1 h2 ih=>exact fun ha=>ih fun d hd=>K7 _ (ha _ h2) d hd
theorem wG{E:Env}{N:Nat}(hE:E.OK){ops:Array Oper}{X:Ctx}(hX:X.E=E)(hN:X.N=N){Q:Exit->Act->World->Prop}{S:FS}(hQ:∀M a w,Rel X M S.F S.H S.U a w->Q .normal a w)(dp:Nat->List Nat) :
    ∀(n:Nat) (es:List (Nat×En)) (fH:Array Bool) (s:FS) (M:Nat->Nat) (a:Act) (w:World),es.length=n ->
     (∀p∈es,∃o,ops[p.1]? =some o/\sE E N ops o=some p.2.x/\(p.2.x.op.lT=true->p.2.x.dst=none))->(∀i,fH.getD i true=false↔i∈es.map (·.1))->fH.size=ops.size ->
     es.Pairwise (fun p q=>p.1<q.1/\(lK dp p.1 q.1\/sw p.2 q.2))->(∀p∈es,∀d∈p.2.x.kC,d<p.1)->(∀p∈es,p.2.x.kC=dp p.1)->(∀i,fH.getD i true=true->∀d∈dp i,fH.getD d true=true) ->
     Ge E (es.map (·.2)) s->fin (es.map (·.2)) s=S->Rel X M s.F s.H s.U a w->wpAny E.P .any ops Q n fH a w
 |0,es,fH,s,M,a,w,hn,Kb,LA,lI,tx,My,J3,K7,ir,qa,R=>by
  have:es=[]:=bX hn;subst this;refine⟨?_,hQ M a w (by rw[<-qa];exact R)⟩;rw[List.eq_nil_iff_forall_not_mem];intro j hj;have:=(mem_ready.1 hj).1;rw[LA]at this;simp at this
 |n+1,es,fH,s,M,a,w,hn,Kb,LA,lI,tx,My,J3,K7,ir,qa,R=>by
  constructor
  ·intro RZ;exfalso;obtain⟨p,r,rfl⟩:∃p r,es=p::r:=by cases es with
    |nil=>simp at hn
    |cons p r=>exact⟨p,r,rfl⟩
   have Lu:p.1∈Region.ready .any ops fH:=by
    rw[mem_ready];obtain⟨o,ho,hc,_⟩:=Kb p (by simp);refine⟨(LA p.1).2 (by simp),o,ho,fun e he hb=>?_⟩;have hd:e.on∈p.2.x.kC:=by
     unfold sE at hc;split at hc
     ·split at hc
      ·simp at hc;rw[<-hc];simp only[cw,List.mem_filter];exact⟨e,⟨by simpa using he,hb⟩,rfl⟩
      ·simp at hc
     ·simp at hc
    have hlt:=My p (by simp) _ hd;have lQ:p.1<ops.size:=(cf.1 ho).1;have P6:¬fH.getD e.on true=false:=by
     rw[LA];intro hm;simp only[aX,aQ,cw]at hm;rcases hm with h|⟨q,hq,h⟩
     ·omega
     ·have:=(List.rel_of_pairwise_cons tx hq).1;omega
    have:e.on<fH.size:=by omega
    simp[this]at P6⊢;exact P6
   rw[RZ]at Lu;simp at Lu
  ·intro k hk;obtain⟨UA,o,ho,hall⟩:=mem_ready.1 hk;have Hq:=(LA k).1 UA;simp only[cw]at Hq;obtain⟨p,hp,rfl⟩:=Hq;obtain⟨l1,l2,rfl⟩:=List.append_of_mem hp;obtain⟨o',wR,hc,MJ⟩:=Kb p hp;rw[ho]at wR;obtain rfl:o=o':=by simpa using wR
   have Lt:∀d∈dp p.1,fH.getD d true=true:=fun d hd=>by
    rw[<-J3 p hp]at hd;have:∃e∈o.after,Region.binds .any e=true/\e.on=d:=by
     unfold sE at hc;split at hc
     ·split at hc
      ·simp at hc;rw[<-hc]at hd;simp only[cw,List.mem_filter]at hd;obtain⟨e,⟨h3,h4⟩,h5⟩:=hd;exact⟨e,by simpa using h3,h4,h5⟩
      ·simp at hc
     ·simp at hc
    obtain⟨e,h3,h4,h5⟩:=this;have h6:=hall e h3 h4;rw[h5]at h6;by_cases hlt:d<fH.size
    ·simp[hlt]at h6⊢;exact h6
    ·simp[Array.getElem?_eq_none (Nat.le_of_not_lt hlt)]at h6
   have RR:∀q∈l1,sw q.2 p.2:=fun q hq=>by
    have h1:=(vU.1 tx).2.2 q hq p (by simp);rcases h1.2 with h2|h2
    ·exfalso;have UI:fH.getD q.1 true=false:=(LA q.1).2 (by simp;exact .inl ⟨q.2,hq⟩);have:=h2.fH (L:=fun i=>fH.getD i true=true) K7 Lt;rw[UI]at this;simp at this
    ·exact h2
   have hb:=GH (e:=p.2) (l1:=l1.map (·.2)) (l2:=l2.map (·.2)) (s:=s) (by simpa using ir) (fun f hf=>by
    simp only[cw]at hf;obtain⟨q,hq,rfl⟩:=hf;exact RR q hq)
   obtain⟨wS,Pg,OR⟩:=hb;have ih:=fun M' a' w' (R':Rel X M' (p.2.step s).F (p.2.step s).H (p.2.step s).U a' w')=>wG hE hX hN hQ dp n (l1++l2) (fH.setIfInBounds p.1 true) (p.2.step s) M' a' w' (by simp at hn⊢;omega)
    (fun q hq=>Kb q (by rcases cq.1 hq with h|h <;>simp[h]))
    (fun i=>by
     rw[uZ];have F2:=vU.1 tx;constructor
     ·intro h;by_cases OY:p.1=i
      ·rw[aW OY]at h;simp at h
      ·rw[ar OY,LA]at h;simp only[bh,aX,cq,aQ]at h⊢;rcases h with h|h|h
       ·exact .inl h
       ·exact absurd h.symm OY
       ·exact .inr h
     ·intro h;have eA:p.1≠i:=by
       intro he;subst he;simp only[bh,cq,cw]at h;rcases h with⟨q,hq,h⟩|⟨q,hq,h⟩
       ·have:=(F2.2.2 q hq p (by simp)).1;omega
       ·have:=(List.rel_of_pairwise_cons F2.2.1 hq).1;omega
      rw[ar eA,LA];simp only[bh,aX,cq,aQ]at h⊢;rcases h with h|h
      ·exact .inl h
      ·exact .inr (.inr h))
    (by simpa using lI)
    (by
     have F2:=vU.1 tx;rw[vU];exact⟨F2.1,(gS.1 F2.2.1).2,fun x hx y hy=>F2.2.2 x hx y (by simp[hy])⟩)
    (fun q hq=>My q (by rcases cq.1 hq with h|h <;>simp[h]))
    (fun q hq=>J3 q (by rcases cq.1 hq with h|h <;>simp[h]))
    (fun i hi d hd=>by
     rw[uZ]at hi⊢;by_cases dh:p.1=d
     ·rw[aW dh]
     ·rw[ar dh];by_cases cW:p.1=i
      ·subst cW;exact Lt d hd
      ·rw[ar cW]at hi;exact K7 i hi d hd)
    (by simpa using Pg) (by rw[<-qa];simpa using OR.symm) R'
   obtain⟨c1,c2,c3,c4⟩:=kY hc;unfold wpOp;rw[ho];simp only;have R0:Rl X M ⟨[],[],0⟩ a w->True:=fun _=>trivial;have Hk:∀b,cH s.F p.2.x.guard=some b->Region.wanted o (yielded ops a.tmps)=b:=fun b hg=>by
    subst hN;unfold Region.wanted;unfold u4 at c4;split at c4
    ·rename_i h;simp at c4;rw[<-c4]at hg;simp[cH]at hg;rw[h];simp[hg]
    ·rename_i j want h;rw[h];simp only;split at c4
     ·rename_i t ht;split at c4
      ·rename_i hlt;simp at c4;rw[<-c4]at hg;simp only[cH]at hg;have hv:=R.fr t;have lI:t<a.tmps.size:=by rw[R.size];exact hlt
       have aN:a.tmps[t]? =some (a.tmps.getD t undef):=by simp[lI]
       split at hg
       ·rename_i c hF;rw[hF]at hv;simp only[VA,VP]at hv;simp at hg;subst hg;unfold yielded;rw[ht,Option.bind_some,aN,hv];simp
       ·rename_i hF;rw[hF]at hv;simp only[VA,VP,VPs]at hv;obtain⟨vs,h1,rfl⟩:=hv;simp at hg;subst hg;unfold yielded;rw[ht,Option.bind_some,aN,h1];simp
       ·simp at hg
      ·simp at c4
     ·simp at c4
   rcases wS with⟨k1,k2,k3,k4,k5⟩|⟨k1,k2,k3,k4⟩
   ·rw[ar (by rw[Hk false k2];simp)];refine ih M (a.put o.dst undef) w ?_;simp only[En.step,k3,k4,k5];rw[<-c2];have:=Rel.put R (d:=o.dst) (av:=.pv (.tuple [])) (v:=undef) (by simp only[VA,VP,VPs];exact⟨[],rfl,rfl⟩) (fun k hk=>by rw[hN];exact c3 k hk);exact this.pr fun i h=>.inl h
   ·rw[aW (Hk true k2)];left;refine Oper.wp_mono ?_ (k3.JC (U:=s.U) hE c1 c3 (fun h=>by rw[c2];exact MJ h) k4 X M a w Q hX hN R)
    rintro a' w' ⟨M',R'⟩
    refine ih M' a' w' ?_;simp only[En.step];rw[<-c2];exact R'
section
def mem(a:Nat):List Nat->Bool
 |[]=>false
 |b::r=>cond (Nat.beq a b) true (mem a r)
theorem mem_iff{a:Nat}:∀{l:List Nat},mem a l=true↔a∈l
 |[]=>by simp[mem]
 |b::r=>by
  simp only[mem];by_cases h:a=b
  ·subst h;rw[cg];simp
  ·rw[f6 h];simp[mem_iff,h]
def fB:List Nat->List Nat->Bool
 |[],_=>true
 |a::r,l=>cond (mem a l) false (fB r l)
theorem ni:∀{l l':List Nat},fB l l'=true->∀i∈l,i∉l'
 |[],l',h,i,hi=>by simp at hi
 |a::r,l',h,i,hi=>by
  simp only[fB]at h;cases hm:mem a l' with
  |true=>rw[hm]at h;simp at h
  |false =>
   rw[hm]at h;rcases aQ.1 hi with rfl|hi
   ·intro hc;rw[mem_iff.2 hc]at hm;simp at hm
   ·exact ni h i hi
def kF:Option Nat->List Nat
 |some d=>[d]
 |none=>[]
def iG(e f:En):Bool :=
 fB (kF e.x.dst) f.reads&&(fB (kF e.x.dst) (kF f.x.dst)&&(fB (kF f.x.dst) e.reads&&(fB (keys e.W) f.rd&&(fB (keys e.W) (keys f.W)&&(fB (keys f.W) e.rd &&
  (Nat.beq e.n 0||(Nat.beq f.n 0||!(Nat.beq e.k f.k))))))))
theorem wW{e f:En}(h:iG e f=true):sw e f:=by
 simp only[iG,bj]at h;obtain⟨h1,h2,h3,h4,h5,h6,h7⟩:=h;refine⟨fun d hd=>⟨ni h1 d (by simp[hd,kF]),fun hf=>?_⟩,fun d hd=>ni h3 d (by simp[hd,kF]),fun i hi=>⟨ni h4 i hi,ni h5 i hi⟩,fun i hi=>ni h6 i hi,fun he hf=>?_⟩
 ·exact ni h2 d (by simp[hd,kF]) (by simp[hf,kF])
 ·simp only[ke,Bool.not_eq_true']at h7;rcases h7 with h|h|h
  ·have:=cU h;omega
  ·have:=cU h;omega
  ·intro hk;rw[hk,cg]at h;simp at h
def kV(i:Nat):List Nat->Bool
 |[]=>true
 |d::r=>Nat.blt d i&&kV i r
def il(e:En):Bool:=match e.x.op with
 | .store _ _ _=>match e.x.dst with
  |none=>true
  |some _=>false
 |_=>true
def j0(i:Nat)(e:En):List En->Bool
 |[]=>true
 |f::r=>(mem i f.x.kC||iG e f)&&j0 i e r
def sA(l:List Nat):List Nat->Bool
 |[]=>false
 |d::r=>cond (mem d l) true (sA l r)
def vt(l:List Nat)(j:Nat)(e:En):List En->Bool
 |[]=>true
 |f::r=>cond (sA l f.x.kC) (vt (j::l) (j+1) e r) (iG e f&&vt l (j+1) e r)
def eC(i:Nat):List En->Bool
 |[]=>true
 |e::r=>kV i e.x.kC&&(il e&&((j0 i e r||vt [i] (i+1) e r)&&eC (i+1) r))
theorem zP{i:Nat}:∀{l:List Nat},kV i l=true->∀d∈l,d<i
 |[],h,d,hd=>by simp at hd
 |a::r,h,d,hd=>by
  simp only[kV,bj]at h;rcases aQ.1 hd with rfl|hd
  ·have:=h.1;rw[Nat.blt_eq]at this;exact this
  ·exact zP h.2 d hd
theorem CS{e:En}(h:il e=true)(hs:e.x.op.lT=true):e.x.dst=none:=by
 unfold il at h;split at h
 ·split at h
  ·assumption
  ·simp at h
 ·rename_i eA;cases gB:e.x.op <;>rw[gB]at hs <;>simp[fE.lT]at hs;exact absurd gB (eA _ _ _)
theorem xh{i:Nat}{e:En}:∀{l:List En},j0 i e l=true->∀f∈l,i∈f.x.kC\/sw e f
 |[],h,f,hf=>by simp at hf
 |g::r,h,f,hf=>by
  simp only[j0,bj,ke]at h;rcases aQ.1 hf with rfl|hf
  ·rcases h.1 with h|h
   ·exact .inl (mem_iff.1 h)
   ·exact .inr (wW h)
  ·exact xh h.2 f hf
def idxFrom(i:Nat):List En->List (Nat×En)
 |[]=>[]
 |e::r=>(i,e)::idxFrom (i+1) r
theorem iO:∀{l:List En} {i:Nat} {p:Nat×En},p∈idxFrom i l↔∃j,l[j]? =some p.2/\p.1=i+j
 |[],i,p=>by simp[idxFrom]
 |e::r,i,p=>by
  simp only[idxFrom,aQ];rw[iO];constructor
  ·rintro(rfl|⟨j,h1,h2⟩)
   ·exact⟨0,rfl,rfl⟩
   ·exact⟨j+1,by simpa using h1,by omega⟩
  ·rintro⟨j,h1,h2⟩
   cases j with
   |zero=>left;simp at h1;exact Prod.ext (by simpa using h2) h1.symm
   |succ j=>right;exact⟨j,by simpa using h1,by omega⟩
theorem oE:∀{l:List En} {i:Nat},(idxFrom i l).map (·.2)=l
 |[],i=>rfl
 |e::r,i=>by simp[idxFrom,oE]
theorem oD:∀{l:List En} {i:Nat},(idxFrom i l).length=l.length
 |[],i=>rfl
 |e::r,i=>by simp[idxFrom,oD]
theorem zR{l:List Nat}:∀{r:List Nat},sA l r=true->∃d∈r,d∈l
 |[],h=>by simp[sA]at h
 |d::r,h=>by
  simp only[sA]at h;cases hm:mem d l with
  |true=>exact⟨d,by simp,mem_iff.1 hm⟩
  |false =>
   rw[hm]at h;obtain⟨d',h1,h2⟩:=zR (r:=r) h;exact⟨d',by simp[h1],h2⟩
theorem vu{dp:Nat->List Nat}{i:Nat}{e:En}:∀{r:List En} {l:List Nat} {j:Nat},(∀p∈idxFrom j r,p.2.x.kC=dp p.1)->(∀d∈l,d=i\/lK dp i d)->vt l j e r=true->∀q∈idxFrom j r,lK dp i q.1\/sw e q.2
 |[],l,j,_,_,_,q,hq=>by simp[idxFrom]at hq
 |f::r,l,j,hd,hl,h,q,hq=>by
  simp only[vt]at h;simp only[idxFrom,aQ]at hq hd;have dh:∀p∈idxFrom (j+1) r,p.2.x.kC=dp p.1:=fun p hp=>hd p (.inr hp);cases ha:sA l f.x.kC with
  |true =>
   rw[ha]at h;obtain⟨d,h1,h2⟩:=zR ha;have hr:lK dp i j:=by
    have e1:f.x.kC=dp j:=hd (j,f) (.inl rfl);rw[e1]at h1;rcases hl d h2 with h3|h3
    ·subst h3;exact .one h1
    ·exact .step h3 h1
   rcases hq with rfl|hq
   ·exact .inl hr
   ·exact vu dh (fun d hd=>by
     rcases aQ.1 hd with rfl|hd
     ·exact .inr hr
     ·exact hl d hd) h q hq
  |false =>
   rw[ha]at h;simp only[fp,bj]at h;rcases hq with rfl|hq
   ·exact .inr (wW h.1)
   ·exact vu dh hl h.2 q hq
theorem qE{dp:Nat->List Nat}:∀{l:List En} {i:Nat},(∀p∈idxFrom i l,p.2.x.kC=dp p.1)->eC i l=true->(idxFrom i l).Pairwise (fun p q=>p.1<q.1/\(lK dp p.1 q.1\/sw p.2 q.2))/\(∀p∈idxFrom i l,∀d∈p.2.x.kC,d<p.1) /\
    (∀p∈idxFrom i l,p.2.x.op.lT=true->p.2.x.dst=none)
 |[],i,_,h=>by simp[idxFrom]
 |e::r,i,hd,h=>by
  simp only[eC,bj,ke]at h;obtain⟨h1,h2,h3,h4⟩:=h;simp only[idxFrom,aQ]at hd;have dh:∀p∈idxFrom (i+1) r,p.2.x.kC=dp p.1:=fun p hp=>hd p (.inr hp);obtain⟨g1,g2,g3⟩:=qE dh h4;simp only[idxFrom,gS,aQ];refine⟨⟨fun q hq=>?_,g1⟩,?_,?_⟩
  ·obtain⟨j,k1,k2⟩:=iO.1 hq;refine⟨by show i<q.1;omega,?_⟩;rcases h3 with h3|h3
   ·rcases xh h3 q.2 (dZ k1)with h5|h5
    ·rw[dh q hq]at h5;exact .inl (.one h5)
    ·exact .inr h5
   ·exact vu dh (fun d hd=>.inl (by simpa using hd)) h3 q hq
  ·rintro p (rfl|hp) d hd
   ·exact zP h1 d hd
   ·exact g2 p hp d hd
  ·rintro p (rfl|hp) hs
   ·exact CS h2 hs
   ·exact g3 p hp hs
inductive Bv(E:Env):List aV->St->List En->St->Prop
 |nil {st}:Bv E [] st [] st
 |cons {x l st v W n rd es bT}:cH (look st.fr) x.guard=some true->Ev E (look st.fr) (ah st.hp) st.nx x.op v W n rd->Bv E l ⟨dt st x.dst v,W++st.hp,st.nx+n⟩ es bT ->
    Bv E (x::l) st (⟨x,false,st.nx,v,W,n,rd⟩::es) bT
 |skip {x l st es bT}:cH (look st.fr) x.guard=some false->Bv E l ⟨dt st x.dst (.pv (.tuple [])),st.hp,st.nx⟩ es bT ->
    Bv E (x::l) st (⟨x,true,st.nx,.pv (.tuple []),[],0,[]⟩::es) bT
theorem Gv{H:Hp}{k sz:Nat}{s v:AV}{es:List (List PV)}{W:List (Nat×dx)}{n:Nat}(h:fR H k sz s es=some (v,W,n)):n<=1:=by
 unfold fR at h
 repeat' split at h
 all_goals first|(simp only[ai,aZ]at h;omega)|(exact absurd h (by simp))
theorem GW{F:Fr}{H:Hp}{k:Nat}{op:fE}{v:AV}{W:List (Nat×dx)}{n:Nat}(h:bE F H k op=some (v,W,n)):n<=1:=by
 unfold bE at h
 repeat' split at h
 all_goals first|(simp only[ai,aZ]at h;omega)|(exact absurd h (by simp))|exact Gv h
theorem Ev.one{E:Env}{F:Fr}{H:Hp}{k:Nat}{op:fE}{v:AV}{W:List (Nat×dx)}{n:Nat}{rd:List Nat}(h:Ev E F H k op v W n rd):n<=1:=by
 cases h with
 |ev h1=>exact GW h1
 |_=>omega
theorem Bv.run{E:Env}{l:List aV}{st bT:St}{es:List En}(h:Bv E l st es bT):∀(U:Nat->Prop),(∀i,U i↔i<st.nx) ->
    Ge E es ⟨look st.fr,ah st.hp,U⟩/\∃U',fin es ⟨look st.fr,ah st.hp,U⟩=⟨look bT.fr,ah bT.hp,U'⟩/\(∀i,U' i↔i<bT.nx):=by
 induction h with
 |nil=>exact fun U hU=>⟨trivial,U,rfl,hU⟩
 | @cons x l st v W n rd es bT hg vP ht ih =>
  intro U hU;have h1:=vP.one;obtain⟨g1,U',g2,g3⟩:=ih (fun i=>U i\/(0<n/\i=st.nx)) (fun i=>by
   rw[hU];constructor
   ·rintro(h|⟨h,h'⟩) <;>(show i<st.nx+n) <;>omega
   ·intro(h:i<st.nx+n);omega)
  have lR:En.step ⟨x,false,st.nx,v,W,n,rd⟩ ⟨look st.fr,ah st.hp,U⟩=⟨look (dt st x.dst v),ah (W++st.hp),fun i=>U i\/(0<n/\i=st.nx)⟩:=by
   simp only[En.step];rw[fU,kX]
  refine⟨⟨.inr ⟨rfl,hg,vP,fun _ hu=>?_⟩,by rw[lR];exact g1⟩,U',by simp only[fin];rw[lR];exact g2,g3⟩;have:=(hU st.nx).1 hu;omega
 | @skip x l st es bT hg ht ih =>
  intro U hU;obtain⟨g1,U',g2,g3⟩:=ih (fun i=>U i\/(0<0/\i=st.nx)) (fun i=>by
   rw[hU];constructor
   ·rintro(h|⟨h,h'⟩)
    ·exact h
    ·omega
   ·intro h;exact .inl h)
  have lR:En.step ⟨x,true,st.nx,.pv (.tuple []),[],0,[]⟩ ⟨look st.fr,ah st.hp,U⟩=⟨look (dt st x.dst (.pv (.tuple []))),ah st.hp,fun i=>U i\/(0<0/\i=st.nx)⟩:=by
   simp only[En.step];rw[fU];rfl
  exact⟨⟨.inl ⟨rfl,hg,rfl,rfl,rfl⟩,by rw[lR];exact g1⟩,U',by simp only[fin];rw[lR];exact g2,g3⟩
theorem Bv.xs{E:Env}{l:List aV}{st bT:St}{es:List En}(h:Bv E l st es bT):es.map (·.x)=l:=by
 induction h with
 |nil=>rfl
 |cons _ _ _ ih=>simp[ih]
 |skip _ _ ih=>simp[ih]
def Jk(E:Env)(l:List aV)(Q:St->Prop)(st:St)(acc:List En):Prop:=∃es bT,Bv E l st es bT/\eC 0 (acc.reverse++es)=true/\Q bT
section
variable{E:Env}{Q:St->Prop}{st:St}{x:aV}{l:List aV}{acc:List En}
theorem Jk.nil(hc:eC 0 acc.reverse=true)(h:Q st):Jk E [] Q st acc:=⟨[],st,.nil,by simpa using hc,h⟩
theorem Jk.cons{v:AV}{W:List (Nat×dx)}{n:Nat}{rd:List Nat}(hg:cH (look st.fr) x.guard=some true)(vP:Ev E (look st.fr) (ah st.hp) st.nx x.op v W n rd)
    (h:Jk E l Q ⟨dt st x.dst v,W++st.hp,st.nx+n⟩ (⟨x,false,st.nx,v,W,n,rd⟩::acc)):Jk E (x::l) Q st acc:=by
 obtain⟨es,bT,h1,h2,h3⟩:=h;exact⟨_,bT,.cons hg vP h1,by simpa using h2,h3⟩
theorem Jk.skip(hg:cH (look st.fr) x.guard=some false)
    (h:Jk E l Q ⟨dt st x.dst (.pv (.tuple [])),st.hp,st.nx⟩ (⟨x,true,st.nx,.pv (.tuple []),[],0,[]⟩::acc)):Jk E (x::l) Q st acc:=by
 obtain⟨es,bT,h1,h2,h3⟩:=h;exact⟨_,bT,.skip hg h1,by simpa using h2,h3⟩
end
theorem WP.draw{E:Env}(tg:E.OK){N:Nat}{Q:Exit->St->Prop}{st:St}{l:List aV}(h:Jk E l (Q .normal) st []):WP E N (.draw l) Q st:=by
 obtain⟨es,bT,Tq,K6,hQ⟩:=h;intro code hc X M a w Q' hE hN R hq;obtain⟨id,ops,rfl,h1⟩:=Cj hc;obtain⟨h2,h3⟩:=pX h1;have LD:=Tq.xs;have hlen:es.length=ops.size:=by
  have:(es.map (·.x)).length=l.length:=by rw[LD]
  rw[al]at this;rw[this,h2];simp
 obtain⟨ir,U',qa,Ug⟩:=Tq.run (fun i=>i<st.nx) (fun i=>pz);simp only[cF,aE]at K6;have J3:∀p∈idxFrom 0 es,p.2.x.kC=(fun i=>((es[i]?).map (·.x.kC)).getD []) p.1:=fun p hp=>by
  obtain⟨j,k1,k2⟩:=iO.1 hp;have:p.1=j:=by omega
  simp only[this,k1,Ec,ic]
 obtain⟨c1,c2,c3⟩:=qE (dp:=(fun i=>((es[i]?).map (·.x.kC)).getD [])) J3 K6;refine wp_region_any (hE▸tg.mixed) ?_;subst hE;refine wG (E:=X.E) (N:=N) (S:=⟨look bT.fr,ah bT.hp,U'⟩) tg rfl hN (fun M' a' w' R'=>hq _ M' bT a' w' hQ (R'.pr fun i hi=>(Ug i).1 hi)) (fun i=>((es[i]?).map (·.x.kC)).getD []) ops.size (idxFrom 0 es) _ ⟨look st.fr,ah st.hp,fun i=>i<st.nx⟩ M a _
  (by rw[oD,hlen]) ?_ ?_ (by simp) c1 c2 J3 ?_ (by rw[oE];exact ir) (by rw[oE];exact qa) (R.drew _)
 ·intro p hp;obtain⟨j,k1,k2⟩:=iO.1 hp;have hl:l[j]? =some p.2.x:=by rw[<-LD,fm,k1];rfl
  obtain⟨o,h4,h5⟩:=h3 j _ hl;refine⟨o,?_,?_,c3 p hp⟩
  ·rw[k2,aM,<-cp];exact h4
  ·rw[<-hN];rw[hN];exact h5
 ·intro i;simp only[cw];constructor
  ·intro h;have hi:i<ops.size:=by
    rcases Nat.lt_or_ge i ops.size with h'|h'
    ·exact h'
    ·simp[Array.getElem?_eq_none,h']at h
   have cW:i<es.length:=by omega
   exact⟨(i,es[i]),iO.2 ⟨i,by simp[cW],by simp⟩,rfl⟩
  ·rintro⟨p,hp,rfl⟩
   obtain⟨j,k1,k2⟩:=iO.1 hp;have:p.1<ops.size:=by
    have:=(aA.1 k1).1;omega
   simp[this]
 ·intro i hi d hd;have cW:¬i<ops.size:=fun h=>by simp[h]at hi
  have:es[i]? =none:=List.getElem?_eq_none (by omega);simp only[this,Option.map_none,ff,List.not_mem_nil]at hd
end
section
section
variable(id:Nat)(es:List (List PV))
mutual
def gZ:AV->AV
 | .ms i=>cond (Nat.beq i id) (.pv (.slice es)) (.ms i)
 | .gd i off len=>cond (Nat.beq i id) (cond (Nat.ble (off+len) es.length) (.pv (.slice ((es.drop off).take len))) .bot) (.gd i off len)
 | .ptr i j off=>cond (Nat.beq i id) (match es[j]? with|some e=>.pv (.gX e off)|none=>.bot) (.ptr i j off)
 | .func f fs cs=>mkFun f (iV fs) (iV cs)
 | .iface t v=>match gZ v with
  | .pv p=>.pv (.iface t p)
  |u=>.iface t u
 | .agg cs=>jY (iV cs)
 | .tuple cs=>.tuple (iV cs)
 |v=>v
def iV:List AV->List AV
 |[]=>[]
 |c::r=>gZ c::iV r
end
def nm:dx->dx
 | .var cs=>.var (iV id es cs)
 |B=>B
def uI:List (Nat×AV)->List (Nat×AV)
 |[]=>[]
 |(t,v)::r=>(t,gZ id es v)::uI r
def pE:List (Nat×dx)->List (Nat×dx)
 |[]=>[]
 |(i,B)::r=>(i,nm id es B)::pE r
end
theorem oH{id:Nat}{es:List (List PV)}:∀(l:List (Nat×AV)) (t:Nat),look (uI id es l) t=gZ id es (look l t)
 |[],t=>by simp only[uI,look,gZ]
 |(k,v)::r,t=>by
  simp only[uI,look];cases Nat.beq k t <;>simp only[gT,fp];exact oH r t
theorem kM{id:Nat}{es:List (List PV)}:∀(l:List (Nat×dx)) (t:Nat),ah (pE id es l) t=nm id es (ah l t)
 |[],t=>by simp only[pE,ah,nm]
 |(k,v)::r,t=>by
  simp only[pE,ah];cases Nat.beq k t <;>simp only[gT,fp];exact kM r t
theorem qN{id:Nat}{es:List (List PV)}:∀(l:List AV),(iV id es l).length=l.length
 |[]=>rfl
 |c::r=>by simp only[iV,ay,qN r]
section
variable{X:Ctx}{M:Nat->Nat}{F:Fr}{H:Hp}{U:Nat->Prop}{a:Act}{w:World}{id sz:Nat}{es:List (List PV)}
theorem rJ(i id:Nat):(Nat.beq i id=true/\i=id)\/(Nat.beq i id=false/\i≠id):=by
 by_cases h:i=id
 ·exact .inl ⟨by rw[h];exact cg id,h⟩
 ·exact .inr ⟨f6 h,h⟩
theorem HR{V:View}{n:Nat}{fs cs:List AV}{vs us:List Value}(h1:ed V fs vs)(h2:ed V cs us):VA V (mkFun n fs cs) (.func (.func (V.E.ρ n)) vs.toArray us.toArray):=by
 unfold mkFun mZ;split
 ·rename_i f c hh;split at hh
  ·rename_i a b ha hb;simp at hh;obtain⟨rfl,rfl⟩:=hh;simp only[VA,VP];exact⟨vs,us,rfl,mE ha h1,mE hb h2⟩
  ·simp at hh
 ·simp only[VA];exact⟨vs,us,rfl,h1,h2⟩
mutual
theorem yL(R:Rel X M F H U a w)(dT:H id=.row sz es){H':Hp}(T:iL (aB X w U M H) (aB X w U M H'))(wS:ju X w M H' (M id)):(v:AV)->(u:Value)->VA (aB X w U M H) v u->VA (aB X w U M H') (gZ id es v) u
 | .pv p,u,h=>by simp only[gZ];exact db T _ _ h
 | .bu,u,h=>by simp only[gZ];exact db T _ _ h
 | .bot,u,h=>by simp only[gZ,VA]
 | .map i,u,h=>by simp only[gZ];exact db T _ _ h
 | .tT i off len,u,h=>by simp only[gZ];exact db T _ _ h
 | .ms i,u,h=>by
  simp only[gZ];rcases rJ i id with⟨hb,rfl⟩|⟨hb,eA⟩ <;>rw[hb] <;>simp only[gT,fp]
  ·simp only[VA]at h⊢;obtain⟨cap,t,gU,h1,h2,_,_⟩:=h.2.2 (sz,es.length) (by simp[aB,dT,dx.info]);have uM:=R.blk i;rw[dT]at uM;obtain⟨c,t',g1,g2,g3⟩:=uM;simp only[VP];refine⟨_,_,_,h1,rfl,h2,fun hp=>⟨M i,0,sz,rfl,wS,?_⟩⟩;exact gg T.stays _ _ _ _ (fun _=>rfl) g3
  ·exact db T _ _ h
 | .gd i off len,u,h=>by
  simp only[gZ];rcases rJ i id with⟨hb,rfl⟩|⟨hb,eA⟩ <;>rw[hb] <;>simp only[gT,fp]
  ·cases hle:Nat.ble (off+len) es.length <;>simp only[gT,fp]
   ·simp only[VA]
   ·have hle:=fc hle;simp only[VA]at h⊢;obtain⟨A,cap,t,gU,h1,h2,_,_,h5⟩:=h.2.2 (sz,es.length) (by simp[aB,dT,dx.info]);have uM:=R.blk i;rw[dT]at uM;obtain⟨c,t',g1,g2,g3⟩:=uM;simp only[VP];have hl:((es.drop off).take len).length=len:=by simp;omega
    refine⟨_,_,_,h1,hl.symm,by omega,fun hp=>?_⟩;rw[hl]at hp;refine⟨M i,off*sz,sz,h5 (.inl hp),wS,?_⟩;have:=kT (gg T.stays _ _ _ _ (fun _=>rfl) g3) off len;rw[aM]at this;exact this
  ·exact db T _ _ h
 | .ptr i j off,u,h=>by
  simp only[gZ];rcases rJ i id with⟨hb,rfl⟩|⟨hb,eA⟩ <;>rw[hb] <;>simp only[gT,fp]
  ·split
   ·rename_i e he;simp only[VA]at h⊢;have h1:=h.2.2 (sz,es.length) (by simp[aB,dT,dx.info]);have uM:=R.blk i;rw[dT]at uM;obtain⟨c,t',g1,g2,g3⟩:=uM;simp only[VP];refine⟨M i,j*sz,h1,wS,?_⟩;have g:=((eH es 0).1 g3 j e he).2;rw[aM]at g;exact mD T.stays _ _ _ (fun _=>rfl) g
   ·simp only[VA]
  ·exact db T _ _ h
 | .func f fs cs,u,h=>by
  simp only[VA]at h;obtain⟨vs,us,rfl,h1,h2⟩:=h;simp only[gZ];exact HR (lg R dT T wS fs vs h1) (lg R dT T wS cs us h2)
 | .iface t v,u,h=>by
  simp only[VA]at h;obtain⟨x,rfl,h1⟩:=h;have h2:=yL R dT T wS v x h1;simp only[gZ];split
  ·rename_i p hp;rw[hp]at h2;simp only[VA,VP]at h2⊢;exact⟨x,rfl,h2⟩
  ·simp only[VA];exact⟨x,rfl,h2⟩
 | .agg cs,u,h=>by
  simp only[VA]at h;obtain⟨vs,rfl,h1⟩:=h;simp only[gZ];exact mL (lg R dT T wS cs vs h1)
 | .tuple cs,u,h=>by
  simp only[VA]at h;obtain⟨vs,rfl,h1⟩:=h;simp only[gZ,VA];exact⟨vs,rfl,lg R dT T wS cs vs h1⟩
theorem lg(R:Rel X M F H U a w)(dT:H id=.row sz es){H':Hp}(T:iL (aB X w U M H) (aB X w U M H'))(wS:ju X w M H' (M id)):(l:List AV)->(vs:List Value)->ed (aB X w U M H) l vs->ed (aB X w U M H') (iV id es l) vs
 |[],vs,h=>by simpa only[iV,ed]using h
 |c::r,vs,h=>by
  simp only[ed]at h;obtain⟨u,us,rfl,h1,h2⟩:=h;simp only[iV,ed];exact⟨u,us,rfl,yL R dT T wS c u h1,lg R dT T wS r us h2⟩
end
theorem Rel.Np(R:Rel X M F H U a w)(dT:H id=.row sz es){H':Hp}(hd:H' id=.dead)(hH:∀i,i≠id->H' i=nm id es (H i)){F':Fr}(hF:∀t,F' t=gZ id es (F t)):Rel X M F' H' U a w:=by
 have qU:∀B:dx,(nm id es B).info=B.info:=fun B=>by cases B <;>rfl
 have Ls:∀B:dx,nm id es B=.dead->B=.dead:=fun B h=>by cases B <;>simp[nm]at h⊢
 have fL:∀i,H' i≠ .dead->i≠id/\H i≠ .dead:=fun i h=>by
  by_cases h':i=id
  ·subst h';exact absurd hd h
  ·refine⟨h',fun hn=>h ?_⟩;rw[hH i h',hn];rfl
 have T:iL (aB X w U M H) (aB X w U M H'):=by
  refine⟨rfl,⟨fun b hb=>⟨hb.1,hb.2.1,fun i hi=>hb.2.2 i (fL i hi).2⟩,fun _ _=>rfl⟩,fun i h=>h,fun i s hu hs=>?_⟩;by_cases h':i=id
  ·subst h';simp only[aB]at hs;rw[hd]at hs;simp[dx.info]at hs
  ·simp only[aB]at hs⊢;rw[hH i h',qU]at hs;exact⟨hs,trivial,trivial⟩
 have eA:H id≠ .dead:=by rw[dT];simp
 have wS:ju X w M H' (M id):=⟨(R.own id eA).1,(R.own id eA).2.1,fun i hi he=>(fL i hi).1 (R.inj i id (fL i hi).2 eA he)⟩;refine{defers:=R.defers,size:=R.size,keeps:=R.keeps,K:=R.K,used:=fun i hi=>R.used i (fL i hi).2,inj:=fun i j hi hj=>R.inj i j (fL i hi).2 (fL j hj).2,own:=fun i hi=>R.own i (fL i hi).2,
                                                                                                                                blk:=fun i=>?_,fr:=fun t=>by rw[hF];exact yL R dT T wS _ _ (R.fr t),gh:=fun v u h=>db T _ _ (R.gh v u h)}
 by_cases h':i=id
 ·subst h';rw[hd];trivial
 ·rw[hH i h'];have hb:=R.blk i;cases hB:H i with
  |var cs =>
   rw[hB]at hb;obtain⟨c,t,g1,g2,g3⟩:=hb;simp only[nm];refine⟨c,t,g1,by rw[g2,qN],?_⟩;obtain⟨vs,k1,k2,k3⟩:=gf g3;exact kQ (lg R dT T wS cs vs k1) k2 k3
  |_ =>
   rw[hB]at hb;simp only[nm];exact fx T _ (fun _=>rfl) hb
end
def nR(id:Nat)(st:St):St:=match ah st.hp id with
 | .row _ es=>⟨uI id es st.fr,(id,.dead)::pE id es st.hp,st.nx⟩
 |_=>st
def qM(id:Nat)(st:St)(vs:List AV):List AV:=match ah st.hp id with
 | .row _ es=>iV id es vs
 |_=>vs
theorem Rl.Np{X:Ctx}{M:Nat->Nat}{st:St}{a:Act}{w:World}(R:Rl X M st a w)(id:Nat):Rl X M (nR id st) a w:=by
 unfold nR;split
 ·rename_i sz es h;refine Rel.Np R h (by simp only[ah,cg];rfl) (fun i hi=>?_) fun t=>oH _ _;simp only[ah];rw[f6 (fun h=>hi h.symm)];exact kM _ _
 ·exact R
theorem Rl.qM{X:Ctx}{M:Nat->Nat}{st:St}{a:Act}{w:World}(R:Rl X M st a w)(id:Nat){args:List AV}{vs:List Value}(h:ed (aB X w (fun i=>i<st.nx) M (ah st.hp)) args vs) :
    ed (aB X w (fun i=>i<(nR id st).nx) M (ah (nR id st).hp)) (qM id st args) vs:=by
 have R':=R.Np id;unfold Ab.qM;unfold nR at R'⊢;cases hB:ah st.hp id with
 |row sz es =>
  simp only[hB]at R'⊢;have eA:ah st.hp id≠ .dead:=by rw[hB];simp
  have hd:ah ((id,dx.dead)::pE id es st.hp) id=.dead:=by simp only[ah,cg];rfl
  have hH:∀i,i≠id->ah ((id,dx.dead)::pE id es st.hp) i=nm id es (ah st.hp i):=fun i hi=>by
   simp only[ah];rw[f6 (fun h=>hi h.symm)];exact kM _ _
  have fL:∀i,ah ((id,dx.dead)::pE id es st.hp) i≠ .dead->i≠id/\ah st.hp i≠ .dead:=fun i h=>by
   by_cases h':i=id
   ·subst h';exact absurd hd h
   ·refine⟨h',fun hn=>h ?_⟩;rw[hH i h',hn];rfl
  have T:iL (aB X w (fun i=>i<st.nx) M (ah st.hp)) (aB X w (fun i=>i<st.nx) M (ah ((id,dx.dead)::pE id es st.hp))):=by
   refine⟨rfl,⟨fun b hb=>⟨hb.1,hb.2.1,fun i hi=>hb.2.2 i (fL i hi).2⟩,fun _ _=>rfl⟩,fun i h=>h,fun i s hu hs=>?_⟩;by_cases h':i=id
   ·subst h';simp only[aB]at hs;rw[hd]at hs;simp[dx.info]at hs
   ·simp only[aB]at hs⊢;rw[hH i h']at hs;have:(nm id es (ah st.hp i)).info=(ah st.hp i).info:=by cases ah st.hp i <;>rfl
    rw[this]at hs;exact⟨hs,trivial,trivial⟩
  have wS:ju X w M (ah ((id,dx.dead)::pE id es st.hp)) (M id):=⟨(Rel.own R id eA).1,(Rel.own R id eA).2.1,fun i hi he=>(fL i hi).1 (Rel.inj R i id (fL i hi).2 eA he)⟩;exact lg R hB T wS _ _ h
 |_=>simp only[hB]at R'⊢;exact h
def gi:List Nat->St->List AV->St×List AV
 |[],st,vs=>(st,vs)
 |i::r,st,vs=>gi r (nR i st) (qM i st vs)
theorem Rl.JN{X:Ctx}{M:Nat->Nat}{a:Act}{w:World}:∀(l:List Nat) {st:St} {args:List AV} {vs:List Value},Rl X M st a w->ed (aB X w (fun i=>i<st.nx) M (ah st.hp)) args vs ->
    Rl X M (gi l st args).1 a w/\ed (aB X w (fun i=>i<(gi l st args).1.nx) M (ah (gi l st args).1.hp)) (gi l st args).2 vs
 |[],st,args,vs,R,h=>⟨R,h⟩
 |i::r,st,args,vs,R,h=>Rl.JN r (R.Np i) (R.qM i h)
mutual
def sn:AV->List Nat
 | .ms i=>[i]
 | .gd i _ _=>[i]
 | .ptr i _ _=>[i]
 | .func _ fs cs=>fD fs++fD cs
 | .iface _ v=>sn v
 | .agg cs=>fD cs
 | .tuple cs=>fD cs
 |_=>[]
def fD:List AV->List Nat
 |[]=>[]
 |c::r=>sn c++fD r
end
end
theorem lK.trans{dp:Nat->List Nat}{i j k:Nat}(h1:lK dp i j)(h2:lK dp j k):lK dp i k:=by
 induction h2 with
 |one h=>exact .step h1 h
 |step _ h ih=>exact .step ih h
def G9(E:Env)(n:Nat)(args:List AV)(h0:Hp)(n0:Nat)(v:AV)(h1:Hp)(n1:Nat):Prop :=
 E8 E n/\∀X M F a w vs,X.E=E->Rel X M F h0 (fun i=>i<n0) a w->ed (aB X w (fun i=>i<n0) M h0) args vs ->
  Calls E.P (E.ρ n) vs.toArray w fun e w'=>∃u M',e=.returned u/\Rel X M' F h1 (fun i=>i<n1) a w'/\VA (aB X w' (fun i=>i<n1) M' h1) v u
structure Hn where
 x:aV
 kd:Nat
 v:AV
 rd:List Nat
 h0:List (Nat×dx)
 n0:Nat
 h1:List (Nat×dx)
 n1:Nat
def Hn.reads(e:Hn):List Nat:=fq e.x.op++mI e.x.guard
def Hn.step(e:Hn)(s:FS):FS:=⟨put s.F e.x.dst e.v,if e.kd=2 then ah e.h1 else s.H,if e.kd=2 then(fun i=>i<e.n1)else s.U⟩
def Hn.ok(E:Env)(e:Hn)(s:FS):Prop :=
 (e.kd=0/\cH s.F e.x.guard=some false/\e.v=.pv (.tuple [])) \/
 (e.kd=1/\cH s.F e.x.guard=some true/\Ev E s.F s.H e.n0 e.x.op e.v [] 0 e.rd) \/
 (e.kd=2/\cH s.F e.x.guard=some true/\s.H=ah e.h0/\s.U=(fun i=>i<e.n0)/\∃n xs,e.x.op=.call n xs/\G9 E n (fg s.F xs) (ah e.h0) e.n0 e.v (ah e.h1) e.n1)
theorem Hn.vf{E:Env}{e:Hn}{s s':FS}(h:e.ok E s)(hF:∀t∈e.reads,s'.F t=s.F t)(hH:e.kd=1->∀i∈e.rd,s'.H i=s.H i)(hU:e.kd=2->s'.H=s.H/\s'.U=s.U):e.ok E s':=by
 have hg:cH s'.F e.x.guard=cH s.F e.x.guard:=nq fun t ht=>hF t (by simp[Hn.reads,ht]);rcases h with⟨h1,h2,h3⟩|⟨h1,h2,h3⟩|⟨h1,h2,h3,h4,n,xs,h5,h6⟩
 ·exact .inl ⟨h1,by rw[hg];exact h2,h3⟩
 ·exact .inr (.inl ⟨h1,by rw[hg];exact h2,h3.Ld (fun t ht=>hF t (by simp[Hn.reads,ht])) (hH h1)⟩)
 ·obtain⟨u1,u2⟩:=hU h1;refine .inr (.inr ⟨h1,by rw[hg];exact h2,u1.trans h3,u2.trans h4,n,xs,h5,?_⟩);rw[gq fun t ht=>hF t (by simp[Hn.reads,h5,fq,ht])];exact h6
def NQ(E:Env):List Hn->FS->Prop
 |[],_=>True
 |e::r,s=>e.ok E s/\NQ E r (e.step s)
def H4:List Hn->FS->FS
 |[],s=>s
 |e::r,s=>H4 r (e.step s)
def O5:fE->Bool
 | .call _ _=>true
 |_=>false
def PA:fE->Bool
 | .load _ _ _| .jS _| .fieldAddr _ _| .len _| .G2 _| .store _ _ _| .fC _ _ _| .dA _ _ _ _| .slice _ _ _ _| .hY _ _ _ _ _| .bin _ (some _) _ _| .append _ _ _ _| .jR _ _ _ _ _| .lj _ _ _ _=>false
 |_=>true
def NL(e:Hn):Prop:=(e.kd=2->O5 e.x.op=true)/\(PA e.x.op=true->e.rd=[])
inductive rF(E:Env):List aV->St->List Hn->St->Prop
 |nil {st}:rF E [] st [] st
 |float {x l st v rd es bT}:cH (look st.fr) x.guard=some true->Ev E (look st.fr) (ah st.hp) st.nx x.op v [] 0 rd->(PA x.op=true->rd=[])->rF E l ⟨dt st x.dst v,st.hp,st.nx⟩ es bT->rF E (x::l) st (⟨x,1,v,rd,[],st.nx,[],0⟩::es) bT
 |Hi {x l st v n xs hp' cC es bT}:cH (look st.fr) x.guard=some true->x.op=.call n xs->G9 E n (fg (look st.fr) xs) (ah st.hp) st.nx v (ah hp') cC->rF E l ⟨dt st x.dst v,hp',cC⟩ es bT->rF E (x::l) st (⟨x,2,v,[],st.hp,st.nx,hp',cC⟩::es) bT
 |skip {x l st es bT}:cH (look st.fr) x.guard=some false->rF E l ⟨dt st x.dst (.pv (.tuple [])),st.hp,st.nx⟩ es bT->rF E (x::l) st (⟨x,0,.pv (.tuple []),[],[],0,[],0⟩::es) bT
theorem rF.run{E:Env}{l:List aV}{st bT:St}{es:List Hn}(h:rF E l st es bT):NQ E es ⟨look st.fr,ah st.hp,fun i=>i<st.nx⟩/\H4 es ⟨look st.fr,ah st.hp,fun i=>i<st.nx⟩=⟨look bT.fr,ah bT.hp,fun i=>i<bT.nx⟩:=by
 induction h with
 |nil=>exact⟨trivial,rfl⟩
 | @float x l st v rd es bT hg vP To ht ih =>
  have lR:Hn.step ⟨x,1,v,rd,[],st.nx,[],0⟩ ⟨look st.fr,ah st.hp,fun i=>i<st.nx⟩=⟨look (dt st x.dst v),ah st.hp,fun i=>i<st.nx⟩:=by
   simp only[Hn.step];rw[fU,ar (by omega),ar (by omega)]
  refine⟨⟨.inr (.inl ⟨rfl,hg,vP⟩),by rw[lR];exact ih.1⟩,?_⟩;simp only[H4];rw[lR];exact ih.2
 | @Hi x l st v n xs hp' cC es bT hg gB hc ht ih =>
  have lR:Hn.step ⟨x,2,v,[],st.hp,st.nx,hp',cC⟩ ⟨look st.fr,ah st.hp,fun i=>i<st.nx⟩=⟨look (dt st x.dst v),ah hp',fun i=>i<cC⟩:=by
   simp only[Hn.step];rw[fU,aW trivial,aW trivial]
  refine⟨⟨.inr (.inr ⟨rfl,hg,rfl,rfl,n,xs,gB,hc⟩),by rw[lR];exact ih.1⟩,?_⟩;simp only[H4];rw[lR];exact ih.2
 | @skip x l st es bT hg ht ih =>
  have lR:Hn.step ⟨x,0,.pv (.tuple []),[],[],0,[],0⟩ ⟨look st.fr,ah st.hp,fun i=>i<st.nx⟩=⟨look (dt st x.dst (.pv (.tuple []))),ah st.hp,fun i=>i<st.nx⟩:=by
   simp only[Hn.step];rw[fU,ar (by omega),ar (by omega)]
  refine⟨⟨.inl ⟨rfl,hg,rfl⟩,by rw[lR];exact ih.1⟩,?_⟩;simp only[H4];rw[lR];exact ih.2
theorem rF.xs{E:Env}{l:List aV}{st bT:St}{es:List Hn}(h:rF E l st es bT):es.map (·.x)=l:=by
 induction h with
 |nil=>rfl
 |float _ _ _ _ ih=>simp[ih]
 |Hi _ _ _ _ ih=>simp[ih]
 |skip _ _ ih=>simp[ih]
theorem rF.H8{E:Env}{l:List aV}{st bT:St}{es:List Hn}(h:rF E l st es bT):∀e∈es,NL e:=by
 induction h with
 |nil=>exact fun e he=>by simp at he
 |float _ _ To _ ih =>
  intro e he;rcases aQ.1 he with rfl|he
  ·exact⟨fun h=>by simp at h,To⟩
  ·exact ih e he
 |Hi _ gB _ _ ih =>
  intro e he;rcases aQ.1 he with rfl|he
  ·exact⟨fun _=>by rw[gB];rfl,fun _=>rfl⟩
  ·exact ih e he
 |skip _ _ ih =>
  intro e he;rcases aQ.1 he with rfl|he
  ·exact⟨fun h=>by simp at h,fun _=>rfl⟩
  ·exact ih e he
section
section
variable{E:Env}{N:Nat}{hp:List (Nat×dx)}{nx:Nat}
end
/-! ### QH -/
section
variable(nx more pair:Nat)(bl:List aV)
end
def Vf:fE->List AO
 | .mv x=>[x]
 | .extract x _=>[x]
 | .t8 xs=>xs
 | .tb xs=>xs
 |_=>[]
def Iz:List AO->List Nat
 |[]=>[]
 | .t n::r=>n::Iz r
 |_::r=>Iz r
def Px(t:Nat):List Nat->Bool
 |[]=>false
 |a::r=>Nat.beq a t||Px t r
def GS(wr:List Nat):List Nat->List Nat
 |[]=>[]
 |a::r=>cond (Px a wr) (GS wr r) (a::GS wr r)
def carry:List Nat->List aV->List Nat
 |_,[]=>[]
 |wr,x::r=>GS wr (Iz (Vf x.op))++carry (match x.dst with
  |some d=>d::wr
  |none=>wr) r
end
section
open Go.ChangeMaps (setBlock)
section
variable{X:Ctx}{M:Nat->Nat}{F:Fr}{H:Hp}{U:Nat->Prop}{a:Act}{w:World}
theorem Rel.OP(R:Rel X M F H U a w){H':Hp}(h:∀i,H' i=H i):Rel X M F H' U a w:=by
 obtain rfl:H'=H:=funext h;exact R
end
end
section
structure cK where
 fn:Nat->Option bf
 raw:Nat->Bool
 flat:Nat->Bool
 own:Nat->Bool
 still:Nat->Bool
 fW:Nat->Option (List AV->List (Nat×dx)->Nat->Option (AV×List (Nat×dx)×Nat))
abbrev Hl:=List (Nat×dx)
abbrev Cl:=Nat->List AV->Hl->Nat->Option (AV×Hl×Nat)
mutual
def ld:PV->Bool
 | .bool _| .int _ _| .str _| .sd| .nw| .dI=>true
 | .iface _ v=>ld v
 | .agg l| .tuple l=>mm l
 |_=>false
def mm:List PV->Bool
 |[]=>true
 |p::r=>ld p&&mm r
end
section
variable(T:cK)(C:Cl)
def fi(H:Hp):AV->Option Nat
 | .ms id=>match H id with
  | .row sz _=>some sz
  |_=>none
 |_=>none
def du(n:Nat)(ps:List PV):Option (Option Nat×PV) :=
 match C n (dL ps) [] 0 with
 |some (v,hp,_)=>match dD (ah hp) v with
  |some p=>some (fi (ah hp) v,p)
  |none=>none
 |none=>none
def qm(own:Bool)(d:Option Nat)(st:St):Option Nat×PV->St
 |(some sz,.slice es)=>match own with
  |true=>⟨dt st d (.ms st.nx),(st.nx,.row sz es)::st.hp,st.nx+1⟩
  |false=>⟨dt st d (.pv (.slice es)),st.hp,st.nx⟩
 |(_,p)=>⟨dt st d (.pv p),st.hp,st.nx⟩
def DA:Option Nat×PV->Bool
 |(some _,.slice es)=>es.all mm
 |_=>false
def eO(n:Nat)(args:List AV)(d:Option Nat)(st:St):Option St :=
 match T.raw n with
 |true=>match C n args st.hp st.nx with
  |some (v,hp,nx)=>some ⟨dt st d v,hp,nx⟩
  |none=>none
 |false=>match ca args with
  |some ps=>match du C n ps with
   |some r=>some (qm (T.own n) d st r)
   |none=>none
  |none=>match T.flat n with
   |true=>match gy (ah st.hp) args with
    |some ps=>match du C n ps with
     |some (o,p)=>match ld p with
      |true=>some ⟨dt st d (.pv p),st.hp,st.nx⟩
      |false=>match T.own n&&DA (o,p)with
       |true=>some (qm true d st (o,p))
       |false=>none
     |none=>none
    |none=>none
   |false=>match gi (fD args) st args with
    |(bT,Le)=>match ca Le with
     |some ps=>match du C n ps with
      |some r=>some (qm (T.own n) d bT r)
      |none=>none
     |none=>none
def ot(x:aV):Bool:=match x.op with
 | .store _ _ _=>match x.dst with
  |none=>true
  |some _=>false
 |_=>true
def o7:fE->St->Option St
 | .cr _ _ zs ps,st=>match ft (look st.fr) zs ps with
  |some cs=>some (gi (fD cs) st []).1
  |none=>none
 |_,_=>none
theorem zO{op:fE}{st st1:St}(h:o7 op st=some st1):op.lT=false/\∃l,st1=(gi l st []).1:=by
 unfold o7 at h;split at h
 ·split at h
  ·simp at h;exact⟨rfl,_,h.symm⟩
  ·simp at h
 ·simp at h
def rM(x:aV)(st:St):Option St :=
 match x.op with
 | .call n xs=>eO T C n (fg (look st.fr) xs) x.dst st
 | .fK f xs=>match aU (dF (look st.fr) f)with
  |some (n,fs,cs)=>eO T C n (fs++(fg (look st.fr) xs++cs)) x.dst st
  |none=>none
 |op=>match bE (look st.fr) (ah st.hp) st.nx op with
  |some (v,W,n)=>match ot x with
   |true=>some ⟨dt st x.dst v,W++st.hp,st.nx+n⟩
   |false=>none
  |none=>match o7 op st with
   |some st1=>match bE (look st1.fr) (ah st1.hp) st1.nx op with
    |some (v,W,n)=>some ⟨dt st1 x.dst v,W++st1.hp,st1.nx+n⟩
    |none=>none
   |none=>none
def BS(x:aV)(st:St):Option St :=
 match cH (look st.fr) x.guard with
 |some true=>rM T C x st
 |some false=>some ⟨dt st x.dst (.pv (.tuple [])),st.hp,st.nx⟩
 |none=>none
def hJ:List aV->St->Option St
 |[],st=>some st
 |x::r,st=>match BS T C x st with
  |some bT=>hJ r bT
  |none=>none
def gW(own:Bool)(nx:Nat)(r:Option Nat×PV):AV×List (Nat×dx)×Nat:=match own with
 |false=>(.pv r.2,[],0)
 |true=>match r with
  |(some sz,.slice es)=>(.ms nx,[(nx,.row sz es)],1)
  |(_,p)=>(.pv p,[],0)
def zu(x:aV)(st:St)(q:AV×List (Nat×dx)×Nat):En×St:=(⟨x,false,st.nx,q.1,q.2.1,q.2.2,[]⟩,⟨dt st x.dst q.1,q.2.1++st.hp,st.nx+q.2.2⟩)
def cK.se(T:cK)(n:Nat):Bool:=Nat.beq n 279&&T.own n
def eK(x:aV)(st:St):Option (En×St) :=
 match x.op with
 | .call n xs=>match T.raw n,ca (fg (look st.fr) xs)with
  |false,some ps=>match du C n ps with
   |some r=>some (zu x st (gW (T.se n) st.nx r))
   |none=>none
  |_,_=>none
 | .fK f xs=>match aU (dF (look st.fr) f)with
  |some (n,fs,cs)=>match T.raw n,ca (fs++(fg (look st.fr) xs++cs))with
   |false,some ps=>match du C n ps with
    |some (_,p)=>some (⟨x,false,st.nx,.pv p,[],0,[]⟩,⟨dt st x.dst (.pv p),st.hp,st.nx⟩)
    |none=>none
   |_,_=>none
  |none=>none
 |op=>match bE (look st.fr) (ah st.hp) st.nx op with
  |some (v,W,n)=>some (⟨x,false,st.nx,v,W,n,iJ (look st.fr) op⟩,⟨dt st x.dst v,W++st.hp,st.nx+n⟩)
  |none=>none
def jh(x:aV)(st:St):Option (En×St) :=
 match cH (look st.fr) x.guard with
 |some true=>eK T C x st
 |some false=>some (⟨x,true,st.nx,.pv (.tuple []),[],0,[]⟩,⟨dt st x.dst (.pv (.tuple [])),st.hp,st.nx⟩)
 |none=>none
def jb:List aV->St->Option (List En×St)
 |[],st=>some ([],st)
 |x::r,st=>match jh T C x st with
  |some (e,bT)=>match jb r bT with
   |some (es,Be)=>some (e::es,Be)
   |none=>none
  |none=>none
def iB(H:Hp):Hl->List Nat
 |[]=>[]
 |(i,_)::r=>match H i with
  | .row _ _=>i::iB H r
  |_=>iB H r
def lf(still:Bool)(st:St):St:=match still with
 |true=>(gi (iB (ah st.hp) st.hp) st []).1
 |false=>st
def f9(still:Bool)(l:List aV)(st:St):Option St :=
 match jb T C l (lf still st)with
 |some (es,bT)=>match eC 0 es with
  |true=>some bT
  |false=>none
 |none=>none
noncomputable def run(still:Bool):Nat->bx->St->Option (Exit×St)
 |0,_,_=>none
 |k+1,.skip,st=>some (.normal,st)
 |k+1,.ops l,st=>match hJ T C l st with
  |some bT=>some (.normal,bT)
  |none=>none
 |k+1,.draw l,st=>match f9 T C still l st with
  |some bT=>some (.normal,bT)
  |none=>none
 |k+1,.seq a b,st=>match run still k a st with
  |some (.normal,bT)=>run still k b bT
  |r=>r
 |k+1,.cond c a b,st=>match dF (look st.fr) c with
  | .pv (.bool true)=>run still k a st
  | .pv (.bool false)=>run still k b st
  |_=>none
 |k+1,.block id b,st=>match run still k b st with
  |some (.exit i,bT)=>match Nat.beq i id with
   |true=>some (.normal,bT)
   |false=>some (.exit i,bT)
  |r=>r
 |k+1,.loop b,st=>match run still k b st with
  |some (.normal,bT)=>run still k (.loop b) bT
  |r=>r
 |k+1,.exit id,st=>some (.exit id,st)
 |k+1,.ret,st=>some (.ret,st)
end
def fA:Nat->List AV->List (Nat×AV)
 |_,[]=>[]
 |k,p::r=>(k,p)::fA (k+1) r
def KV(f:bf):Option (Exit×St)->Option (AV×Hl×Nat)
 |some (.ret,st)=>match kG (look st.fr) (ah st.hp) f.res with
  |some vs=>some (gJ vs,st.hp,st.nx)
  |none=>none
 |some (.normal,st)=>match kG (look st.fr) (ah st.hp) f.res with
  |some vs=>some (gJ vs,st.hp,st.nx)
  |none=>none
 |_=>none
noncomputable def den(T:cK):Nat->Cl
 |0=>fun _ _ _ _=>none
 |k+1=>fun n args hp nx=>match T.fW n with
  |some g=>g args hp nx
  |none=>match T.fn n with
   |some f=>match Nat.ble args.length f.N with
    |true=>KV f (run T (den T k) (T.still n) k f.body ⟨fA 0 args,hp,nx⟩)
    |false=>none
   |none=>none
end
def kl(E:Env)(n:Nat)(args:List AV)(hp:Hl)(nx:Nat)(v:AV)(hp':Hl)(cC:Nat):Prop :=
 E8 E n/\∀X M F a w vs,X.E=E->Rel X M F (ah hp) (fun i=>i<nx) a w->ed (aB X w (fun i=>i<nx) M (ah hp)) args vs ->
  Calls E.P (E.ρ n) vs.toArray w fun e w'=>∃u M',e=.returned u/\Rel X M' F (ah hp') (fun i=>i<cC) a w'/\VA (aB X w' (fun i=>i<cC) M' (ah hp')) v u
def Jd(E:Env)(C:Cl):Prop:=∀n args hp nx v hp' cC,C n args hp nx=some (v,hp',cC)->kl E n args hp nx v hp' cC
theorem oZ.step{E:Env}{N:Nat}{x:aV}{l:List aV}{Q:St->Prop}{st st1:St}(hg:cH (look st.fr) x.guard=some true)
    (hd:∀o,ey E o=some x.op->o.dst=x.dst->(∀k,o.dst=some k->k<N)->∀X M a w (Q:Act->World->Prop) Q',X.E=E->X.N=N->Rl X M st a w->(∀M' a' w',Rl X M' st1 a' w'->Q a' w')->o.wp E.P a w Q Q')
    (h:oZ E N l Q st1):oZ E N (x::l) Q st:=by
 intro ops k hk hl X M a w Q' hE hN R hq;obtain⟨o,ho,hc⟩:=hl 0 x rfl;obtain⟨h1,h2,h3,h4⟩:=kY hc;simp only[ay,List.range'_succ];rw[wpOps_cons];unfold wpOp;rw[show ops[k]? =some o from ho];simp only;have hw:=qR (X:=X) (o:=o) R (by rw[hN];exact h4) hg;rw[aW hw];left;refine hd o h1 h2 h3 X M a w _ _ hE hN R fun M' a' w' R'=>?_;refine h ops (k+1) (by simp at hk;omega) (fun j y hy=>?_) X M' a' w' Q' hE hN R' hq;have:=hl (j+1) y (by simpa using hy);rwa [<-eW,Nat.add_right_comm]at this
theorem oZ.JC{E:Env}{N:Nat}{x:aV}{l:List aV}{Q:St->Prop}{st:St}{v:AV}{W:List (Nat×dx)}{n:Nat}(hg:cH (look st.fr) x.guard=some true)
    (hd:∀o,ey E o=some x.op->o.dst=x.dst->(∀k,o.dst=some k->k<N)->cL E N o (look st.fr) (ah st.hp) (fun i=>i<st.nx) v W (fun i=>i<st.nx+n))
    (h:oZ E N l Q ⟨dt st x.dst v,W++st.hp,st.nx+n⟩):oZ E N (x::l) Q st:=oZ.cons hg (fun o h1 h2 h3=>hd o h1 h2 h3) h
theorem vb:∀(ps:List AV) (k t:Nat),look (fA k ps) t=if k<=t then(match ps[t-k]? with|some p=>p|none=>.bot)else .bot
 |[],k,t=>by
  simp only[fA,look,List.getElem?_nil];split <;>rfl
 |p::r,k,t=>by
  simp only[fA,look];by_cases h:k=t
  ·subst h;rw[cg];simp
  ·rw[f6 h];simp only[fp];rw[vb r (k+1) t];by_cases h2:k<=t
   ·obtain⟨j,hj⟩:∃j,t-k=j+1:=⟨t-k-1,by omega⟩;rw[aW (by omega),aW h2,hj,eE,show t-(k+1)=j by omega]
   ·rw[ar (by omega),ar h2]
def Conv(E:Env)(v:AV)(hp:Hl)(nx:Nat)(v':AV)(hp':Hl)(cC:Nat):Prop :=
 ∀X M F a w u,X.E=E->Rel X M F (ah hp) (fun i=>i<nx) a w->VA (aB X w (fun i=>i<nx) M (ah hp)) v u ->
  Rel X M F (ah hp') (fun i=>i<cC) a w/\VA (aB X w (fun i=>i<cC) M (ah hp')) v' u
theorem kl.DU{E:Env}{n:Nat}{af:bf}{args:List AV}{hp hp':Hl}{nx cC:Nat}{v:AV}(hE:E.OK)(hf:cFunc E n=some af)(hN:args.length<=af.N)
    (h:WP E af.N af.body (fun e st=>(e=.ret\/e=.normal)/\∃vs,kG (look st.fr) (ah st.hp) af.res=some vs/\Conv E (gJ vs) st.hp st.nx v hp' cC) ⟨fA 0 args,hp,nx⟩):kl E n args hp nx v hp' cC:=by
 unfold cFunc at hf;split at hf
 ·rename_i fn hfn;split at hf
  ·simp at hf
  ·rename_i P4;split at hf
   ·rename_i c Lq;split at hf
    ·rename_i b l hb hl;simp at hf;subst hf;refine⟨⟨fn,hfn,by simpa using P4,by simp[Lq]⟩,fun X M F a w vs hX R hv=>?_⟩;refine calls_of_wp hfn Lq ?_;have hlen:=ee hv;have lI:(vs.toArray++Array.replicate (fn.ntmps-vs.toArray.size) undef).size=fn.ntmps:=by
      simp only[Array.size_append,List.size_toArray,Array.size_replicate];simp only at hN;omega
     let X':Ctx:=⟨E,X.K,w,fun b=>∃i,ah hp i≠ .dead/\M i=b,fn.ntmps,fun v u=>X.G v u\/∃t,v=F t/\u=a.tmps.getD t undef,⟨hX▸R.inv,fun p hp=>fun⟨i,hi,he⟩=>R.gl p (hX▸hp) i hi he⟩⟩
     have uR:∀w U M H,aB X' w U M H=aB X w U M H:=fun w U M H=>by simp only[aB,X',hX];rfl
     have R0:Rl X' M ⟨fA 0 args,hp,nx⟩ {tmps:=vs.toArray++Array.replicate (fn.ntmps-vs.toArray.size) undef,defers:=[]} w:=by
      refine{defers:=rfl,size:=lI,keeps:=jF.refl,K:=fun b hb=>dy (R.K b hb) R.keeps.size,used:=R.used,inj:=R.inj,own:=fun i hi=>⟨(R.own i hi).1,(R.own i hi).2.1,.inl ⟨i,hi,rfl⟩⟩,
             blk:=fun i=>by rw[uR];exact R.blk i,gh:=fun v u hg=>?_,fr:=fun t=>?_}
      ·simp only;rw[vb,uR];simp only[aO,bz,Nat.sub_zero];split
       ·rename_i p hp;obtain⟨l1,m1⟩:=(ig _ _).1 hv;have hlt:t<vs.length:=by rw[l1];exact(aA.1 hp).1
        have:(vs.toArray++Array.replicate (fn.ntmps-vs.toArray.size) undef).getD t undef=vs[t]:=by
         simp[Array.getElem?_append,hlt]
        rw[this];exact m1 t p _ hp (by simp[hlt])
       ·simp only[VA]
      ·rw[uR];rcases hg with hg|⟨t,rfl,rfl⟩
       ·exact R.gh v u hg
       ·exact R.fr t
     refine h c hb X' _ _ _ _ rfl rfl R0 fun e M' bT a' w' hQ R'=>?_;have main:(∃vs,kG (look bT.fr) (ah bT.hp) l=some vs/\Conv E (gJ vs) bT.hp bT.nx v hp' cC) ->
                                                                         a'.defers=[]/\∃x,(results fn a'.tmps).run E.P w'=.ok x w'/\∃u M',Ending.returned x=.returned u/\Rel X M' F (ah hp') (fun i=>i<cC) a w'/\VA (aB X w' (fun i=>i<cC) M' (ah hp')) v u:=by
      rintro⟨vs,g1,ON⟩
      obtain⟨us,k1,k2,k3⟩:=zl R' hl g1;have ir:(fn.results.mapM fun x=>(match x with| .tmp t=>pure (a'.tmps.getD t undef)| .cell a t=>do loadVar t (<-asAddr (a'.tmps.getD a undef)):Sem Value)).run E.P w'=.ok us.toArray w':=by
       have hm:(fn.results.toList.mapM fun x=>(match x with| .tmp t=>pure (a'.tmps.getD t undef)| .cell a t=>do loadVar t (<-asAddr (a'.tmps.getD a undef)):Sem Value)).run E.P w'=.ok us w':=Ig k1 k3;rw[Array.mapM_eq_mapM_toList,map_eq_pure_bind,rb hm];rfl
      refine⟨R'.defers,if h:us.toArray.size=1 then us.toArray[0]else .tuple us.toArray,?_,_,M',rfl,ON X M' F a w' _ hX ?_ ?_⟩
      ·unfold results;exact rb ir
      ·refine{defers:=R.defers,size:=R.size,keeps:=R.keeps.trans R'.keeps fun b hb hs=>?_,K:=R.K,used:=R'.used,inj:=R'.inj,own:=fun i hi=>?_,blk:=fun i=>by rw[<-uR];exact R'.blk i,fr:=fun t=>?_,gh:=fun v u hg=>?_}
       ·obtain⟨i,hi,rfl⟩:=hs;rcases(R.own i hi).2.2 with h1|h1
        ·exact h1
        ·omega
       ·obtain⟨o1,o2,o3⟩:=R'.own i hi;refine⟨o1,o2,?_⟩;rcases o3 with⟨j,hj,Ux⟩|o3
        ·rw[<-Ux];exact(R.own j hj).2.2
        ·exact .inr (cG R.keeps.size o3)
       ·rw[<-uR];exact R'.gh _ _ (.inr ⟨t,rfl,rfl⟩)
       ·rw[<-uR];exact R'.gh _ _ (.inl hg)
      ·rw[<-uR];have ME:=ee k2;unfold gJ;split
       ·rename_i v;simp only[ed]at k2;obtain⟨u,PU,rfl,k4,rfl⟩:=k2;simpa using k4
       ·rename_i eA;rw[dif_neg]
        ·simp only[VA];exact⟨us,rfl,k2⟩
        ·intro h1;have:vs.length=1:=by rw[<-ME];simpa using h1
         obtain⟨v,rfl⟩:=IQ.1 this;exact eA v rfl
     obtain⟨he,hm⟩:=hQ;rcases he with rfl|rfl
     ·exact main hm
     ·exact main hm
    ·simp at hf
   ·simp at hf
 ·simp at hf
theorem kl.KB{E:Env}{n:Nat}{af:bf}{args:List AV}{hp hp':Hl}{nx cC:Nat}{v:AV}(hE:E.OK)(hf:cFunc E n=some af)(hN:args.length<=af.N)
    (h:WP E af.N af.body (fun e st=>(e=.ret\/e=.normal)/\∃vs,kG (look st.fr) (ah st.hp) af.res=some vs/\gJ vs=v/\st.hp=hp'/\st.nx=cC) ⟨fA 0 args,hp,nx⟩):kl E n args hp nx v hp' cC:=by
 refine kl.DU hE hf hN (WP.mono h ?_)
 rintro e st ⟨he,vs,h1,h2,h3,h4⟩
 refine⟨he,vs,h1,fun X M F a w u hX R hu=>?_⟩;subst h2 h3 h4;exact⟨R,hu⟩
theorem kl.pure{E:Env}{n:Nat}{ps:List PV}{v:AV}{hp:Hl}{nx:Nat}{p:PV}(h:kl E n (dL ps) [] 0 v hp nx)(hp':dD (ah hp) v=some p):Pure E n ps p:=by
 refine⟨h.1,fun K w vs hI hK hv=>?_⟩
 let X:Ctx:=⟨E,K,w,fun _=>False,0,fun _ _=>False,⟨hI,fun _ _ h=>h⟩⟩
 have R:Rel X (fun _=>0) (fun _=>.bot) (ah []) (fun i=>i<0) {tmps:= #[],defers:=[]} w :=
  {defers:=rfl,size:=rfl,keeps:=jF.refl,K:=hK,used:=fun i hi=>absurd rfl hi,inj:=fun i j hi=>absurd rfl hi,own:=fun i hi=>absurd rfl hi,blk:=fun i=>trivial,gh:=fun _ _ h=>h.elim,fr:=fun t=>by simp only[VA]}
 refine(h.2 X _ _ _ w vs rfl R ?_).mono fun e w' hh=>?_
 ·refine lW.2 (dJ ⟨fun b hb=>⟨hb.1,hb.2,fun i hi=>absurd rfl hi⟩,fun _ _=>rfl⟩ _ _ hv)
 ·obtain⟨u,M',rfl,R',hu⟩:=hh;exact⟨u,rfl,vB R' (fun b hb=>⟨hb.1,hb.2.1⟩) (fun i hi=>⟨(R'.own i hi).1,(R'.own i hi).2.1⟩) _ _ _ hp' hu,R'.keeps⟩
section
mutual
theorem qI{E:Env}{w w':World}{ok ok':Nat->Prop}:(p:PV)->(v:Value)->ld p=true->VP E w ok p v->VP E w' ok' p v
 | .bool b,v,h,hv=>by simpa only[VP]using hv
 | .int k n,v,h,hv=>by simpa only[VP]using hv
 | .str s,v,h,hv=>by simpa only[VP]using hv
 | .sd,v,h,hv=>by simpa only[VP]using hv
 | .nw,v,h,hv=>by simpa only[VP]using hv
 | .dI,v,h,hv=>by simpa only[VP]using hv
 | .gX _ _,v,h,hv=>by simp[ld]at h
 | .slice _,v,h,hv=>by simp[ld]at h
 | .map _,v,h,hv=>by simp[ld]at h
 | .func _ _ _,v,h,hv=>by simp[ld]at h
 | .iface t p,v,h,hv=>by
  simp only[ld]at h;simp only[VP]at hv⊢;obtain⟨u,h1,h2⟩:=hv;exact⟨u,h1,qI p u h h2⟩
 | .agg l,v,h,hv=>by
  simp only[ld]at h;simp only[VP]at hv⊢;obtain⟨u,h1,h2⟩:=hv;exact⟨u,h1,rU l u h h2⟩
 | .tuple l,v,h,hv=>by
  simp only[ld]at h;simp only[VP]at hv⊢;obtain⟨u,h1,h2⟩:=hv;exact⟨u,h1,rU l u h h2⟩
theorem rU{E:Env}{w w':World}{ok ok':Nat->Prop}:(l:List PV)->(vs:List Value)->mm l=true->VPs E w ok l vs->VPs E w' ok' l vs
 |[],vs,h,hv=>by simpa only[VPs]using hv
 |p::r,vs,h,hv=>by
  simp only[mm,bj]at h;simp only[VPs]at hv⊢;obtain⟨u,us,h1,h2,h3⟩:=hv;exact⟨u,us,h1,qI p u h.1 h2,rU r us h.2 h3⟩
end
section
variable{E:Env}{N:Nat}{T:cK}{C:Cl}{st st1:St}
theorem Rel.GL{X:Ctx}{M:Nat->Nat}{F:Fr}{H:Hp}{U:Nat->Prop}{a:Act}{w:World}(R:Rel X M F H U a w){n:Nat}{args:List AV}{vs:List Value}{ps:List PV}{p:PV}(hv:ed (aB X w U M H) args vs)
    (h1:gy H args=some ps) (h2:Pure X.E n ps p) (h3:ld p=true) :
    Calls X.E.P (X.E.ρ n) vs.toArray w fun e w'=>∃v,e=.returned v/\Rel X M F H U a w'/\VA (aB X w' U M H) (.pv p) v:=by
 have iW:VPs X.E w (PE X.K w) ps vs:=jz R (fun b hb=>⟨hb.1,hb.2.1⟩) (fun i hi=>⟨(R.own i hi).1,(R.own i hi).2.1⟩) _ _ _ h1 hv;refine(h2.2 X.K w vs R.inv (fun b hb=>dy (R.K b hb) R.keeps.size) iW).mono fun e w' hh=>?_;obtain⟨v,rfl,g1,g2⟩:=hh;refine⟨v,rfl,R.grown g2,?_⟩;simp only[VA];exact qI p v h3 g1
theorem Rel.Eu{X:Ctx}{M:Nat->Nat}{F:Fr}{H:Hp}{U:Nat->Prop}{a:Act}{w:World}(R:Rel X M F H U a w){n:Nat}{args:List AV}{vs:List Value}{ps:List PV}{p:PV}(hv:ed (aB X w U M H) args vs)
    (h1:ca args=some ps) (h2:Pure X.E n ps p) :
    Calls X.E.P (X.E.ρ n) vs.toArray w fun e w'=>∃v,e=.returned v/\Rel X M F H U a w'/\VA (aB X w' U M H) (.pv p) v:=by
 have h3:=eT _ _ _ h1 hv;refine(h2.2 (fun b=>X.K b\/∃i,H i≠ .dead/\M i=b) w _ R.inv (fun b hb=>by
  rcases hb with hb|⟨i,hi,rfl⟩
  ·exact dy (R.K b hb) R.keeps.size
  ·exact(R.own i hi).1) (dJ ⟨fun b hb=>⟨hb.1,fun h=>by
   rcases h with h|⟨i,hi,h⟩
   ·exact hb.2.1 h
   ·exact hb.2.2 i hi h⟩,fun _ _=>rfl⟩ _ _ h3)).mono fun e w' hh=>?_
 obtain⟨v,rfl,g1,g2⟩:=hh;refine⟨v,rfl,R.grown g2,?_⟩;simp only[VA];exact iz ⟨fun b hb=>⟨hb.1,fun h=>hb.2 (.inl h),fun i hi h=>hb.2 (.inr ⟨i,hi,h⟩)⟩,fun _ _=>rfl⟩ _ _ g1
theorem js{n:Nat}{ps:List PV}{o:Option Nat}{p:PV}(h:du C n ps=some (o,p)):∃v hp nx,C n (dL ps) [] 0=some (v,hp,nx)/\dD (ah hp) v=some p/\o=fi (ah hp) v:=by
 unfold du at h;split at h
 ·rename_i v hp nx h1;split at h
  ·rename_i q h2;simp at h;obtain⟨rfl,rfl⟩:=h;exact⟨v,hp,nx,h1,h2,rfl⟩
  ·simp at h
 ·simp at h
theorem xF{E:Env}{w w':World}{ok ok':Nat->Prop}{b sz:Nat}{es:List (List PV)}(hf:es.all mm=true)(hc:∀o,w'.cell? ⟨b,o,none⟩=w.cell? ⟨b,o,none⟩)(h:di E w ok es b 0 sz):di E w' ok' es b 0 sz:=by
 refine(eH es 0).2 fun i e he=>?_;obtain⟨h1,h2⟩:=(eH es 0).1 h i e he;refine⟨h1,?_⟩;have OQ:mm e=true:=NM.1 hf e (dZ he);generalize 0+i*sz=o at h2⊢;clear h1 he;induction e generalizing o with
 |nil=>simp only[iu]
 |cons p r ih =>
  simp only[mm,bj]at OQ;simp only[iu]at h2⊢;obtain⟨⟨u,g1,g2,g3⟩,g4⟩:=h2;exact⟨⟨u,by rw[hc];exact g1,g2,qI p u OQ.1 g3⟩,ih OQ.2 (o+1) g4⟩
theorem B1{X:Ctx}{M:Nat->Nat}{F:Fr}{H:Hp}{U:Nat->Prop}{k:Nat}{a:Act}{w:World}{vs:List Value}(R:Rel X M F H U a w)(K8:¬U k){n:Nat}{ps:List PV}{id sz cC:Nat}{es:List (List PV)}{hp:Hl}(h2:kl X.E n (dL ps) [] 0 (.ms id) hp cC)(h3:ah hp id=.row sz es)
    (K1:Nat->Prop) (Qg:∀b,K1 b->b<w.heap.size) (Tc:∀b,X.K b->K1 b) (iW:VPs X.E w (PE K1 w) ps vs) (Hs:(∀i,H i≠ .dead->K1 (M i))\/es.all mm=true) :
    Calls X.E.P (X.E.ρ n) vs.toArray w fun e w'=>∃v M',e=.returned v/\Rel X M' F (wr H [(k,.row sz es)]) (fun i=>U i\/i=k) a w'/\VA (aB X w' (fun i=>U i\/i=k) M' (wr H [(k,.row sz es)])) (.ms k) v:=by
 let X1:Ctx:=⟨X.E,K1,w,fun _=>False,0,fun _ _=>False,⟨R.inv,fun _ _ h=>h⟩⟩
 have R1:Rel X1 (fun _=>0) (fun _=>.bot) (ah []) (fun i=>i<0) {tmps:= #[],defers:=[]} w :=
  {defers:=rfl,size:=rfl,keeps:=jF.refl,K:=Qg,used:=fun i hi=>absurd rfl hi,inj:=fun i j hi=>absurd rfl hi,own:=fun i hi=>absurd rfl hi,blk:=fun i=>trivial,gh:=fun _ _ h=>h.elim,fr:=fun t=>by simp only[VA]}
 have hargs:ed (aB X1 w (fun i=>i<0) (fun _=>0) (ah [])) (dL ps) vs:=by
  exact lW.2 (dJ ⟨fun b hb=>⟨hb.1,hb.2,fun i hi=>absurd rfl hi⟩,fun _ _=>rfl⟩ _ _ iW)
 refine(h2.2 X1 _ _ _ w vs rfl R1 hargs).mono fun e w' hh=>?_;obtain⟨u,M',rfl,R',hu⟩:=hh;have hk:jF (fun _=>False) w w':=R'.keeps;have Ls:H k=.dead:=xA fun h=>K8 (R.used k h);have hH:∀i,k≠i->wr H [(k,.row sz es)] i=H i:=fun i h=>by rw[eu H _ [] h];rfl
 have dT:ah hp id≠ .dead:=by rw[h3];simp
 obtain⟨o1,o2,o3⟩:=R'.own id dT;have lI:w.heap.size<=M' id:=o3.resolve_left (fun h=>h);have T:iL (aB X w U M H) (aB X w' (fun i=>U i\/i=k) (wz M k (M' id)) (wr H [(k,.row sz es)])):=by
  refine R.turn hk.size (fun b hb _=>hk.block b hb (fun h=>h)) (fun i hi=>?_) (fun i h=>.inl h) (fun i s hu hs=>?_)
  ·by_cases h:k=i
   ·subst h;exact .inr (by rw[cS];exact lI)
   ·rw[hH i h]at hi;exact .inl ⟨i,hi,cI h⟩
  ·by_cases h:k=i
   ·subst h;exact absurd hu K8
   ·rw[hH i h]at hs;refine⟨hs,cI h,fJ (hk.block _ (R.own i ?_).1 (fun h=>h))⟩;intro h';rw[h']at hs;simp[dx.info]at hs
 simp only[VA]at hu;obtain⟨cap,t,gU,g1,g2,g3,g4⟩:=hu.2.2 (sz,es.length) (by simp[aB,h3,dx.info]);have uM:=R'.blk id;rw[h3]at uM;obtain⟨c,t',k1,k2,k3⟩:=uM;refine⟨u,wz M k (M' id),rfl,?_,?_⟩
 ·refine{defers:=R.defers,size:=R.size,keeps:=R.keeps.trans hk (fun _ _ h=>h.elim),K:=R.K,used:=fun i hi=>?_,inj:=fun i j hi hj rY=>?_,own:=fun i hi=>?_,blk:=fun i=>?_,fr:=fun t=>db T _ _ (R.fr t),gh:=fun v u h=>db T _ _ (R.gh v u h)}
  ·by_cases h:k=i
   ·exact .inr h.symm
   ·rw[hH i h]at hi;exact .inl (R.used i hi)
  ·by_cases h1:k=i
   ·subst h1;by_cases h2:k=j
    ·exact h2
    ·rw[hH j h2]at hj;rw[cS,cI h2]at rY;have:=(R.own j hj).1;omega
   ·rw[hH i h1]at hi;by_cases h2:k=j
    ·subst h2;rw[cS,cI h1]at rY;have:=(R.own i hi).1;omega
    ·rw[hH j h2]at hj;rw[cI h1,cI h2]at rY;exact R.inj i j hi hj rY
  ·by_cases h:k=i
   ·subst h;rw[cS];exact⟨o1,fun h=>o2 (Tc _ h),.inr (cG R.keeps.size lI)⟩
   ·rw[hH i h]at hi;rw[cI h];obtain⟨q1,q2,q3⟩:=R.own i hi;exact⟨dy q1 hk.size,q2,q3⟩
  ·by_cases h:k=i
   ·subst h;rw[cS,dY];refine⟨c,t',k1,k2,?_⟩;rcases Hs with Hs|Hs
    ·have wS:∀b,ju X1 w' M' (ah hp) b->ju X w' (wz M k (M' id)) (wr H [(k,.row sz es)]) b:=fun b hb=>by
      refine⟨hb.1,fun h=>hb.2.1 (Tc _ h),fun i hi=>?_⟩;by_cases h:k=i
      ·subst h;rw[cS];exact hb.2.2 id dT
      ·rw[hH i h]at hi;rw[cI h];exact fun he=>hb.2.1 (he▸Hs i hi)
     exact gg ⟨wS,fun _ _=>rfl⟩ _ _ _ _ (fun _=>rfl) k3
    ·exact xF Hs (fun _=>rfl) k3
   ·rw[hH i h,cI h];exact fx T _ (fun eA=>hk.block _ (R.own i eA).1 (fun h=>h)) (R.blk i)
 ·simp only[VA];refine⟨.inr rfl,hu.2.1,fun s hs=>?_⟩;have:some (sz,es.length)=some s:=by rw[<-hs];simp only[aB];rw[dY];rfl
  simp only[ai]at this;subst this;simp only[aB,cS];exact⟨cap,t,gU,g1,g2,g3,g4⟩
theorem Ee.of{E:Env}{n:Nat}{ps:List PV}{id sz cC:Nat}{es:List (List PV)}{hp:Hl}(h2:kl E n (dL ps) [] 0 (.ms id) hp cC)(h3:ah hp id=.row sz es):Ee E n ps sz es:=by
 refine⟨h2.1,fun X M F H U k a w vs Mu R K8 iW=>?_⟩;subst Mu;refine B1 R K8 h2 h3 (fun b=>X.K b\/∃i,H i≠ .dead/\M i=b) (fun b hb=>?_) (fun b h=>.inl h) (dJ ⟨fun b hb=>⟨hb.1,fun h=>?_⟩,fun _ _=>rfl⟩ _ _ iW) (.inl fun i hi=>.inr ⟨i,hi,rfl⟩)
 ·rcases hb with hb|⟨i,hi,rfl⟩
  ·exact dy (R.K b hb) R.keeps.size
  ·exact(R.own i hi).1
 ·rcases h with h|⟨i,hi,h⟩
  ·exact hb.2.1 h
  ·exact hb.2.2 i hi h
theorem Rel.GK{X:Ctx}{M:Nat->Nat}{F:Fr}{H:Hp}{nx:Nat}{a:Act}{w:World}(R:Rel X M F H (fun i=>i<nx) a w){n:Nat}{args:List AV}{vs:List Value}{ps:List PV}{id sz cC:Nat}{es:List (List PV)}{hp:Hl}
    (hv:ed (aB X w (fun i=>i<nx) M H) args vs) (h1:gy H args=some ps) (h2:kl X.E n (dL ps) [] 0 (.ms id) hp cC) (h3:ah hp id=.row sz es) (hf:es.all mm=true) :
    Calls X.E.P (X.E.ρ n) vs.toArray w fun e w'=>∃v M',e=.returned v/\Rel X M' F (wr H [(nx,.row sz es)]) (fun i=>i<nx+1) a w'/\VA (aB X w' (fun i=>i<nx+1) M' (wr H [(nx,.row sz es)])) (.ms nx) v:=by
 have iW:VPs X.E w (PE X.K w) ps vs:=jz R (fun b hb=>⟨hb.1,hb.2.1⟩) (fun i hi=>⟨(R.own i hi).1,(R.own i hi).2.1⟩) _ _ _ h1 hv;have Mu:=B1 R (Nat.lt_irrefl nx) h2 h3 X.K (fun b hb=>dy (R.K b hb) R.keeps.size) (fun _ h=>h) iW (.inr hf);have hU:(fun i=>i<nx\/i=nx)=(fun i=>i<nx+1):=funext fun i=>propext (by omega);rw[hU]at Mu;exact Mu
theorem Rel.Jx{X:Ctx}{M:Nat->Nat}{F:Fr}{H:Hp}{nx:Nat}{a:Act}{w:World}(R:Rel X M F H (fun i=>i<nx) a w){n:Nat}{args:List AV}{vs:List Value}{ps:List PV}{id sz cC:Nat}{es:List (List PV)}{hp:Hl}
    (hv:ed (aB X w (fun i=>i<nx) M H) args vs) (h1:ca args=some ps) (h2:kl X.E n (dL ps) [] 0 (.ms id) hp cC) (h3:ah hp id=.row sz es) :
    Calls X.E.P (X.E.ρ n) vs.toArray w fun e w'=>∃v M',e=.returned v/\Rel X M' F (wr H [(nx,.row sz es)]) (fun i=>i<nx+1) a w'/\VA (aB X w' (fun i=>i<nx+1) M' (wr H [(nx,.row sz es)])) (.ms nx) v:=by
 have Mu:=(Ee.of h2 h3).2 X M F H (fun i=>i<nx) nx a w vs rfl R (Nat.lt_irrefl _) (eT _ _ _ h1 hv);have hU:(fun i=>i<nx\/i=nx)=(fun i=>i<nx+1):=funext fun i=>propext (by omega);rw[hU]at Mu;exact Mu
theorem vm(hC:Jd E C){n:Nat}{args:List AV}{d:Option Nat}{r:Option Nat×PV}{own:Bool}{ps:List PV}{o:Oper}(hd:o.dst=d)(Bq:∀k,o.dst=some k->k<N)(h1:ca args=some ps)(h2:du C n ps=some r){vs:List Value}
    {X:Ctx} {M:Nat->Nat} {a:Act} {w:World} {Q:Act->World->Prop} {Q'} (hE:X.E=E) (hN:X.N=N) (R:Rl X M st a w) (hv:ed (aB X w (fun i=>i<st.nx) M (ah st.hp)) args vs)
    (hx:∀{w},(E8 E n)->(execOp a.eval o).run E.P w=.ok (.enter (E.ρ n) vs.toArray) w) (hq:∀M' a' w',Rl X M' (qm own d st r) a' w'->Q a' w'):o.wp E.P a w Q Q':=by
 obtain⟨o',p⟩:=r;obtain⟨v,hp,nx,g1,g2,rfl⟩:=js h2;have eG:=hC _ _ _ _ _ _ _ g1;have hP:=eG.pure g2;have plain:qm own d st (fi (ah hp) v,p)=⟨dt st d (.pv p),st.hp,st.nx⟩->o.wp E.P a w Q Q':=by
  intro he;rw[Oper.wp,hx hP.1,sZ];subst hE;refine(Rel.Eu R hv h1 hP).mono fun e w' hh=>?_;obtain⟨u,rfl,R',hu⟩:=hh;refine hq M _ _ ?_;rw[he];unfold Rl;rw[fU,<-hd];exact R'.put hu (fun k hk=>by rw[hN];exact Bq k hk)
 cases v with
 |ms id =>
  cases hB:ah hp id with
  |row sz es =>
   have qt:p=.slice es:=by
    simp only[dD,dH,hB,ai]at g2;exact g2.symm
   subst qt;cases own with
   |false=>exact plain (by simp only[fi,hB,qm])
   |true =>
    have he:qm true d st (fi (ah hp) (.ms id),.slice es)=⟨dt st d (.ms st.nx),(st.nx,.row sz es)::st.hp,st.nx+1⟩:=by simp only[fi,hB,qm]
    rw[Oper.wp,hx hP.1,sZ];subst hE;refine(Rel.Jx R hv h1 eG hB).mono fun e w' hh=>?_;obtain⟨u,M',rfl,R',hu⟩:=hh;refine hq M' _ _ ?_;rw[he];unfold Rl;simp only;rw[fU,<-hd];exact R'.put hu (fun k hk=>by rw[hN];exact Bq k hk)
  |_=>exact plain (by simp only[fi,hB,qm])
 |_=>exact plain (by simp only[fi,qm])
theorem qG(hC:Jd E C){n:Nat}{args:List AV}{d:Option Nat}(h:eO T C n args d st=some st1){o:Oper}(hd:o.dst=d)(Bq:∀k,o.dst=some k->k<N)
    (hex:∀X M a w,X.E=E->Rl X M st a w->∃vs:List Value,(∀{w},(E8 E n)->(execOp a.eval o).run E.P w=.ok (.enter (E.ρ n) vs.toArray) w)/\ed (aB X w (fun i=>i<st.nx) M (ah st.hp)) args vs) :
    ∀X M a w (Q:Act->World->Prop) Q',X.E=E->X.N=N->Rl X M st a w->(∀M' a' w',Rl X M' st1 a' w'->Q a' w')->o.wp E.P a w Q Q':=by
 intro X M a w Q Q' hE hN R hq;obtain⟨vs,hx,hv⟩:=hex X M a w hE R;unfold eO at h;split at h
 ·split at h
  ·rename_i v hp nx hc;simp at h;subst h;obtain⟨e1,e2⟩:=hC _ _ _ _ _ _ _ hc;rw[Oper.wp,hx e1,sZ];refine(e2 X M _ a w vs hE R hv).mono fun e w' hh=>?_;obtain⟨u,M',rfl,R',hu⟩:=hh;refine hq M' _ _ ?_;unfold Rl;rw[fU,<-hd];exact R'.put hu (fun k hk=>by rw[hN];exact Bq k hk)
  ·simp at h
 ·split at h
  ·rename_i ps iW;split at h
   ·rename_i r hr;simp at h;subst h;exact vm hC hd Bq iW hr hE hN R hv hx hq
   ·simp at h
  ·split at h
   ·split at h
    ·rename_i ps iW;split at h
     ·rename_i o' p hr;split at h
      ·rename_i wQ;simp at h;subst h;obtain⟨v,hp,nx,g1,g2,rfl⟩:=js hr;have hP:=(hC _ _ _ _ _ _ _ g1).pure g2;rw[Oper.wp,hx hP.1,sZ];subst hE;refine(R.GL hv iW hP wQ).mono fun e w' hh=>?_;obtain⟨u,rfl,R',hu⟩:=hh;refine hq M _ _ ?_;unfold Rl;rw[fU,<-hd];exact R'.put hu (fun k hk=>by rw[hN];exact Bq k hk)
      ·split at h
       ·rename_i wQ;simp at h;subst h;obtain⟨v,hp,nx,g1,g2,rfl⟩:=js hr;have eG:=hC _ _ _ _ _ _ _ g1;rw[bj]at wQ;have Nx:=wQ.2;cases v with
        |ms id =>
         cases hB:ah hp id with
         |row sz es =>
          have qt:p=.slice es:=by
           simp only[dD,dH,hB,ai]at g2;exact g2.symm
          subst qt;simp only[fi,hB,DA]at Nx;have he:qm true d st (fi (ah hp) (.ms id),.slice es)=⟨dt st d (.ms st.nx),(st.nx,.row sz es)::st.hp,st.nx+1⟩:=by simp only[fi,hB,qm]
          rw[Oper.wp,hx (eG.pure g2).1,sZ];subst hE;refine(Rel.GK R hv iW eG hB Nx).mono fun e w' hh=>?_;obtain⟨u,M',rfl,R',hu⟩:=hh;refine hq M' _ _ ?_;rw[he];unfold Rl;simp only;rw[fU,<-hd];exact R'.put hu (fun k hk=>by rw[hN];exact Bq k hk)
         |_=>simp only[fi,hB,DA]at Nx;exact absurd Nx (by decide)
        |_=>simp only[fi,DA]at Nx;exact absurd Nx (by decide)
       ·simp at h
     ·simp at h
    ·simp at h
   ·obtain⟨R2,MN⟩:=Rl.JN (fD args) R hv;generalize gi (fD args) st args=q at h R2 MN;obtain⟨bT,Le⟩:=q;simp only at h R2 MN;split at h
    ·rename_i ps iW;split at h
     ·rename_i r hr;simp at h;subst h;exact vm hC hd Bq iW hr hE hN R2 MN hx hq
     ·simp at h
    ·simp at h
theorem C5{i:Nat}{st:St}{g:Option (Nat×Bool)}{b:Bool}(h:cH (look st.fr) g=some b):cH (look (nR i st).fr) g=some b:=by
 unfold nR;split
 ·cases g with
  |none=>exact h
  |some q =>
   obtain⟨t,c⟩:=q;simp only[cH,oH]at h⊢;cases hl:look st.fr t <;>rw[hl]at h
   ·simpa only[gZ]using h
   all_goals simp at h
 ·exact h
theorem uK{g:Option (Nat×Bool)}{b:Bool}:∀(l:List Nat) (st:St) (vs:List AV),cH (look st.fr) g=some b->cH (look (gi l st vs).1.fr) g=some b
 |[],_,_,h=>h
 |_::r,_,_,h=>uK r _ _ (C5 h)
theorem oZ.Np{E:Env}{N:Nat}{l:List aV}{Q:St->Prop}{st:St}(ll:List Nat)(h:oZ E N l Q (gi ll st []).1):oZ E N l Q st:=by
 intro ops k hk hl X M a w Q' hE hN R hq;exact h ops k hk hl X M a w Q' hE hN (Rl.JN ll (args:=[]) (vs:=[]) R (by simp only[ed])).1 hq
theorem wL(tg:E.OK)(hC:Jd E C){x:aV}{l:List aV}{Q:St->Prop}(h:BS T C x st=some st1)(hk:oZ E N l Q st1):oZ E N (x::l) Q st:=by
 unfold BS at h;split at h
 ·rename_i hg;unfold rM at h;split at h
  ·rename_i n xs gB;refine oZ.step hg (fun o hc hd Bq=>qG hC h hd Bq fun X M a w hX R=>?_) hk;rw[gB]at hc;subst hX;obtain⟨c,f,ho,hb,hf,hl⟩:=uV hc;refine⟨c.args.toList.map a.eval,fun pZ=>?_,mi tg R hl⟩;have e:=tg.FG f n hf;subst e;rw[rO ho hb,lD pZ];have hargs:(#[]++c.args.map a.eval++ #[]:Array Value)=(List.map a.eval c.args.toList).toArray:=by rw[vW];simp
   rw[hargs]
  ·rename_i f xs gB;split at h
   ·rename_i n fs cs Mz;refine oZ.step hg (fun o hc hd Bq=>qG hC h hd Bq fun X M a w hX R=>?_) hk;rw[gB]at hc;subst hX;obtain⟨c,t,ho,hb,rfl,hl⟩:=wY hc;obtain⟨vs,us,g1,g2,g3⟩:=DC Mz (R.fr t);refine⟨vs++(c.args.toList.map a.eval++us),fun pZ=>?_,mV g2 (mV (mi tg R hl) g3)⟩;have Hj:execOp a.eval o=callFunc (X.E.ρ n) (vs.toArray++c.args.map a.eval++us.toArray):=by
     unfold execOp;rw[ho];simp only[resolve,hb];show(Deferred.ofValue (a.tmps.getD t undef) (c.args.map a.eval) >>= fun d=>invoke d.target d.args)=_;rw[g1];rfl
    rw[Hj,lD pZ];have hargs:(vs.toArray++c.args.map a.eval++us.toArray:Array Value)=(vs++(List.map a.eval c.args.toList++us)).toArray:=by rw[vW];simp
    rw[hargs]
   ·simp at h
  ·rename_i op _ _;split at h
   ·rename_i v W n vP;split at h
    ·rename_i iX;simp at h;subst h;refine oZ.JC hg (fun o hc hd Bq=>?_) hk;refine(uk (U:=fun i=>i<st.nx) tg vP hc Bq (fun hs=>?_) (fun _=>Nat.lt_irrefl _)).used fun i hi=>?_
     ·unfold ot at iX;split at iX
      ·split at iX
       ·rename_i Uk;rw[hd,Uk]
       ·simp at iX
      ·rename_i eA;cases gB:x.op <;>rw[gB]at hs <;>simp[fE.lT]at hs;exact absurd gB (eA _ _ _)
     ·rcases hi with hi|⟨_,rfl⟩ <;>omega
    ·simp at h
   ·split at h
    ·rename_i wt ha;obtain⟨UE,ll,rfl⟩:=zO ha;split at h
     ·rename_i v W n vP;simp at h;subst h;refine oZ.Np ll (oZ.JC (uK ll _ _ hg) (fun o hc hd Bq=>?_) hk);refine(uk (U:=fun i=>i<(gi ll st []).1.nx) tg vP hc Bq (fun hs=>?_) (fun _=>Nat.lt_irrefl _)).used fun i hi=>?_
      ·rw[UE]at hs;exact absurd hs (by decide)
      ·rcases hi with hi|⟨_,rfl⟩ <;>omega
     ·simp at h
    ·simp at h
 ·rename_i hg;simp at h;subst h;exact oZ.skip hg hk
 ·simp at h
theorem rv(tg:E.OK)(hC:Jd E C){Q:St->Prop}:∀{l:List aV} {st st1:St},hJ T C l st=some st1->Q st1->oZ E N l Q st
 |[],st,st1,h,hq=>by simp[hJ]at h;subst h;exact oZ.nil hq
 |x::r,st,st1,h,hq=>by
  simp only[hJ]at h;split at h
  ·rename_i bT h1;exact wL tg hC h1 (rv tg hC h hq)
  ·simp at h
theorem GX(hC:Jd E C){F:Fr}{H:Hp}{k n:Nat}{xs:List AO}{ps:List PV}{q:Option Nat×PV}(iW:ca (fg F xs)=some ps)(hr:du C n ps=some q)(own:Bool) :
    Ev E F H k (.call n xs) (gW own k q).1 (gW own k q).2.1 (gW own k q).2.2 []:=by
 obtain⟨o,p⟩:=q;obtain⟨v,hp,nx,g1,g2,rfl⟩:=js hr;have eG:=hC _ _ _ _ _ _ _ g1;have plain:gW own k (fi (ah hp) v,p)=(.pv p,[],0)->Ev E F H k (.call n xs) (gW own k (fi (ah hp) v,p)).1 (gW own k (fi (ah hp) v,p)).2.1 (gW own k (fi (ah hp) v,p)).2.2 []:=fun e=>by
  rw[e];exact .call iW (eG.pure g2)
 cases own with
 |false=>exact plain rfl
 |true =>
  cases v with
  |ms id =>
   cases hB:ah hp id with
   |row sz es =>
    have qt:p=.slice es:=by
     simp only[dD,dH,hB,ai]at g2;exact g2.symm
    subst qt;rw[show gW true k (fi (ah hp) (.ms id),.slice es)=(.ms k,[(k,.row sz es)],1) by simp only[fi,hB,gW]];exact .own iW (Ee.of eG hB)
   |_=>exact plain (by simp only[fi,hB,gW])
  |_=>exact plain (by simp only[fi,gW])
theorem vF(hC:Jd E C):∀{l:List aV} {st st1:St} {es:List En},jb T C l st=some (es,st1)->Bv E l st es st1
 |[],st,st1,es,h=>by simp[jb]at h;obtain⟨rfl,rfl⟩:=h;exact .nil
 |x::r,st,st1,es,h=>by
  simp only[jb]at h;split at h
  ·rename_i e bT h1;split at h
   ·rename_i es' Be h2;simp at h;obtain⟨rfl,rfl⟩:=h;have ih:=vF hC h2;unfold jh at h1;split at h1
    ·rename_i hg;unfold eK at h1;split at h1
     ·rename_i n xs gB;split at h1
      ·rename_i ps eG iW;split at h1
       ·rename_i q hr;simp only[ai,zu,aZ]at h1;obtain⟨rfl,rfl⟩:=h1;refine Bv.cons (E:=E) (x:=x) (l:=r) (st:=st) hg ?_ ih;rw[gB];exact GX hC iW hr _
       ·simp at h1
      ·simp at h1
     ·rename_i f xs gB;split at h1
      ·rename_i n fs cs Mz;split at h1
       ·rename_i ps eG iW;split at h1
        ·rename_i o' p hr;simp at h1;obtain⟨rfl,rfl⟩:=h1;obtain⟨v,hp,nx,g1,g2,rfl⟩:=js hr;have:=Bv.cons (E:=E) (x:=x) (l:=r) (st:=st) (v:=.pv p) (W:=[]) (n:=0) (rd:=[]) hg (by rw[gB];exact .fK Mz iW ((hC _ _ _ _ _ _ _ g1).pure g2)) ih;exact this
        ·simp at h1
       ·simp at h1
      ·simp at h1
     ·split at h1
      ·rename_i v W n vP;simp at h1;obtain⟨rfl,rfl⟩:=h1;exact Bv.cons hg (.ev vP) ih
      ·simp at h1
    ·rename_i hg;simp at h1;obtain⟨rfl,rfl⟩:=h1;exact Bv.skip hg ih
    ·simp at h1
   ·simp at h
  ·simp at h
theorem WP.PD{c:bx}{Q:Exit->St->Prop}{st bT:St}(h:∀X M a w,Rl X M st a w->Rl X M bT a w)(k:WP E N c Q bT):WP E N c Q st:=by
 intro code hc X M a w Q' hE hN R hq;exact k code hc X M a w Q' hE hN (h X M a w R) hq
theorem so(tg:E.OK)(hC:Jd E C){s:Bool}:∀(c:bx) (k:Nat) (st:St) (e:Exit) (st1:St),run T C s k c st=some (e,st1)->∀Q:Exit->St->Prop,Q e st1->WP E N c Q st:=by
 intro c;induction c with
 |skip =>
  intro k st e st1 h Q hq;cases k with
  |zero=>simp[run]at h
  |succ k=>simp[run]at h;obtain⟨rfl,rfl⟩:=h;exact WP.skip hq
 |ops l =>
  intro k st e st1 h Q hq;cases k with
  |zero=>simp[run]at h
  |succ k =>
   simp only[run]at h;split at h
   ·rename_i bT h1;simp at h;obtain⟨rfl,rfl⟩:=h;exact WP.ops tg (rv tg hC h1 hq)
   ·simp at h
 |draw l =>
  intro k st e st1 h Q hq;cases k with
  |zero=>simp[run]at h
  |succ k =>
   simp only[run]at h;split at h
   ·rename_i bT h1;simp at h;obtain⟨rfl,rfl⟩:=h;unfold f9 at h1;split at h1
    ·rename_i es wt h2;split at h1
     ·rename_i K6;simp at h1;subst h1;refine WP.PD (fun X M a w R=>?_) (WP.draw tg ⟨es,_,vF hC h2,by simpa using K6,hq⟩);unfold lf;split
      ·exact(Rl.JN _ R (args:=[]) (vs:=[]) (by simp[ed])).1
      ·exact R
     ·simp at h1
    ·simp at h1
   ·simp at h
 |seq a b G6 MT =>
  intro k st e st1 h Q hq;cases k with
  |zero=>simp[run]at h
  |succ k =>
   simp only[run]at h;refine WP.seq ?_;split at h
   ·rename_i bT h1;exact G6 k st _ _ h1 _ (MT k bT _ _ h Q hq)
   ·rename_i eA;refine G6 k st _ _ h _ ?_;cases e with
    |normal=>exact absurd h (eA _)
    |_=>exact hq
 |cond c a b G6 MT =>
  intro k st e st1 h Q hq;cases k with
  |zero=>simp[run]at h
  |succ k =>
   simp only[run]at h;split at h
   ·rename_i hc;exact WP.cond tg hc (fun _=>G6 k st _ _ h Q hq) (fun h=>by simp at h)
   ·rename_i hc;exact WP.cond tg hc (fun h=>by simp at h) (fun _=>MT k st _ _ h Q hq)
   ·simp at h
 |block id b ih =>
  intro k st e st1 h Q hq;cases k with
  |zero=>simp[run]at h
  |succ k =>
   simp only[run]at h;refine WP.block ?_;split at h
   ·rename_i i bT h1;refine ih k st _ _ h1 _ ?_;simp only[BG];split at h
    ·rename_i hi;simp at h;obtain⟨rfl,rfl⟩:=h;rw[hi];exact hq
    ·rename_i hi;simp at h;obtain⟨rfl,rfl⟩:=h;rw[hi];exact hq
   ·rename_i eA;refine ih k st _ _ h _ ?_;cases e with
    |exit i=>exact absurd h (eA _ _)
    |_=>exact hq
 |loop b ih =>
  intro k st e st1 h Q hq;refine WP.loop (fun n st=>run T C s n (.loop b) st=some (e,st1)) k h fun n st hI=>?_;cases n with
  |zero=>simp[run]at hI
  |succ n =>
   simp only[run]at hI;split at hI
   ·rename_i bT h1;exact ih n st _ _ h1 _ ⟨n,by omega,hI⟩
   ·rename_i eA;refine ih n st _ _ hI _ ?_;cases e with
    |normal=>exact absurd hI (eA _)
    |_=>exact hq
 |exit id =>
  intro k st e st1 h Q hq;cases k with
  |zero=>simp[run]at h
  |succ k=>simp[run]at h;obtain⟨rfl,rfl⟩:=h;exact WP.exit hq
 |ret =>
  intro k st e st1 h Q hq;cases k with
  |zero=>simp[run]at h
  |succ k=>simp[run]at h;obtain⟨rfl,rfl⟩:=h;exact WP.ret hq
end
structure Tied(E:Env)(T:cK):Prop where
 fn:∀n f,T.fW n=none->T.fn n=some f->cFunc E n=some f
 fW:∀n g,T.fW n=some g->∀args hp nx v hp' cC,g args hp nx=some (v,hp',cC)->kl E n args hp nx v hp' cC
theorem pe{E:Env}{T:cK}(hE:E.OK)(hT:Tied E T):∀k,Jd E (den T k)
 |0=>fun n args hp nx v hp' cC h=>by simp[den]at h
 |k+1=>fun n args hp nx v hp' cC h=>by
  simp only[den]at h;split at h
  ·rename_i g hg;exact hT.fW n g hg _ _ _ _ _ _ h
  ·rename_i hp0;split at h
   ·rename_i f hf;split at h
    ·rename_i hN;refine kl.KB hE (hT.fn n f hp0 hf) (fc hN) ?_;unfold KV at h;split at h
     ·rename_i st hr;split at h
      ·rename_i vs G5;simp at h;exact so hE (pe hE hT k) _ _ _ _ _ hr _ ⟨.inl rfl,vs,G5,h.1,h.2.1,h.2.2⟩
      ·simp at h
     ·rename_i st hr;split at h
      ·rename_i vs G5;simp at h;exact so hE (pe hE hT k) _ _ _ _ _ hr _ ⟨.inr rfl,vs,G5,h.1,h.2.1,h.2.2⟩
      ·simp at h
     ·simp at h
    ·simp at h
   ·simp at h
end
section
def pR{α:Type}(f:Nat->Option α)(r:α):Prop:=∃k0,∀k,k0<=k->f k=some r
theorem pR.one{α:Type}{f:Nat->Option α}{r r':α}(h:pR f r)(h':pR f r'):r=r':=by
 obtain⟨k,h⟩:=h;obtain⟨k',h'⟩:=h';have h1:=h (max k k') (Nat.le_max_left _ _);have h2:=h' (max k k') (Nat.le_max_right _ _);rw[h1]at h2;exact Option.some.inj h2
open Classical in
noncomputable def D(T:cK):Cl:=fun n args hp nx=>if h:∃r,pR (fun k=>den T k n args hp nx) r then some h.choose else none
theorem wA{T:cK}{n:Nat}{args:List AV}{hp:Hl}{nx:Nat}{r:AV×Hl×Nat}:D T n args hp nx=some r↔pR (fun k=>den T k n args hp nx) r:=by
 unfold D;constructor
 ·intro h;split at h
  ·rename_i hh;have:=hh.choose_spec;rw[Option.some.inj h]at this;exact this
  ·simp at h
 ·intro h;have hh:∃r,pR (fun k=>den T k n args hp nx) r:=⟨r,h⟩;rw[dif_pos hh,hh.choose_spec.one h]
theorem D1{E:Env}{T:cK}(hE:E.OK)(hT:Tied E T):Jd E (D T):=fun n args hp nx v hp' cC h=>by
 obtain⟨k,hk⟩:=wA.1 h;exact pe hE hT k n args hp nx v hp' cC (hk k (ax _))
inductive rD(T:cK)(C:Cl)(s:Bool):bx->St->Exit->St->Prop
 |skip {st}:rD T C s .skip st .normal st
 |ops {l st bT}:hJ T C l st=some bT->rD T C s (.ops l) st .normal bT
 |draw {l st bT}:f9 T C s l st=some bT->rD T C s (.draw l) st .normal bT
 |seq {a b st bT e Be}:rD T C s a st .normal bT->rD T C s b bT e Be->rD T C s (.seq a b) st e Be
 |Nb {a b st e bT}:e≠ .normal->rD T C s a st e bT->rD T C s (.seq a b) st e bT
 |SH {c a b st e bT}:dF (look st.fr) c=.pv (.bool true)->rD T C s a st e bT->rD T C s (.cond c a b) st e bT
 |QW {c a b st e bT}:dF (look st.fr) c=.pv (.bool false)->rD T C s b st e bT->rD T C s (.cond c a b) st e bT
 |BH {id b st bT}:rD T C s b st (.exit id) bT->rD T C s (.block id b) st .normal bT
 |block {id b st e bT}:e≠ .exit id->rD T C s b st e bT->rD T C s (.block id b) st e bT
 |loop {b st bT e Be}:rD T C s b st .normal bT->rD T C s (.loop b) bT e Be->rD T C s (.loop b) st e Be
 |HL {b st e bT}:e≠ .normal->rD T C s b st e bT->rD T C s (.loop b) st e bT
 |exit {id st}:rD T C s (.exit id) st (.exit id) st
 |ret {st}:rD T C s .ret st .ret st
section
variable{T:cK}{s:Bool}
theorem kZ{n:Nat}{ps:List PV}{r:Option Nat×PV}(h:du (D T) n ps=some r):pR (fun k=>du (den T k) n ps) r:=by
 unfold du at h;split at h
 ·rename_i v hp nx h1;obtain⟨k0,hk⟩:=wA.1 h1;refine⟨k0,fun k hle=>?_⟩;have:=hk k hle;simp only at this;unfold du;simp only[this];exact h
 ·simp at h
theorem sH{n:Nat}{args:List AV}{d:Option Nat}{st bT:St}(h:eO T (D T) n args d st=some bT):pR (fun k=>eO T (den T k) n args d st) bT:=by
 unfold eO at h;split at h
 ·rename_i eG;split at h
  ·rename_i v hp nx h1;obtain⟨k0,hk⟩:=wA.1 h1;refine⟨k0,fun k hle=>?_⟩;unfold eO;simp only[eG];have:=hk k hle;simp only at this;rw[this];exact h
  ·simp at h
 ·rename_i eG;split at h
  ·rename_i ps iW;split at h
   ·rename_i r h1;obtain⟨k0,hk⟩:=kZ h1;refine⟨k0,fun k hle=>?_⟩;unfold eO;have:=hk k hle;simp only at this;simp only[eG,iW,this];exact h
   ·simp at h
  ·rename_i iW;split at h
   ·rename_i wQ;split at h
    ·rename_i ps Cb;split at h
     ·rename_i o p h1;obtain⟨k0,hk⟩:=kZ h1;refine⟨k0,fun k hle=>?_⟩;unfold eO;have:=hk k hle;simp only at this;simp only[eG,iW,wQ,Cb,this];exact h
     ·simp at h
    ·simp at h
   ·rename_i wQ;split at h;rename_i wt NY hq;split at h
    ·rename_i ps Cb;split at h
     ·rename_i r h1;obtain⟨k0,hk⟩:=kZ h1;refine⟨k0,fun k hle=>?_⟩;unfold eO;have:=hk k hle;simp only at this;simp only[eG,iW,wQ,hq,Cb,this];exact h
     ·simp at h
    ·simp at h
theorem GP{x:aV}{st bT:St}(h:BS T (D T) x st=some bT):pR (fun k=>BS T (den T k) x st) bT:=by
 unfold BS at h;split at h
 ·rename_i hg;have:pR (fun k=>rM T (den T k) x st) bT:=by
   unfold rM at h;split at h
   ·rename_i n xs gB;obtain⟨k0,hk⟩:=sH h;refine⟨k0,fun k hle=>?_⟩;unfold rM;rw[gB];exact hk k hle
   ·rename_i f xs gB;split at h
    ·rename_i n fs cs hf;obtain⟨k0,hk⟩:=sH h;refine⟨k0,fun k hle=>?_⟩;unfold rM;rw[gB];simp only[hf];exact hk k hle
    ·simp at h
   ·rename_i h1 h2;refine⟨0,fun k _=>?_⟩;unfold rM;split
    ·rename_i n xs gB;exact absurd gB (h1 _ _)
    ·rename_i f xs gB;exact absurd gB (h2 _ _)
    ·exact h
  obtain⟨k0,hk⟩:=this;refine⟨k0,fun k hle=>?_⟩;unfold BS;simp only[hg];exact hk k hle
 ·rename_i hg;refine⟨0,fun k _=>?_⟩;unfold BS;simp only[hg];exact h
 ·simp at h
theorem sT:∀{l:List aV} {st bT:St},hJ T (D T) l st=some bT->pR (fun k=>hJ T (den T k) l st) bT
 |[],st,bT,h=>⟨0,fun k _=>h⟩
 |x::r,st,bT,h=>by
  simp only[hJ]at h;split at h
  ·rename_i st1 h1;obtain⟨k0,hk⟩:=GP h1;obtain⟨k1,F1⟩:=sT h;refine⟨max k0 k1,fun k hle=>?_⟩;simp only[hJ];have e1:=hk k (cG (Nat.le_max_left _ _) hle);have e2:=F1 k (cG (Nat.le_max_right _ _) hle);simp only at e1 e2;rw[e1];exact e2
  ·simp at h
theorem FT{x:aV}{st:St}{r:En×St}(h:jh T (D T) x st=some r):pR (fun k=>jh T (den T k) x st) r:=by
 unfold jh at h;split at h
 ·rename_i hg;have:pR (fun k=>eK T (den T k) x st) r:=by
   unfold eK at h;split at h
   ·rename_i n xs gB;split at h
    ·rename_i ps eG iW;split at h
     ·rename_i q h1;obtain⟨k0,hk⟩:=kZ h1;refine⟨k0,fun k hle=>?_⟩;have:=hk k hle;simp only at this;unfold eK;rw[gB];simp only[eG,iW,this];exact h
     ·simp at h
    ·simp at h
   ·rename_i f xs gB;split at h
    ·rename_i n fs cs Mz;split at h
     ·rename_i ps eG iW;split at h
      ·rename_i o p h1;obtain⟨k0,hk⟩:=kZ h1;refine⟨k0,fun k hle=>?_⟩;have:=hk k hle;simp only at this;unfold eK;rw[gB];simp only[Mz,eG,iW,this];exact h
      ·simp at h
     ·simp at h
    ·simp at h
   ·rename_i h1 QY;refine⟨0,fun k _=>?_⟩;unfold eK;split
    ·rename_i n xs gB;exact absurd gB (h1 _ _)
    ·rename_i f xs gB;exact absurd gB (QY _ _)
    ·exact h
  obtain⟨k0,hk⟩:=this;refine⟨k0,fun k hle=>?_⟩;unfold jh;simp only[hg];exact hk k hle
 ·rename_i hg;refine⟨0,fun k _=>?_⟩;unfold jh;simp only[hg];exact h
 ·simp at h
theorem xr:∀{l:List aV} {st:St} {r:List En×St},jb T (D T) l st=some r->pR (fun k=>jb T (den T k) l st) r
 |[],st,r,h=>⟨0,fun k _=>h⟩
 |x::l,st,r,h=>by
  simp only[jb]at h;split at h
  ·rename_i e st1 h1;split at h
   ·rename_i es wt h2;obtain⟨k0,hk⟩:=FT h1;obtain⟨k1,F1⟩:=xr h2;refine⟨max k0 k1,fun k hle=>?_⟩;have e1:=hk k (cG (Nat.le_max_left _ _) hle);have e2:=F1 k (cG (Nat.le_max_right _ _) hle);simp only at e1 e2;simp only[jb,e1,e2];exact h
   ·simp at h
  ·simp at h
theorem zm{l:List aV}{st bT:St}(h:f9 T (D T) s l st=some bT):pR (fun k=>f9 T (den T k) s l st) bT:=by
 unfold f9 at h;split at h
 ·rename_i es st1 h1;obtain⟨k0,hk⟩:=xr h1;refine⟨k0,fun k hle=>?_⟩;have:=hk k hle;simp only at this;unfold f9;simp only[this];exact h
 ·simp at h
theorem rD.late{c:bx}{st bT:St}{e:Exit}(h:rD T (D T) s c st e bT):∃k0,∀k j,k0<=k->k0<=j->run T (den T j) s k c st=some (e,bT):=by
 induction h with
 |skip=>exact⟨1,fun k j h1 h2=>by obtain⟨m,rfl⟩:∃m,k=m+1:=⟨k-1,by omega⟩;rfl⟩
 |ops h =>
  obtain⟨k0,hk⟩:=sT h;refine⟨k0+1,fun k j h1 h2=>?_⟩;obtain⟨m,rfl⟩:∃m,k=m+1:=⟨k-1,by omega⟩;have:=hk j (by omega);simp only at this;simp only[run,this]
 |draw h =>
  obtain⟨k0,hk⟩:=zm h;refine⟨k0+1,fun k j h1 h2=>?_⟩;obtain⟨m,rfl⟩:∃m,k=m+1:=⟨k-1,by omega⟩;have:=hk j (by omega);simp only at this;simp only[run,this]
 |seq _ _ G6 MT =>
  obtain⟨k0,hk⟩:=G6;obtain⟨k1,F1⟩:=MT;refine⟨k0+k1+1,fun k j h1 h2=>?_⟩;obtain⟨m,rfl⟩:∃m,k=m+1:=⟨k-1,by omega⟩;simp only[run,hk m j (by omega) (by omega),F1 m j (by omega) (by omega)]
 | @Nb a b st e bT eA _ G6 =>
  obtain⟨k0,hk⟩:=G6;refine⟨k0+1,fun k j h1 h2=>?_⟩;obtain⟨m,rfl⟩:∃m,k=m+1:=⟨k-1,by omega⟩;simp only[run,hk m j (by omega) (by omega)];cases e with
  |normal=>exact absurd rfl eA
  |_=>rfl
 |SH hc _ ih =>
  obtain⟨k0,hk⟩:=ih;refine⟨k0+1,fun k j h1 h2=>?_⟩;obtain⟨m,rfl⟩:∃m,k=m+1:=⟨k-1,by omega⟩;simp only[run,hc,hk m j (by omega) (by omega)]
 |QW hc _ ih =>
  obtain⟨k0,hk⟩:=ih;refine⟨k0+1,fun k j h1 h2=>?_⟩;obtain⟨m,rfl⟩:∃m,k=m+1:=⟨k-1,by omega⟩;simp only[run,hc,hk m j (by omega) (by omega)]
 |BH _ ih =>
  obtain⟨k0,hk⟩:=ih;refine⟨k0+1,fun k j h1 h2=>?_⟩;obtain⟨m,rfl⟩:∃m,k=m+1:=⟨k-1,by omega⟩;simp only[run,hk m j (by omega) (by omega),cg]
 | @block id b st e bT eA _ ih =>
  obtain⟨k0,hk⟩:=ih;refine⟨k0+1,fun k j h1 h2=>?_⟩;obtain⟨m,rfl⟩:∃m,k=m+1:=⟨k-1,by omega⟩;simp only[run,hk m j (by omega) (by omega)];cases e with
  |exit i =>
   have:i≠id:=fun h=>eA (by rw[h]);simp only[f6 this]
  |_=>rfl
 |loop _ _ G6 MT =>
  obtain⟨k0,hk⟩:=G6;obtain⟨k1,F1⟩:=MT;refine⟨k0+k1+1,fun k j h1 h2=>?_⟩;obtain⟨m,rfl⟩:∃m,k=m+1:=⟨k-1,by omega⟩;simp only[run,hk m j (by omega) (by omega),F1 m j (by omega) (by omega)]
 | @HL b st e bT eA _ G6 =>
  obtain⟨k0,hk⟩:=G6;refine⟨k0+1,fun k j h1 h2=>?_⟩;obtain⟨m,rfl⟩:∃m,k=m+1:=⟨k-1,by omega⟩;simp only[run,hk m j (by omega) (by omega)];cases e with
  |normal=>exact absurd rfl eA
  |_=>rfl
 |exit=>exact⟨1,fun k j h1 h2=>by obtain⟨m,rfl⟩:∃m,k=m+1:=⟨k-1,by omega⟩;rfl⟩
 |ret=>exact⟨1,fun k j h1 h2=>by obtain⟨m,rfl⟩:∃m,k=m+1:=⟨k-1,by omega⟩;rfl⟩
theorem Ga{n:Nat}{f:bf}{args:List AV}{hp:Hl}{nx:Nat}{e:Exit}{st:St}{vs:List AV}(hp0:T.fW n=none)(hf:T.fn n=some f)(hN:Nat.ble args.length f.N=true)(h:rD T (D T) (T.still n) f.body ⟨fA 0 args,hp,nx⟩ e st)
    (he:e=.ret\/e=.normal) (hr:kG (look st.fr) (ah st.hp) f.res=some vs):D T n args hp nx=some (gJ vs,st.hp,st.nx):=by
 rw[wA];obtain⟨k0,hk⟩:=h.late;refine⟨k0+1,fun k hle=>?_⟩;obtain⟨m,rfl⟩:∃m,k=m+1:=⟨k-1,by omega⟩;simp only[den,hp0,hf,hN,hk m m (by omega) (by omega)];rcases he with rfl|rfl <;>simp only[KV,hr]
theorem BL{n:Nat}{f:bf}{ps:List PV}{e:Exit}{st:St}{vs:List AV}{p:PV}(hp0:T.fW n=none)(hf:T.fn n=some f)(hN:Nat.ble (dL ps).length f.N=true)(h:rD T (D T) (T.still n) f.body ⟨fA 0 (dL ps),[],0⟩ e st)
    (he:e=.ret\/e=.normal) (hr:kG (look st.fr) (ah st.hp) f.res=some vs) (hp:dD (ah st.hp) (gJ vs)=some p):du (D T) n ps=some (fi (ah st.hp) (gJ vs),p):=by
 unfold du;rw[Ga hp0 hf hN h he hr];simp only[hp]
theorem iD{n:Nat}{g:List AV->List (Nat×dx)->Nat->Option (AV×List (Nat×dx)×Nat)}{args:List AV}{hp:Hl}{nx:Nat}{r:AV×Hl×Nat}(hp0:T.fW n=some g)(h:g args hp nx=some r):D T n args hp nx=some r:=by
 rw[wA];refine⟨1,fun k hle=>?_⟩;obtain⟨m,rfl⟩:∃m,k=m+1:=⟨k-1,by omega⟩;simp only[den,hp0,h]
end
end
section
def Ja(C C':Cl):Prop:=∀n args hp nx r,C n args hp nx=some r->C' n args hp nx=some r
section
variable{T:cK}{s:Bool}{C C':Cl}
theorem jr(H:Ja C C'){n:Nat}{ps:List PV}{r:Option Nat×PV}(h:du C n ps=some r):du C' n ps=some r:=by
 unfold du at h;split at h
 ·rename_i v hp nx h1;unfold du;simp only[H _ _ _ _ _ h1];exact h
 ·simp at h
theorem sI(H:Ja C C'){n:Nat}{args:List AV}{d:Option Nat}{st bT:St}(h:eO T C n args d st=some bT):eO T C' n args d st=some bT:=by
 unfold eO at h;split at h
 ·rename_i eG;split at h
  ·rename_i v hp nx h1;unfold eO;simp only[eG,H _ _ _ _ _ h1];exact h
  ·simp at h
 ·rename_i eG;split at h
  ·rename_i ps iW;split at h
   ·rename_i r h1;unfold eO;simp only[eG,iW,jr H h1];exact h
   ·simp at h
  ·rename_i iW;split at h
   ·rename_i wQ;split at h
    ·rename_i ps Cb;split at h
     ·rename_i o p h1;unfold eO;simp only[eG,iW,wQ,Cb,jr H h1];exact h
     ·simp at h
    ·simp at h
   ·rename_i wQ;split at h;rename_i wt NY hq;split at h
    ·rename_i ps Cb;split at h
     ·rename_i r h1;unfold eO;simp only[eG,iW,wQ,hq,Cb,jr H h1];exact h
     ·simp at h
    ·simp at h
theorem GQ(H:Ja C C'){x:aV}{st bT:St}(h:BS T C x st=some bT):BS T C' x st=some bT:=by
 unfold BS at h;split at h
 ·rename_i hg;have:rM T C' x st=some bT:=by
   unfold rM at h;split at h
   ·rename_i n xs gB;unfold rM;rw[gB];exact sI H h
   ·rename_i f xs gB;split at h
    ·rename_i n fs cs hf;unfold rM;rw[gB];simp only[hf];exact sI H h
    ·simp at h
   ·rename_i h1 h2;unfold rM;split
    ·rename_i n xs gB;exact absurd gB (h1 _ _)
    ·rename_i f xs gB;exact absurd gB (h2 _ _)
    ·exact h
  unfold BS;simp only[hg];exact this
 ·rename_i hg;unfold BS;simp only[hg];exact h
 ·simp at h
theorem sU(H:Ja C C'):∀{l:List aV} {st bT:St},hJ T C l st=some bT->hJ T C' l st=some bT
 |[],st,bT,h=>h
 |x::r,st,bT,h=>by
  simp only[hJ]at h;split at h
  ·rename_i st1 h1;simp only[hJ,GQ H h1];exact sU H h
  ·simp at h
theorem FU(H:Ja C C'){x:aV}{st:St}{r:En×St}(h:jh T C x st=some r):jh T C' x st=some r:=by
 unfold jh at h;split at h
 ·rename_i hg;have:eK T C' x st=some r:=by
   unfold eK at h;split at h
   ·rename_i n xs gB;split at h
    ·rename_i ps eG iW;split at h
     ·rename_i q h1;unfold eK;rw[gB];simp only[eG,iW,jr H h1];exact h
     ·simp at h
    ·simp at h
   ·rename_i f xs gB;split at h
    ·rename_i n fs cs Mz;split at h
     ·rename_i ps eG iW;split at h
      ·rename_i o p h1;unfold eK;rw[gB];simp only[Mz,eG,iW,jr H h1];exact h
      ·simp at h
     ·simp at h
    ·simp at h
   ·rename_i h1 QY;unfold eK;split
    ·rename_i n xs gB;exact absurd gB (h1 _ _)
    ·rename_i f xs gB;exact absurd gB (QY _ _)
    ·exact h
  unfold jh;simp only[hg];exact this
 ·rename_i hg;unfold jh;simp only[hg];exact h
 ·simp at h
theorem xt(H:Ja C C'):∀{l:List aV} {st:St} {r:List En×St},jb T C l st=some r->jb T C' l st=some r
 |[],st,r,h=>h
 |x::l,st,r,h=>by
  simp only[jb]at h;split at h
  ·rename_i e st1 h1;split at h
   ·rename_i es wt h2;simp only[jb,FU H h1,xt H h2];exact h
   ·simp at h
  ·simp at h
theorem zn(H:Ja C C'){l:List aV}{st bT:St}(h:f9 T C s l st=some bT):f9 T C' s l st=some bT:=by
 unfold f9 at h;split at h
 ·rename_i es st1 h1;unfold f9;simp only[xt H h1];exact h
 ·simp at h
theorem Bb(H:Ja C C'):∀(k:Nat) (c:bx) (st:St) (r:Exit×St),run T C s k c st=some r->∀k',k<=k'->run T C' s k' c st=some r
 |0,c,st,r,h,k',hk=>by simp[run]at h
 |k+1,c,st,r,h,k',hk=>by
  obtain⟨m,rfl⟩:∃m,k'=m+1:=⟨k'-1,by omega⟩;have ih:=fun c st r h=>Bb H k c st r h m (by omega);cases c with
  |skip=>exact h
  |ops l =>
   simp only[run]at h⊢;split at h
   ·rename_i bT h1;simp only[sU H h1];exact h
   ·simp at h
  |draw l =>
   simp only[run]at h⊢;split at h
   ·rename_i bT h1;simp only[zn H h1];exact h
   ·simp at h
  |seq a b =>
   simp only[run]at h⊢;split at h
   ·rename_i bT h1;simp only[ih _ _ _ h1];exact ih _ _ _ h
   ·rename_i eA;rw[ih _ _ _ h];obtain⟨e,bT⟩:=r;cases e with
    |normal=>exact absurd h (eA _)
    |_=>rfl
  |cond c a b =>
   simp only[run]at h⊢;split at h
   ·rename_i hc;exact ih _ _ _ h
   ·rename_i hc;exact ih _ _ _ h
   ·simp at h
  |block id b =>
   simp only[run]at h⊢;split at h
   ·rename_i i bT h1;simp only[ih _ _ _ h1];exact h
   ·rename_i eA;rw[ih _ _ _ h];obtain⟨e,bT⟩:=r;cases e with
    |exit i=>exact absurd h (eA _ _)
    |_=>rfl
  |loop b =>
   simp only[run]at h⊢;split at h
   ·rename_i bT h1;simp only[ih _ _ _ h1];exact ih _ _ _ h
   ·rename_i eA;rw[ih _ _ _ h];obtain⟨e,bT⟩:=r;cases e with
    |normal=>exact absurd h (eA _)
    |_=>rfl
  |exit id=>exact h
  |ret=>exact h
end
theorem A6{T:cK}:∀(k k':Nat),k<=k'->Ja (den T k) (den T k')
 |0,k',hk,n,args,hp,nx,r,h=>by simp[den]at h
 |k+1,k',hk,n,args,hp,nx,r,h=>by
  obtain⟨m,rfl⟩:∃m,k'=m+1:=⟨k'-1,by omega⟩;simp only[den]at h⊢;cases hp0:T.fW n with
  |some g=>simp only[hp0]at h⊢;exact h
  |none =>
   simp only[hp0]at h⊢;cases hf:T.fn n with
   |none=>simp only[hf]at h;simp at h
   |some f =>
    simp only[hf]at h⊢;cases hN:Nat.ble args.length f.N with
    |false=>simp only[hN]at h;simp at h
    |true =>
     simp only[hN]at h⊢;have key:∀q,run T (den T k) (T.still n) k f.body ⟨fA 0 args,hp,nx⟩=some q->run T (den T m) (T.still n) m f.body ⟨fA 0 args,hp,nx⟩=some q:=fun q hq=>Bb (A6 k m (by omega)) _ _ _ _ hq _ (by omega);cases hq:run T (den T k) (T.still n) k f.body ⟨fA 0 args,hp,nx⟩with
     |none=>rw[hq]at h;simp[KV]at h
     |some q=>rw[key q hq];rw[hq]at h;exact h
theorem NK{T:cK}{k n:Nat}{args:List AV}{hp:Hl}{nx:Nat}{r:AV×Hl×Nat}(h:den T k n args hp nx=some r):D T n args hp nx=some r :=
 wA.2 ⟨k,fun k' hk=>A6 k k' hk _ _ _ _ _ h⟩
theorem Et{T:cK}{k n:Nat}{ps:List PV}{r:Option Nat×PV}(h:du (den T k) n ps=some r):du (D T) n ps=some r :=
 jr (fun _ _ _ _ _ h=>NK h) h
def Kl(p:PV->Bool):Option (Option Nat×PV)->Bool
 |some (none,q)=>p q
 |_=>false
def LG:PV->Bool
 | .bool b=>b
 |_=>false
theorem BM{T:cK}{k n:Nat}{ps:List PV}(h:Kl LG (du (den T k) n ps)=true):du (D T) n ps=some (none,.bool true):=by
 refine Et (k:=k) ?_;cases hc:du (den T k) n ps with
 |none=>rw[hc]at h;simp[Kl]at h
 |some r =>
  rw[hc]at h;obtain⟨o,p⟩:=r;cases o with
  |some _=>simp[Kl]at h
  |none=>cases p <;>simp[Kl,LG]at h;rw[h]
end
section
section
variable(T:cK)(s:Bool)
def Wp(c:bx)(st:St)(Q:Exit->St->Prop):Prop:=∃e bT,rD T (D T) s c st e bT/\Q e bT
def tP(l:List aV)(st:St)(K:St->Prop):Prop:=∃bT,hJ T (D T) l st=some bT/\K bT
def Dh(a b:bx)(st:St)(Q:Exit->St->Prop):AV->Prop
 | .pv (.bool true)=>Wp T s a st Q
 | .pv (.bool false)=>Wp T s b st Q
 |_=>False
def vv(b:bx)(Q:Exit->St->Prop):Exit->St->Prop
 | .normal,st=>Wp T s b st Q
 |e,st=>Q e st
def vX(id:Nat)(Q:Exit->St->Prop):Exit->St->Prop
 | .exit i,st=>(i=id->Q .normal st)/\(i≠id->Q (.exit i) st)
 |e,st=>Q e st
end
section
variable{T:cK}{s:Bool}{st:St}{Q:Exit->St->Prop}{K:St->Prop}
theorem tX{a b:bx}:Dh T s a b st Q (.pv (.bool true))↔Wp T s a st Q:=pz
theorem sC{a b:bx}:Dh T s a b st Q (.pv (.bool false))↔Wp T s b st Q:=pz
theorem sV{b:bx}:vv T s b Q .normal st↔Wp T s b st Q:=pz
theorem vw{b:bx}:vv T s b Q .ret st↔Q .ret st:=pz
theorem xl{b:bx}{i:Nat}:vv T s b Q (.exit i) st↔Q (.exit i) st:=pz
theorem sB{id:Nat}:vX id Q .normal st↔Q .normal st:=pz
theorem tV{id:Nat}:vX id Q .ret st↔Q .ret st:=pz
theorem wH{id i:Nat}:vX id Q (.exit i) st↔(i=id->Q .normal st)/\(i≠id->Q (.exit i) st):=pz
theorem D9:Wp T s .skip st Q↔Q .normal st:=by
 constructor
 ·rintro⟨e,bT,h,hq⟩;cases h;exact hq
 ·exact fun h=>⟨_,_,.skip,h⟩
theorem Gm:Wp T s .ret st Q↔Q .ret st:=by
 constructor
 ·rintro⟨e,bT,h,hq⟩;cases h;exact hq
 ·exact fun h=>⟨_,_,.ret,h⟩
theorem D8{id:Nat}:Wp T s (.exit id) st Q↔Q (.exit id) st:=by
 constructor
 ·rintro⟨e,bT,h,hq⟩;cases h;exact hq
 ·exact fun h=>⟨_,_,.exit,h⟩
theorem Bw{l:List aV}:Wp T s (.ops l) st Q↔tP T l st (Q .normal):=by
 constructor
 ·rintro⟨e,bT,h,hq⟩;cases h;rename_i h;exact⟨_,h,hq⟩
 ·rintro⟨bT,h,hq⟩;exact⟨_,_,.ops h,hq⟩
theorem mf{a b:bx}:Wp T s (.seq a b) st Q↔Wp T s a st (vv T s b Q):=by
 constructor
 ·rintro⟨e,bT,h,hq⟩
  cases h with
  |seq h1 h2=>exact⟨_,_,h1,_,_,h2,hq⟩
  |Nb eA h1 =>
   refine⟨_,_,h1,?_⟩;cases e with
   |normal=>exact absurd rfl eA
   |_=>exact hq
 ·rintro⟨e,bT,h,hq⟩
  cases e with
  |normal=>obtain⟨e2,wt,h2,hq⟩:=hq;exact⟨_,_,.seq h h2,hq⟩
  |_=>exact⟨_,_,.Nb (by simp) h,hq⟩
theorem D7{c:AO}{a b:bx}:Wp T s (.cond c a b) st Q↔Dh T s a b st Q (dF (look st.fr) c):=by
 constructor
 ·rintro⟨e,bT,h,hq⟩
  cases h with
  |SH hc h1=>rw[hc];exact⟨_,_,h1,hq⟩
  |QW hc h1=>rw[hc];exact⟨_,_,h1,hq⟩
 ·intro h;unfold Dh at h;split at h
  ·rename_i hc;obtain⟨_,_,h1,hq⟩:=h;exact⟨_,_,.SH hc h1,hq⟩
  ·rename_i hc;obtain⟨_,_,h1,hq⟩:=h;exact⟨_,_,.QW hc h1,hq⟩
  ·exact h.elim
theorem zM{id:Nat}{b:bx}:Wp T s (.block id b) st Q↔Wp T s b st (vX id Q):=by
 constructor
 ·rintro⟨e,bT,h,hq⟩
  cases h with
  |BH h1=>exact⟨_,_,h1,fun _=>hq,fun h=>absurd rfl h⟩
  |block eA h1 =>
   refine⟨_,_,h1,?_⟩;cases e with
   |exit i=>exact⟨fun h=>absurd (by rw[h]) eA,fun _=>hq⟩
   |_=>exact hq
 ·rintro⟨e,bT,h,hq⟩
  cases e with
  |exit i =>
   by_cases hi:i=id
   ·subst hi;exact⟨_,_,.BH h,hq.1 rfl⟩
   ·exact⟨_,_,.block (by simp[hi]) h,hq.2 hi⟩
  |_=>exact⟨_,_,.block (by simp) h,hq⟩
theorem az{b:bx}:Wp T s (.loop b) st Q↔Wp T s b st (vv T s (.loop b) Q):=by
 constructor
 ·rintro⟨e,bT,h,hq⟩
  cases h with
  |loop h1 h2=>exact⟨_,_,h1,_,_,h2,hq⟩
  |HL eA h1 =>
   refine⟨_,_,h1,?_⟩;cases e with
   |normal=>exact absurd rfl eA
   |_=>exact hq
 ·rintro⟨e,bT,h,hq⟩
  cases e with
  |normal=>obtain⟨e2,wt,h2,hq⟩:=hq;exact⟨_,_,.loop h h2,hq⟩
  |_=>exact⟨_,_,.HL (by simp) h,hq⟩
theorem Wp.mono{c:bx}{Q':Exit->St->Prop}(h:Wp T s c st Q)(hq:∀e st,Q e st->Q' e st):Wp T s c st Q':=by
 obtain⟨e,bT,h1,h2⟩:=h;exact⟨e,bT,h1,hq _ _ h2⟩
theorem xI:tP T [] st K↔K st:=by
 constructor
 ·rintro⟨bT,h,hq⟩;simp[hJ]at h;subst h;exact hq
 ·exact fun h=>⟨_,rfl,h⟩
theorem Jm{x:aV}{l:List aV}:tP T (x::l) st K↔∃bT,BS T (D T) x st=some bT/\tP T l bT K:=by
 unfold tP;simp only[hJ];constructor
 ·rintro⟨bT,h,hq⟩
  split at h
  ·rename_i st1 h1;exact⟨_,h1,_,h,hq⟩
  ·simp at h
 ·rintro⟨st1,h1,bT,h,hq⟩
  exact⟨bT,by rw[h1];exact h,hq⟩
def Dk(T:cK)(d:Option Nat)(l:List aV)(st:St)(K:St->Prop):Option (AV×List (Nat×dx)×Nat)->Prop
 |some (v,W,n)=>tP T l ⟨dt st d v,W++st.hp,st.nx+n⟩ K
 |none=>False
def iN(T:cK)(n:Nat)(args:List AV)(d:Option Nat)(l:List aV)(st:St)(K:St->Prop):Prop:=∃bT,eO T (D T) n args d st=some bT/\tP T l bT K
def Ak(T:cK)(xs:List AV)(d:Option Nat)(l:List aV)(st:St)(K:St->Prop):Option (Nat×List AV×List AV)->Prop
 |some (n,a,b)=>iN T n (a++(xs++b)) d l st K
 |none=>False
def Q3(T:cK)(d:Option Nat)(op:fE)(l:List aV)(st:St)(K:St->Prop):Option (AV×List (Nat×dx)×Nat)->Prop
 |some r=>Dk T d l st K (some r)
 |none=>match o7 op st with
  |some st1=>Dk T d l st1 K (bE (look st1.fr) (ah st1.hp) st1.nx op)
  |none=>False
def vS(T:cK)(d:Option Nat)(op:fE)(l:List aV)(st:St)(K:St->Prop):Prop :=
 match op with
 | .call n xs=>iN T n (fg (look st.fr) xs) d l st K
 | .fK f xs=>Ak T (fg (look st.fr) xs) d l st K (aU (dF (look st.fr) f))
 | .store m x y=>match d with
  |none=>Dk T none l st K (bE (look st.fr) (ah st.hp) st.nx (.store m x y))
  |some _=>False
 | .cr sz len zs ps=>Q3 T d (.cr sz len zs ps) l st K (bE (look st.fr) (ah st.hp) st.nx (.cr sz len zs ps))
 |op=>Dk T d l st K (bE (look st.fr) (ah st.hp) st.nx op)
def pY(T:cK)(d:Option Nat)(op:fE)(l:List aV)(st:St)(K:St->Prop):Option Bool->Prop
 |some true=>vS T d op l st K
 |some false=>tP T l ⟨dt st d (.pv (.tuple [])),st.hp,st.nx⟩ K
 |none=>False
theorem Ae{d:Option Nat}{l:List aV}{v:AV}{W:List (Nat×dx)}{n:Nat}:Dk T d l st K (some (v,W,n))↔tP T l ⟨dt st d v,W++st.hp,st.nx+n⟩ K:=pz
theorem zX{d:Option Nat}{op:fE}{l:List aV}{v:AV}{W:List (Nat×dx)}{n:Nat}:Q3 T d op l st K (some (v,W,n))↔tP T l ⟨dt st d v,W++st.hp,st.nx+n⟩ K:=pz
theorem pf{xs:List AV}{d:Option Nat}{l:List aV}{n:Nat}{a b:List AV}:Ak T xs d l st K (some (n,a,b))↔iN T n (a++(xs++b)) d l st K:=pz
theorem sM{d:Option Nat}{op:fE}{l:List aV}:pY T d op l st K (some true)↔vS T d op l st K:=pz
theorem qQ{d:Option Nat}{op:fE}{l:List aV}:pY T d op l st K (some false)↔tP T l ⟨dt st d (.pv (.tuple [])),st.hp,st.nx⟩ K:=pz
theorem tQ{d:Option Nat}{op:fE}{g:Option (Nat×Bool)}{ds:List Nat}{l:List aV}:tP T (⟨d,op,g,ds⟩::l) st K↔pY T d op l st K (cH (look st.fr) g):=by
 rw[Jm];unfold BS;simp only;cases hg:cH (look st.fr) g with
 |none=>simp[pY]
 |some b =>
  cases b with
  |false=>simp[pY]
  |true =>
   simp only[pY];unfold rM;cases op with
   |call n xs=>rfl
   |fK f xs =>
    simp only[vS];cases aU (dF (look st.fr) f)with
    |none=>simp[Ak]
    |some q=>obtain⟨n,a,b⟩:=q;simp only[Ak];rfl
   |store m x y =>
    simp only[vS,ot];cases d with
    |none =>
     simp only;cases bE (look st.fr) (ah st.hp) st.nx (.store m x y)with
     |none=>simp[Dk,o7]
     |some q=>obtain⟨v,W,n⟩:=q;simp[Dk,dt]
    |some d =>
     simp only;cases bE (look st.fr) (ah st.hp) st.nx (.store m x y)with
     |none=>simp[o7]
     |some q=>simp
   |cr sz len zs ps =>
    simp only[vS,ot];cases bE (look st.fr) (ah st.hp) st.nx (.cr sz len zs ps)with
    |some q=>obtain⟨v,W,n⟩:=q;simp[Q3,Dk]
    |none =>
     simp only[Q3];cases o7 (.cr sz len zs ps) st with
     |none=>simp
     |some st1 =>
      simp only;cases bE (look st1.fr) (ah st1.hp) st1.nx (.cr sz len zs ps)with
      |none=>simp[Dk]
      |some q=>obtain⟨v,W,n⟩:=q;simp[Dk]
   |_ =>
    simp only[vS,ot,o7]
    first
     |(generalize bE _ _ _ _=z;cases z with
       |none=>simp[Dk]
       |some q=>obtain⟨v,W,n⟩:=q;simp[Dk])
     |simp[bE,Dk]
end
theorem l6{T:cK}{n:Nat}{args:List AV}{d:Option Nat}{l:List aV}{st:St}{K:St->Prop}{ps:List PV}{r:Option Nat×PV}(eG:T.raw n=false)(h1:ca args=some ps)(h2:du (D T) n ps=some r) :
    iN T n args d l st K↔tP T l (qm (T.own n) d st r) K:=by
 unfold iN eO;simp only[eG,h1,h2,ai];constructor
 ·rintro⟨bT,rfl,h⟩;exact h
 ·exact fun h=>⟨_,rfl,h⟩
end
section
def quiet:fE->Bool
 | .mv _| .pick _ _ _| .build _ _| .load _ _ _| .jS _| .bin _ _ _ _| .not _| .neg _| .uS _ _ _ _ _| .conv _ _| .lr _ _| .xa _ _ _| .fieldAddr _ _| .ox _ _ _ _| .fC _ _ _| .dA _ _ _ _| .slice _ _ _ _| .len _| .uY _| .G2 _| .wm _| .extract _ _| .t8 _| .tb _| .fK _ _| .jR _ _ _ _ _=>true
 | .call n _=>!(Nat.beq n 279)
 |_=>false
def IW:fE->Bool
 | .mv _| .pick _ _ _| .build _ _| .bin _ none _ _| .not _| .neg _| .uS _ _ _ _ _| .conv _ _| .lr _ _| .xa _ _ _| .uY _| .wm _| .extract _ _| .t8 _| .tb _| .fK _ _=>true
 | .call n _=>!(Nat.beq n 279)
 |_=>false
def Nf(x:aV):Bool:=match x.op with
 | .store _ _ _=>match x.dst with
  |none=>true
  |some _=>false
 |_=>true
def vp(x:aV):List Nat:=fq x.op++mI x.guard
def Hw(x y:aV):Bool:=fB (kF x.dst) (vp y)&&(fB (kF x.dst) (kF y.dst)&&(fB (kF y.dst) (vp x)&&((quiet x.op&&quiet y.op)||(IW x.op||IW y.op))))
def E2(i:Nat)(x:aV):List aV->Bool
 |[]=>true
 |y::r=>(mem i y.kC||Hw x y)&&E2 i x r
def calm(i:Nat):List aV->Bool
 |[]=>true
 |x::r=>Nf x&&(kV i x.kC&&(E2 i x r&&calm (i+1) r))
theorem B6{F:Fr}{H:Hp}{k:Nat}{op:fE}{v:AV}{W:List (Nat×dx)}{n:Nat}(hq:quiet op=true)(h:bE F H k op=some (v,W,n)):W=[]/\n=0:=by
 unfold bE at h
 repeat' split at h
 all_goals first|(simp[quiet]at hq;done)|(simp only[ai,aZ]at h;exact⟨h.2.1.symm,h.2.2.symm⟩)|(exact absurd h (by simp))
section
variable{T:cK}{C:Cl}
def IU(e:En):Prop:=(quiet e.x.op=true->e.W=[]/\e.n=0)/\(IW e.x.op=true->e.W=[]/\e.n=0/\e.rd=[])
theorem EE{op:fE}(h:IW op=true):quiet op=true:=by
 unfold IW at h;split at h <;>first|rfl|(simp at h;done)|(simp only[quiet];exact h)
theorem Ma{F:Fr}{op:fE}(h:IW op=true):iJ F op=[]:=by
 unfold IW at h;split at h <;>first|rfl|simp at h
theorem Bh{x:aV}{st bT:St}{e:En}(h:jh T C x st=some (e,bT)):e.x=x/\IU e:=by
 unfold jh at h;split at h
 ·unfold eK at h;split at h
  ·rename_i n xs gB;split at h
   ·split at h
    ·rename_i q hq;simp only[ai,zu,aZ]at h;obtain⟨rfl,rfl⟩:=h;have key:Nat.beq n 279=false->(gW (T.se n) st.nx q).2.1=[]/\(gW (T.se n) st.nx q).2.2=0:=fun hn=>by
      have:T.se n=false:=by unfold cK.se;rw[hn];rfl
      rw[this];exact⟨rfl,rfl⟩
     refine⟨rfl,fun h=>?_,fun h=>?_⟩
     ·simp only[gB,quiet,Bool.not_eq_true']at h;exact key h
     ·simp only[gB,IW,Bool.not_eq_true']at h;exact⟨(key h).1,(key h).2,rfl⟩
    ·simp at h
   ·simp at h
  ·split at h
   ·split at h
    ·split at h
     ·simp at h;obtain⟨rfl,rfl⟩:=h;exact⟨rfl,fun _=>⟨rfl,rfl⟩,fun _=>⟨rfl,rfl,rfl⟩⟩
     ·simp at h
    ·simp at h
   ·simp at h
  ·split at h
   ·rename_i v W n vP;simp at h;obtain⟨rfl,rfl⟩:=h;refine⟨rfl,fun hq=>?_,fun hd=>?_⟩
    ·obtain⟨h1,h2⟩:=B6 hq vP;exact⟨h1,h2⟩
    ·obtain⟨h1,h2⟩:=B6 (EE hd) vP;exact⟨h1,h2,Ma hd⟩
   ·simp at h
 ·simp at h;obtain⟨rfl,rfl⟩:=h;exact⟨rfl,fun _=>⟨rfl,rfl⟩,fun _=>⟨rfl,rfl,rfl⟩⟩
 ·simp at h
theorem om:∀(l:List Nat),fB l []=true
 |[]=>rfl
 |a::r=>by simp only[fB,mem,om r];rfl
theorem ub:∀{l:List aV} {i:Nat} {st bT:St} {es:List En},calm i l=true->jb T C l st=some (es,bT)->eC i es=true/\es.map (·.x)=l/\∀e∈es,IU e
 |[],i,st,bT,es,hc,h=>by simp[jb]at h;obtain⟨rfl,rfl⟩:=h;simp[eC]
 |x::r,i,st,bT,es,hc,h=>by
  simp only[calm,bj]at hc;obtain⟨hq,hd,hr,hc⟩:=hc;simp only[jb]at h;split at h
  ·rename_i e st1 h1;split at h
   ·rename_i es' wt h2;simp at h;obtain⟨rfl,rfl⟩:=h;obtain⟨k1,k2⟩:=Bh h1;obtain⟨g1,g2,g3⟩:=ub hc h2;refine⟨?_,by simp[k1,g2],?_⟩
    ·simp only[eC,bj,ke];refine⟨by rw[k1];exact hd,?_,.inl ?_,g1⟩
     ·unfold il;rw[k1];exact hq
     ·have key:∀{fs:List En} {l:List aV},fs.map (·.x)=l->(∀f∈fs,IU f)->E2 i x l=true->j0 i e fs=true:=by
       intro fs;induction fs with
       |nil=>intro l _ _ _;rfl
       |cons f fs ih =>
        intro l hl hw S7;subst hl;simp only[aX,E2,bj]at S7;simp only[j0,bj];refine⟨?_,ih rfl (fun f hf=>hw f (by simp[hf])) S7.2⟩;have:=S7.1;simp only[ke]at this⊢;rcases this with h|h
        ·exact .inl h
        ·refine .inr ?_;have w:=hw f (by simp);simp only[Hw,bj,ke]at h;obtain⟨d1,d2,d3,h⟩:=h;simp only[iG,En.reads,k1,bj];refine⟨d1,d2,d3,?_⟩;rcases h with⟨q1,q2⟩|q1|q2
         ·obtain⟨a1,a2⟩:=k2.1 (by rw[k1];exact q1);obtain⟨b1,b2⟩:=w.1 q2;simp only[a1,a2,b1,b2,keys,fB,cg,sX,true_and,and_self]
         ·obtain⟨a1,a2,a3⟩:=k2.2 (by rw[k1];exact q1);simp only[a1,a2,a3,keys,fB,om,cg,sX,true_and,and_self]
         ·obtain⟨b1,b2,b3⟩:=w.2 q2;simp only[b1,b2,b3,keys,fB,om,cg,sX,Bool.or_true,true_and,and_self]
      exact key g2 g3 hr
    ·intro f hf;simp only[aQ]at hf;rcases hf with rfl|hf
     ·exact k2
     ·exact g3 f hf
   ·simp at h
  ·simp at h
end
def vN(T:cK)(l:List aV)(st:St)(K:St->Prop):Prop:=∃es bT,jb T (D T) l st=some (es,bT)/\K bT
theorem ef{T:cK}{st:St}{Q:Exit->St->Prop}{l:List aV}(hc:calm 0 l=true):Wp T false (.draw l) st Q↔vN T l st (Q .normal):=by
 constructor
 ·rintro⟨e,bT,h,hq⟩
  cases h;rename_i h;unfold f9 at h;split at h
  ·rename_i es st1 h1;split at h
   ·simp at h;subst h;exact⟨es,_,h1,hq⟩
   ·simp at h
  ·simp at h
 ·rintro⟨es,bT,h,hq⟩
  refine⟨_,_,.draw ?_,hq⟩;unfold f9;have:jb T (D T) l (lf false st)=some (es,bT):=h;rw[this];simp only[(ub hc h).1]
section
variable{T:cK}{st:St}{K:St->Prop}
def QV(T:cK)(d:Option Nat)(l:List aV)(st:St)(K:St->Prop):Option (AV×List (Nat×dx)×Nat)->Prop
 |some (v,W,n)=>vN T l ⟨dt st d v,W++st.hp,st.nx+n⟩ K
 |none=>False
def cm(T:cK)(n:Nat)(args:List AV)(d:Option Nat)(l:List aV)(st:St)(K:St->Prop):Prop :=
 T.raw n=false/\∃ps o p,ca args=some ps/\du (D T) n ps=some (o,p)/\vN T l ⟨dt st d (.pv p),st.hp,st.nx⟩ K
def Lh(T:cK)(n:Nat)(args:List AV)(d:Option Nat)(l:List aV)(st:St)(K:St->Prop):Prop :=
 T.raw n=false/\∃ps r,ca args=some ps/\du (D T) n ps=some r/\vN T l ⟨dt st d (gW (T.own n) st.nx r).1,(gW (T.own n) st.nx r).2.1++st.hp,st.nx+(gW (T.own n) st.nx r).2.2⟩ K
def Oe(T:cK)(xs:List AV)(d:Option Nat)(l:List aV)(st:St)(K:St->Prop):Option (Nat×List AV×List AV)->Prop
 |some (n,a,b)=>cm T n (a++(xs++b)) d l st K
 |none=>False
theorem wN{xs:List AV}{d:Option Nat}{l:List aV}{n:Nat}{a b:List AV}:Oe T xs d l st K (some (n,a,b))↔cm T n (a++(xs++b)) d l st K:=pz
def DV(T:cK)(d:Option Nat)(op:fE)(l:List aV)(st:St)(K:St->Prop):Prop :=
 match op with
 | .call n xs=>cond (Nat.beq n 279) (Lh T n (fg (look st.fr) xs) d l st K) (cm T n (fg (look st.fr) xs) d l st K)
 | .fK f xs=>Oe T (fg (look st.fr) xs) d l st K (aU (dF (look st.fr) f))
 |op=>QV T d l st K (bE (look st.fr) (ah st.hp) st.nx op)
def yN(T:cK)(d:Option Nat)(op:fE)(l:List aV)(st:St)(K:St->Prop):Option Bool->Prop
 |some true=>DV T d op l st K
 |some false=>vN T l ⟨dt st d (.pv (.tuple [])),st.hp,st.nx⟩ K
 |none=>False
theorem Ac{d:Option Nat}{l:List aV}{v:AV}{W:List (Nat×dx)}{n:Nat}:QV T d l st K (some (v,W,n))↔vN T l ⟨dt st d v,W++st.hp,st.nx+n⟩ K:=pz
theorem sK{d:Option Nat}{op:fE}{l:List aV}:yN T d op l st K (some true)↔DV T d op l st K:=pz
theorem qO{d:Option Nat}{op:fE}{l:List aV}:yN T d op l st K (some false)↔vN T l ⟨dt st d (.pv (.tuple [])),st.hp,st.nx⟩ K:=pz
theorem D5:vN T [] st K↔K st:=by
 constructor
 ·rintro⟨es,bT,h,hq⟩;simp[jb]at h;obtain⟨rfl,rfl⟩:=h;exact hq
 ·exact fun h=>⟨_,_,rfl,h⟩
theorem Lc{x:aV}{l:List aV}:vN T (x::l) st K↔∃e bT,jh T (D T) x st=some (e,bT)/\vN T l bT K:=by
 unfold vN;simp only[jb];constructor
 ·rintro⟨es,bT,h,hq⟩
  split at h
  ·rename_i e st1 h1;split at h
   ·rename_i es' wt h2;simp at h;obtain⟨rfl,rfl⟩:=h;exact⟨e,st1,h1,es',_,h2,hq⟩
   ·simp at h
  ·simp at h
 ·rintro⟨e,st1,h1,es',wt,h2,hq⟩
  exact⟨e::es',wt,by rw[h1];simp only[h2],hq⟩
theorem xG{x:aV}{l:List aV}{e:En}{st1:St}(h:jh T (D T) x st=some (e,st1)):vN T (x::l) st K↔vN T l st1 K:=by
 rw[Lc,h];constructor
 ·rintro⟨e',bT,h1,h2⟩
  simp at h1;obtain⟨rfl,rfl⟩:=h1;exact h2
 ·exact fun h2=>⟨_,_,rfl,h2⟩
theorem mX{x:aV}{l:List aV}(h:jh T (D T) x st=none):¬vN T (x::l) st K:=by
 rw[Lc,h]
 rintro⟨e',bT,h1,h2⟩
 simp at h1
theorem zK{d:Option Nat}{op:fE}{g:Option (Nat×Bool)}{ds:List Nat}{l:List aV}:vN T (⟨d,op,g,ds⟩::l) st K↔yN T d op l st K (cH (look st.fr) g):=by
 cases hg:cH (look st.fr) g with
 |none=>exact⟨fun h=>absurd h (mX (by unfold jh;simp only[hg])),fun h=>h.elim⟩
 |some b =>
  cases b with
  |false=>exact xG (by unfold jh;simp only[hg];rfl)
  |true =>
   simp only[yN];have h0:∀x:aV,x.guard=g->jh T (D T) x st=eK T (D T) x st:=fun x hx=>by unfold jh;simp only[hx,hg]
   have key:∀(x:aV) (n:Nat) (args:List AV),x.guard=g->(eK T (D T) x st=match T.raw n,ca args with
       |false,some ps=>match du (D T) n ps with
        |some (_,p)=>some (⟨x,false,st.nx,.pv p,[],0,[]⟩,⟨dt st x.dst (.pv p),st.hp,st.nx⟩)
        |none=>none
       |_,_=>none)->(vN T (x::l) st K↔cm T n args x.dst l st K):=by
    intro x n args hx gB;have h1:jh T (D T) x st=eK T (D T) x st:=h0 _ hx;unfold cm;cases eG:T.raw n with
    |true=>exact⟨fun h=>absurd h (mX (by rw[h1,gB];simp only[eG])),fun h=>by simp at h⟩
    |false =>
     cases iW:ca args with
     |none=>exact⟨fun h=>absurd h (mX (by rw[h1,gB];simp only[eG,iW])),fun h=>by obtain⟨_,ps,o,p,h,_⟩:=h;simp at h⟩
     |some ps =>
      cases uO:du (D T) n ps with
      |none =>
       refine⟨fun h=>absurd h (mX (by rw[h1,gB];simp only[eG,iW,uO])),fun h=>?_⟩;obtain⟨_,KI,o,p,h,h2,_⟩:=h;simp only[ai]at h;subst h;rw[uO]at h2;simp at h2
      |some r =>
       obtain⟨o,p⟩:=r;rw[xG (e:=⟨x,false,st.nx,.pv p,[],0,[]⟩) (st1:=⟨dt st x.dst (.pv p),st.hp,st.nx⟩) (by rw[h1,gB];simp only[eG,iW,uO])];constructor
       ·exact fun h=>⟨rfl,ps,o,p,rfl,uO,h⟩
       ·rintro⟨_,KI,o',p',h,h2,h3⟩
        simp only[ai]at h;subst h;rw[uO]at h2;simp at h2;obtain⟨rfl,rfl⟩:=h2;exact h3
   cases op with
   |call n xs =>
    simp only[DV];cases hb:Nat.beq n 279 with
    |false =>
     simp only[fp];refine key ⟨d,.call n xs,g,ds⟩ n _ rfl ?_;have ho:T.se n=false:=by unfold cK.se;rw[hb];rfl
     simp only[eK,ho];cases T.raw n with
     |true=>rfl
     |false =>
      cases ca (fg (look st.fr) xs)with
      |none=>rfl
      |some ps =>
       dsimp only;cases du (D T) n ps with
       |none=>rfl
       |some r=>rfl
    |true =>
     simp only[gT];have ho:T.se n=T.own n:=by unfold cK.se;rw[hb];rfl
     have h1:=h0 ⟨d,.call n xs,g,ds⟩ rfl;unfold Lh;cases eG:T.raw n with
     |true=>exact⟨fun h=>absurd h (mX (by rw[h1];simp only[eK,eG])),fun h=>by simp at h⟩
     |false =>
      cases iW:ca (fg (look st.fr) xs)with
      |none=>exact⟨fun h=>absurd h (mX (by rw[h1];simp only[eK,eG,iW])),fun h=>by obtain⟨_,ps,r,h,_⟩:=h;simp at h⟩
      |some ps =>
       cases uO:du (D T) n ps with
       |none =>
        refine⟨fun h=>absurd h (mX (by rw[h1];simp only[eK,eG,iW,uO])),fun h=>?_⟩;obtain⟨_,KI,r,h,h2,_⟩:=h;simp only[ai]at h;subst h;rw[uO]at h2;simp at h2
       |some r =>
        rw[xG (e:=(zu ⟨d,.call n xs,g,ds⟩ st (gW (T.own n) st.nx r)).1) (st1:=(zu ⟨d,.call n xs,g,ds⟩ st (gW (T.own n) st.nx r)).2) (by rw[h1];simp only[eK,eG,iW,uO,ho])];constructor
        ·exact fun h=>⟨rfl,ps,r,rfl,uO,h⟩
        ·rintro⟨_,KI,r',h,h2,h3⟩
         simp only[ai]at h;subst h;rw[uO]at h2;simp only[ai]at h2;subst h2;exact h3
   |fK f xs =>
    simp only[DV];cases hf:aU (dF (look st.fr) f)with
    |none=>exact⟨fun h=>absurd h (mX (by rw[h0 _ rfl];simp only[eK,hf])),fun h=>h.elim⟩
    |some q =>
     obtain⟨n,a,b⟩:=q;exact key ⟨d,.fK f xs,g,ds⟩ n _ rfl (by simp only[eK,hf] <;>rfl)
   |_ =>
    simp only[DV]
    first
     |(rename_i a1 a2 a3 a4 a5;cases vP:bE (look st.fr) (ah st.hp) st.nx (_ a1 a2 a3 a4 a5))
     |(refine(show _↔QV T d l st K _ from ?_)
       generalize vP:bE _ _ _ _=z;cases z with
       |none=>exact⟨fun h=>absurd h (mX (by rw[h0 _ rfl];simp only[eK,vP])),fun h=>h.elim⟩
       |some q =>
        obtain⟨v,W,n⟩:=q;exact xG (by rw[h0 _ rfl];simp only[eK,vP];rfl))
theorem ua{n:Nat}{args:List AV}{d:Option Nat}{l:List aV}{ps:List PV}{o:Option Nat}{p:PV}(eG:T.raw n=false)(h1:ca args=some ps)(h2:du (D T) n ps=some (o,p)) :
    cm T n args d l st K↔vN T l ⟨dt st d (.pv p),st.hp,st.nx⟩ K:=by
 unfold cm;simp only[eG,h1,h2,true_and,ai,aZ];constructor
 ·rintro⟨KI,o',p',rfl,JX,h⟩
  rw[h2]at JX;simp at JX;obtain⟨rfl,rfl⟩:=JX;exact h
 ·exact fun h=>⟨ps,o,p,rfl,h2,h⟩
end
end
section
def zA(T:cK)(l:List aV)(st:St)(acc:List En)(K:List En->St->Prop):Prop:=∃es bT,jb T (D T) l st=some (es,bT)/\K (acc.reverse++es) bT
theorem tl{T:cK}{st:St}{Q:Exit->St->Prop}{l:List aV}:Wp T false (.draw l) st Q↔zA T l st [] (fun es bT=>eC 0 es=true/\Q .normal bT):=by
 constructor
 ·rintro⟨e,bT,h,hq⟩
  cases h;rename_i h;unfold f9 at h;split at h
  ·rename_i es st1 h1;split at h
   ·rename_i hc;simp at h;subst h;exact⟨es,_,h1,hc,hq⟩
   ·simp at h
  ·simp at h
 ·rintro⟨es,bT,h,hc,hq⟩
  refine⟨_,_,.draw ?_,hq⟩;unfold f9;have:jb T (D T) l (lf false st)=some (es,bT):=h;rw[this];have wb:eC 0 es=true:=hc;simp only[wb]
theorem Gl{T:cK}{s:Bool}{st:St}{Q:Exit->St->Prop}{l:List aV}(hc:calm 0 l=true):Wp T s (.draw l) st Q↔vN T l (lf s st) (Q .normal):=by
 constructor
 ·rintro⟨e,bT,h,hq⟩
  cases h;rename_i h;unfold f9 at h;split at h
  ·rename_i es st1 h1;split at h
   ·simp at h;subst h;exact⟨es,_,h1,hq⟩
   ·simp at h
  ·simp at h
 ·rintro⟨es,bT,h,hq⟩
  refine⟨_,_,.draw ?_,hq⟩;unfold f9;rw[h];simp only[(ub hc h).1]
section
variable{T:cK}{st:St}{acc:List En}{K:List En->St->Prop}
def T6(T:cK)(x:aV)(l:List aV)(st:St)(acc:List En)(K:List En->St->Prop):Option (AV×List (Nat×dx)×Nat)->Prop
 |some (v,W,n)=>zA T l ⟨dt st x.dst v,W++st.hp,st.nx+n⟩ (⟨x,false,st.nx,v,W,n,iJ (look st.fr) x.op⟩::acc) K
 |none=>False
def iM(T:cK)(x:aV)(n:Nat)(args:List AV)(l:List aV)(st:St)(acc:List En)(K:List En->St->Prop):Prop :=
 T.raw n=false/\∃ps o p,ca args=some ps/\du (D T) n ps=some (o,p)/\zA T l ⟨dt st x.dst (.pv p),st.hp,st.nx⟩ (⟨x,false,st.nx,.pv p,[],0,[]⟩::acc) K
def GJ(T:cK)(x:aV)(n:Nat)(args:List AV)(l:List aV)(st:St)(acc:List En)(K:List En->St->Prop):Prop :=
 T.raw n=false/\∃ps r,ca args=some ps/\du (D T) n ps=some r/\zA T l (zu x st (gW (T.own n) st.nx r)).2 ((zu x st (gW (T.own n) st.nx r)).1::acc) K
def LJ(T:cK)(x:aV)(l:List aV)(st:St)(acc:List En)(K:List En->St->Prop):Prop :=
 match x.op with
 | .call n xs=>cond (Nat.beq n 279) (GJ T x n (fg (look st.fr) xs) l st acc K) (iM T x n (fg (look st.fr) xs) l st acc K)
 | .fK f xs=>match aU (dF (look st.fr) f)with
  |some (n,a,b)=>iM T x n (a++(fg (look st.fr) xs++b)) l st acc K
  |none=>False
 |op=>T6 T x l st acc K (bE (look st.fr) (ah st.hp) st.nx op)
def yO(T:cK)(x:aV)(l:List aV)(st:St)(acc:List En)(K:List En->St->Prop):Option Bool->Prop
 |some true=>LJ T x l st acc K
 |some false=>zA T l ⟨dt st x.dst (.pv (.tuple [])),st.hp,st.nx⟩ (⟨x,true,st.nx,.pv (.tuple []),[],0,[]⟩::acc) K
 |none=>False
theorem Ad{x:aV}{l:List aV}{v:AV}{W:List (Nat×dx)}{n:Nat}:T6 T x l st acc K (some (v,W,n))↔zA T l ⟨dt st x.dst v,W++st.hp,st.nx+n⟩ (⟨x,false,st.nx,v,W,n,iJ (look st.fr) x.op⟩::acc) K:=pz
theorem sL{x:aV}{l:List aV}:yO T x l st acc K (some true)↔LJ T x l st acc K:=pz
theorem qP{x:aV}{l:List aV}:yO T x l st acc K (some false)↔zA T l ⟨dt st x.dst (.pv (.tuple [])),st.hp,st.nx⟩ (⟨x,true,st.nx,.pv (.tuple []),[],0,[]⟩::acc) K:=pz
theorem D6:zA T [] st acc K↔K acc.reverse st:=by
 constructor
 ·rintro⟨es,bT,h,hq⟩;simp[jb]at h;obtain⟨rfl,rfl⟩:=h;simpa using hq
 ·exact fun h=>⟨_,_,rfl,by simpa using h⟩
theorem xH{x:aV}{l:List aV}{e:En}{st1:St}(h:jh T (D T) x st=some (e,st1)):zA T (x::l) st acc K↔zA T l st1 (e::acc) K:=by
 unfold zA;simp only[jb,h];constructor
 ·rintro⟨es,bT,h,hq⟩
  split at h
  ·rename_i es' wt h2;simp at h;obtain⟨rfl,rfl⟩:=h;exact⟨es',_,h2,by simpa using hq⟩
  ·simp at h
 ·rintro⟨es,bT,h2,hq⟩
  exact⟨e::es,bT,by simp only[h2],by simpa using hq⟩
theorem mY{x:aV}{l:List aV}(h:jh T (D T) x st=none):¬zA T (x::l) st acc K:=by
 unfold zA;simp only[jb,h]
 rintro⟨e',bT,h1,h2⟩
 simp at h1
theorem zL{x:aV}{l:List aV}:zA T (x::l) st acc K↔yO T x l st acc K (cH (look st.fr) x.guard):=by
 cases hg:cH (look st.fr) x.guard with
 |none=>exact⟨fun h=>absurd h (mY (by unfold jh;simp only[hg])),fun h=>h.elim⟩
 |some b =>
  cases b with
  |false=>exact xH (by unfold jh;simp only[hg])
  |true =>
   simp only[yO];have h0:jh T (D T) x st=eK T (D T) x st:=by unfold jh;simp only[hg]
   have key:∀(n:Nat) (args:List AV),(eK T (D T) x st=match T.raw n,ca args with
       |false,some ps=>match du (D T) n ps with
        |some (_,p)=>some (⟨x,false,st.nx,.pv p,[],0,[]⟩,⟨dt st x.dst (.pv p),st.hp,st.nx⟩)
        |none=>none
       |_,_=>none)->(zA T (x::l) st acc K↔iM T x n args l st acc K):=by
    intro n args gB;unfold iM;cases eG:T.raw n with
    |true=>exact⟨fun h=>absurd h (mY (by rw[h0,gB];simp only[eG])),fun h=>by simp at h⟩
    |false =>
     cases iW:ca args with
     |none=>exact⟨fun h=>absurd h (mY (by rw[h0,gB];simp only[eG,iW])),fun h=>by obtain⟨_,ps,o,p,h,_⟩:=h;simp at h⟩
     |some ps =>
      cases uO:du (D T) n ps with
      |none =>
       refine⟨fun h=>absurd h (mY (by rw[h0,gB];simp only[eG,iW,uO])),fun h=>?_⟩;obtain⟨_,KI,o,p,h,h2,_⟩:=h;simp only[ai]at h;subst h;rw[uO]at h2;simp at h2
      |some r =>
       obtain⟨o,p⟩:=r;rw[xH (e:=⟨x,false,st.nx,.pv p,[],0,[]⟩) (st1:=⟨dt st x.dst (.pv p),st.hp,st.nx⟩) (by rw[h0,gB];simp only[eG,iW,uO])];constructor
       ·exact fun h=>⟨rfl,ps,o,p,rfl,uO,h⟩
       ·rintro⟨_,KI,o',p',h,h2,h3⟩
        simp only[ai]at h;subst h;rw[uO]at h2;simp at h2;obtain⟨rfl,rfl⟩:=h2;exact h3
   unfold LJ;split
   ·rename_i n xs gB;cases hb:Nat.beq n 279 with
    |false =>
     simp only[fp];have ho:T.se n=false:=by unfold cK.se;rw[hb];rfl
     refine key n _ ?_;simp only[eK,gB,ho];cases T.raw n with
     |true=>rfl
     |false =>
      cases ca (fg (look st.fr) xs)with
      |none=>rfl
      |some ps =>
       dsimp only;cases du (D T) n ps with
       |none=>rfl
       |some r=>rfl
    |true =>
     simp only[gT];have ho:T.se n=T.own n:=by unfold cK.se;rw[hb];rfl
     unfold GJ;cases eG:T.raw n with
     |true=>exact⟨fun h=>absurd h (mY (by rw[h0];simp only[eK,gB,eG])),fun h=>by simp at h⟩
     |false =>
      cases iW:ca (fg (look st.fr) xs)with
      |none=>exact⟨fun h=>absurd h (mY (by rw[h0];simp only[eK,gB,eG,iW])),fun h=>by obtain⟨_,ps,r,h,_⟩:=h;simp at h⟩
      |some ps =>
       cases uO:du (D T) n ps with
       |none =>
        refine⟨fun h=>absurd h (mY (by rw[h0];simp only[eK,gB,eG,iW,uO])),fun h=>?_⟩;obtain⟨_,KI,r,h,h2,_⟩:=h;simp only[ai]at h;subst h;rw[uO]at h2;simp at h2
       |some r =>
        rw[xH (e:=(zu x st (gW (T.own n) st.nx r)).1) (st1:=(zu x st (gW (T.own n) st.nx r)).2) (by rw[h0];simp only[eK,gB,eG,iW,uO,ho])];constructor
        ·exact fun h=>⟨rfl,ps,r,rfl,uO,h⟩
        ·rintro⟨_,KI,r',h,h2,h3⟩
         simp only[ai]at h;subst h;rw[uO]at h2;simp only[ai]at h2;subst h2;exact h3
   ·rename_i f xs gB;cases hf:aU (dF (look st.fr) f)with
    |none=>exact⟨fun h=>absurd h (mY (by rw[h0];simp only[eK,gB,hf])),fun h=>h.elim⟩
    |some q =>
     obtain⟨n,a,b⟩:=q;exact key n _ (by simp only[eK,gB,hf] <;>rfl)
   ·rename_i qW S0;have h1:eK T (D T) x st=match bE (look st.fr) (ah st.hp) st.nx x.op with
                       |some (v,W,n)=>some (⟨x,false,st.nx,v,W,n,iJ (look st.fr) x.op⟩,⟨dt st x.dst v,W++st.hp,st.nx+n⟩)
                       |none=>none:=by
     unfold eK;split
     ·rename_i n xs gB;exact absurd gB (qW n xs)
     ·rename_i f xs gB;exact absurd gB (S0 f xs)
     ·rfl
    cases vP:bE (look st.fr) (ah st.hp) st.nx x.op with
    |none=>exact⟨fun h=>absurd h (mY (by rw[h0,h1,vP])),fun h=>h.elim⟩
    |some q =>
     obtain⟨v,W,n⟩:=q;exact xH (by rw[h0,h1,vP])
theorem BK{x:aV}{n:Nat}{args:List AV}{l:List aV}{ps:List PV}{o:Option Nat}{p:PV}(eG:T.raw n=false)(h1:ca args=some ps)(h2:du (D T) n ps=some (o,p)) :
    iM T x n args l st acc K↔zA T l ⟨dt st x.dst (.pv p),st.hp,st.nx⟩ (⟨x,false,st.nx,.pv p,[],0,[]⟩::acc) K:=by
 unfold iM;simp only[eG,h1,h2,true_and,ai,aZ];constructor
 ·rintro⟨KI,o',p',rfl,JX,h⟩
  rw[h2]at JX;simp at JX;obtain⟨rfl,rfl⟩:=JX;exact h
 ·exact fun h=>⟨ps,o,p,rfl,h2,h⟩
end
end
section
theorem bH{k t:Nat}{v:AV}{r:List (Nat×AV)}:look ((k,v)::r) t=if k=t then v else look r t:=by
 simp only[look];by_cases h:k=t
 ·subst h;rw[cg,aW rfl];rfl
 ·rw[f6 h,ar h];rfl
theorem aD{k t:Nat}{v:dx}{r:List (Nat×dx)}:ah ((k,v)::r) t=if k=t then v else ah r t:=by
 simp only[ah];by_cases h:k=t
 ·subst h;rw[cg,aW rfl];rfl
 ·rw[f6 h,ar h];rfl
theorem T2:(true==true)=true:=rfl
theorem T1:(true==false)=false:=rfl
theorem SZ:(false==true)=false:=rfl
theorem SY:(false==false)=true:=rfl
theorem Dc{a b:Int}:(a==b)=decide (a=b):=by
 by_cases h:a=b <;>simp[h]
theorem Dg{a b:Int}:(a !=b)=!decide (a=b):=by
 by_cases h:a=b <;>simp[h]
theorem De{a b:Nat}:Nat.ble a b=decide (a<=b):=by
 rw[Bool.eq_iff_iff,Nat.ble_eq,bI]
theorem xO{a b:Nat}:Nat.beq a b=decide (a=b):=by
 rw[Bool.eq_iff_iff,Nat.beq_eq,bI]
theorem x6{c:AV}{r:List AV}:iY false 1 (c::r)=some c:=by simp[iY]
theorem wF:∀(l:List PV),jj (dL l)=some l
 |[]=>rfl
 |a::r=>by simp only[dL,jj,wF r]
theorem vk:∀(l:List PV),ca (dL l)=some l
 |[]=>by simp only[dL,ca]
 |a::r=>by simp only[dL,ca,eZ,vk r]
theorem x7{n:Nat}{l:List PV}(h:(l.length=n)=True):iY true n (dL l)=some (.pv (.agg l)):=by
 have h:=of_eq_true h;subst h;have:(dL l).take l.length=dL l:=qx (by rw[nC];exact ax _);simp only[iY,this,nC,cg,jY,wF]
theorem aY{T:cK}{s:Bool}{b c:bx}{st:St}{Q:Exit->St->Prop}(h:b=c):Wp T s b st Q↔Wp T s c st Q:=by rw[h]
theorem va{n:Nat}{c:AV}{r:List AV}:iY true n (c::r)=if Nat.beq ((c::r).take n).length n=true then some (jY ((c::r).take n))else none:=by
 simp only[iY];split <;>rename_i h <;>simp only[h,bz,aJ,bA]
structure Std(T:cK)(n:Nat)(f:bf):Prop where
 fW:T.fW n=none
 fn:T.fn n=some f
 still:T.still n=false
 raw:T.raw n=false
 own:T.own n=false
def ba(T:cK)(n:Nat)(ps:List PV)(p:PV):Prop:=T.raw n=false/\T.own n=false/\∃o,du (D T) n ps=some (o,p)
def wo(res:List zE)(st:St):Option PV:=match kG (look st.fr) (ah st.hp) res with
 |some vs=>dD (ah st.hp) (gJ vs)
 |none=>none
def kR(res:List zE)(r:PV):Exit->St->Prop
 | .ret,st=>wo res st=some r
 | .normal,st=>wo res st=some r
 |_,_=>False
theorem A0{T:cK}{n:Nat}{f:bf}{ps:List PV}{r:PV}(hp0:T.fW n=none)(hf:T.fn n=some f)(hN:Nat.ble (dL ps).length f.N=true)(h:Wp T (T.still n) f.body ⟨fA 0 (dL ps),[],0⟩ (kR f.res r)) :
    ∃o,du (D T) n ps=some (o,r):=by
 obtain⟨e,st,h1,h2⟩:=h;have he:(e=.ret\/e=.normal)/\wo f.res st=some r:=by
  cases e with
  |ret=>exact⟨.inl rfl,h2⟩
  |normal=>exact⟨.inr rfl,h2⟩
  |_=>exact h2.elim
 obtain⟨he,h3⟩:=he;unfold wo at h3;split at h3
 ·rename_i vs G5;exact⟨_,BL hp0 hf hN h1 he G5 h3⟩
 ·simp at h3
theorem gives{T:cK}{n:Nat}{f:bf}{ps:List PV}{r:PV}(h:Std T n f)(hN:Nat.ble (dL ps).length f.N=true)(hw:Wp T false f.body ⟨fA 0 (dL ps),[],0⟩ (kR f.res r)):ba T n ps r :=
 ⟨h.raw,h.own,A0 h.fW h.fn hN (by rw[h.still];exact hw)⟩
structure NS(T:cK)(n:Nat)(f:bf):Prop where
 fW:T.fW n=none
 fn:T.fn n=some f
 still:T.still n=true
 raw:T.raw n=false
 own:T.own n=false
theorem yM{T:cK}{n:Nat}{f:bf}{ps:List PV}{r:PV}(h:NS T n f)(hN:Nat.ble (dL ps).length f.N=true)(hw:Wp T true f.body ⟨fA 0 (dL ps),[],0⟩ (kR f.res r)):ba T n ps r :=
 ⟨h.raw,h.own,A0 h.fW h.fn hN (by rw[h.still];exact hw)⟩
theorem rn{d:Option Nat}{st:St}{o:Option Nat}{p:PV}:qm false d st (o,p)=⟨dt st d (.pv p),st.hp,st.nx⟩:=by
 unfold qm;split
 ·rename_i h;simp only[aZ]at h;rw[<-h.2]
 ·rename_i h;simp only[aZ]at h;rw[<-h.2]
section
variable{T:cK}{n:Nat}{ps:List PV}{p:PV}{args:List AV}{d:Option Nat}{l:List aV}{st:St}{K:St->Prop}
theorem ba.call(h:ba T n ps p):∀(args:List AV) (d:Option Nat) (l:List aV) (st:St) (K:St->Prop),((ca args=some ps)=True)->(iN T n args d l st K↔tP T l ⟨dt st d (.pv p),st.hp,st.nx⟩ K):=fun args d l st K h1=>by
 obtain⟨hr,ho,o,hc⟩:=h;rw[l6 hr (of_eq_true h1) hc,ho,rn]
theorem ba.cm(h:ba T n ps p):∀(args:List AV) (d:Option Nat) (l:List aV) (st:St) (K:St->Prop),((ca args=some ps)=True)->(cm T n args d l st K↔vN T l ⟨dt st d (.pv p),st.hp,st.nx⟩ K):=fun args d l st K h1=>by
 obtain⟨hr,ho,o,hc⟩:=h;exact ua hr (of_eq_true h1) hc
theorem ba.iM(h:ba T n ps p):∀(x:aV) (args:List AV) (l:List aV) (st:St) (acc:List En) (K:List En->St->Prop),((ca args=some ps)=True)->(Ab.iM T x n args l st acc K↔zA T l ⟨dt st x.dst (.pv p),st.hp,st.nx⟩ (⟨x,false,st.nx,.pv p,[],0,[]⟩::acc) K):=fun x args l st acc K h1=>by
 obtain⟨hr,ho,o,hc⟩:=h;exact BK hr (of_eq_true h1) hc
theorem ba.sF(h:ba T n ps p)(hf:T.flat n=true)(hp:ld p=true):∀(args:List AV) (d:Option Nat) (l:List aV) (st:St) (K:St->Prop),((ca args=none)=True)->((gy (ah st.hp) args=some ps)=True)->(iN T n args d l st K↔tP T l ⟨dt st d (.pv p),st.hp,st.nx⟩ K):=fun args d l st K h0 h1=>by
 have h0:=of_eq_true h0;have h1:=of_eq_true h1;obtain⟨hr,ho,o,hc⟩:=h;unfold iN eO;simp only[hr,h0,hf,h1,hc,hp,ai];constructor
 ·rintro⟨bT,rfl,h⟩;exact h
 ·exact fun h=>⟨_,rfl,h⟩
end
theorem dS{n:Int}(h1: -9223372036854775808<=n)(h2:n<9223372036854775808):IntKind.i64.wrap n=n:=by
 simp only[IntKind.wrap,IntKind.bits,IntKind.signed];simp;omega
structure jD where
 a:Int
 b:Int
 c:Int
 d:Int
 deriving DecidableEq
structure Node where
 id:Int
 bW:Int
 cap:jD
 held:jD
 deriving DecidableEq
structure fF where
 id:Int
 apart:Bool
 sq:Int
 min:Int
 max:Int
 deriving DecidableEq
structure dm where
 id:Int
 load:Int
 prio:Int
 jU:jD
 node:Int
 deriving DecidableEq
structure bc where
 nodes:List Node
 aT:List fF
 pods:List dm
structure Want where
 eP:Int
 jU:jD
 stay:Bool
 deriving DecidableEq
structure Spec where
 b9:List Want
 pre:Int
 fe:Int
structure Move where
 kind:Int
 eP:Int
 node:Int
 over:Int
 deriving DecidableEq
structure State where
 pods:List dm
 pre:Int
 fe:Int
 deriving DecidableEq
def bC(n:Node):List PV:=[.int .i64 n.id,.int .i64 n.bW,.int .u64 n.cap.a,.int .u64 n.cap.b,.int .u64 n.cap.c,.int .u64 n.cap.d,.int .u64 n.held.a,.int .u64 n.held.b,.int .u64 n.held.c,.int .u64 n.held.d]
def bO(l:fF):List PV:=[.int .i64 l.id,.bool l.apart,.int .i64 l.sq,.int .i64 l.min,.int .i64 l.max]
def aK(p:dm):List PV:=[.int .i64 p.id,.int .i64 p.load,.int .i64 p.prio,.int .u64 p.jU.a,.int .u64 p.jU.b,.int .u64 p.jU.c,.int .u64 p.jU.d,.int .i64 p.node]
def cj(w:Want):List PV:=[.int .i64 w.eP,.int .u64 w.jU.a,.int .u64 w.jU.b,.int .u64 w.jU.c,.int .u64 w.jU.d,.bool w.stay]
def bK(m:Move):List PV:=[.int .i64 m.kind,.int .i64 m.eP,.int .i64 m.node,.int .i64 m.over]
def cd(v:jD):List PV:=[.int .u64 v.a,.int .u64 v.b,.int .u64 v.c,.int .u64 v.d]
def aF(s:bc):PV:=.agg [.slice (s.nodes.map bC),.slice (s.aT.map bO),.slice (s.pods.map aK)]
def bg(x:Spec):PV:=.agg [.slice (x.b9.map cj),.int .i64 x.pre,.int .i64 x.fe]
def aw(t:State):PV:=.agg [.slice (t.pods.map aK),.int .i64 t.pre,.int .i64 t.fe]
def dG(m:Move):PV:=.agg (bK m)
def nW(p:dm):PV:=.agg (aK p)
def i6(n:Int):PV:=.int .i64 n
theorem drop_nil{α:Type}{xs:List α}{i:Nat}(h:xs.drop i=[])(hi:i<=xs.length):xs.length=i:=by
 have:=da List.length h;simp at this;omega
theorem drop_cons{α:Type}{xs:List α}{i:Nat}{a:α}{r:List α}(h:xs.drop i=a::r)(hl:xs.length<=2^30) :
    xs[i]? =some a/\(i:Int)<(xs.length:Int)/\IntKind.i64.wrap ((i:Int)+1)=((i+1:Nat):Int)/\xs.drop (i+1)=r/\i+1<=xs.length/\i<2^30:=by
 have h1:xs[i]? =some a:=by
  have:=da (·[0]?) h;simpa using this
 have h2:i<xs.length:=(aA.1 h1).1;refine⟨h1,by omega,?_,by rw[<-iE,h];rfl,h2,by omega⟩;rw[dS] <;>omega
def ix(i c:Int):PV:=.iface 1 (.gX [.int .i64 i,.int .i64 c] 0)
def ct(c:Int):PV:=.iface 0 (.int .i64 c)
end
theorem ak{a b:Prop}(ha:a)(hb:b):a/\b:=⟨ha,hb⟩
theorem aj:type_of% (ak (ak @bH @aD) (ak @bz.{1} @aJ.{1})):=ak (ak @bH @aD) (ak @bz.{1} @aJ.{1})
theorem ae:type_of% (ak (ak (ak (ak (ak (ak @mf @Bw) (ak @D7 (ak @D9 @Gm))) (ak (ak @D8 (ak @zM @tQ)) (ak @xI (ak (ak @Ae @zX) @sM)))) (ak (ak (ak @qQ (ak @tX @sC)) (ak @sV (ak @vw @xl))) (ak (ak @sB (ak @tV @wH)) (ak @bH (ak @aD @bz.{1}))))) (ak (ak (ak (ak @aJ.{1} (ak @true_implies @false_implies)) (ak @and_true (ak @true_and @aE.{0}))) (ak (ak @aI.{0} (ak @Bool.and_self @aM)) (ak @fb (ak @x6 @x7)))) (ak (ak (ak @va (ak @gL.{0} @List.drop_succ_cons.{0})) (ak @kj.{0} (ak @List.take_zero.{0} @ay.{0}))) (ak (ak @bM.{0} (ak @Nat.beq_eq @beq_self_eq_true.{0})) (ak @ge_iff_le.{0} (ak @gt_iff_lt.{0} @gQ.{0})))))) (ak (ak (ak (ak (ak @eE.{0} @Nat.add_eq_left) (ak @Nat.left_eq_add (ak @Nat.one_ne_zero @De))) (ak (ak @xO (ak @bI @ax)) (ak @Dc (ak @Dg @Int.natCast_inj)))) (ak (ak (ak @eq_self.{1} (ak @kA @pd)) (ak @al.{0,0} (ak @bY @fm.{0,0}))) (ak (ak @Ec.{0,0} (ak @Option.map_none.{0,0} @lZ)) (ak @ai.{0} (ak @ne_eq.{1} @not_true_eq_false))))) (ak (ak (ak (ak @not_false_eq_true (ak @gT.{1} @fp.{1})) (ak @T2 (ak @T1 @SZ))) (ak (ak @SY (ak @Bool.not_true @Bool.not_false)) (ak @Bool.or_true (ak @sX @Bool.or_false)))) (ak (ak (ak @Bool.false_or (ak @zL @D6)) (ak @Ad (ak @sL @qP))) (ak (ak @zK (ak @D5 @wN)) (ak @Ac (ak @sK @qO))))))) :=
 (ak (ak (ak (ak (ak (ak @mf @Bw) (ak @D7 (ak @D9 @Gm))) (ak (ak @D8 (ak @zM @tQ)) (ak @xI (ak (ak @Ae @zX) @sM)))) (ak (ak (ak @qQ (ak @tX @sC)) (ak @sV (ak @vw @xl))) (ak (ak @sB (ak @tV @wH)) (ak @bH (ak @aD @bz.{1}))))) (ak (ak (ak (ak @aJ.{1} (ak @true_implies @false_implies)) (ak @and_true (ak @true_and @aE.{0}))) (ak (ak @aI.{0} (ak @Bool.and_self @aM)) (ak @fb (ak @x6 @x7)))) (ak (ak (ak @va (ak @gL.{0} @List.drop_succ_cons.{0})) (ak @kj.{0} (ak @List.take_zero.{0} @ay.{0}))) (ak (ak @bM.{0} (ak @Nat.beq_eq @beq_self_eq_true.{0})) (ak @ge_iff_le.{0} (ak @gt_iff_lt.{0} @gQ.{0})))))) (ak (ak (ak (ak (ak @eE.{0} @Nat.add_eq_left) (ak @Nat.left_eq_add (ak @Nat.one_ne_zero @De))) (ak (ak @xO (ak @bI @ax)) (ak @Dc (ak @Dg @Int.natCast_inj)))) (ak (ak (ak @eq_self.{1} (ak @kA @pd)) (ak @al.{0,0} (ak @bY @fm.{0,0}))) (ak (ak @Ec.{0,0} (ak @Option.map_none.{0,0} @lZ)) (ak @ai.{0} (ak @ne_eq.{1} @not_true_eq_false))))) (ak (ak (ak (ak @not_false_eq_true (ak @gT.{1} @fp.{1})) (ak @T2 (ak @T1 @SZ))) (ak (ak @SY (ak @Bool.not_true @Bool.not_false)) (ak @Bool.or_true (ak @sX @Bool.or_false)))) (ak (ak (ak @Bool.false_or (ak @zL @D6)) (ak @Ad (ak @sL @qP))) (ak (ak @zK (ak @D5 @wN)) (ak @Ac (ak @sK @qO)))))))
theorem ag:type_of% (ak (ak (ak (ak (ak (ak (ak @vS.eq_1 (ak @vS.eq_2 @vS.eq_3)) (ak (ak @vS.eq_4 @vS.eq_6) (ak @vS.eq_5 @bE.eq_1))) (ak (ak @bE.eq_2 (ak @bE.eq_3 @bE.eq_4)) (ak @bE.eq_5 (ak @bE.eq_6 @bE.eq_7)))) (ak (ak (ak @bE.eq_8 (ak @bE.eq_9 @bE.eq_10)) (ak @bE.eq_11 (ak @bE.eq_12 @bE.eq_13))) (ak (ak @bE.eq_14 (ak @bE.eq_15 @bE.eq_16)) (ak (ak @bE.eq_17 @bE.eq_18) (ak @bE.eq_19 @bE.eq_20))))) (ak (ak (ak (ak @bE.eq_21 (ak @bE.eq_22 @bE.eq_23)) (ak @bE.eq_24 (ak @bE.eq_25 @bE.eq_26))) (ak (ak @bE.eq_27 (ak @bE.eq_28 @bE.eq_29)) (ak @bE.eq_30 (ak @bE.eq_31 (ak @bE.eq_32 (ak @bE.eq_33 (ak @bE.eq_34 (ak @bE.eq_35 (ak @mapOf.eq_1 (ak @mu.eq_1 (ak @rV.eq_1 @rV.eq_2))))))))))) (ak (ak (ak @dF.eq_1 (ak @dF.eq_2 @dF.eq_3)) (ak @fg.eq_1 (ak @fg.eq_2 @cH.eq_1))) (ak (ak @cH.eq_2 (ak @fA.eq_1 @fA.eq_2)) (ak (ak @dL.eq_1 @dL.eq_2) (ak @dt.eq_1 @dt.eq_2)))))) (ak (ak (ak (ak (ak @cellsOf.eq_1 (ak @cellsOf.eq_2 @cellsOf.eq_3)) (ak @cellsOf.eq_4 (ak @cellsOf.eq_5 @cellsOf.eq_6))) (ak (ak @lG.eq_1 (ak @lG.eq_2 @lF.eq_1)) (ak @lF.eq_2 (ak @lF.eq_3 @lF.eq_4)))) (ak (ak (ak @lF.eq_5 (ak @lF.eq_6 @jQ.eq_1)) (ak @jQ.eq_2 (ak @jQ.eq_3 @dQ.eq_1))) (ak (ak @dQ.eq_2 (ak @dQ.eq_3 @dQ.eq_4)) (ak (ak @dQ.eq_5 @dQ.eq_6) (ak @dQ.eq_7 @fk.eq_1))))) (ak (ak (ak (ak @fk.eq_2 (ak @fk.eq_3 @jY.eq_1)) (ak @jj.eq_1 (ak @jj.eq_2 @jj.eq_3))) (ak (ak @jA.eq_1 (ak @jA.eq_2 @eI.eq_1)) (ak (ak @eI.eq_2 @eI.eq_3) (ak @eI.eq_4 @iP.eq_1)))) (ak (ak (ak @iP.eq_2 (ak @iP.eq_3 @gA.eq_1)) (ak @gA.eq_2 (ak @gA.eq_3 @ft.eq_1))) (ak (ak @ft.eq_2 (ak @ca.eq_1 @ca.eq_2)) (ak (ak @eZ.eq_1 @eZ.eq_2) (ak @eZ.eq_3 @eZ.eq_4))))))) (ak (ak (ak (ak (ak (ak @eZ.eq_5 (ak @eZ.eq_6 @eZ.eq_7)) (ak @je.eq_1 (ak @je.eq_2 @je.eq_3))) (ak (ak @je.eq_4 (ak @je.eq_5 @je.eq_6)) (ak @je.eq_7 (ak @je.eq_8 @je.eq_9)))) (ak (ak (ak @je.eq_10 (ak @je.eq_11 @je.eq_12)) (ak @je.eq_13 (ak @je.eq_14 @je.eq_15))) (ak (ak @je.eq_16 (ak @je.eq_17 @je.eq_18)) (ak (ak @je.eq_19 @je.eq_20) (ak @je.eq_21 @je.eq_22))))) (ak (ak (ak (ak (ak @je.eq_23 @je.eq_24) (ak @G3.eq_1 @G3.eq_2)) (ak @G3.eq_3 (ak @aS.eq_1 @aS.eq_2))) (ak (ak @aS.eq_3 (ak @aS.eq_4 @aa.eq_1)) (ak (ak @aa.eq_2 @aa.eq_3) (ak @aa.eq_4 @aa.eq_5)))) (ak (ak (ak @aa.eq_6 (ak @aa.eq_7 @aa.eq_8)) (ak @aa.eq_9 (ak @aa.eq_10 @dP.eq_1))) (ak (ak @dP.eq_2 (ak @dP.eq_3 @dP.eq_4)) (ak (ak @dP.eq_5 @dP.eq_6) (ak @dP.eq_7 @dP.eq_8)))))) (ak (ak (ak (ak (ak @dP.eq_9 (ak @dP.eq_10 @dP.eq_11)) (ak @dP.eq_12 (ak @dP.eq_13 @th.eq_1))) (ak (ak @th.eq_2 (ak @kD.eq_1 @kD.eq_2)) (ak @kD.eq_3 (ak @kD.eq_4 @kR.eq_1)))) (ak (ak (ak @kR.eq_2 (ak @kR.eq_3 @wo.eq_1)) (ak @kG.eq_1 (ak @kG.eq_2 @kG.eq_3))) (ak (ak @gJ.eq_1 (ak @gJ.eq_2 @dD.eq_1)) (ak (ak @dD.eq_2 @dD.eq_3) (ak @dD.eq_4 @dD.eq_5))))) (ak (ak (ak (ak @dD.eq_6 (ak @gy.eq_1 @gy.eq_2)) (ak @dH.eq_1 (ak @dH.eq_2 @dH.eq_3))) (ak (ak @dH.eq_4 (ak @dH.eq_5 @dH.eq_6)) (ak (ak @dH.eq_7 @dH.eq_8) (ak @dH.eq_9 @hZ.eq_1)))) (ak (ak (ak @hZ.eq_2 (ak @fi.eq_1 @fi.eq_2)) (ak @oK.eq_1 (ak @oK.eq_2 @AO.DL.eq_1))) (ak (ak @AO.DL.eq_2 (ak @LJ.eq_1 @DV.eq_1)) (ak (ak @DV.eq_2 @DV.eq_3) (ak @aU.eq_1 @aU.eq_2)))))))) :=
 (ak (ak (ak (ak (ak (ak (ak @vS.eq_1 (ak @vS.eq_2 @vS.eq_3)) (ak (ak @vS.eq_4 @vS.eq_6) (ak @vS.eq_5 @bE.eq_1))) (ak (ak @bE.eq_2 (ak @bE.eq_3 @bE.eq_4)) (ak @bE.eq_5 (ak @bE.eq_6 @bE.eq_7)))) (ak (ak (ak @bE.eq_8 (ak @bE.eq_9 @bE.eq_10)) (ak @bE.eq_11 (ak @bE.eq_12 @bE.eq_13))) (ak (ak @bE.eq_14 (ak @bE.eq_15 @bE.eq_16)) (ak (ak @bE.eq_17 @bE.eq_18) (ak @bE.eq_19 @bE.eq_20))))) (ak (ak (ak (ak @bE.eq_21 (ak @bE.eq_22 @bE.eq_23)) (ak @bE.eq_24 (ak @bE.eq_25 @bE.eq_26))) (ak (ak @bE.eq_27 (ak @bE.eq_28 @bE.eq_29)) (ak @bE.eq_30 (ak @bE.eq_31 (ak @bE.eq_32 (ak @bE.eq_33 (ak @bE.eq_34 (ak @bE.eq_35 (ak @mapOf.eq_1 (ak @mu.eq_1 (ak @rV.eq_1 @rV.eq_2))))))))))) (ak (ak (ak @dF.eq_1 (ak @dF.eq_2 @dF.eq_3)) (ak @fg.eq_1 (ak @fg.eq_2 @cH.eq_1))) (ak (ak @cH.eq_2 (ak @fA.eq_1 @fA.eq_2)) (ak (ak @dL.eq_1 @dL.eq_2) (ak @dt.eq_1 @dt.eq_2)))))) (ak (ak (ak (ak (ak @cellsOf.eq_1 (ak @cellsOf.eq_2 @cellsOf.eq_3)) (ak @cellsOf.eq_4 (ak @cellsOf.eq_5 @cellsOf.eq_6))) (ak (ak @lG.eq_1 (ak @lG.eq_2 @lF.eq_1)) (ak @lF.eq_2 (ak @lF.eq_3 @lF.eq_4)))) (ak (ak (ak @lF.eq_5 (ak @lF.eq_6 @jQ.eq_1)) (ak @jQ.eq_2 (ak @jQ.eq_3 @dQ.eq_1))) (ak (ak @dQ.eq_2 (ak @dQ.eq_3 @dQ.eq_4)) (ak (ak @dQ.eq_5 @dQ.eq_6) (ak @dQ.eq_7 @fk.eq_1))))) (ak (ak (ak (ak @fk.eq_2 (ak @fk.eq_3 @jY.eq_1)) (ak @jj.eq_1 (ak @jj.eq_2 @jj.eq_3))) (ak (ak @jA.eq_1 (ak @jA.eq_2 @eI.eq_1)) (ak (ak @eI.eq_2 @eI.eq_3) (ak @eI.eq_4 @iP.eq_1)))) (ak (ak (ak @iP.eq_2 (ak @iP.eq_3 @gA.eq_1)) (ak @gA.eq_2 (ak @gA.eq_3 @ft.eq_1))) (ak (ak @ft.eq_2 (ak @ca.eq_1 @ca.eq_2)) (ak (ak @eZ.eq_1 @eZ.eq_2) (ak @eZ.eq_3 @eZ.eq_4))))))) (ak (ak (ak (ak (ak (ak @eZ.eq_5 (ak @eZ.eq_6 @eZ.eq_7)) (ak @je.eq_1 (ak @je.eq_2 @je.eq_3))) (ak (ak @je.eq_4 (ak @je.eq_5 @je.eq_6)) (ak @je.eq_7 (ak @je.eq_8 @je.eq_9)))) (ak (ak (ak @je.eq_10 (ak @je.eq_11 @je.eq_12)) (ak @je.eq_13 (ak @je.eq_14 @je.eq_15))) (ak (ak @je.eq_16 (ak @je.eq_17 @je.eq_18)) (ak (ak @je.eq_19 @je.eq_20) (ak @je.eq_21 @je.eq_22))))) (ak (ak (ak (ak (ak @je.eq_23 @je.eq_24) (ak @G3.eq_1 @G3.eq_2)) (ak @G3.eq_3 (ak @aS.eq_1 @aS.eq_2))) (ak (ak @aS.eq_3 (ak @aS.eq_4 @aa.eq_1)) (ak (ak @aa.eq_2 @aa.eq_3) (ak @aa.eq_4 @aa.eq_5)))) (ak (ak (ak @aa.eq_6 (ak @aa.eq_7 @aa.eq_8)) (ak @aa.eq_9 (ak @aa.eq_10 @dP.eq_1))) (ak (ak @dP.eq_2 (ak @dP.eq_3 @dP.eq_4)) (ak (ak @dP.eq_5 @dP.eq_6) (ak @dP.eq_7 @dP.eq_8)))))) (ak (ak (ak (ak (ak @dP.eq_9 (ak @dP.eq_10 @dP.eq_11)) (ak @dP.eq_12 (ak @dP.eq_13 @th.eq_1))) (ak (ak @th.eq_2 (ak @kD.eq_1 @kD.eq_2)) (ak @kD.eq_3 (ak @kD.eq_4 @kR.eq_1)))) (ak (ak (ak @kR.eq_2 (ak @kR.eq_3 @wo.eq_1)) (ak @kG.eq_1 (ak @kG.eq_2 @kG.eq_3))) (ak (ak @gJ.eq_1 (ak @gJ.eq_2 @dD.eq_1)) (ak (ak @dD.eq_2 @dD.eq_3) (ak @dD.eq_4 @dD.eq_5))))) (ak (ak (ak (ak @dD.eq_6 (ak @gy.eq_1 @gy.eq_2)) (ak @dH.eq_1 (ak @dH.eq_2 @dH.eq_3))) (ak (ak @dH.eq_4 (ak @dH.eq_5 @dH.eq_6)) (ak (ak @dH.eq_7 @dH.eq_8) (ak @dH.eq_9 @hZ.eq_1)))) (ak (ak (ak @hZ.eq_2 (ak @fi.eq_1 @fi.eq_2)) (ak @oK.eq_1 (ak @oK.eq_2 @AO.DL.eq_1))) (ak (ak @AO.DL.eq_2 (ak @LJ.eq_1 @DV.eq_1)) (ak (ak @DV.eq_2 @DV.eq_3) (ak @aU.eq_1 @aU.eq_2))))))))
theorem rL':type_of% (ak (ak ae ag) (ak (ak @List.drop.eq_1.{0} (ak @List.drop.eq_2.{0} @List.drop.eq_3.{0})) (ak @List.take.eq_1.{0} (ak @List.take.eq_2.{0} @List.take.eq_3.{0})))):=ak (ak ae ag) (ak (ak @List.drop.eq_1.{0} (ak @List.drop.eq_2.{0} @List.drop.eq_3.{0})) (ak @List.take.eq_1.{0} (ak @List.take.eq_2.{0} @List.take.eq_3.{0})))
theorem rM':type_of% (ak rL' (ak (ak (ak @aS.eq_1 @aS.eq_2) (ak @aS.eq_3 @aS.eq_4)) (ak (ak @aS.eq_5 @aU.eq_1) (ak @aU.eq_2 @aU.eq_3)))):=ak rL' (ak (ak (ak @aS.eq_1 @aS.eq_2) (ak @aS.eq_3 @aS.eq_4)) (ak (ak @aS.eq_5 @aU.eq_1) (ak @aU.eq_2 @aU.eq_3)))
section
section
variable{E:Env}{N:Nat}
theorem PN(d:Nat){P:Program}{w:World}{t:TypeId}{e n m}(h:P.underlying t=some (.slice e)):(Op.equalIn (d+1) t (.slice none n m) (.slice none 0 0)).run P w=.ok true w:=by simp[Op.equalIn,fP h]
theorem oZ.N4{d:Nat}{x y:AO}{es:List (List PV)}{ds:List Nat}{l:List aV}{Q:St->Prop}{st:St}(tg:E.OK)(hx:dF (look st.fr) x=.pv (.slice es))(hy:dF (look st.fr) y=.bu)
    (h:∀b,(es≠[]->b=false)->oZ E N l Q ⟨dt st (some d) (.pv (.bool b)),st.hp,st.nx⟩):oZ E N (⟨some d,.bin .eql (some .slice) x y,none,ds⟩::l) Q st:=by
 intro ops k hk hl X M a w Q' hE hN R hq;obtain⟨o,ho,hc⟩:=hl 0 _ rfl;obtain⟨h1,h2,h3,h4⟩:=kY hc;simp only[ay,List.range'_succ];rw[wpOps_cons];unfold wpOp;rw[show ops[k]? =some o from ho];simp only;have hw:=qR (X:=X) (o:=o) (b:=true) R (by rw[hN];exact h4) rfl;rw[aW hw];left;subst hE;obtain⟨t,x',y',u,gB,Ui,Uj,Uz⟩:=yW h1;obtain⟨dd,hd,e,rfl⟩:=A8 Uz.symm;have vx:=dc tg R Ui;have vy:=dc tg R Uj;rw[hx]at vx;rw[hy]at vy;simp only[VA,VP]at vx vy;obtain⟨ad,len,cap,e1,e2,e3,e4⟩:=vx;have hex:execOp a.eval o=(do pure (Next.value (<-(do eqGuard .eql t x' y' (a.eval x') (a.eval y');binOp .eql t (a.eval x') (a.eval y')))):Sem Next):=by
  unfold execOp;rw[gB]
 have ir:∃b,(es≠[]->b=false)/\(execOp a.eval o).run X.E.P w=.ok (.value (.bool b)) w:=by
  rw[hex,e1,vy];have hg:(eqGuard .eql t x' y' (.slice ad len cap) (.slice none 0 0)).run X.E.P w=.ok () w:=by
   unfold eqGuard;simp only[Bool.not_true,bA,aJ];rfl
  have hb:∀b,(Op.equalIn 10000 t (.slice ad len cap) (.slice none 0 0)).run X.E.P w=.ok b w->(binOp .eql t (.slice ad len cap) (.slice none 0 0)).run X.E.P w=.ok (.bool b) w:=by
   intro b hb;simp only[binOp];rw[rb (show(Op.equal t (.slice ad len cap) (.slice none 0 0)).run X.E.P w=.ok b w from hb)];rfl
  cases ad with
  |none =>
   refine⟨true,fun eA=>?_,cJ (by rw[rb hg];exact hb true (PN _ hd))⟩;obtain⟨b,o,sz,hh,_⟩:=e4 (by cases es <;>simp at eA⊢);simp at hh
  |some ad =>
   exact⟨false,fun _=>rfl,cJ (by rw[rb hg];exact hb false (Ia _ hd))⟩
 obtain⟨b,Mv,Qh⟩:=ir;rw[Oper.wp,Qh,Eb];refine h b Mv ops (k+1) (by simp at hk;omega) (fun j y hy=>?_) X M _ _ Q' rfl hN ?_ hq
 ·have:=hl (j+1) y (by simpa using hy);rwa [<-eW,Nat.add_right_comm]at this
 ·unfold Rl;simp only;rw[fU,show some d=o.dst from h2.symm];exact Rel.put R (by simp only[VA,VP]) (fun k hk=>by rw[hN];exact h3 k hk)
def cloneF(sz b:Nat):bf:=⟨8,[.t 2],
 (.seq (.ops [
  ⟨some 2,.mv (.c .bu),none,[]⟩])
  (.seq (.seq (.ops [
   ⟨some 3,.mv (.t 0),none,[]⟩,
   ⟨some 4,.bin .eql (some .slice) (.t 3) (.c .bu),none,[0]⟩])
  (.cond (.t 4)
   (.seq (.ops [
    ⟨some 2,.mv (.c .bu),none,[]⟩])
    .ret)
   .skip))
  (.seq (.ops [
   ⟨some 5,.cr sz 0 [] [],none,[]⟩,
   ⟨some 6,.mv (.t 0),none,[]⟩,
   ⟨some 7,.append sz b (.t 5) (.t 6),none,[0,1]⟩,
   ⟨some 2,.mv (.t 7),none,[2,2,0,1,2]⟩])
  .ret)))⟩
def iT(sz:Nat)(args:List AV)(hp:Hl)(nx:Nat):Option (AV×Hl×Nat) :=
 match args,hp with
 |[.pv (.slice [])],[]=>some (.pv (.slice []),[],nx+2)
 |[.pv (.slice (e::r))],[]=>if cn sz (e::r)=true/\(e::r).length<=2^30 then some (.ms (nx+1),[(nx+1,.row sz (e::r))],nx+2)else none
 |_,_=>none
def T0:cK:=⟨fun _=>none,fun _=>false,fun _=>false,fun _=>false,fun _=>false,fun _=>none⟩
theorem Jh:Tied E T0:=⟨fun n f h1 h2=>by simp[T0]at h2,fun n g h=>by simp[T0]at h⟩
theorem Gk{T:cK}(hE:E.OK)(hT:Tied E T){s:Bool}{c:bx}{st:St}{Q:Exit->St->Prop}(h:Wp T s c st Q):WP E N c Q st:=by
 obtain⟨e,bT,h1,h2⟩:=h;obtain⟨k0,hk⟩:=h1.late;exact so hE (pe hE hT k0) _ _ _ _ _ (hk k0 k0 (ax _) (ax _)) _ h2
theorem clone_raw{n sz b:Nat}(hE:E.OK)(hf:cFunc E n=some (cloneF sz b))(args:List AV)(hp:Hl)(nx:Nat)(v:AV)(hp':Hl)(cC:Nat)(h:iT sz args hp nx=some (v,hp',cC)):kl E n args hp nx v hp' cC:=by
 have hT:=@Jh E;have key:∃es,args=[.pv (.slice es)]/\hp=[]:=by
  unfold iT at h;split at h
  ·exact⟨_,rfl,rfl⟩
  ·exact⟨_,rfl,rfl⟩
  ·simp at h
 obtain⟨es,rfl,rfl⟩:=key;refine kl.DU hE hf (by simp[cloneF]) ?_;unfold cloneF;simp only;refine WP.seq (Gk hE hT (s:=false) ?_);rw[Bw,tQ];simp only[cH,pY,vS,bE,Dk,dF,xI,xp];refine WP.seq (WP.seq (WP.ops hE ?_));refine wL (T:=T0) (C:=D T0) hE (D1 hE hT) (st1:=⟨(3,.pv (.slice es))::(2,.bu)::fA 0 [.pv (.slice es)],[],nx⟩) rfl ?_;refine oZ.N4 (es:=es) hE rfl rfl fun bb Bp=>oZ.nil ?_;simp only[xp];refine WP.cond (b:=bb) hE rfl (fun hb=>?_) (fun hb=>WP.skip ?_)
 ·subst hb;have Un:es=[]:=xA fun hh=>by simpa using Bp hh
  subst Un;refine Gk hE hT (s:=false) ?_;simp only[iT,ai,aZ]at h;obtain⟨rfl,rfl,rfl⟩:=h;simp only[ae,vS,bE,dF,fg,cH,fA,dL,dt,cellsOf,lG,lF,Nat.reduceEqDiff,Nat.reduceAdd,reduceCtorEq,jQ,dQ,fk,jY,jj,jA,eI,Int.reduceToNat,Nat.reduceMul,Nat.reduceLT,iP,Int.reduceNeg,Int.reduceLE,Int.reduceLT,Int.reduceEq,gA,jY,Nat.reduceLeDiff,ft,ca,eZ,je,G3,aS,aa,dP,th,kD,List.drop,List.take,kR,wo,kG,gJ,dD,gy,dH,hZ,fi,oK,AO.DL,LJ,DV,aU,xp];refine⟨.inl trivial,_,rfl,fun X M F a w u hX R hu=>⟨R.pr fun i hi=>by show i<nx+2;have:i<nx:=hi;omega,?_⟩⟩;simp only[VA]at hu;subst hu;simp only[VA,VP];exact⟨none,0,0,rfl,rfl,ax _,fun h=>by simp at h⟩
 ·subst hb;simp only[xp];refine Gk hE hT (s:=false) ?_;cases es with
  |nil =>
   simp only[iT,ai,aZ]at h;obtain⟨rfl,rfl,rfl⟩:=h;simp only[ae,vS,bE,dF,fg,cH,fA,dL,dt,cellsOf,lG,lF,Nat.reduceEqDiff,Nat.reduceAdd,reduceCtorEq,jQ,dQ,fk,jY,jj,jA,eI,Int.reduceToNat,Nat.reduceMul,Nat.reduceLT,iP,Int.reduceNeg,Int.reduceLE,Int.reduceLT,Int.reduceEq,gA,jY,Nat.reduceLeDiff,ft,ca,eZ,je,G3,aS,aa,dP,th,kD,List.drop,List.take,kR,wo,kG,gJ,dD,gy,dH,hZ,fi,oK,AO.DL,LJ,DV,aU,ft,bt,chunk,dV,eQ,fR,cn,bV,cg,Nat.reducePow,aO];refine⟨.inl trivial,_,rfl,fun X M F a w u hX R hu=>?_⟩;have e1:wr (ah [(nx,.dead),(nx+1,.row sz []),(nx,.row sz [])]) [(nx+1,.dead)]=ah []:=by
    funext i;rw[<-kX];simp only[aI,aE,ah];by_cases h1:nx+1=i
    ·subst h1;rw[cg];rfl
    ·rw[f6 h1];by_cases h2:nx=i
     ·subst h2;rw[cg];rfl
     ·rw[f6 h2];rfl
   have e2:ah [(nx,.dead),(nx+1,.row sz []),(nx,.row sz [])] (nx+1)=.row sz []:=by
    simp only[ah];rw[f6 (by omega:nx≠nx+1),cg];rfl
   have R1:=R.kill (nx+1);rw[e1]at R1;refine⟨R1,?_⟩;have Rb:Rl X M ⟨[],[(nx,.dead),(nx+1,.row sz []),(nx,.row sz [])],nx+2⟩ a w:={R with fr:=fun t=>by simp only[look,VA]};have:=Rb.qM (nx+1) (args:=[.ms (nx+1)]) (vs:=[u]) (by simp only[ed];exact⟨u,[],rfl,hu,rfl⟩);have e3:qM (nx+1) ⟨[],[(nx,.dead),(nx+1,.row sz []),(nx,.row sz [])],nx+2⟩ [.ms (nx+1)]=[.pv (.slice [])]:=by
    simp only[Ab.qM,e2,iV,gZ,cg,gT]
   have e4:nR (nx+1) ⟨[],[(nx,.dead),(nx+1,.row sz []),(nx,.row sz [])],nx+2⟩=⟨[],[(nx+1,.dead),(nx,.dead),(nx+1,.row sz []),(nx,.row sz [])],nx+2⟩:=by
    simp only[nR,e2,uI,pE,nm]
   rw[e3,e4]at this;have e5:ah [(nx+1,.dead),(nx,.dead),(nx+1,.row sz []),(nx,.row sz [])]=ah []:=by
    funext i;have:=congrFun e1 i;rw[<-kX]at this;exact this
   simp only[e5]at this;simp only[ed]at this;obtain⟨u',PU,h1,h2,h3⟩:=this;simp only[E9]at h1;rw[h1.1];exact h2
  |cons e r =>
   simp only[iT]at h;split at h
   ·rename_i hc;simp only[ai,aZ]at h;obtain⟨rfl,rfl,rfl⟩:=h;have h1:(List.all (e::r) fun e=>decide (e.length=sz))=true:=by simpa only[cn,xO]using hc.1
    have h2:r.length+1<=2^30:=hc.2;simp only[ae,vS,bE,dF,fg,cH,fA,dL,dt,cellsOf,lG,lF,Nat.reduceEqDiff,Nat.reduceAdd,reduceCtorEq,jQ,dQ,fk,jY,jj,jA,eI,Int.reduceToNat,Nat.reduceMul,Nat.reduceLT,iP,Int.reduceNeg,Int.reduceLE,Int.reduceLT,Int.reduceEq,gA,jY,Nat.reduceLeDiff,ft,ca,eZ,je,G3,aS,aa,dP,th,kD,List.drop,List.take,kR,wo,kG,gJ,dD,gy,dH,hZ,fi,oK,AO.DL,LJ,DV,aU,ft,bt,chunk,dV,eQ,fR,cn,h1,h2,cg];refine⟨.inl trivial,_,rfl,fun X M F a w u hX R hu=>?_⟩;have:ah [(nx,.dead),(nx+1,.row sz (e::r)),(nx,.row sz [])]=ah [(nx+1,.row sz (e::r))]:=by
     funext i;simp only[ah];by_cases hi:nx=i
     ·subst hi;rw[cg,f6 (by omega:nx+1≠nx)];rfl
     ·rw[f6 hi];rfl
    simp only[this]at R hu;exact⟨R,hu⟩
   ·simp at h
end
end
section
inductive Sh where
 |bo
 |nu (k:IntKind)
 |st
 |sl (es:List Sh)
def Sh.flat:Sh->Bool
 | .sl _=>false
 |_=>true
section
variable(P:Program)
def Io(rec:TypeId->Option (List Sh)):Nat->List Field->Option (List Sh)
 |_,[]=>some []
 |off,f::r=>match rec f.type with
  |some s=>if f.offset=off/\s.length=P.cellsOf f.type then match Io rec (off+s.length) r with
     |some ss=>some (s++ss)
     |none=>none
   else none
  |none=>none
def vz(s:List Sh):Nat->List Sh
 |0=>[]
 |n+1=>s++vz s n
def shOf:Nat->TypeId->Option (List Sh)
 |0,_=>none
 |n+1,t=>match P.underlying t with
  |some .bool=>some [.bo]
  |some (.int k)=>some [.nu k]
  |some .string=>some [.st]
  |some (.slice e)=>match shOf n e with
   |some es=>if es.all Sh.flat=true/\es.length=P.cellsOf e/\0<es.length then some [.sl es]else none
   |none=>none
  |some (.struct fs)=>match Io P (shOf n) 0 fs.toList with
   |some ss=>if ss.length=P.cellsOf t then some ss else none
   |none=>none
  |some (.array m e)=>match shOf n e with
   |some es=>if es.length=P.cellsOf e/\m*P.cellsOf e=P.cellsOf t then some (vz es m)else none
   |none=>none
  |_=>none
end
mutual
def Fits:Sh->PV->Prop
 | .bo,p=>∃x,p=.bool x
 | .nu k,p=>∃n,p=.int k n/\(Lit.int k n).wf=true
 | .st,p=>∃x,p=.str x/\x.size<=maxLen
 | .sl es,p=>∃l:List (List PV),p=.slice l/\∀e∈l,fQ es e
def fQ:List Sh->List PV->Prop
 |[],ps=>ps=[]
 |s::r,ps=>∃p q,ps=p::q/\Fits s p/\fQ r q
end
theorem qv:∀{a b:List Sh} {p q:List PV},fQ a p->fQ b q->fQ (a++b) (p++q)
 |[],b,p,q,h1,h2=>by simp only[fQ]at h1;subst h1;exact h2
 |s::r,b,p,q,h1,h2=>by
  simp only[fQ]at h1;obtain⟨x,y,rfl,h3,h4⟩:=h1;simp only[aI,fQ];exact⟨x,y++q,rfl,h3,qv h4 h2⟩
theorem mU:∀{a:List Sh} {p:List PV},fQ a p->p.length=a.length
 |[],p,h=>by simp only[fQ]at h;subst h;rfl
 |s::r,p,h=>by
  simp only[fQ]at h;obtain⟨x,y,rfl,h3,h4⟩:=h;simp[mU h4]
theorem tN{E:Env}{w:World}{ok:Nat->Prop}:∀{a b:List PV} {u v:List Value},VPs E w ok a u->VPs E w ok b v->VPs E w ok (a++b) (u++v)
 |[],b,u,v,h1,h2=>by simp only[VPs]at h1;subst h1;exact h2
 |p::r,b,u,v,h1,h2=>by
  simp only[VPs]at h1;obtain⟨x,y,rfl,h3,h4⟩:=h1;simp only[aI,VPs];exact⟨x,y++v,rfl,h3,tN h4 h2⟩
section
variable{E:Env}{P:Program}{w:World}{H:Type}{enc:TypeId×Value->H}{base:Nat}{spare:Nat->Bool}{held:Bool}
def jG(E:Env)(w:World)(TK:List Sh)(cs:List Value):Prop :=
 ∃ps,fQ TK ps/\VPs E w (fun b=>b<w.heap.size) ps cs/\(∀v∈cs,cN v)/\(TK.all Sh.flat=true->∀v∈cs,∀a l c,v≠ .slice a l c)
theorem jG.nil:jG E w [] []:=⟨[],rfl,by simp[VPs],by simp,by simp⟩
theorem jG.append{a b:List Sh}{u v:List Value}(h1:jG E w a u)(h2:jG E w b v):jG E w (a++b) (u++v):=by
 obtain⟨p,f1,v1,s1,l1⟩:=h1;obtain⟨q,f2,v2,s2,l2⟩:=h2;refine⟨p++q,qv f1 f2,tN v1 v2,fun x hx=>?_,fun hf x hx=>?_⟩
 ·rcases cq.1 hx with h|h
  ·exact s1 x h
  ·exact s2 x h
 ·simp only[List.all_append,bj]at hf;rcases cq.1 hx with h|h
  ·exact l1 hf.1 x h
  ·exact l2 hf.2 x h
theorem jG.length{a:List Sh}{u:List Value}(h:jG E w a u):u.length=a.length:=by
 obtain⟨p,f1,v1,_⟩:=h;rw[<-mU f1];clear f1;rename_i hh;clear hh;induction p generalizing u with
 |nil=>simp only[VPs]at v1;subst v1;rfl
 |cons x r ih =>
  simp only[VPs]at v1;obtain⟨y,z,rfl,_,h⟩:=v1;simp[ih h]
def zG(ss:List Sh)(cs:List Value):Prop:=ss.all Sh.flat=true\/∀v∈cs,∀a l c,v=.slice (some a) l c->a.spot=none
theorem DW{rec:TypeId->Option (List Sh)}{n:Nat}{cs:List Value}
    (we:∀t ss pD x,rec t=some ss->DataW.trod enc P w base spare held n t pD=some x->zG ss pD->jG E w ss pD) :
    ∀(fs:List Field) (off:Nat) (ss:List Sh),zG ss cs->Io P rec off fs=some ss->(∀f∈fs,∃x,DataW.trod enc P w base spare held n f.type ((cs.drop f.offset).take (P.cellsOf f.type))=some x)->jG E w ss ((cs.drop off).take ss.length)
 |[],off,ss,_,h,_=>by
  simp only[Io,ai]at h;subst h;simpa using jG.nil
 |f::r,off,ss,Hu,h,hall=>by
  simp only[Io]at h;split at h
  ·rename_i s hs;split at h
   ·rename_i hc;split at h
    ·rename_i Nd MI;simp only[ai]at h;subst h;obtain⟨x,hx⟩:=hall f (by simp);have hf:(s++Nd).all Sh.flat=true->s.all Sh.flat=true/\Nd.all Sh.flat=true:=by
      intro h;rw[List.all_append,bj]at h;exact h
     have h1:=we _ _ _ _ hs hx (Hu.elim (fun h=>.inl (hf h).1) fun h=>.inr fun v hv=>h v (List.mem_of_mem_drop (List.mem_of_mem_take hv)));have h2:=DW we r (off+s.length) Nd (Hu.elim (fun h=>.inl (hf h).2) .inr) MI (fun g hg=>hall g (by simp[hg]));rw[hc.1,<-hc.2]at h1;have:(cs.drop off).take (s++Nd).length=(cs.drop off).take s.length++(cs.drop (off+s.length)).take Nd.length:=by
      rw[aG,List.take_add,iE]
     rw[this];exact h1.append h2
    ·simp at h
   ·simp at h
  ·simp at h
theorem AY{es:List Sh}{n:Nat}{e:TypeId}{cs:List Value}
    (we:∀pD x,DataW.trod enc P w base spare held n e pD=some x->zG es pD->jG E w es pD) (hl:es.length=P.cellsOf e) :
    ∀(m k:Nat),zG (vz es m) cs->(∀i,i<m->∃x,DataW.trod enc P w base spare held n e ((cs.drop ((k+i)*P.cellsOf e)).take (P.cellsOf e))=some x)->jG E w (vz es m) ((cs.drop (k*P.cellsOf e)).take (m*P.cellsOf e))
 |0,k,_,_=>by simpa[vz]using jG.nil
 |m+1,k,Hu,hall=>by
  have hf:(es++vz es m).all Sh.flat=true->es.all Sh.flat=true/\(vz es m).all Sh.flat=true:=by
   intro h;rw[List.all_append,bj]at h;exact h
  obtain⟨x,hx⟩:=hall 0 (by omega);have h1:=we _ _ hx (Hu.elim (fun h=>.inl (hf h).1) fun h=>.inr fun v hv=>h v (List.mem_of_mem_drop (List.mem_of_mem_take hv)));have h2:=AY we hl m (k+1) (Hu.elim (fun h=>.inl (hf h).2) .inr) (fun i hi=>by
   have:=hall (i+1) (by omega);rwa [show k+(i+1)=k+1+i by omega]at this)
  have:(cs.drop (k*P.cellsOf e)).take ((m+1)*P.cellsOf e)=(cs.drop (k*P.cellsOf e)).take (P.cellsOf e)++(cs.drop ((k+1)*P.cellsOf e)).take (m*P.cellsOf e):=by
   rw[Nat.succ_mul,Nat.add_comm (m*P.cellsOf e),List.take_add,iE,Nat.succ_mul]
  rw[this];exact h1.append h2
theorem xJ(b o n:Nat):(⟨b,o,none⟩:Addr).add n=⟨b,o+n,none⟩:=by
 unfold Addr.add;split
 ·rename_i h;subst h;rfl
 ·rfl
theorem vg{P:Program}{es:List Sh}{e:TypeId}{ab:Nat}(hlen:es.length=P.cellsOf e) :
    ∀(len ao:Nat),(∀i,i<len->∃pD,w.cells? base ((⟨ab,ao,none⟩:Addr).add (i*P.cellsOf e)) (P.cellsOf e)=some pD/\jG E w es pD) ->
     ∃rows:List (List PV),rows.length=len/\(∀r∈rows,fQ es r)/\di E w (fun b=>b<w.heap.size) rows ab ao (P.cellsOf e)
 |0,ao,_=>⟨[],rfl,by simp,by simp[di]⟩
 |len+1,ao,h=>by
  obtain⟨pD,h1,ps,f1,v1,s1,_⟩:=h 0 (by omega);obtain⟨rows,g1,g2,g3⟩:=vg hlen len (ao+P.cellsOf e) (fun i hi=>by
   have:=h (i+1) (by omega);rw[xJ]at this⊢;rwa [Nat.succ_mul,Nat.add_comm (i*P.cellsOf e),<-eW]at this)
  obtain⟨_,c1,c2⟩:=World.cells?_some h1;refine⟨ps::rows,by simp[g1],fun r hr=>?_,?_⟩
  ·rcases aQ.1 hr with rfl|hr
   ·exact f1
   ·exact g2 r hr
  ·simp only[di];refine⟨by rw[mU f1,hlen],?_,g3⟩;have uN:∀i,i<P.cellsOf e->w.cell? ⟨ab,ao+i,none⟩=pD[i]? :=fun i hi=>by
    have:=c2 i hi;rwa [Nat.zero_mul,xJ,xJ,fb]at this
   clear f1 h1 c2 g3;rw[<-c1]at uN;have key:∀(ps:List PV) (pD:List Value) (o:Nat),VPs E w (fun b=>b<w.heap.size) ps pD->(∀v∈pD,cN v)->(∀i,i<pD.length->w.cell? ⟨ab,o+i,none⟩=pD[i]?)->iu E w (fun b=>b<w.heap.size) ps ab o:=by
    intro ps;induction ps with
    |nil=>intro pD o _ _ _;simp[iu]
    |cons p r ih =>
     intro pD o hv hs hc;simp only[VPs]at hv;obtain⟨u,us,rfl,k1,k2⟩:=hv;simp only[iu];refine⟨⟨u,?_,hs u (by simp),k1⟩,ih us (o+1) k2 (fun v hv=>hs v (by simp[hv])) fun i hi=>?_⟩
     ·have:=hc 0 (by simp);simpa using this
     ·have:=hc (i+1) (by simpa using hi);rw[show o+(i+1)=o+1+i by omega]at this;simpa using this
   exact key ps pD ao v1 s1 uN
theorem rj{P:Program}:∀(d:Nat) (t:TypeId) (ss:List Sh),shOf P d t=some ss->∀(n:Nat) (cs:List Value) (x:DataW H×List MemPlace),DataW.trod enc P w base spare held n t cs=some x->zG ss cs->jG E w ss cs
 |0,t,ss,hs,_,_,_,_,_=>by simp[shOf]at hs
 |d+1,t,ss,hs,n,cs,x,h,Hu=>by
  simp only[shOf]at hs;split at hs
  ·rename_i ht;simp at hs;subst hs;obtain⟨b,rfl,_⟩:=DataW.trod_bool ht h;exact⟨[.bool b],⟨_,_,rfl,⟨b,rfl⟩,rfl⟩,by simp[VPs,VP],by simp[cN],by simp⟩
  ·rename_i k ht;simp at hs;subst hs;obtain⟨m,rfl,_,hw⟩:=DataW.trod_int ht h;exact⟨[.int k m],⟨_,_,rfl,⟨m,rfl,hw⟩,rfl⟩,by simp[VPs,VP],by simp[cN],by simp⟩
  ·rename_i ht;simp at hs;subst hs;obtain⟨s,rfl,_,hw⟩:=DataW.trod_string ht h;exact⟨[.str s],⟨_,_,rfl,⟨s,rfl,hw⟩,rfl⟩,by simp[VPs,VP],by simp[cN],by simp⟩
  ·rename_i e ht;split at hs
   ·rename_i es he;split at hs
    ·rename_i hc;simp at hs;subst hs;obtain⟨OS,hlen,wc⟩:=hc;rcases DataW.trod_slice ht h with⟨rfl,_⟩|⟨a,len,cap,elems,rest,m,_,rfl,_,hb,hl,hm,hel,Lr,_⟩
     ·exact⟨[.slice []],⟨_,_,rfl,⟨[],rfl,by simp⟩,rfl⟩,⟨_,_,rfl,⟨none,0,0,rfl,rfl,ax _,fun h=>by simp at h⟩,rfl⟩,by simp[cN],by simp[Sh.flat]⟩
     ·have Lv:a.spot=none:=by
       rcases Hu with h|h
       ·simp[Sh.flat]at h
       ·exact h _ (gR.2 rfl) a len cap rfl
      obtain⟨ab,ao,Vq⟩:=a;simp only at Lv;subst Lv;have each:∀i,i<len->∃pD,w.cells? base ((⟨ab,ao,none⟩:Addr).add (i*P.cellsOf e)) (P.cellsOf e)=some pD/\jG E w es pD:=by
       intro i hi;have h1:=Lr i hi;have:∃y,elems[i]? =some y:=⟨elems[i]'(by omega),by simp[hel,hi]⟩;obtain⟨y,hy⟩:=this;rw[hy,pB]at h1;obtain⟨pD,OJ,RL⟩:=h1;exact⟨pD,OJ,rj d e es he _ _ _ RL (.inl OS)⟩
      obtain⟨rows,r1,r2,r3⟩:=vg hlen len ao each;refine⟨[.slice rows],⟨_,_,rfl,⟨rows,rfl,r2⟩,rfl⟩,?_,by simp[cN],by simp[Sh.flat]⟩;simp only[VPs,VP];refine⟨_,_,rfl,⟨some ⟨ab,ao,none⟩,len,cap,rfl,r1.symm,hl,fun hp=>⟨ab,ao,P.cellsOf e,rfl,?_,r3⟩⟩,rfl⟩;obtain⟨pD,c1,_⟩:=each 0 (by omega);have:=World.cells?_block c1 (by omega);rwa [xJ]at this
    ·simp at hs
   ·simp at hs
  ·rename_i fs ht;split at hs
   ·rename_i Nd MI;split at hs
    ·rename_i hc;simp at hs;subst hs;obtain⟨xs,m,rfl,_,hlen,wV,hall⟩:=DataW.trod_struct ht h;have h1:=DW (E:=E) (cs:=cs) (rec:=shOf P d) (n:=m) (enc:=enc) (base:=base) (spare:=spare) (held:=held) (fun t ss pD x hr hx MH=>rj d t ss hr m pD x hx MH) fs.toList 0 Nd Hu MI (fun f hf=>by
      obtain⟨i,hi,rfl⟩:=List.getElem_of_mem hf;have cW:i<fs.size:=by simpa using hi
      have:=hall i fs[i] (by simp[cW]);refine⟨xs[i]'(by omega),?_⟩;rw[Array.getElem_toList,this];simp[wV,cW])
     rwa [hc,<-hlen,gL,zy]at h1
    ·simp at hs
   ·simp at hs
  ·rename_i m e ht;split at hs
   ·rename_i es he;split at hs
    ·rename_i hc;simp at hs;subst hs;obtain⟨xs,k,rfl,_,hlen,wV,hall⟩:=DataW.trod_array ht h;have h1:=AY (E:=E) (cs:=cs) (es:=es) (e:=e) (n:=k) (enc:=enc) (base:=base) (spare:=spare) (held:=held) (fun pD x hx MH=>rj d e es he k pD x hx MH) hc.1 m 0 Hu (fun i hi=>by
      have:=hall i hi;rw[aM];exact⟨xs[i]'(by omega),by rw[this];simp[wV,hi]⟩)
     rwa [hc.2,<-hlen,Nat.zero_mul,gL,zy]at h1
    ·simp at hs
   ·simp at hs
  ·simp at hs
theorem rA{r:Reach}{base:Nat}{u:TypeId}{a:Addr}{l c:Nat}(h:Cell.okWide P w r base u (.slice (some a) l c)):a.spot=none:=by
 unfold Cell.okWide at h;split at h <;>rename_i h2 <;>first|(simp at h2;done)|skip
 unfold Cell.ok at h;split at h <;>rename_i h3 h4 <;>first|(simp at h4;done)|skip
 all_goals first|exact h.elim|(simp at h4;obtain⟨rfl,rfl,rfl⟩:=h4;exact h.2.2.2.1)
theorem open_agg{r:Reach}{d:Nat}{t:TypeId}{v:Value}{ss:List Sh}{x:DataW H}{ps:List MemPlace}(jJ:(match P.underlying t with|some (.struct _)=>true|some (.array _ _)=>true|_=>false)=true)
    (hs:shOf P d t=some ss) (hval:Value.okWide P w r base t v) (h:DataW.Trod enc P w 0 (fun _=>true) true t v x ps):∃l,fQ ss l/\VP E w (fun b=>b<w.heap.size) (.agg l) v:=by
 obtain⟨n,h⟩:=h;have:∃cs,v=.agg cs/\Row.okWide P w r base t cs:=by
  unfold Value.okWide at hval;split at jJ
  ·rename_i hu;rw[hu]at hval;obtain⟨cs,h1,_,h2⟩:=hval;exact⟨cs,h1,h2⟩
  ·rename_i hu;rw[hu]at hval;obtain⟨cs,h1,_,h2⟩:=hval;exact⟨cs,h1,h2⟩
  ·simp at jJ
 obtain⟨cs,rfl,ts,_,_,uN⟩:=this;obtain⟨l,h1,h2,_,_⟩:=rj (E:=E) d t ss hs n _ _ h (.inr fun v hv a l c LC=>by
  obtain⟨i,hi,Uu⟩:=List.getElem_of_mem (show v∈cs.toList from hv);obtain⟨u,_,h5⟩:=uN i v (by rw[<-cp,nQ hi,Uu]);rw[LC]at h5;exact rA h5)
 refine⟨l,h1,?_⟩;simp only[VP];exact⟨cs.toList,by simp,h2⟩
theorem open_one{r:Reach}{d:Nat}{t:TypeId}{v:Value}{s:Sh}{x:DataW H}{ps:List MemPlace}(jJ:(match P.underlying t with|some (.struct _)=>true|some (.array _ _)=>true|_=>false)=false)
    (hs:shOf P d t=some [s]) (hval:Value.okWide P w r base t v) (h:DataW.Trod enc P w 0 (fun _=>true) true t v x ps):∃p,Fits s p/\VP E w (fun b=>b<w.heap.size) p v:=by
 obtain⟨n,h⟩:=h;have hc:Cell.okWide P w r base t v:=by
  unfold Value.okWide at hval;split at hval
  ·rename_i hu;simp[hu]at jJ
  ·rename_i hu;simp[hu]at jJ
  ·exact hval
 have hv:v.cells.toList=[v]:=by
  cases v <;>first|rfl|skip
  unfold Cell.okWide at hc;split at hc <;>rename_i h2 <;>first|(simp at h2;done)|skip
  unfold Cell.ok at hc;split at hc <;>rename_i h3 h4 <;>first|(simp at h4;done)|exact hc.elim
 rw[hv]at h;obtain⟨l,h1,h2,_,_⟩:=rj (E:=E) d t [s] hs n _ _ h (.inr fun u hu a l c LC=>by
  simp only[gR]at hu;subst hu;rw[LC]at hc;exact rA hc)
 simp only[fQ]at h1;obtain⟨p,q,rfl,h3,rfl⟩:=h1;simp only[VPs]at h2;obtain⟨u,us,h4,h5,rfl⟩:=h2;simp only[E9]at h4;exact⟨p,h3,h4.1▸h5⟩
end
end
section
def Ku:List (Nat×Nat)->Nat->Option Nat
 |[],_=>none
 |(a,b)::r,n=>cond (Nat.beq a n) (some b) (Ku r n)
def ND:List (Nat×Nat)->Nat->Option Nat
 |[],_=>none
 |(a,b)::r,n=>cond (Nat.beq b n) (some a) (ND r n)
def envOf(P:Program)(fs ts:List (Nat×Nat))(nt:Nat)(gl:List (Nat×Value)):Env :=
 ⟨P,fun n=>(Ku fs n).getD 1000000,fun n=>(Ku ts n).getD (1000000+n),ND fs,ND ts,nt,gl⟩
def Va(fs:List (Nat×Nat)):Bool:=fs.all fun p=>Nat.beq ((Ku fs p.1).getD 1000000) p.2
def Sz(ts:List (Nat×Nat))(nt:Nat):Bool:=ts.all (fun p=>Nat.beq ((Ku ts p.1).getD (1000000+p.1)) p.2&&Nat.blt p.1 nt) &&
 (List.range nt).all fun n=>(List.range nt).all fun m=>Nat.beq n m||!(Nat.beq ((Ku ts n).getD (1000000+n)) ((Ku ts m).getD (1000000+m)))
theorem z8:∀{l:List (Nat×Nat)} {f n:Nat},ND l f=some n->(n,f)∈l
 |[],f,n,h=>by simp[ND]at h
 |(a,b)::r,f,n,h=>by
  simp only[ND]at h;by_cases hb:b=f
  ·subst hb;rw[cg]at h;simp at h;subst h;simp
  ·rw[f6 hb]at h;exact bd _ (z8 h)
theorem envOf_ok{P:Program}{fs ts:List (Nat×Nat)}{nt:Nat}{gl:List (Nat×Value)}(h1:Va fs=true)(h2:Sz ts nt=true)(h3:P.follows .mixedOrders=true):(envOf P fs ts nt gl).OK where
 FG:=fun f n h=>by
  have:=NM.1 h1 _ (z8 h);exact cU this
 NG:=fun t n h=>by
  unfold Sz at h2;rw[bj]at h2;have:=NM.1 h2.1 _ (z8 h);rw[bj]at this;exact⟨cU this.1,fc this.2⟩
 inj:=fun n m hn hm h=>by
  unfold Sz at h2;rw[bj]at h2;have:=NM.1 (NM.1 h2.2 n (List.mem_range.2 hn)) m (List.mem_range.2 hm);rw[ke]at this;rcases this with h'|h'
  ·exact cU h'
  ·have h:(Ku ts n).getD (1000000+n)=(Ku ts m).getD (1000000+m):=h;rw[h,cg]at h';simp at h'
 mixed:=h3
abbrev Gd:=List AV->Hl->Nat->Option (AV×Hl×Nat)
def Pv:List (Nat×bf)->Nat->Option bf
 |[],_=>none
 |(a,f)::r,n=>cond (Nat.beq a n) (some f) (Pv r n)
def Pw:List (Nat×Gd)->Nat->Option Gd
 |[],_=>none
 |(a,f)::r,n=>cond (Nat.beq a n) (some f) (Pw r n)
def Qt(l:List Nat)(n:Nat):Bool:=l.any fun a=>Nat.beq a n
def LX(l:List (Nat×bf))(raw flat own still:List Nat)(ps:List (Nat×Gd)):cK:=⟨Pv l,Qt raw,Qt flat,Qt own,Qt still,Pw ps⟩
theorem DO:∀{l:List (Nat×bf)} {n:Nat} {f:bf},Pv l n=some f->(n,f)∈l
 |[],n,f,h=>by simp[Pv]at h
 |(a,b)::r,n,f,h=>by
  simp only[Pv]at h;by_cases hb:a=n
  ·subst hb;rw[cg]at h;simp at h;subst h;simp
  ·rw[f6 hb]at h;exact bd _ (DO h)
theorem DP:∀{l:List (Nat×Gd)} {n:Nat} {f:Gd},Pw l n=some f->(n,f)∈l
 |[],n,f,h=>by simp[Pw]at h
 |(a,b)::r,n,f,h=>by
  simp only[Pw]at h;by_cases hb:a=n
  ·subst hb;rw[cg]at h;simp at h;subst h;simp
  ·rw[f6 hb]at h;exact bd _ (DP h)
def TiesL(E:Env):List (Nat×bf)->Prop
 |[]=>True
 |(n,f)::r=>cFunc E n=some f/\TiesL E r
def PrimsL(E:Env):List (Nat×Gd)->Prop
 |[]=>True
 |(n,g)::r=>(∀args hp nx v hp' cC,g args hp nx=some (v,hp',cC)->kl E n args hp nx v hp' cC)/\PrimsL E r
theorem TiesL.mem{E:Env}:∀{l:List (Nat×bf)},TiesL E l->∀{n:Nat} {f:bf},(n,f)∈l->cFunc E n=some f
 |(a,b)::r,h,n,f,hm=>by
  rcases aQ.1 hm with hm|hm
  ·simp only[aZ]at hm;obtain⟨rfl,rfl⟩:=hm;exact h.1
  ·exact TiesL.mem h.2 hm
theorem PrimsL.mem{E:Env}:∀{l:List (Nat×Gd)},PrimsL E l->∀{n:Nat} {g:Gd},(n,g)∈l->∀args hp nx v hp' cC,g args hp nx=some (v,hp',cC)->kl E n args hp nx v hp' cC
 |(a,b)::r,h,n,f,hm=>by
  rcases aQ.1 hm with hm|hm
  ·simp only[aZ]at hm;obtain⟨rfl,rfl⟩:=hm;exact h.1
  ·exact PrimsL.mem h.2 hm
theorem tied_of{E:Env}{l:List (Nat×bf)}{raw flat own still:List Nat}{ps:List (Nat×Gd)}(h1:TiesL E l)(h2:PrimsL E ps):Tied E (LX l raw flat own still ps) where
 fn:=fun n f _ h=>h1.mem (DO h)
 fW:=fun n g h=>h2.mem (DP h)
theorem law_calls{E:Env}{T:cK}(hE:E.OK)(hT:Tied E T){n:Nat}{ps:List PV}(h:ba T n ps (.bool true)){w:World}{vs:List Value}(hI:E.inv w)(hv:VPs E w (fun b=>b<w.heap.size) ps vs) :
    Calls E.P (E.ρ n) vs.toArray w fun e w'=>e=.returned (.bool true)/\Go.RowKit.Below w.heap.size w w':=by
 obtain⟨_,_,o,hc⟩:=h;obtain⟨v,hp,nx,h1,h2,_⟩:=js hc;have hP:=(D1 hE hT _ _ _ _ _ _ _ h1).pure h2;refine(hP.2 (fun _=>False) w vs hI (fun b hb=>hb.elim) (dJ ⟨fun b hb=>⟨hb,fun h=>h⟩,fun _ _=>rfl⟩ _ _ hv)).mono fun e w' hh=>?_;obtain⟨u,rfl,h3,h4⟩:=hh;simp only[VP]at h3;subst h3;exact⟨rfl,h4.os,h4.tape,h4.output,h4.size,fun k hk=>h4.block k hk (fun h=>h)⟩
/-! ### What the Pu are handed -/
def mq(n:Int):Prop:= -9223372036854775808<=n/\n<=9223372036854775807
def Cf(n:Int):Prop:=0<=n/\n<=18446744073709551615
theorem wf_i64{n:Int}(h:(Lit.int .i64 n).wf=true):mq n:=by
 simp only[Lit.wf,bj,bI]at h;exact h
theorem wf_u64{n:Int}(h:(Lit.int .u64 n).wf=true):Cf n:=by
 simp only[Lit.wf,bj,bI]at h;exact h
theorem oT{α:Type}{enc:α->List PV}{W:α->Prop}:∀{l:List (List PV)},(∀e∈l,∃x,e=enc x/\W x)->∃xs:List α,l=xs.map enc/\∀x∈xs,W x
 |[],_=>⟨[],rfl,by simp⟩
 |e::r,h=>by
  obtain⟨x,rfl,hx⟩:=h e (by simp);obtain⟨xs,rfl,LD⟩:=oT (fun e he=>h e (bd _ he));exact⟨x::xs,rfl,by simpa using⟨hx,LD⟩⟩
def jD.wf(v:jD):Prop:=Cf v.a/\Cf v.b/\Cf v.c/\Cf v.d
def Node.wf(n:Node):Prop:=mq n.id/\mq n.bW/\n.cap.wf/\n.held.wf
def fF.wf(l:fF):Prop:=mq l.id/\mq l.sq/\mq l.min/\mq l.max
def dm.wf(p:dm):Prop:=mq p.id/\mq p.load/\mq p.prio/\p.jU.wf/\mq p.node
def Want.wf(w:Want):Prop:=mq w.eP/\w.jU.wf
def Move.wf(m:Move):Prop:=mq m.kind/\mq m.eP/\mq m.node/\mq m.over
def bc.wf(s:bc):Prop:=(∀n∈s.nodes,n.wf)/\(∀l∈s.aT,l.wf)/\∀p∈s.pods,p.wf
def Spec.wf(x:Spec):Prop:=(∀w∈x.b9,w.wf)/\mq x.pre/\mq x.fe
def State.wf(t:State):Prop:=(∀p∈t.pods,p.wf)/\mq t.pre/\mq t.fe
def HV:List Sh:=[.nu .i64,.nu .i64,.nu .u64,.nu .u64,.nu .u64,.nu .u64,.nu .u64,.nu .u64,.nu .u64,.nu .u64]
def HK:List Sh:=[.nu .i64,.bo,.nu .i64,.nu .i64,.nu .i64]
def N5:List Sh:=[.nu .i64,.nu .i64,.nu .i64,.nu .u64,.nu .u64,.nu .u64,.nu .u64,.nu .i64]
def IF:List Sh:=[.nu .i64,.nu .u64,.nu .u64,.nu .u64,.nu .u64,.bo]
theorem EN{e:List PV}(h:fQ HV e):∃n:Node,e=bC n/\n.wf:=by
 simp only[HV,fQ,Fits]at h;obtain⟨_,_,rfl,⟨a,rfl,h1⟩,_,_,rfl,⟨b,rfl,h2⟩,_,_,rfl,⟨c,rfl,h3⟩,_,_,rfl,⟨d,rfl,h4⟩,_,_,rfl,⟨f,rfl,h5⟩,_,_,rfl,⟨g,rfl,h6⟩,_,_,rfl,⟨i,rfl,h7⟩,_,_,rfl,⟨j,rfl,h8⟩,_,_,rfl,⟨k,rfl,h9⟩,_,_,rfl,⟨l,rfl,h10⟩,rfl⟩:=h;exact⟨⟨a,b,⟨c,d,f,g⟩,⟨i,j,k,l⟩⟩,rfl,wf_i64 h1,wf_i64 h2,⟨wf_u64 h3,wf_u64 h4,wf_u64 h5,wf_u64 h6⟩,wf_u64 h7,wf_u64 h8,wf_u64 h9,wf_u64 h10⟩
theorem EM{e:List PV}(h:fQ HK e):∃n:fF,e=bO n/\n.wf:=by
 simp only[HK,fQ,Fits]at h;obtain⟨_,_,rfl,⟨a,rfl,h1⟩,_,_,rfl,⟨b,rfl⟩,_,_,rfl,⟨c,rfl,h3⟩,_,_,rfl,⟨d,rfl,h4⟩,_,_,rfl,⟨f,rfl,h5⟩,rfl⟩:=h;exact⟨⟨a,b,c,d,f⟩,rfl,wf_i64 h1,wf_i64 h3,wf_i64 h4,wf_i64 h5⟩
theorem H5{e:List PV}(h:fQ N5 e):∃n:dm,e=aK n/\n.wf:=by
 simp only[N5,fQ,Fits]at h;obtain⟨_,_,rfl,⟨a,rfl,h1⟩,_,_,rfl,⟨b,rfl,h2⟩,_,_,rfl,⟨c,rfl,h3⟩,_,_,rfl,⟨d,rfl,h4⟩,_,_,rfl,⟨f,rfl,h5⟩,_,_,rfl,⟨g,rfl,h6⟩,_,_,rfl,⟨i,rfl,h7⟩,_,_,rfl,⟨j,rfl,h8⟩,rfl⟩:=h;exact⟨⟨a,b,c,⟨d,f,g,i⟩,j⟩,rfl,wf_i64 h1,wf_i64 h2,wf_i64 h3,⟨wf_u64 h4,wf_u64 h5,wf_u64 h6,wf_u64 h7⟩,wf_i64 h8⟩
theorem EO{e:List PV}(h:fQ IF e):∃n:Want,e=cj n/\n.wf:=by
 simp only[IF,fQ,Fits]at h;obtain⟨_,_,rfl,⟨a,rfl,h1⟩,_,_,rfl,⟨b,rfl,h2⟩,_,_,rfl,⟨c,rfl,h3⟩,_,_,rfl,⟨d,rfl,h4⟩,_,_,rfl,⟨f,rfl,h5⟩,_,_,rfl,⟨g,rfl⟩,rfl⟩:=h;exact⟨⟨a,⟨b,c,d,f⟩,g⟩,rfl,wf_i64 h1,wf_u64 h2,wf_u64 h3,wf_u64 h4,wf_u64 h5⟩
theorem fits_snap{e:List PV}(h:fQ [.sl HV,.sl HK,.sl N5] e):∃s:bc,.agg e=aF s/\s.wf:=by
 simp only[fQ,Fits]at h;obtain⟨_,_,rfl,⟨a,rfl,h1⟩,_,_,rfl,⟨b,rfl,h2⟩,_,_,rfl,⟨c,rfl,h3⟩,rfl⟩:=h;obtain⟨x,rfl,k1⟩:=oT (fun e he=>EN (h1 e he));obtain⟨y,rfl,k2⟩:=oT (fun e he=>EM (h2 e he));obtain⟨z,rfl,k3⟩:=oT (fun e he=>H5 (h3 e he));exact⟨⟨x,y,z⟩,rfl,k1,k2,k3⟩
theorem fits_spec{e:List PV}(h:fQ [.sl IF,.nu .i64,.nu .i64] e):∃s:Spec,.agg e=bg s/\s.wf:=by
 simp only[fQ,Fits]at h;obtain⟨_,_,rfl,⟨a,rfl,h1⟩,_,_,rfl,⟨b,rfl,h2⟩,_,_,rfl,⟨c,rfl,h3⟩,rfl⟩:=h;obtain⟨x,rfl,k1⟩:=oT (fun e he=>EO (h1 e he));exact⟨⟨x,b,c⟩,rfl,k1,wf_i64 h2,wf_i64 h3⟩
theorem fits_int{p:PV}(h:Fits (.nu .i64) p):∃n,p=.int .i64 n/\mq n:=by
 simp only[Fits]at h;obtain⟨n,rfl,h⟩:=h;exact⟨n,rfl,wf_i64 h⟩
end
section
section
variable{P:Program}{w:World}{t:TypeId}
theorem qp_pp1(d:Nat){e:TypeId}{n:Nat}{a:Addr}(h:P.underlying t=some (.pointer e))(hz:(sizeOf e).run P w=.ok n w)(hn:n≠0):(Op.equalIn (d+1) t (.pointer (some a)) (.pointer (some a))).run P w=.ok true w:=by
 simp only[Op.equalIn];rw[rb (bF h)];simp only;rw[rb hz];rw[aW hn];unfold sameAddr;simp[run_pure]
theorem PF(d:Nat){ms u v x y}(h:P.underlying t=some (.interface ms))(eA:u≠v):(Op.equalIn (d+1) t (.iface u x) (.iface v y)).run P w=.ok false w:=by
 simp only[Op.equalIn];rw[rb (bF h)];simp only[ne_eq,eA,not_false_eq_true,bz];rfl
theorem Dd{x y:Value}{b:Bool}(h:(Op.equal t x y).run P w=.ok b w)(h1:(∀k n,x≠ .int k n)/\(∀s,x≠ .string s)/\(∀k n,x≠ .float k n)/\∀k n m,x≠ .complex k n m) :
    (binOp .eql t x y).run P w=.ok (.bool b) w/\(binOp .neq t x y).run P w=.ok (.bool (!b)) w:=by
 obtain⟨h2,h3,h4,h5⟩:=h1;cases x <;>first|exact absurd rfl (h2 _ _)|exact absurd rfl (h3 _)|exact absurd rfl (h4 _ _)|exact absurd rfl (h5 _ _ _) |
  (constructor
   ·simp only[binOp];rw[rb h];rfl
   ·simp only[binOp];rw[rb h];rfl)
theorem ie_same{ms:_}{u:TypeId}{x y:Value}{b:Bool}(h:P.underlying t=some (.interface ms))(hc:(P.info? u).map (·.comparable)=some true)(hb:(Op.equalIn 9999 u x y).run P w=.ok b w) :
    (binOp .eql t (.iface u x) (.iface u y)).run P w=.ok (.bool b) w/\(binOp .neq t (.iface u x) (.iface u y)).run P w=.ok (.bool (!b)) w:=by
 refine Dd ?_ ⟨by simp,by simp,by simp,by simp⟩;cases hi:P.info? u with
 |none=>rw[hi]at hc;cases hc
 |some i =>
  rw[hi]at hc;exact(LK 9999 h hi (Option.some.inj hc)).trans hb
theorem ie_other{ms:_}{u v:TypeId}{x y:Value}(h:P.underlying t=some (.interface ms))(eA:u≠v) :
    (binOp .eql t (.iface u x) (.iface v y)).run P w=.ok (.bool false) w/\(binOp .neq t (.iface u x) (.iface v y)).run P w=.ok (.bool true) w :=
 Dd (PF 9999 h eA) ⟨by simp,by simp,by simp,by simp⟩
theorem ie_int{k:IntKind}{n m:Int}(h:P.underlying t=some (.int k)):(Op.equalIn 9999 t (.int k n) (.int k m)).run P w=.ok (decide (n=m)) w:=by
 have:=run_equalIn_int w 9998 t k k n m h;exact this
end
end
def Sm(args:List AV)(hp:Hl)(nx:Nat):Option (AV×Hl×Nat) :=
 match args with
 |[.pv .dI,.pv (.int .i64 _),.pv (.int .i64 _)]=>some (.pv (.bool false),hp,nx)
 |[.pv (.iface 0 (.int .i64 _)),.pv (.int .i64 _),.pv (.int .i64 _)]=>some (.pv (.bool false),hp,nx)
 |[.pv (.iface 1 (.gX [.int .i64 a,.int .i64 n] 0)),.pv (.int .i64 x),.pv (.int .i64 y)]=>some (.pv (.bool (decide (a=x)&&decide (n=y))),hp,nx)
 |_=>none
theorem AJ{w w':World}(h:Go.RowKit.Below w.heap.size w w'):jF (fun _=>False) w w':=⟨h.os,h.tape,h.output,h.size,fun b hb _=>h.block b hb⟩
theorem isP_raw{E:Env}{n:Nat}{g:Nat×Value}(pZ:E8 E n)(hg:g∈E.gl)
    (h1:∀(x y:Int) (w:World),Calls E.P (E.ρ n) #[.nilIface,.int .i64 x,.int .i64 y] w fun e w'=>e=.returned (.bool false)/\Go.RowKit.Below w.heap.size w w')
    (h2:∀(m x y:Int) (w:World),w.cell? ⟨g.1,0,none⟩=some g.2->Calls E.P (E.ρ n) #[.iface (E.τ 0) (.int .i64 m),.int .i64 x,.int .i64 y] w fun e w'=>e=.returned (.bool false)/\Go.RowKit.Below w.heap.size w w')
    (h3:∀(b o:Nat) (a m x y:Int) (w:World),w.cell? ⟨g.1,0,none⟩=some g.2->w.cell? ⟨b,o,none⟩=some (.int .i64 a)->w.cell? ⟨b,o+1,none⟩=some (.int .i64 m) ->
     Calls E.P (E.ρ n) #[.iface (E.τ 1) (.pointer (some ⟨b,o,none⟩)),.int .i64 x,.int .i64 y] w fun e w'=>e=.returned (.bool (decide (a=x)&&decide (m=y)))/\Go.RowKit.Below w.heap.size w w')
    (args:List AV) (hp:Hl) (nx:Nat) (v:AV) (hp':Hl) (cC:Nat) (h:Sm args hp nx=some (v,hp',cC)):kl E n args hp nx v hp' cC:=by
 refine⟨pZ,fun X M F a w vs hX R hv=>?_⟩;subst hX;have hc:=(R.inv g hg).2;have fin:∀{b:Bool},v=.pv (.bool b)->hp'=hp->cC=nx->∀{e:Ending} {w':World},(e=.returned (.bool b)/\Go.RowKit.Below w.heap.size w w') ->
                                                                              ∃u M',e=.returned u/\Rel X M' F (ah hp') (fun i=>i<cC) a w'/\VA (aB X w' (fun i=>i<cC) M' (ah hp')) v u:=by
  rintro b rfl rfl rfl e w' ⟨rfl,hb⟩
  exact⟨_,M,rfl,R.grown (AJ hb),by simp only[VA,VP]⟩
 unfold Sm at h;split at h
 ·rename_i x y;simp only[ai,aZ]at h;obtain⟨rfl,rfl,rfl⟩:=h;simp only[ed,VA,VP]at hv;obtain⟨_,_,rfl,rfl,_,_,rfl,rfl,_,_,rfl,rfl,rfl⟩:=hv;exact(h1 x y w).mono fun e w' hh=>fin rfl rfl rfl hh
 ·rename_i m x y;simp only[ai,aZ]at h;obtain⟨rfl,rfl,rfl⟩:=h;simp only[ed,VA,VP]at hv;obtain⟨_,_,rfl,⟨_,rfl,rfl⟩,_,_,rfl,rfl,_,_,rfl,rfl,rfl⟩:=hv;exact(h2 m x y w hc).mono fun e w' hh=>fin rfl rfl rfl hh
 ·rename_i a' m x y;simp only[ai,aZ]at h;obtain⟨rfl,rfl,rfl⟩:=h;simp only[ed,VA,VP,iu]at hv;obtain⟨_,_,rfl,⟨_,rfl,b,o,rfl,_,⟨_,c1,_,rfl⟩,⟨_,c2,_,rfl⟩,_⟩,_,_,rfl,rfl,_,_,rfl,rfl,rfl⟩:=hv;exact(h3 b o a' m x y w hc c1 c2).mono fun e w' hh=>fin rfl rfl rfl hh
 ·simp at h
structure Ef(T:cK)(n:Nat)(g:Gd):Prop where
 fW:T.fW n=some g
 raw:T.raw n=false
 own:T.own n=false
section
def cD(n:Int):List PV:=[.int .i64 n]
def qZ:List (List PV)->Option (List Int)
 |[]=>some []
 |[.int .i64 n]::r=>match qZ r with
  |some l=>some (n::l)
  |none=>none
 |_::_=>none
theorem r9:∀{es:List (List PV)} {ns:List Int},qZ es=some ns->es=ns.map cD
 |[],ns,h=>by simp[qZ]at h;subst h;rfl
 |e::r,ns,h=>by
  unfold qZ at h;split at h
  ·rename_i h1;simp at h1
  ·rename_i n r' h1;simp only[E9]at h1;obtain⟨rfl,rfl⟩:=h1;split at h
   ·rename_i l hl;simp only[ai]at h;subst h;rw[r9 hl];rfl
   ·simp at h
  ·simp at h
theorem mK(ns:List Int):qZ (ns.map cD)=some ns:=by
 induction ns with
 |nil=>rfl
 |cons n r ih=>simp only[aX,qZ,cD,ih]
theorem su{E:Env}{w:World}{ok:Nat->Prop}{b:Nat}:∀{ns:List Int} {o:Nat},di E w ok (ns.map cD) b o 1->∀(j:Nat) (n:Int),ns[j]? =some n->w.cell? ⟨b,o+j,none⟩=some (.int .i64 n)
 |[],o,h,j,n,hj=>by simp at hj
 |m::r,o,h,j,n,hj=>by
  simp only[aX,di,cD,iu,VP,and_true]at h;obtain⟨_,⟨u,h1,_,h2⟩,h3⟩:=h;cases j with
  |zero=>simp at hj;subst hj;rw[<-h2];exact h1
  |succ j =>
   have:=su h3 j n (by simpa using hj);rwa [show o+1+j=o+(j+1) by omega]at this
theorem xu{E:Env}{w:World}{ok:Nat->Prop}{b:Nat}:∀{ns:List Int} {o:Nat},(∀(j:Nat) (n:Int),ns[j]? =some n->w.cell? ⟨b,o+j,none⟩=some (.int .i64 n))->di E w ok (ns.map cD) b o 1
 |[],o,_=>by simp only[aC,di]
 |m::r,o,h=>by
  simp only[aX,di,cD,iu,VP,and_true];refine⟨rfl,⟨_,h 0 m rfl,by simp[cN],rfl⟩,xu fun j n hj=>?_⟩;have:=h (j+1) n (by simpa using hj);rwa [show o+(j+1)=o+1+j by omega]at this
theorem xg{w:World}{b:Nat}{c:Array Value}{t:TypeId}{f:Nat×Nat}(h:w.heap[b]? =some (.cells c t f))(d:Array Int) :
    Sort.putRow (Value.int .i64) w b 0 d=fY w b (.cells (Sort.putCells (Value.int .i64) 0 d c) t f):=by
 unfold Sort.putRow Sort.mapBlock fY
 congr 1
 apply Array.ext_getElem?;intro i;by_cases hi:b=i
 ·subst hi;have hlt:b<w.heap.size:=(cf.1 h).1;rw[Array.getElem?_modify,h];simp[hlt,Sort.onCells]
 ·rw[Array.getElem?_modify,eb hi];simp[hi]
theorem sQ(w:World)(q:Nat):jF (fun _=>False) w (Sort.ahead w q):=⟨rfl,rfl,rfl,ax _,fun _ _ _=>rfl⟩
theorem Cu(w:World)(os:Array Obj):jF (fun _=>False) w (Sort.grow w os):=by
 refine⟨rfl,rfl,rfl,by simp[Sort.grow],fun b hb _=>?_⟩;simp only[Sort.grow];rw[Array.getElem?_append_left hb]
section
variable{X:Ctx}{M:Nat->Nat}{F:Fr}{hp:Hl}{U:Nat->Prop}{a:Act}{w:World}
theorem Rel.putRow(R:Rel X M F (ah hp) U a w){id:Nat}{ns:List Int}(hb:ah hp id=.row 1 (ns.map cD))(d:List Int)(hl:d.length=ns.length)(q:Nat) :
    Rel X M F (ah ((id,.row 1 (d.map cD))::hp)) U a (Sort.putRow (Value.int .i64) (Sort.ahead w q) (M id) 0 d.toArray):=by
 have R1:=R.grown (sQ w q);have hB:=R1.blk id;rw[hb]at hB;obtain⟨c,t,h1,h2,h3⟩:=hB;simp only[aB]at h1;simp only[al,Nat.mul_one]at h2;rw[xg h1];have e:ah ((id,.row 1 (d.map cD))::hp)=wr (ah hp) [(id,.row 1 (d.map cD))]:=by
  funext i;rw[<-kX];rfl
 rw[e];have hlt:M id<(Sort.ahead w q).heap.size:=(cf.1 h1).1;refine R1.write _ _ id (by rw[hb];simp) (by simp) (by rw[hb];simp[dx.info,hl]) ?_ ?_
 ·simp only[World.shape?];rw[dB _ hlt,h1];simp[Sort.putCells]
 ·refine⟨_,t,dB _ hlt,by simp[Sort.putCells];omega,xu fun j n hj=>?_⟩;have pk:j<d.length:=(aA.1 hj).1;simp only[World.cell?,aB];rw[dB _ hlt];have Uw:j<c.size:=by omega
  simp only[Sort.putCells,aM,Array.getElem?_mapIdx];rw[Array.getElem?_eq_getElem Uw];simp only[Ec];have:=(aA.1 hj).2;simp[pk,this]
theorem Rel.DR(R:Rel X M F (ah hp) U a w){id:Nat}{ns:List Int}{u:Value}(hb:ah hp id=.row 1 (ns.map cD))(hu:VA (aB X w U M (ah hp)) (.ms id) u) :
    ∃cap,u=.slice (some ⟨M id,0,none⟩) ns.length cap/\ns.length<=cap/\M id<w.heap.size/\Sort.Holds (Value.int .i64) w (M id) 0 ns.toArray:=by
 simp only[VA,aB]at hu;obtain⟨_,_,hu⟩:=hu;obtain⟨cap,t,gU,e1,e2,e3,e4⟩:=hu (1,ns.length) (by rw[hb];simp[dx.info]);have hB:=R.blk id;rw[hb]at hB;obtain⟨c,t',h1,h2,h3⟩:=hB;simp only[aB]at h1 h3;refine⟨cap,e1,e2,(cf.1 h1).1,fun j hj=>?_⟩;have C9:j<ns.length:=by simpa using hj
 refine⟨?_,?_⟩
 ·have:=su h3 j ns[j] (by simp[C9]);rw[this];simp[C9]
 ·simp only[World.frozen?,h1];simp
end
def Cg(x:Int):List Int->List Int
 |[]=>[x]
 |y::r=>if x<=y then x::y::r else y::Cg x r
def fZ:List Int->List Int
 |[]=>[]
 |x::r=>Cg x (fZ r)
theorem rZ(x:Int):∀l,(Cg x l).Perm (x::l)
 |[]=>List.Perm.refl _
 |y::r=>by
  unfold Cg;split
  ·exact List.Perm.refl _
  ·exact((rZ x r).cons y).trans (List.Perm.swap x y r)
theorem nE:∀l,(fZ l).Perm l
 |[]=>List.Perm.refl _
 |x::r=>(rZ x (fZ r)).trans ((nE r).cons x)
theorem sP(x:Int):∀{l:List Int},l.Pairwise (fun a b=>a<=b)->(Cg x l).Pairwise (fun a b=>a<=b)
 |[],_=>by simp[Cg]
 |y::r,h=>by
  have h':=gS.1 h;unfold Cg;split
  ·rename_i MS;refine gS.2 ⟨fun z hz=>?_,h⟩;rcases aQ.1 hz with rfl|hz
   ·exact MS
   ·exact Int.le_trans MS (h'.1 z hz)
  ·rename_i MS;refine gS.2 ⟨fun z hz=>?_,sP x h'.2⟩;rcases aQ.1 ((rZ x r).mem_iff.1 hz)with rfl|hz
   ·omega
   ·exact h'.1 z hz
theorem kK:∀ns:List Int,(fZ ns).Pairwise (fun a b=>a<=b)
 |[]=>List.Pairwise.nil
 |x::r=>sP x (kK r)
theorem xm:∀{a b:List Int},a.Pairwise (fun x y=>x<=y)->b.Pairwise (fun x y=>x<=y)->a.Perm b->a=b
 |[],[],_,_,_=>rfl
 |[],y::s,_,_,h=>by have:=h.length_eq;simp at this
 |x::r,[],_,_,h=>by have:=h.length_eq;simp at this
 |x::r,y::s,ha,hb,h=>by
  rw[gS]at ha hb;have MS:x=y:=by
   have h1:=h.mem_iff.1 (bN (a:=x) (l:=r));have h2:=h.mem_iff.2 (bN (a:=y) (l:=s));rcases aQ.1 h1 with h1|h1
   ·exact h1
   ·rcases aQ.1 h2 with h2|h2
    ·exact h2.symm
    ·have:=ha.1 y h2;have:=hb.1 x h1;omega
  subst MS;rw[xm ha.2 hb.2 h.cons_inv]
theorem Bc(ns:List Int):(ns.mergeSort fun x y=>decide (x<=y))=fZ ns:=by
 refine xm ?_ (kK ns) ((List.mergeSort_perm ns _).trans (nE ns).symm);have:=List.pairwise_mergeSort (le:=fun x y:Int=>decide (x<=y)) (fun a b c h1 h2=>by simp at *;omega) (fun a b=>by simp;omega) ns;exact this.imp fun h=>by simpa using h
theorem kJ(ns:List Int):(fZ ns).length=ns.length:=(nE ns).length_eq
theorem FP(ns:List Int)(x:Int):x∈fZ ns↔x∈ns:=(nE ns).mem_iff
def oU(args:List AV)(hp:Hl)(nx:Nat):Option (AV×Hl×Nat) :=
 match args with
 |[.bu]=>some (.pv (.tuple []),hp,nx)
 |[.ms id]=>match ah hp id with
  | .row 1 es=>match qZ es with
   |some ns=>if ns.length<=2^30 then some (.pv (.tuple []),(id,.row 1 ((fZ ns).map cD))::hp,nx)else none
   |none=>none
  |_=>none
 |_=>none
theorem sortP_raw{E:Env}{n:Nat}(pZ:E8 E n)
    (h1:∀(blk off cap:Nat) (zs:List Int) (w:World),Sort.Holds (Value.int .i64) w blk off zs.toArray->blk<w.heap.size->zs.length<4611686018427387904 ->
     Calls E.P (E.ρ n) #[.slice (some ⟨blk,off,none⟩) zs.length cap] w fun e w'=>e=.returned (.tuple #[])/\∃n os,w'=Sort.grow (Sort.putRow (Value.int .i64) (Sort.ahead w n) blk off (zs.mergeSort fun x y=>decide (x<=y)).toArray) os)
    (h2:∀(p:Option Addr) (cap:Nat) (w:World),Calls E.P (E.ρ n) #[.slice p 0 cap] w fun e w'=>e=.returned (.tuple #[])/\w'=w)
    (args:List AV) (hp:Hl) (nx:Nat) (v:AV) (hp':Hl) (cC:Nat) (h:oU args hp nx=some (v,hp',cC)):kl E n args hp nx v hp' cC:=by
 refine⟨pZ,fun X M F a w vs hX R hv=>?_⟩;subst hX;unfold oU at h;split at h
 ·simp only[ai,aZ]at h;obtain⟨rfl,rfl,rfl⟩:=h;simp only[ed,VA]at hv;obtain⟨_,_,rfl,rfl,rfl⟩:=hv;refine(h2 none 0 w).mono fun e w' hh=>?_;obtain⟨rfl,rfl⟩:=hh;exact⟨_,M,rfl,R,by simp only[VA,VP,VPs];exact⟨[],rfl,rfl⟩⟩
 ·rename_i id;split at h
  ·rename_i es hb;split at h
   ·rename_i ns hn;split at h
    ·rename_i hl;obtain rfl:=r9 hn;simp only[ai,aZ]at h;obtain⟨rfl,rfl,rfl⟩:=h;simp only[ed]at hv;obtain⟨u,_,rfl,hu,rfl⟩:=hv;obtain⟨cap,rfl,c1,c2,c3⟩:=R.DR hb hu;refine(h1 (M id) 0 cap ns w c3 c2 (by omega)).mono fun e w' hh=>?_;obtain⟨rfl,q,os,rfl⟩:=hh;rw[Bc];exact⟨_,M,rfl,(R.putRow hb (fZ ns) (kJ ns) q).grown (Cu _ os),by simp only[VA,VP,VPs];exact⟨[],rfl,rfl⟩⟩
    ·simp at h
   ·simp at h
  ·simp at h
 ·simp at h
def nG(ns:List Int):List Int:=Lib.compact ns
theorem uf(ns:List Int):(nG ns).length<=ns.length:=Lib.compact_length_le ns
def oj(args:List AV)(hp:Hl)(nx:Nat):Option (AV×Hl×Nat) :=
 match args with
 |[.bu]=>some (.bu,hp,nx)
 |[.ms id]=>match ah hp id with
  | .row 1 es=>match qZ es with
   |some ns=>if ns.length<=2^30 then some (.gd id 0 (nG ns).length,(id,.row 1 ((nG ns++List.replicate (ns.length-(nG ns).length) 0).map cD))::hp,nx)else none
   |none=>none
  |_=>none
 |_=>none
theorem compP_raw{E:Env}{n:Nat}(pZ:E8 E n)
    (h1:∀(blk off cap:Nat) (zs:List Int) (w:World),Sort.Holds (Value.int .i64) w blk off zs.toArray->zs.length<=9223372036854775807->zs.length<=cap ->
     Calls E.P (E.ρ n) #[.slice (some ⟨blk,off,none⟩) zs.length cap] w fun e w'=>e=.returned (.slice (some ⟨blk,off,none⟩) (Lib.compact zs).length cap)/\∃q,w'=Sort.putRow (Value.int .i64) (Sort.ahead w q) blk off (Lib.compact zs++List.replicate (zs.length-(Lib.compact zs).length) 0).toArray)
    (h2:∀(p:Option Addr) (cap:Nat) (w:World),Calls E.P (E.ρ n) #[.slice p 0 cap] w fun e w'=>e=.returned (.slice p 0 cap)/\w'=w)
    (args:List AV) (hp:Hl) (nx:Nat) (v:AV) (hp':Hl) (cC:Nat) (h:oj args hp nx=some (v,hp',cC)):kl E n args hp nx v hp' cC:=by
 refine⟨pZ,fun X M F a w vs hX R hv=>?_⟩;subst hX;unfold oj at h;split at h
 ·simp only[ai,aZ]at h;obtain⟨rfl,rfl,rfl⟩:=h;simp only[ed,VA]at hv;obtain⟨_,_,rfl,rfl,rfl⟩:=hv;refine(h2 none 0 w).mono fun e w' hh=>?_;obtain⟨rfl,rfl⟩:=hh;exact⟨_,M,rfl,R,by simp only[VA]⟩
 ·rename_i id;split at h
  ·rename_i es hb;split at h
   ·rename_i ns hn;split at h
    ·rename_i hl;obtain rfl:=r9 hn;simp only[ai,aZ]at h;obtain⟨rfl,rfl,rfl⟩:=h;simp only[ed]at hv;obtain⟨u,_,rfl,hu,rfl⟩:=hv;have F3:=hu;obtain⟨cap,rfl,c1,c2,c3⟩:=R.DR hb hu;refine(h1 (M id) 0 cap ns w c3 (by omega) c1).mono fun e w' hh=>?_;obtain⟨rfl,q,rfl⟩:=hh;have hlen:(nG ns++List.replicate (ns.length-(nG ns).length) 0).length=ns.length:=by
      have:=uf ns;simp;omega
     have R2:=R.putRow hb (nG ns++List.replicate (ns.length-(nG ns).length) 0) hlen q;refine⟨_,M,rfl,R2,?_⟩;simp only[VA,aB]at F3⊢;obtain⟨g1,_,g3⟩:=F3;refine⟨g1,by simp[cN],fun s hs=>?_⟩;simp only[aD,bz,dx.info,al,ai]at hs;subst hs;obtain⟨TY,t,gU,e1,e2,e3,e4⟩:=g3 (1,ns.length) (by rw[hb];simp[dx.info]);simp only[Value.slice.injEq]at e1;obtain⟨_,_,rfl⟩:=e1;refine⟨_,cap,t,gU,rfl,cG (uf ns) c1,?_,by simpa using e4,fun _=>by simp⟩;have hB:=(R.grown (sQ w q)).blk id;rw[hb]at hB;obtain⟨c,t',f1,_,_⟩:=hB;simp only[aB]at f1;have hlt:M id<(Sort.ahead w q).heap.size:=(cf.1 f1).1;have e5:w.shape? (M id)=(Sort.putRow (Value.int .i64) (Sort.ahead w q) (M id) 0 (nG ns++List.replicate (ns.length-(nG ns).length) 0).toArray).shape? (M id):=by
      rw[xg f1];simp only[World.shape?];rw[dB _ hlt];have:w.heap[M id]? =some (.cells c t' (0,0)):=f1;rw[this];simp[Sort.putCells]
     have e6:=e3;rw[e5]at e6;exact e6
    ·simp at h
   ·simp at h
  ·simp at h
 ·simp at h
end
section
def mostL(ns:List Int):Int:=Lib.maxOf ns
def leastL(ns:List Int):Int:=Lib.minOf ns
def qJ(f:List Int->Int)(args:List AV)(hp:Hl)(nx:Nat):Option (AV×Hl×Nat) :=
 match args with
 |[.pv (.slice es)]=>match qZ es with
  |some (n::r)=>if(n::r).length<=2^30 then some (.pv (.int .i64 (f (n::r))),hp,nx)else none
  |_=>none
 |_=>none
theorem foldP_raw{E:Env}{n:Nat}(f:List Int->Int)(pZ:E8 E n)
    (h1:∀(b off n' c:Nat) (zs:List Int) (w:World),0<n'->n'<=zs.length->n'<=9223372036854775807->(∀j,j<zs.length->w.cell? ⟨b,off+j,none⟩=some (.int .i64 (zs.getD j 0))) ->
     Calls E.P (E.ρ n) #[.slice (some ⟨b,off,none⟩) n' c] w fun e w'=>e=.returned (.int .i64 (f (zs.take n')))/\w'=w)
    (args:List AV) (hp:Hl) (nx:Nat) (v:AV) (hp':Hl) (cC:Nat) (h:qJ f args hp nx=some (v,hp',cC)):kl E n args hp nx v hp' cC:=by
 refine⟨pZ,fun X M F a w vs hX R hv=>?_⟩;subst hX;unfold qJ at h;split at h
 ·rename_i es;split at h
  ·rename_i m r hn;split at h
   ·rename_i hl;obtain rfl:=r9 hn;simp only[ai,aZ]at h;obtain⟨rfl,rfl,rfl⟩:=h;simp only[ed,VA,VP]at hv;obtain⟨u,_,rfl,⟨ad,len,cap,rfl,rfl,e2,e3⟩,rfl⟩:=hv;obtain⟨b,o,sz,rfl,_,e4⟩:=e3 (by simp);have lI:sz=1:=by
     simp only[aX,di,cD]at e4;exact e4.1.symm
    subst lI;have hc:∀(j:Nat) (n:Int),(m::r)[j]? =some n->w.cell? ⟨b,o+j,none⟩=some (.int .i64 n):=su e4;have hlen:((m::r).map cD).length=(m::r).length:=al ..
    rw[hlen]at *;refine(h1 b o (m::r).length cap (m::r) w (by simp) (ax _) (by omega) (fun j hj=>?_)).mono fun e w' hh=>?_
    ·have C9:j<(m::r).length:=hj;rw[hc j (m::r)[j] (nQ C9),List.getD_eq_getElem?_getD,nQ C9];rfl
    ·obtain⟨rfl,rfl⟩:=hh;rw[zy];exact⟨_,M,rfl,R,by simp only[VA,VP]⟩
   ·simp at h
  ·simp at h
 ·simp at h
theorem DB{T:cK}{n:Nat}{f:List Int->Int}(S:Ef T n (qJ f))(ns:List Int)(h:ns≠[])(hl:ns.length<=2^30):ba T n [.slice (ns.map cD)] (.int .i64 (f ns)):=by
 refine⟨S.raw,S.own,none,?_⟩;have:qJ f (dL [.slice (ns.map cD)]) [] 0=some (.pv (.int .i64 (f ns)),[],0):=by
  cases ns with
  |nil=>exact absurd rfl h
  |cons m r=>simp only[dL,qJ,mK];rw[aW hl]
 unfold du;rw[iD S.fW this];simp only[dD,dH,fi]
/-! ### M3,each once -/
def eo(ns:List Int):List Int:=nG (fZ ns)
theorem rL(l:List Int)(hs:l.Pairwise (fun a b=>a<=b)):∀m,m<=l.length->(Lib.compactUpTo l.toArray m).Pairwise (fun a b=>a<b)/\∀x,x∈Lib.compactUpTo l.toArray m↔∃j,j<m/\l[j]? =some x
 |0,_=>by simp[Lib.compactUpTo]
 |m+1,hm=>by
  obtain⟨h1,h2⟩:=rL l hs m (by omega);have RX:m<l.length:=by omega
  have hg:l.toArray[m]! =l[m]:=by simp[RX]
  rw[Lib.compactUpTo_succ];by_cases hk:Lib.keeps l.toArray m=true
  ·rw[aW hk,hg];refine⟨?_,fun x=>?_⟩
   ·rw[vU];refine⟨h1,by simp,fun a ha b hb=>?_⟩;simp only[gR]at hb;subst hb;obtain⟨j,hj,ha⟩:=(h2 a).1 ha;have pk:j<l.length:=by omega
    have VD:a=l[j]:=by
     have:=(aA.1 ha).2;exact this.symm
    have wT:m-1<l.length:=by omega
    have VL:l[j]<=l[m-1]:=by
     by_cases e:j=m-1
     ·subst e;exact J9 _
     ·exact List.pairwise_iff_getElem.1 hs j (m-1) pk wT (by omega)
    have VM:l[m-1]<=l[m]:=List.pairwise_iff_getElem.1 hs (m-1) m wT RX (by omega);have ne:l[m]≠l[m-1]:=by
     simp only[Lib.keeps,bI]at hk;rcases hk with h|h
     ·omega
     ·rw[hg]at h;simpa[wT]using h
    omega
   ·rw[cq,h2];simp only[gR];constructor
    ·rintro(⟨j,hj,hx⟩|rfl)
     ·exact⟨j,by omega,hx⟩
     ·exact⟨m,by omega,by simp[RX]⟩
    ·rintro⟨j,hj,hx⟩
     by_cases e:j=m
     ·subst e;right;have:=(aA.1 hx).2;exact this.symm
     ·exact .inl ⟨j,by omega,hx⟩
  ·rw[ar hk,bG];refine⟨h1,fun x=>?_⟩;rw[h2];simp only[Lib.keeps,bI,not_or,Classical.not_not]at hk;obtain⟨F1,Ny⟩:=hk;have wT:m-1<l.length:=by omega
   rw[hg]at Ny;have Uy:l[m]=l[m-1]:=by simpa[wT]using Ny
   constructor
   ·rintro⟨j,hj,hx⟩
    exact⟨j,by omega,hx⟩
   ·rintro⟨j,hj,hx⟩
    by_cases e:j=m
    ·subst e;refine⟨j-1,by omega,?_⟩;have:=(aA.1 hx).2;rw[nQ wT,<-Uy,this]
    ·exact⟨j,by omega,hx⟩
theorem FH(ns:List Int):(eo ns).Pairwise (fun a b=>a<b):=(rL (fZ ns) (kK ns) (fZ ns).length (ax _)).1
theorem jy(ns:List Int)(x:Int):x∈eo ns↔x∈ns:=by
 unfold eo nG Lib.compact;rw[(rL (fZ ns) (kK ns) (fZ ns).length (ax _)).2,<-FP ns x,M1];constructor
 ·rintro⟨j,_,h⟩;exact⟨j,h⟩
 ·rintro⟨j,h⟩;exact⟨j,(aA.1 h).1,h⟩
theorem eU(ns:List Int):(eo ns).length<=ns.length:=by
 have h1:=uf (fZ ns);rw[kJ]at h1;exact h1
theorem xj:∀{a b:List Int},a.Pairwise (fun x y=>x<y)->b.Pairwise (fun x y=>x<y)->(∀x,x∈a↔x∈b)->a=b
 |[],[],_,_,_=>rfl
 |[],y::s,_,_,h=>by have:=(h y).2 (by simp);simp at this
 |x::r,[],_,_,h=>by have:=(h x).1 (by simp);simp at this
 |x::r,y::s,ha,hb,h=>by
  rw[gS]at ha hb;have MS:x=y:=by
   have h1:=(h x).1 (by simp);have h2:=(h y).2 (by simp);rcases aQ.1 h1 with h1|h1
   ·exact h1
   ·rcases aQ.1 h2 with h2|h2
    ·exact h2.symm
    ·have:=ha.1 y h2;have:=hb.1 x h1;omega
  subst MS;refine da (x:: ·) (xj ha.2 hb.2 fun z=>?_);constructor
  ·intro hz;have:=ha.1 z hz;rcases aQ.1 ((h z).1 (by simp[hz]))with h1|h1
   ·omega
   ·exact h1
  ·intro hz;have:=hb.1 z hz;rcases aQ.1 ((h z).2 (by simp[hz]))with h1|h1
   ·omega
   ·exact h1
end
section
def fo(v:AV)(hp:Hl)(sz:Nat)(es:List (List PV))(lo nx:Nat):Prop:=(es=[]/\v=.bu)\/∃id,v=.ms id/\lo<=id/\id<nx/\ah hp id=.row sz es
section
variable{v:AV}{hp hp':Hl}{sz lo nx cC:Nat}{es:List (List PV)}
theorem fo.nil:fo .bu hp sz [] lo nx:=.inl ⟨rfl,rfl⟩
theorem fo.mono(h:fo v hp sz es lo nx)(h1:∀k,lo<=k->k<nx->ah hp' k=ah hp k)(h2:nx<=cC):fo v hp' sz es lo cC:=by
 rcases h with h|⟨id,a,b,c,d⟩
 ·exact .inl h
 ·exact .inr ⟨id,a,b,by omega,by rw[h1 id b c,d]⟩
theorem fo.push(h:fo v hp sz es lo nx)(b:dx):fo v ((nx,b)::hp) sz es lo (nx+1):=by
 refine h.mono (fun k h1 h2=>?_) (Nat.le_succ _);have:¬nx=k:=by omega
 simp only[aD,this,aJ]
theorem fo.low(h:fo v hp sz es lo nx){i:Nat}(hi:i<lo)(b:dx):fo v ((i,b)::hp) sz es lo nx:=by
 refine h.mono (fun k h1 h2=>?_) (ax _);have:¬i=k:=by omega
 simp only[aD,this,aJ]
theorem fo.over(h:fo v hp sz es lo nx){i:Nat}{b:dx}(hi:i<lo\/nx<=i):fo v ((i,b)::hp) sz es lo nx:=by
 refine h.mono (fun k h1 h2=>?_) (ax _);have:¬i=k:=by omega
 simp only[aD,this,aJ]
theorem fo.up(h:fo v hp sz es lo nx)(h2:nx<=cC):fo v hp sz es lo cC:=h.mono (fun k _ _=>rfl) h2
theorem fo.snap(h:fo v hp sz es lo nx):dD (ah hp) v=some (.slice es):=by
 rcases h with⟨rfl,rfl⟩|⟨id,rfl,b,c,d⟩
 ·rfl
 ·simp only[dD,dH,d]
theorem fo.src(h:fo v hp sz es lo nx):dV (ah hp) v=some es:=by
 rcases h with⟨rfl,rfl⟩|⟨id,rfl,b,c,d⟩
 ·rfl
 ·simp only[dV,d]
theorem fo.len(h:fo v hp sz es lo nx):aS (ah hp) v=some es.length:=by
 rcases h with⟨rfl,rfl⟩|⟨id,rfl,b,c,d⟩
 ·rfl
 ·simp only[aS,d]
theorem fo.app(h:fo v hp sz es lo nx)(Ho:lo<=nx)(es':List (List PV))(hl:es.length+es'.length<=2^30) :
    ∃v' W n,fR (ah hp) nx sz v es'=some (v',W,n)/\(∀k,k<lo->ah (W++hp) k=ah hp k)/\fo v' (W++hp) sz (es++es') lo (nx+n):=by
 rcases h with⟨rfl,rfl⟩|⟨id,rfl,b,c,d⟩
 ·cases es' with
  |nil=>exact⟨.bu,[],0,rfl,fun k _=>rfl,.inl ⟨rfl,rfl⟩⟩
  |cons e r =>
   have OZ:(e::r).length<=2^30:=by simpa using hl
   refine⟨.ms nx,[(nx,.row sz (e::r))],1,by simp only[fR,OZ,bz],fun k hk=>?_,.inr ⟨nx,rfl,Ho,by omega,?_⟩⟩
   ·have:¬nx=k:=by omega
    simp only[aI,aE,aD,this,aJ]
   ·simp only[aI,aE,aD,bz]
 ·refine⟨.ms nx,[(id,.dead),(nx,.row sz (es++es'))],1,?_,fun k hk=>?_,.inr ⟨nx,rfl,Ho,by omega,?_⟩⟩
  ·simp only[fR,eQ,d,cg,hl,bz]
  ·have h1:¬nx=k:=by omega
   have h2:¬id=k:=by omega
   simp only[aI,aE,aD,h1,h2,aJ]
  ·have h2:¬id=nx:=by omega
   simp only[aI,aE,aD,h2,bz,aJ]
theorem fo.mh(h:fo v hp sz es lo nx)(Ho:lo<=nx)(e:List PV)(hl:es.length+1<=2^30) :
    ∃v' W n,fR (ah ((nx,.row sz [e])::hp)) (nx+1) sz v [e]=some (v',W,n)/\(∀k,k<lo->ah (W++(nx,.row sz [e])::hp) k=ah hp k)/\fo v' (W++(nx,.row sz [e])::hp) sz (es++[e]) lo (nx+1+n):=by
 obtain⟨v',W,n,h1,h2,h3⟩:=(h.push (.row sz [e])).app (by omega) [e] hl;refine⟨v',W,n,h1,fun k hk=>?_,h3⟩;have:¬nx=k:=by omega
 rw[h2 k hk];simp only[aD,this,aJ]
end
theorem ba.Li{T:cK}{n:Nat}{ps:List PV}{p:PV}(h:ba T n ps p)(hf:T.flat n=false){args:List AV}{d:Option Nat}{l:List aV}{st:St}{K:St->Prop}(h0:ca args=none)(h1:ca (gi (fD args) st args).2=some ps)
    (hk:tP T l ⟨dt (gi (fD args) st args).1 d (.pv p),(gi (fD args) st args).1.hp,(gi (fD args) st args).1.nx⟩ K):iN T n args d l st K:=by
 obtain⟨hr,ho,o,hc⟩:=h;refine⟨_,?_,hk⟩;unfold eO;simp only[hr,h0,hf,h1,hc,ho,rn]
theorem E7{n:Int}(h1:0<=n)(h2:n<256):IntKind.u8.wrap n=n:=by
 simp only[IntKind.wrap,IntKind.bits,IntKind.signed];simp;omega
theorem zw{n:Int}(h1:0<=n)(h2:n<18446744073709551616):IntKind.u64.wrap n=n:=by
 simp only[IntKind.wrap,IntKind.bits,IntKind.signed];simp;omega
theorem FZ(n:Int):IntKind.u8.wrap n=n % 256:=by
 simp only[IntKind.wrap,IntKind.bits,IntKind.signed];simp
theorem xy(n:Int):IntKind.u64.wrap n=n % 18446744073709551616:=by
 simp only[IntKind.wrap,IntKind.bits,IntKind.signed];simp
end
end Go.Proofs.YtkjehofblipcaaaGreatDoor.Ab
