/- The layer, part 0: Ab0, Ab1, Ab2, Ab3, Ab4, Ab5, Ab6, Ab7, Ab8, Ab9, Ab10, Ab11, Ab12, Ab13, Ab14, Ab15, Ab20, Ab21, Ab22, Ab23, Ab24, Ab25, Ab16. -/
import Derived.Below
import Derived.Still
import Derived.Laws.Tables
import Derived.Deep.LoopGhost
import Derived.DeepKeys
import Derived.Laws.BytesString
import Derived.Maps.RangeRun
import GoSem.Claim
import GoSem.ClaimJoined
import Derived.OpenShut
import Derived.ChangeOld
import Derived.Sort.Row
import Derived.Sort.Grow
import Derived.Lib.SlicesCompact
import Derived.Lib.RowBridge
import Derived.Lib.Slices
import Derived.Laws.Strings
set_option linter.unusedVariables false
set_option linter.unusedSimpArgs false
namespace Go.Proofs.YtkjehofblipcaaaGreatDoor.Ab
open Go
theorem ai.{u}:type_of% @Option.some.injEq.{u}:=@Option.some.injEq.{u}
theorem al.{u,v}:type_of% @List.length_map.{u,v}:=@List.length_map.{u,v}
theorem ar.{u}:type_of% @if_neg.{u}:=@if_neg.{u}
theorem ax:type_of% @Nat.le_refl:=@Nat.le_refl
theorem ay.{u}:type_of% @List.length_cons.{u}:=@List.length_cons.{u}
theorem aA.{u}:type_of% @List.getElem?_eq_some_iff.{u}:=@List.getElem?_eq_some_iff.{u}
theorem aC.{u,v}:type_of% @List.map_nil.{u,v}:=@List.map_nil.{u,v}
theorem aE.{u}:type_of% @List.nil_append.{u}:=@List.nil_append.{u}
theorem aG.{u}:type_of% @List.length_append.{u}:=@List.length_append.{u}
theorem aH.{u,v}:type_of% @Option.map_eq_some_iff.{u,v}:=@Option.map_eq_some_iff.{u,v}
theorem aI.{u}:type_of% @List.cons_append.{u}:=@List.cons_append.{u}
theorem aJ.{u}:type_of% @if_false.{u}:=@if_false.{u}
theorem aM:type_of% @Nat.zero_add:=@Nat.zero_add
theorem aO:type_of% @Nat.zero_le:=@Nat.zero_le
theorem aP:type_of% @Int.lt_irrefl:=@Int.lt_irrefl
theorem aQ.{u}:type_of% @List.mem_cons.{u}:=@List.mem_cons.{u}
theorem aW.{u}:type_of% @if_pos.{u}:=@if_pos.{u}
theorem aX.{u,v}:type_of% @List.map_cons.{u,v}:=@List.map_cons.{u,v}
theorem aZ.{u,v}:type_of% @Prod.mk.injEq.{u,v}:=@Prod.mk.injEq.{u,v}
theorem bd.{u}:type_of% @List.mem_cons_of_mem.{u}:=@List.mem_cons_of_mem.{u}
theorem bh.{u,v}:type_of% @List.map_append.{u,v}:=@List.map_append.{u,v}
theorem bj:type_of% @Bool.and_eq_true:=@Bool.and_eq_true
theorem bq:type_of% @Bool.true_and:=@Bool.true_and
theorem bz.{u}:type_of% @if_true.{u}:=@if_true.{u}
theorem bA:type_of% @Bool.false_eq_true:=@Bool.false_eq_true
theorem bB:type_of% @Bool.and_true:=@Bool.and_true
theorem bG.{u}:type_of% @List.append_nil.{u}:=@List.append_nil.{u}
theorem bI:type_of% @decide_eq_true_eq:=@decide_eq_true_eq
theorem bJ:type_of% @decide_eq_true:=@decide_eq_true
theorem bL.{u}:type_of% @List.all_cons.{u}:=@List.all_cons.{u}
theorem bM.{u}:type_of% @List.length_nil.{u}:=@List.length_nil.{u}
theorem bN.{u}:type_of% @List.mem_cons_self.{u}:=@List.mem_cons_self.{u}
theorem bV.{u}:type_of% @List.all_nil.{u}:=@List.all_nil.{u}
theorem bX.{u}:type_of% @List.eq_nil_of_length_eq_zero.{u}:=@List.eq_nil_of_length_eq_zero.{u}
theorem bY:type_of% @Int.toNat_natCast:=@Int.toNat_natCast
theorem cf.{u}:type_of% @Array.getElem?_eq_some_iff.{u}:=@Array.getElem?_eq_some_iff.{u}
theorem cp.{u}:type_of% @Array.getElem?_toList.{u}:=@Array.getElem?_toList.{u}
theorem cq.{u}:type_of% @List.mem_append.{u}:=@List.mem_append.{u}
theorem cw.{u,v}:type_of% @List.mem_map.{u,v}:=@List.mem_map.{u,v}
theorem cz.{u}:type_of% @List.reverse_cons.{u}:=@List.reverse_cons.{u}
theorem cA:type_of% @Bool.false_and:=@Bool.false_and
theorem cF.{u}:type_of% @List.reverse_nil.{u}:=@List.reverse_nil.{u}
theorem cG:type_of% @Nat.le_trans:=@Nat.le_trans
theorem cQ:type_of% @Nat.mul_le_mul_right:=@Nat.mul_le_mul_right
theorem cU:type_of% @Nat.eq_of_beq_eq_true:=@Nat.eq_of_beq_eq_true
theorem da.{u,v}:type_of% @congrArg.{u,v}:=@congrArg.{u,v}
theorem dq:type_of% @Nat.add_mul:=@Nat.add_mul
theorem dy:type_of% @Nat.lt_of_lt_of_le:=@Nat.lt_of_lt_of_le
theorem dU:type_of% @Bool.and_false:=@Bool.and_false
theorem dZ.{u}:type_of% @List.mem_of_getElem?.{u}:=@List.mem_of_getElem?.{u}
theorem eb.{u}:type_of% @Array.getElem?_setIfInBounds_ne.{u}:=@Array.getElem?_setIfInBounds_ne.{u}
theorem eE.{u}:type_of% @List.getElem?_cons_succ.{u}:=@List.getElem?_cons_succ.{u}
theorem eN.{u,v}:type_of% @List.flatMap_cons.{u,v}:=@List.flatMap_cons.{u,v}
theorem eW:type_of% @Nat.add_assoc:=@Nat.add_assoc
theorem eX.{u,v}:type_of% @Sum.inr.injEq.{u,v}:=@Sum.inr.injEq.{u,v}
theorem fb:type_of% @Nat.add_zero:=@Nat.add_zero
theorem fc:type_of% @Nat.le_of_ble_eq_true:=@Nat.le_of_ble_eq_true
theorem ff.{u}:type_of% @Option.getD_none.{u}:=@Option.getD_none.{u}
theorem fm.{u,v}:type_of% @List.getElem?_map.{u,v}:=@List.getElem?_map.{u,v}
theorem fp.{u}:type_of% @cond_false.{u}:=@cond_false.{u}
theorem fP:type_of% @run_underlying:=@run_underlying
theorem gm.{u}:type_of% @List.append_assoc.{u}:=@List.append_assoc.{u}
theorem gL.{u}:type_of% @List.drop_zero.{u}:=@List.drop_zero.{u}
theorem gP.{u,v}:type_of% @List.foldl_cons.{u,v}:=@List.foldl_cons.{u,v}
theorem gQ.{u}:type_of% @List.getElem?_cons_zero.{u}:=@List.getElem?_cons_zero.{u}
theorem gR.{u}:type_of% @List.mem_singleton.{u}:=@List.mem_singleton.{u}
theorem gS.{u}:type_of% @List.pairwise_cons.{u}:=@List.pairwise_cons.{u}
theorem gT.{u}:type_of% @cond_true.{u}:=@cond_true.{u}
theorem ib.{u}:type_of% @List.length_take.{u}:=@List.length_take.{u}
theorem ic.{u}:type_of% @Option.getD_some.{u}:=@Option.getD_some.{u}
theorem iE.{u}:type_of% @List.drop_drop.{u}:=@List.drop_drop.{u}
theorem jq.{u}:type_of% @List.mem_append_left.{u}:=@List.mem_append_left.{u}
theorem jM:type_of% @Nat.mul_le_mul:=@Nat.mul_le_mul
theorem jN.{u}:type_of% @Option.some_or.{u}:=@Option.some_or.{u}
theorem ke:type_of% @Bool.or_eq_true:=@Bool.or_eq_true
theorem kh.{u}:type_of% @List.length_set.{u}:=@List.length_set.{u}
theorem kj.{u}:type_of% @List.take_succ_cons.{u}:=@List.take_succ_cons.{u}
theorem kA:type_of% @decide_true:=@decide_true
theorem kL.{u}:type_of% @List.getElem?_set_self.{u}:=@List.getElem?_set_self.{u}
theorem lL.{u}:type_of% @List.getElem_mem.{u}:=@List.getElem_mem.{u}
theorem lZ:type_of% @Int.natCast_nonneg:=@Int.natCast_nonneg
theorem md.{u}:type_of% @List.getElem?_take.{u}:=@List.getElem?_take.{u}
theorem mB.{u}:type_of% @Option.none_or.{u}:=@Option.none_or.{u}
theorem nQ.{u}:type_of% @List.getElem?_eq_getElem.{u}:=@List.getElem?_eq_getElem.{u}
theorem pd:type_of% @decide_false:=@decide_false
theorem pz:type_of% @Iff.rfl:=@Iff.rfl
theorem pB.{u,v}:type_of% @Option.bind_eq_some_iff.{u,v}:=@Option.bind_eq_some_iff.{u,v}
theorem qx.{u}:type_of% @List.take_of_length_le.{u}:=@List.take_of_length_le.{u}
theorem sX:type_of% @Bool.true_or:=@Bool.true_or
theorem sZ:type_of% @Oper.upon_enter:=@Oper.upon_enter
theorem vU.{u}:type_of% @List.pairwise_append.{u}:=@List.pairwise_append.{u}
theorem xA:type_of% @Classical.byContradiction:=@Classical.byContradiction
theorem zx.{u,v}:type_of% @List.mem_flatMap.{u,v}:=@List.mem_flatMap.{u,v}
theorem zy.{u}:type_of% @List.take_length.{u}:=@List.take_length.{u}
theorem zF.{u}:type_of% @List.length_pos_iff.{u}:=@List.length_pos_iff.{u}
theorem E9.{u}:type_of% @List.cons.injEq.{u}:=@List.cons.injEq.{u}
theorem Eb:type_of% @Oper.upon_value:=@Oper.upon_value
theorem Ec.{u,v}:type_of% @Option.map_some.{u,v}:=@Option.map_some.{u,v}
theorem Ed.{u}:type_of% @Option.toList_some.{u}:=@Option.toList_some.{u}
theorem IQ.{u}:type_of% @List.length_eq_one_iff.{u}:=@List.length_eq_one_iff.{u}
theorem J9:type_of% @Int.le_refl:=@Int.le_refl
theorem Jb.{u}:type_of% @List.flatten_cons.{u}:=@List.flatten_cons.{u}
theorem M1.{u}:type_of% @List.mem_iff_getElem?.{u}:=@List.mem_iff_getElem?.{u}
theorem NM.{u}:type_of% @List.all_eq_true.{u}:=@List.all_eq_true.{u}
theorem NN.{u,v}:type_of% @List.flatMap_nil.{u,v}:=@List.flatMap_nil.{u,v}
theorem PW.{u}:type_of% @List.getElem?_append.{u}:=@List.getElem?_append.{u}
theorem PX.{u}:type_of% @List.length_dropLast.{u}:=@List.length_dropLast.{u}
theorem TN.{u}:type_of% @List.headD_cons.{u}:=@List.headD_cons.{u}
theorem TZ:type_of% @decide_eq_false:=@decide_eq_false
section
structure Env where
 P:Program
 ρ:Nat->FuncId
 τ:Nat->TypeId
 FG:FuncId->Option Nat
 NG:TypeId->Option Nat
 nt:Nat
 /-- Package-level variables of one cell, and what they hold throughout. -/
 gl:List (Nat×Value):=[]
def Env.inv(E:Env)(w:World):Prop:=∀p∈E.gl,p.1<w.heap.size/\w.cell? ⟨p.1,0,none⟩=some p.2
structure Env.OK(E:Env):Prop where
 FG:∀f n,E.FG f=some n->E.ρ n=f
 NG:∀t n,E.NG t=some n->E.τ n=t/\n<E.nt
 inj:∀n m,n<E.nt->m<E.nt->E.τ n=E.τ m->n=m
 mixed:E.P.follows .mixedOrders=true
inductive PV where
 |bool (b:Bool)
 |int (k:IntKind) (n:Int)
 |str (s:ByteArray)
 |sd|nw|dI
 |gX (cells:List PV) (off:Nat)
 |slice (es:List (List PV))
 |map (es:List (List PV×List PV))
 |func (f:Nat) (first cap:List PV)
 |iface (t:Nat) (v:PV)
 |agg (cells:List PV)
 |tuple (vs:List PV)
 deriving Inhabited
def cN(v:Value):Prop:=(∀c,v≠ .agg c)/\∀c,v≠ .tuple c
section
variable(E:Env)(w:World)(ok:Nat->Prop)
mutual
def VP:PV->Value->Prop
 | .bool b,v=>v=.bool b
 | .int k n,v=>v=.int k n
 | .str s,v=>v=.string s
 | .sd,v=>v=.pointer none
 | .nw,v=>v=.nilFunc
 | .dI,v=>v=.nilIface
 | .gX cs off,v=>∃b o,v=.pointer (some ⟨b,o+off,none⟩)/\ok b/\iu cs b o
 | .slice es,v=>∃a len cap,v=.slice a len cap/\len=es.length/\len<=cap /\
     (0<es.length->∃b o sz,a=some ⟨b,o,none⟩/\ok b/\di es b o sz)
 | .map es,v=>∃r ms c,v=.map (some r)/\ok r/\w.heap[r]? =some (.map ms c)/\wE es ms.toList
 | .func f fs cs,v=>∃vs us:List Value,v=.func (.func (E.ρ f)) vs.toArray us.toArray/\VPs fs vs/\VPs cs us
 | .iface t p,v=>∃u,v=.iface (E.τ t) u/\VP p u
 | .agg ps,v=>∃vs:List Value,v=.agg vs.toArray/\VPs ps vs
 | .tuple ps,v=>∃vs:List Value,v=.tuple vs.toArray/\VPs ps vs
def VPs:List PV->List Value->Prop
 |[],vs=>vs=[]
 |p::ps,vs=>∃u us,vs=u::us/\VP p u/\VPs ps us
def iu:List PV->Nat->Nat->Prop
 |[],_,_=>True
 |p::ps,b,o=>(∃u,w.cell? ⟨b,o,none⟩=some u/\cN u/\VP p u)/\iu ps b (o+1)
def di:List (List PV)->Nat->Nat->Nat->Prop
 |[],_,_,_=>True
 |e::es,b,o,sz=>e.length=sz/\iu e b o/\di es b (o+sz) sz
def wE:List (List PV×List PV)->List MapEntry->Prop
 |[],ms=>ms=[]
 |(k,x)::es,ms=>∃m rest,ms=m::rest/\VPs k m.key.cells.toList/\VPs x m.val.cells.toList/\wE es rest
end
end
section mono
variable{E:Env}{w w':World}{ok ok':Nat->Prop}
structure mC(ok ok':Nat->Prop)(w w':World):Prop where
 sub:∀b,ok b->ok' b
 same:∀b,ok b->w'.heap[b]? =w.heap[b]?
theorem mC.cell(h:mC ok ok' w w'){b:Nat}(hb:ok b)(o:Nat):w'.cell? ⟨b,o,none⟩=w.cell? ⟨b,o,none⟩:=by
 simp only[World.cell?,h.same b hb]
theorem mC.refl:mC ok ok w w:=⟨fun _ h=>h,fun _ _=>rfl⟩
mutual
theorem iz(H:mC ok ok' w w'):(p:PV)->(v:Value)->VP E w ok p v->VP E w' ok' p v
 | .bool b,v,h=>by simpa only[VP]using h
 | .int k n,v,h=>by simpa only[VP]using h
 | .str s,v,h=>by simpa only[VP]using h
 | .sd,v,h=>by simpa only[VP]using h
 | .nw,v,h=>by simpa only[VP]using h
 | .dI,v,h=>by simpa only[VP]using h
 | .gX cs off,v,h=>by
  simp only[VP]at h⊢;obtain⟨b,o,h1,h2,h3⟩:=h;exact⟨b,o,h1,H.sub _ h2,mD H cs b o (fun o=>H.cell h2 o) h3⟩
 | .slice es,v,h=>by
  simp only[VP]at h⊢;obtain⟨a,len,cap,h1,h2,h3,h4⟩:=h;refine⟨a,len,cap,h1,h2,h3,fun hp=>?_⟩;obtain⟨b,o,sz,h5,h6,h7⟩:=h4 hp;exact⟨b,o,sz,h5,H.sub _ h6,gg H es b o sz (fun o=>H.cell h6 o) h7⟩
 | .map es,v,h=>by
  simp only[VP]at h⊢;obtain⟨r,ms,c,h1,h2,h3,h4⟩:=h;exact⟨r,ms,c,h1,H.sub _ h2,(H.same _ h2).trans h3,tM H es _ h4⟩
 | .func f fs cs,v,h=>by
  simp only[VP]at h⊢;obtain⟨vs,us,h1,h2,h3⟩:=h;exact⟨vs,us,h1,dJ H fs vs h2,dJ H cs us h3⟩
 | .iface t p,v,h=>by
  simp only[VP]at h⊢;obtain⟨u,h1,h2⟩:=h;exact⟨u,h1,iz H p u h2⟩
 | .agg ps,v,h=>by
  simp only[VP]at h⊢;obtain⟨vs,h1,h2⟩:=h;exact⟨vs,h1,dJ H ps vs h2⟩
 | .tuple ps,v,h=>by
  simp only[VP]at h⊢;obtain⟨vs,h1,h2⟩:=h;exact⟨vs,h1,dJ H ps vs h2⟩
theorem dJ(H:mC ok ok' w w'):(ps:List PV)->(vs:List Value)->VPs E w ok ps vs->VPs E w' ok' ps vs
 |[],vs,h=>by simpa only[VPs]using h
 |p::ps,vs,h=>by
  simp only[VPs]at h⊢;obtain⟨u,us,h1,h2,h3⟩:=h;exact⟨u,us,h1,iz H p u h2,dJ H ps us h3⟩
theorem mD(H:mC ok ok' w w'):(ps:List PV)->(b o:Nat)->(∀o,w'.cell? ⟨b,o,none⟩=w.cell? ⟨b,o,none⟩)->iu E w ok ps b o->iu E w' ok' ps b o
 |[],b,o,_,h=>by simp only[iu]
 |p::ps,b,o,hb,h=>by
  simp only[iu]at h⊢;obtain⟨⟨u,h1,hs,h2⟩,h3⟩:=h;exact⟨⟨u,by rw[hb];exact h1,hs,iz H p u h2⟩,mD H ps b (o+1) hb h3⟩
theorem gg(H:mC ok ok' w w'):(es:List (List PV))->(b o sz:Nat)->(∀o,w'.cell? ⟨b,o,none⟩=w.cell? ⟨b,o,none⟩)->di E w ok es b o sz->di E w' ok' es b o sz
 |[],b,o,sz,_,h=>by simp only[di]
 |e::es,b,o,sz,hb,h=>by
  simp only[di]at h⊢;obtain⟨h1,h2,h3⟩:=h;exact⟨h1,mD H e b o hb h2,gg H es b (o+sz) sz hb h3⟩
theorem tM(H:mC ok ok' w w'):(es:List (List PV×List PV))->(ms:List MapEntry)->wE E w ok es ms->wE E w' ok' es ms
 |[],ms,h=>by simpa only[wE]using h
 |(k,x)::es,ms,h=>by
  simp only[wE]at h⊢;obtain⟨m,rest,h1,h2,h3,h4⟩:=h;exact⟨m,rest,h1,dJ H k _ h2,dJ H x _ h3,tM H es rest h4⟩
end
end mono
end
section
inductive AV where
 |pv (p:PV)
 |bu
 |bot
 |ptr (id i off:Nat)
 |ms (id:Nat)
 |gd (id off len:Nat)
 |tT (id off len:Nat)
 |map (id:Nat)
 |func (f:Nat) (first cap:List AV)
 |iface (t:Nat) (v:AV)
 |agg (cells:List AV)
 |tuple (vs:List AV)
 deriving Inhabited
inductive dx where
 |dead
 |var (cs:List AV)
 |row (sz:Nat) (es:List (List PV))
 |map (es:List (PV×PV))
 |obj (o:Obj)
 deriving Inhabited
def dx.info:dx->Option (Nat×Nat)
 | .dead=>none
 | .var _=>some (0,0)
 | .row sz es=>some (sz,es.length)
 | .map _=>some (0,0)
 | .obj _=>some (0,0)
structure View where
 E:Env
 w:World
 ok:Nat->Prop
 U:Nat->Prop
 M:Nat->Nat
 I:Nat->Option (Nat×Nat)
mutual
def VA(V:View):AV->Value->Prop
 | .pv p,v=>VP V.E V.w V.ok p v
 | .bu,v=>v=.slice none 0 0
 | .bot,_=>True
 | .ptr id i off,v=>V.U id/\cN v/\∀s,V.I id=some s->v=.pointer (some ⟨V.M id,i*s.1+off,none⟩)
 | .ms id,v=>V.U id/\cN v/\∀s,V.I id=some s->∃cap t gU,v=.slice (some ⟨V.M id,0,none⟩) s.2 cap/\s.2<=cap /\
     V.w.shape? (V.M id)=some (t,gU)/\cap*s.1<=gU
 | .gd id off len,v=>V.U id/\cN v/\∀s,V.I id=some s->∃a cap t gU,v=.slice a len cap/\len<=cap /\
      V.w.shape? (V.M id)=some (t,gU)/\(off+cap)*s.1<=gU/\(0<len\/off=0->a=some ⟨V.M id,off*s.1,none⟩)
 | .tT id off len,v=>V.U id/\cN v/\∀s,V.I id=some s->v=.slice (some ⟨V.M id,off,none⟩) len len
 | .map id,v=>V.U id/\cN v/\∀s,V.I id=some s->v=.map (some (V.M id))
 | .func f fs cs,v=>∃vs us:List Value,v=.func (.func (V.E.ρ f)) vs.toArray us.toArray/\ed V fs vs/\ed V cs us
 | .iface t p,v=>∃u,v=.iface (V.E.τ t) u/\VA V p u
 | .agg ps,v=>∃vs:List Value,v=.agg vs.toArray/\ed V ps vs
 | .tuple ps,v=>∃vs:List Value,v=.tuple vs.toArray/\ed V ps vs
def ed(V:View):List AV->List Value->Prop
 |[],vs=>vs=[]
 |p::ps,vs=>∃u us,vs=u::us/\VA V p u/\ed V ps us
end
def mT(V:View):List AV->Nat->Nat->Prop
 |[],_,_=>True
 |p::ps,b,o=>(∃u,V.w.cell? ⟨b,o,none⟩=some u/\cN u/\VA V p u)/\mT V ps b (o+1)
structure iL(V V':View):Prop where
 env:V'.E=V.E
 stays:mC V.ok V'.ok V.w V'.w
 used:∀i,V.U i->V'.U i
 keep:∀i s,V.U i->V'.I i=some s->V.I i=some s/\V'.M i=V.M i/\V'.w.shape? (V.M i)=V.w.shape? (V.M i)
mutual
theorem db{V V':View}(H:iL V V'):(a:AV)->(v:Value)->VA V a v->VA V' a v
 | .pv q,v,h=>by
  simp only[VA]at h⊢;rw[H.env];exact iz H.stays q v h
 | .bu,v,h=>by simpa only[VA]using h
 | .bot,v,h=>by simp only[VA]
 | .ptr id i off,v,h=>by
  simp only[VA]at h⊢;refine⟨H.used _ h.1,h.2.1,fun s hs=>?_⟩;obtain⟨h1,h2,h3⟩:=H.keep id s h.1 hs;rw[h2];exact h.2.2 s h1
 | .ms id,v,h=>by
  simp only[VA]at h⊢;refine⟨H.used _ h.1,h.2.1,fun s hs=>?_⟩;obtain⟨h1,h2,h3⟩:=H.keep id s h.1 hs;rw[h2,h3];exact h.2.2 s h1
 | .gd id off len,v,h=>by
  simp only[VA]at h⊢;refine⟨H.used _ h.1,h.2.1,fun s hs=>?_⟩;obtain⟨h1,h2,h3⟩:=H.keep id s h.1 hs;rw[h2,h3];exact h.2.2 s h1
 | .tT id off len,v,h=>by
  simp only[VA]at h⊢;refine⟨H.used _ h.1,h.2.1,fun s hs=>?_⟩;obtain⟨h1,h2,h3⟩:=H.keep id s h.1 hs;rw[h2];exact h.2.2 s h1
 | .map id,v,h=>by
  simp only[VA]at h⊢;refine⟨H.used _ h.1,h.2.1,fun s hs=>?_⟩;obtain⟨h1,h2,h3⟩:=H.keep id s h.1 hs;rw[h2];exact h.2.2 s h1
 | .func f fs cs,v,h=>by
  simp only[VA]at h⊢;obtain⟨vs,us,h1,h2,h3⟩:=h;rw[H.env];exact⟨vs,us,h1,ij H fs vs h2,ij H cs us h3⟩
 | .iface t p,v,h=>by
  simp only[VA]at h⊢;obtain⟨u,h1,h2⟩:=h;rw[H.env];exact⟨u,h1,db H p u h2⟩
 | .agg ps,v,h=>by
  simp only[VA]at h⊢;obtain⟨vs,h1,h2⟩:=h;exact⟨vs,h1,ij H ps vs h2⟩
 | .tuple ps,v,h=>by
  simp only[VA]at h⊢;obtain⟨vs,h1,h2⟩:=h;exact⟨vs,h1,ij H ps vs h2⟩
theorem ij{V V':View}(H:iL V V'):(as:List AV)->(vs:List Value)->ed V as vs->ed V' as vs
 |[],vs,h=>by simpa only[ed]using h
 |a::l,vs,h=>by
  simp only[ed]at h⊢;obtain⟨u,us,h1,h2,h3⟩:=h;exact⟨u,us,h1,db H a u h2,ij H l us h3⟩
end
theorem tI{V V':View}(H:iL V V'):∀(cs:List AV) (b o:Nat),(∀o,V'.w.cell? ⟨b,o,none⟩=V.w.cell? ⟨b,o,none⟩) ->
    mT V cs b o->mT V' cs b o
 |[],b,o,_,h=>by simp only[mT]
 |a::l,b,o,hb,h=>by
  simp only[mT]at h⊢;obtain⟨⟨u,h1,hs,h2⟩,h3⟩:=h;exact⟨⟨u,by rw[hb];exact h1,hs,db H a u h2⟩,tI H l b (o+1) hb h3⟩
def ji(E:Env)(w:World)(ok:Nat->Prop):List (PV×PV)->List MapEntry->Prop
 |[],ms=>ms=[]
 |(k,x)::es,ms=>∃m rest,ms=m::rest/\VP E w ok k m.key/\VP E w ok x m.val/\ji E w ok es rest
theorem mW{E:Env}{w w':World}{ok ok':Nat->Prop}(H:mC ok ok' w w'):∀(es:List (PV×PV)) (ms:List MapEntry),ji E w ok es ms->ji E w' ok' es ms
 |[],ms,h=>by simpa only[ji]using h
 |(k,x)::es,ms,h=>by
  simp only[ji]at h⊢;obtain⟨m,rest,h1,h2,h3,h4⟩:=h;exact⟨m,rest,h1,iz H k _ h2,iz H x _ h3,mW H es rest h4⟩
def pH(V:View)(b:Nat):dx->Prop
 | .dead=>True
 | .var cs=>∃c t,V.w.heap[b]? =some (.cells c t (0,0))/\c.size=cs.length/\mT V cs b 0
 | .row sz es=>∃c t,V.w.heap[b]? =some (.cells c t (0,0))/\es.length*sz<=c.size/\di V.E V.w V.ok es b 0 sz
 | .map es=>∃ms Bm,V.w.heap[b]? =some (.map ms Bm)/\ji V.E V.w V.ok es ms.toList /\
     (∀m∈ms.toList,m.born<Bm)/\ms.toList.Pairwise (fun a b=>a.born≠b.born)
 | .obj o=>V.w.heap[b]? =some o
theorem fx{V V':View}(H:iL V V'){b:Nat}(B:dx)(hb:B≠ .dead->V'.w.heap[b]? =V.w.heap[b]?)(h:pH V b B):pH V' b B:=by
 cases B with
 |dead=>trivial
 |var cs =>
  have hb:=hb (by simp);have hc:∀o,V'.w.cell? ⟨b,o,none⟩=V.w.cell? ⟨b,o,none⟩:=fun o=>by simp only[World.cell?,hb]
  obtain⟨c,t,h1,h2,h3⟩:=h;exact⟨c,t,hb.trans h1,h2,tI H cs b 0 hc h3⟩
 |row sz es =>
  have hb:=hb (by simp);have hc:∀o,V'.w.cell? ⟨b,o,none⟩=V.w.cell? ⟨b,o,none⟩:=fun o=>by simp only[World.cell?,hb]
  obtain⟨c,t,h1,h2,h3⟩:=h;refine⟨c,t,hb.trans h1,h2,?_⟩;rw[H.env];exact gg H.stays es b 0 sz hc h3
 |map es =>
  have hb:=hb (by simp);obtain⟨ms,Bm,h1,h2,h3⟩:=h;refine⟨ms,Bm,hb.trans h1,?_,h3⟩;rw[H.env];exact mW H.stays es _ h2
 |obj o=>exact(hb (by simp)).trans h
structure jF(S:Nat->Prop)(w w':World):Prop where
 os:w'.os=w.os
 tape:w'.tape=w.tape
 output:w'.output=w.output
 size:w.heap.size<=w'.heap.size
 block:∀b,b<w.heap.size->¬S b->w'.heap[b]? =w.heap[b]?
theorem jF.refl{S:Nat->Prop}{w:World}:jF S w w:=⟨rfl,rfl,rfl,ax _,fun _ _ _=>rfl⟩
theorem jF.trans{S S':Nat->Prop}{w w1 w2:World}(h:jF S w w1)(h':jF S' w1 w2)(hs:∀b,b<w.heap.size->S' b->S b):jF S w w2 :=
 ⟨h'.os.trans h.os,h'.tape.trans h.tape,h'.output.trans h.output,cG h.size h'.size,fun b hb hn =>
  (h'.block b (dy hb h.size) (fun qY=>hn (hs b hb qY))).trans (h.block b hb hn)⟩
structure Ctx where
 E:Env
 K:Nat->Prop
 w0:World
 S:Nat->Prop
 N:Nat
 G:AV->Value->Prop
 H8:E.inv w0/\∀p∈E.gl,¬S p.1
abbrev Fr:=Nat->AV
abbrev Hp:=Nat->dx
def ju(X:Ctx)(w:World)(M:Nat->Nat)(H:Hp)(b:Nat):Prop:=b<w.heap.size/\¬X.K b/\∀i,H i≠ .dead->M i≠b
def aB(X:Ctx)(w:World)(U:Nat->Prop)(M:Nat->Nat)(H:Hp):View :=
 {E:=X.E,w,ok:=ju X w M H,U,M,I:=fun i=>(H i).info}
structure Rel(X:Ctx)(M:Nat->Nat)(F:Fr)(H:Hp)(U:Nat->Prop)(a:Act)(w:World):Prop where
 defers:a.defers=[]
 size:a.tmps.size=X.N
 keeps:jF X.S X.w0 w
 K:∀b,X.K b->b<X.w0.heap.size
 used:∀i,H i≠ .dead->U i
 inj:∀i j,H i≠ .dead->H j≠ .dead->M i=M j->i=j
 own:∀i,H i≠ .dead->M i<w.heap.size/\¬X.K (M i)/\(X.S (M i)\/X.w0.heap.size<=M i)
 blk:∀i,pH (aB X w U M H) (M i) (H i)
 fr:∀t,VA (aB X w U M H) (F t) (a.tmps.getD t undef)
 gh:∀v u,X.G v u->VA (aB X w U M H) v u
theorem Rel.inv{X:Ctx}{M:Nat->Nat}{F:Fr}{H:Hp}{U:Nat->Prop}{a:Act}{w:World}(R:Rel X M F H U a w):X.E.inv w:=fun p hp=>by
 obtain⟨h1,h2⟩:=X.H8.1 p hp;refine⟨dy h1 R.keeps.size,?_⟩;rw[<-h2];have:=R.keeps.block p.1 h1 (X.H8.2 p hp);unfold World.cell?;simp only[this]
theorem Rel.gl{X:Ctx}{M:Nat->Nat}{F:Fr}{H:Hp}{U:Nat->Prop}{a:Act}{w:World}(R:Rel X M F H U a w):∀p∈X.E.gl,∀i,H i≠ .dead->M i≠p.1:=fun p hp i hi he=>by
 rcases(R.own i hi).2.2 with h|h
 ·exact X.H8.2 p hp (he▸h)
 ·have:=(X.H8.1 p hp).1;omega
theorem f6{k t:Nat}(h:k≠t):Nat.beq k t=false:=by
 rw[<-Bool.not_eq_true,Nat.beq_eq];exact h
theorem cg(k:Nat):Nat.beq k k=true:=by rw[Nat.beq_eq]
/-! ### Frames and OP as lists,the Sy first -/
def look:List (Nat×AV)->Nat->AV
 |[],_=>.bot
 |(k,v)::r,t=>cond (Nat.beq k t) v (look r t)
def ah:List (Nat×dx)->Nat->dx
 |[],_=>.dead
 |(k,v)::r,t=>cond (Nat.beq k t) v (ah r t)
def put(F:Fr)(d:Option Nat)(v:AV):Fr:=match d with|none=>F|some k=>fun t=>cond (Nat.beq k t) v (F t)
def wr(H:Hp):List (Nat×dx)->Hp
 |[]=>H
 |(k,v)::r=>fun t=>cond (Nat.beq k t) v (wr H r t)
/-! ### The QB small Pu -/
theorem jt(w:World)(o:Obj)(b:Nat)(hb:b<w.heap.size):({w with heap:=w.heap.push o}:World).heap[b]? =w.heap[b]? :=by
 simp[Array.getElem?_push,Nat.ne_of_lt hb]
theorem iw(w:World)(o:Obj):({w with heap:=w.heap.push o}:World).heap[w.heap.size]? =some o:=by
 simp
theorem eM{w:World}{b:Nat}{c:Array Value}{t:TypeId}{f:Nat×Nat}(h:w.heap[b]? =some (.cells c t f))(o:Nat):w.cell? ⟨b,o,none⟩=c[o]? :=by
 simp[World.cell?,h]
theorem fJ{w w':World}{b:Nat}(h:w'.heap[b]? =w.heap[b]?):w'.shape? b=w.shape? b:=by
 simp[World.shape?,h]
theorem G8{V:View}{b:Nat}{B:dx}(h:pH V b B)(hd:B≠ .dead):b<V.w.heap.size:=by
 have:∃o,V.w.heap[b]? =some o:=by
  cases B with
  |dead=>exact absurd rfl hd
  |var cs=>obtain⟨c,t,h1,_⟩:=h;exact⟨_,h1⟩
  |row sz es=>obtain⟨c,t,h1,_⟩:=h;exact⟨_,h1⟩
  |map es=>obtain⟨c,t,h1,_⟩:=h;exact⟨_,h1⟩
  |obj o=>exact⟨o,h⟩
 obtain⟨o,ho⟩:=this;exact(cf.1 ho).1
section
variable{X:Ctx}{M:Nat->Nat}{F:Fr}{H:Hp}{U:Nat->Prop}{a:Act}{w:World}
theorem Rel.put(R:Rel X M F H U a w){d:Option Nat}{av:AV}{v:Value}(hv:VA (aB X w U M H) av v)(hd:∀k,d=some k->k<X.N):Rel X M (put F d av) H U (a.put d v) w:=by
 cases d with
 |none=>exact R
 |some k =>
  refine{R with defers:=R.defers,size:=by simpa[Act.put]using R.size,fr:=fun t=>?_};have hk:=hd k rfl;simp only[Ab.put,Act.put];by_cases h:k=t
  ·subst h;rw[cg];simpa[R.size,hk]using hv
  ·rw[f6 h];simpa[h,eb]using R.fr t
theorem Rel.drew(R:Rel X M F H U a w)(n:Nat):Rel X M F H U a {w with drawn:=n}:=by
 have ht:iL (aB X w U M H) (aB X {w with drawn:=n} U M H) :=
  ⟨rfl,⟨fun _ h=>h,fun _ _=>rfl⟩,fun _ h=>h,fun _ _ _ h=>⟨h,rfl,rfl⟩⟩
 exact{defers:=R.defers,size:=R.size,keeps:=⟨R.keeps.os,R.keeps.tape,R.keeps.output,R.keeps.size,R.keeps.block⟩,K:=R.K,used:=R.used,inj:=R.inj,own:=R.own,
       blk:=fun i=>fx ht _ (fun _=>rfl) (R.blk i),fr:=fun t=>db ht _ _ (R.fr t),gh:=fun v u h=>db ht _ _ (R.gh v u h)}
end
end
section
/-! ### QI of cells,cell by cell -/
theorem gn{E:Env}{w:World}{ok:Nat->Prop}:∀(ps:List PV) (vs:List Value),VPs E w ok ps vs↔vs.length=ps.length/\∀(j:Nat) p v,ps[j]? =some p->vs[j]? =some v->VP E w ok p v
 |[],vs=>by
  simp only[VPs];constructor
  ·rintro rfl;exact⟨rfl,fun j p v h=>by simp at h⟩
  ·rintro⟨h,_⟩;exact bX (by simpa using h)
 |p::ps,vs=>by
  simp only[VPs];constructor
  ·rintro⟨u,us,rfl,h1,h2⟩
   obtain⟨h3,h4⟩:=(gn ps us).1 h2;refine⟨by simp[h3],fun j q v hq hv=>?_⟩;cases j with
   |zero=>simp at hq hv;subst hq;subst hv;exact h1
   |succ j=>exact h4 j q v (by simpa using hq) (by simpa using hv)
  ·rintro⟨h1,h2⟩
   cases vs with
   |nil=>simp at h1
   |cons u us =>
    refine⟨u,us,rfl,h2 0 p u rfl rfl,(gn ps us).2 ⟨by simpa using h1,fun j q v hq hv=>h2 (j+1) q v (by simpa using hq) (by simpa using hv)⟩⟩
theorem ig{V:View}:∀(ps:List AV) (vs:List Value),ed V ps vs↔vs.length=ps.length/\∀(j:Nat) p v,ps[j]? =some p->vs[j]? =some v->VA V p v
 |[],vs=>by
  simp only[ed];constructor
  ·rintro rfl;exact⟨rfl,fun j p v h=>by simp at h⟩
  ·rintro⟨h,_⟩;exact bX (by simpa using h)
 |p::ps,vs=>by
  simp only[ed];constructor
  ·rintro⟨u,us,rfl,h1,h2⟩
   obtain⟨h3,h4⟩:=(ig ps us).1 h2;refine⟨by simp[h3],fun j q v hq hv=>?_⟩;cases j with
   |zero=>simp at hq hv;subst hq;subst hv;exact h1
   |succ j=>exact h4 j q v (by simpa using hq) (by simpa using hv)
  ·rintro⟨h1,h2⟩
   cases vs with
   |nil=>simp at h1
   |cons u us =>
    refine⟨u,us,rfl,h2 0 p u rfl rfl,(ig ps us).2 ⟨by simpa using h1,fun j q v hq hv=>h2 (j+1) q v (by simpa using hq) (by simpa using hv)⟩⟩
theorem eF{E:Env}{w:World}{ok:Nat->Prop}{b:Nat}:∀(ps:List PV) (o:Nat),iu E w ok ps b o↔∀(j:Nat) p,ps[j]? =some p->∃u,w.cell? ⟨b,o+j,none⟩=some u/\cN u/\VP E w ok p u
 |[],o=>by simp[iu]
 |p::ps,o=>by
  simp only[iu];rw[eF ps (o+1)];constructor
  ·rintro⟨h1,h2⟩ j q hq
   cases j with
   |zero=>simp at hq;subst hq;exact h1
   |succ j=>have:=h2 j q (by simpa using hq);rwa [eW,Nat.add_comm 1 j]at this
  ·intro h;refine⟨h 0 p rfl,fun j q hq=>?_⟩;have:=h (j+1) q (by simpa using hq);rwa [<-Nat.add_comm 1 j,<-eW]at this
theorem qu{V:View}{b:Nat}:∀(ps:List AV) (o:Nat),mT V ps b o↔∀(j:Nat) p,ps[j]? =some p->∃u,V.w.cell? ⟨b,o+j,none⟩=some u/\cN u/\VA V p u
 |[],o=>by simp[mT]
 |p::ps,o=>by
  simp only[mT];rw[qu ps (o+1)];constructor
  ·rintro⟨h1,h2⟩ j q hq
   cases j with
   |zero=>simp at hq;subst hq;exact h1
   |succ j=>have:=h2 j q (by simpa using hq);rwa [eW,Nat.add_comm 1 j]at this
  ·intro h;refine⟨h 0 p rfl,fun j q hq=>?_⟩;have:=h (j+1) q (by simpa using hq);rwa [<-Nat.add_comm 1 j,<-eW]at this
theorem eH{E:Env}{w:World}{ok:Nat->Prop}{b sz:Nat}:∀(es:List (List PV)) (o:Nat),di E w ok es b o sz↔∀(i:Nat) e,es[i]? =some e->e.length=sz/\iu E w ok e b (o+i*sz)
 |[],o=>by simp[di]
 |e::es,o=>by
  simp only[di];rw[eH es (o+sz)];constructor
  ·rintro⟨h1,h2,h3⟩ i q hq
   cases i with
   |zero=>simp at hq;subst hq;simpa using⟨h1,h2⟩
   |succ i =>
    have:=h3 i q (by simpa using hq);rwa [show o+sz+i*sz=o+(i+1)*sz by rw[dq];omega]at this
  ·intro h;refine⟨(h 0 e rfl).1,by simpa using(h 0 e rfl).2,fun i q hq=>?_⟩;have:=h (i+1) q (by simpa using hq);rwa [show o+(i+1)*sz=o+sz+i*sz by rw[dq];omega]at this
/-! ### A block written -/
def fY(w:World)(b:Nat)(o:Obj):World:={w with heap:=w.heap.setIfInBounds b o}
theorem kO(w:World)(b:Nat)(o:Obj):(fY w b o).heap.size=w.heap.size:=by simp[fY]
theorem dB{w:World}{b:Nat}(o:Obj)(h:b<w.heap.size):(fY w b o).heap[b]? =some o:=by simp[fY,h]
theorem iK{w:World}{b c:Nat}(o:Obj)(h:b≠c):(fY w b o).heap[c]? =w.heap[c]? :=by simp[fY,eb h]
theorem FL(w:World)(b:Nat)(o o':Obj):fY (fY w b o) b o'=fY w b o':=by
 simp only[fY]
 congr 1
 apply Array.ext_getElem?;intro i;by_cases h:b=i
 ·subst h;by_cases hb:b<w.heap.size <;>simp[hb]
 ·simp[eb h]
theorem FK{w:World}{b:Nat}{o:Obj}(h:w.heap[b]? =some o):fY w b o=w:=by
 simp only[fY];have:w.heap.setIfInBounds b o=w.heap:=by
  apply Array.ext_getElem?;intro i;by_cases hb:b=i
  ·subst hb;have hlt:b<w.heap.size:=(cf.1 h).1;rw[h];simp[hlt]
  ·simp[eb hb]
 rw[this]
theorem setCell_eq{w:World}{b:Nat}{c:Array Value}{t:TypeId}{f:Nat×Nat}(h:w.heap[b]? =some (.cells c t f))(o:Nat)(v:Value) :
    w.setCell ⟨b,o,none⟩ v=fY w b (.cells (c.setIfInBounds o v) t f):=by
 simp only[fY,World.setCell]
 congr 1
 have hlt:b<w.heap.size:=(cf.1 h).1;apply Array.ext_getElem?;intro i;by_cases hb:b=i
 ·subst hb;obtain⟨uP,hg⟩:=cf.1 h;rw[Array.getElem?_modify,aW rfl,h];simp[hlt]
 ·simp[Array.getElem?_modify,eb hb,hb]
def patch(c:Array Value)(o:Nat):List Value->Array Value
 |[]=>c
 |v::r=>patch (c.setIfInBounds o v) (o+1) r
theorem fI:∀(vs:List Value) (c:Array Value) (o:Nat),(patch c o vs).size=c.size
 |[],c,o=>rfl
 |v::r,c,o=>by simp only[patch];rw[fI];simp
theorem mP:∀(vs:List Value) (c:Array Value) (o j:Nat),o+vs.length<=c.size->(patch c o vs)[j]? =if o<=j/\j<o+vs.length then vs[j-o]? else c[j]?
 |[],c,o,j,h=>by
  simp only[patch];rw[ar (by simp)]
 |v::r,c,o,j,h=>by
  simp only[patch];have hl:(v::r).length=r.length+1:=rfl;rw[mP r _ (o+1) j (by simp;omega)];by_cases h1:o=j
  ·subst h1;rw[ar (by omega),aW (by omega)];have:o<c.size:=by omega
   simp[this]
  ·by_cases h2:o+1<=j/\j<o+1+r.length
   ·rw[aW h2,aW (by omega)];obtain⟨k,hk⟩:∃k,j-o=k+1:=⟨j-o-1,by omega⟩;rw[hk,eE,show j-(o+1)=k by omega]
   ·rw[ar h2,ar (by omega)];simp[eb h1]
def eI{α:Type}:List α->Nat->List α->List α
 |l,_,[]=>l
 |[],_,_=>[]
 |a::l,0,x::r=>x::eI l 0 r
 |a::l,n+1,xs=>a::eI l n xs
theorem gE{α:Type}:∀(l:List α) (o:Nat) (xs:List α),(eI l o xs).length=l.length
 |l,_,[]=>by cases l <;>rfl
 |[],_,_::_=>rfl
 |a::l,0,x::r=>by simp only[eI,ay,gE l 0 r]
 |a::l,n+1,x::r=>by simp only[eI,ay,gE l n (x::r)]
theorem nA{α:Type}:∀(l:List α) (o:Nat) (xs:List α) (j:Nat),o+xs.length<=l.length->(eI l o xs)[j]? =if o<=j/\j<o+xs.length then xs[j-o]? else l[j]?
 |l,o,[],j,h=>by
  rw[ar (by simp)];cases l <;>rfl
 |[],o,x::r,j,h=>by simp at h
 |a::l,0,x::r,j,h=>by
  simp only[eI];cases j with
  |zero=>simp
  |succ j =>
   simp only[eE,ay]at h⊢;rw[nA l 0 r j (by omega)];by_cases h1:j<r.length
   ·rw[aW (by omega),aW (by omega)];simp
   ·rw[ar (by omega),ar (by omega)]
 |a::l,n+1,x::r,j,h=>by
  simp only[eI];cases j with
  |zero=>simp
  |succ j =>
   simp only[eE,ay]at h⊢;rw[nA l n (x::r) j (by simp;omega)];by_cases h1:n<=j/\j<n+(x::r).length
   ·simp only[ay]at h1;rw[aW (by simpa using h1),aW (by omega),show j+1-(n+1)=j-n by omega]
   ·simp only[ay]at h1;rw[ar (by simpa using h1),ar (by omega)]
/-! ### The relation U7 on -/
section
variable{X:Ctx}{M:Nat->Nat}{F:Fr}{H:Hp}{U:Nat->Prop}{a:Act}{w:World}
def wz(M:Nat->Nat)(k b:Nat):Nat->Nat:=fun i=>cond (Nat.beq k i) b (M i)
theorem cS(M:Nat->Nat)(k b:Nat):wz M k b k=b:=by simp[wz,cg]
theorem cI{M:Nat->Nat}{k b i:Nat}(h:k≠i):wz M k b i=M i:=by simp[wz,f6 h]
theorem dY(H:Hp)(k:Nat)(B:dx)(r:List (Nat×dx)):wr H ((k,B)::r) k=B:=by simp[wr,cg]
theorem eu(H:Hp){k i:Nat}(B:dx)(r:List (Nat×dx))(h:k≠i):wr H ((k,B)::r) i=wr H r i:=by simp[wr,f6 h]
theorem Rel.turn(R:Rel X M F H U a w){w':World}{M':Nat->Nat}{H':Hp}{U':Nat->Prop}
    (lQ:w.heap.size<=w'.heap.size)
    (sO:∀b,b<w.heap.size->(∀i,H i≠ .dead->M i≠b)->w'.heap[b]? =w.heap[b]?)
    (S3:∀i,H' i≠ .dead->(∃j,H j≠ .dead/\M' i=M j)\/w.heap.size<=M' i)
    (Po:∀i,U i->U' i)
    (OW:∀i s,U i->(H' i).info=some s->(H i).info=some s/\M' i=M i/\w'.shape? (M i)=w.shape? (M i)) :
    iL (aB X w U M H) (aB X w' U' M' H'):=by
 refine⟨rfl,⟨fun b hb=>⟨dy hb.1 lQ,hb.2.1,fun i hi=>?_⟩,fun b hb=>sO b hb.1 hb.2.2⟩,Po,OW⟩;rcases S3 i hi with⟨j,h1,h2⟩|h
 ·rw[h2];exact hb.2.2 j h1
 ·intro h';have:b<w.heap.size:=hb.1;omega
theorem Rel.new(R:Rel X M F H U a w)(o:Obj)(B:dx)(k:Nat)(hk:¬U k)(hd:B≠ .dead)
    (hB:pH (aB X {w with heap:=w.heap.push o} (fun i=>U i\/i=k) (wz M k w.heap.size) (wr H [(k,B)])) w.heap.size B) :
    Rel X (wz M k w.heap.size) F (wr H [(k,B)]) (fun i=>U i\/i=k) a {w with heap:=w.heap.push o}:=by
 have Ls:H k=.dead:=xA fun h=>hk (R.used k h);have hH:∀i,k≠i->wr H [(k,B)] i=H i:=fun i h=>by rw[eu H B [] h];rfl
 have T:iL (aB X w U M H) (aB X {w with heap:=w.heap.push o} (fun i=>U i\/i=k) (wz M k w.heap.size) (wr H [(k,B)])):=by
  refine R.turn (by simp) (fun b hb _=>jt w o b hb) (fun i hi=>?_) (fun i h=>.inl h) (fun i s hu hs=>?_)
  ·by_cases h:k=i
   ·subst h;exact .inr (by rw[cS];exact ax _)
   ·rw[hH i h]at hi;exact .inl ⟨i,hi,cI h⟩
  ·by_cases h:k=i
   ·subst h;exact absurd hu hk
   ·rw[hH i h]at hs;refine⟨hs,cI h,fJ (jt w o _ (R.own i ?_).1)⟩;intro h';rw[h']at hs;simp[dx.info]at hs
 refine{defers:=R.defers,size:=R.size,keeps:=⟨R.keeps.os,R.keeps.tape,R.keeps.output,?_,fun b hb hn=>?_⟩,K:=R.K,used:=fun i hi=>?_,inj:=fun i j hi hj rY=>?_,
        own:=fun i hi=>?_,blk:=fun i=>?_,fr:=fun t=>db T _ _ (R.fr t),gh:=fun v u h=>db T _ _ (R.gh v u h)}
 ·have:=R.keeps.size;simp;omega
 ·rw[jt w o b (dy hb R.keeps.size)];exact R.keeps.block b hb hn
 ·by_cases h:k=i
  ·exact .inr h.symm
  ·rw[hH i h]at hi;exact .inl (R.used i hi)
 ·by_cases h1:k=i
  ·subst h1;by_cases h2:k=j
   ·exact h2
   ·rw[hH j h2]at hj;rw[cS,cI h2]at rY;have:=(R.own j hj).1;omega
  ·rw[hH i h1]at hi;by_cases h2:k=j
   ·subst h2;rw[cS,cI h1]at rY;have:=(R.own i hi).1;omega
   ·rw[hH j h2]at hj;rw[cI h1,cI h2]at rY;exact R.inj i j hi hj rY
 ·by_cases h:k=i
  ·subst h;rw[cS];refine⟨by simp,fun hK=>?_,.inr R.keeps.size⟩;have h1:=R.K _ hK;have h2:=R.keeps.size;omega
  ·rw[hH i h]at hi;rw[cI h];obtain⟨h1,h2,h3⟩:=R.own i hi;exact⟨by simp;omega,h2,h3⟩
 ·by_cases h:k=i
  ·subst h;rw[cS,dY];exact hB
  ·rw[hH i h,cI h];refine fx T _ (fun eA=>jt w o _ (R.own i eA).1) (R.blk i)
theorem Rel.write(R:Rel X M F H U a w)(o:Obj)(B:dx)(k:Nat)(hk:H k≠ .dead)(hd:B≠ .dead)(hi:B.info=(H k).info)
    (hs:(fY w (M k) o).shape? (M k)=w.shape? (M k))
    (hB:pH (aB X (fY w (M k) o) U M (wr H [(k,B)])) (M k) B) :
    Rel X M F (wr H [(k,B)]) U a (fY w (M k) o):=by
 have hH:∀i,k≠i->wr H [(k,B)] i=H i:=fun i h=>by rw[eu H B [] h];rfl
 have fL:∀i,wr H [(k,B)] i≠ .dead->H i≠ .dead:=fun i h=>by
  by_cases h':k=i
  ·subst h';exact hk
  ·rwa [hH i h']at h
 have T:iL (aB X w U M H) (aB X (fY w (M k) o) U M (wr H [(k,B)])):=by
  refine R.turn (by rw[kO];exact ax _) (fun b hb hn=>iK o (hn k hk)) (fun i cW=>.inl ⟨i,fL i cW,rfl⟩) (fun i h=>h) (fun i s hu qY=>?_);by_cases h:k=i
  ·subst h;rw[dY,hi]at qY;exact⟨qY,rfl,hs⟩
  ·rw[hH i h]at qY;refine⟨qY,rfl,fJ (iK o fun he=>h ?_)⟩;exact R.inj k i hk (fun h'=>by rw[h']at qY;simp[dx.info]at qY) he
 refine{defers:=R.defers,size:=R.size,keeps:=⟨R.keeps.os,R.keeps.tape,R.keeps.output,by rw[kO];exact R.keeps.size,fun b hb hn=>?_⟩,K:=R.K,used:=fun i cW=>R.used i (fL i cW),
        inj:=fun i j h1 h2 h3=>R.inj i j (fL i h1) (fL j h2) h3,own:=fun i cW=>by rw[kO];exact R.own i (fL i cW),blk:=fun i=>?_,fr:=fun t=>db T _ _ (R.fr t),gh:=fun v u h=>db T _ _ (R.gh v u h)}
 ·rw[iK o ?_]
  ·exact R.keeps.block b hb hn
  ·intro he;rcases(R.own k hk).2.2 with h|h
   ·rw[he]at h;exact hn h
   ·omega
 ·by_cases h:k=i
  ·subst h;rw[dY];exact hB
  ·rw[hH i h];exact fx T _ (fun eA=>iK o fun he=>h (R.inj k i hk eA he)) (R.blk i)
theorem Rel.qp(R:Rel X M F H U a w)(o:Obj)(B:dx)(k:Nat)(hk:H k≠ .dead)(hi:B.info=(H k).info)
    (hs:(fY w (M k) o).shape? (M k)=w.shape? (M k)):iL (aB X w U M H) (aB X (fY w (M k) o) U M (wr H [(k,B)])):=by
 have hH:∀i,k≠i->wr H [(k,B)] i=H i:=fun i h=>by rw[eu H B [] h];rfl
 refine R.turn (by rw[kO];exact ax _) (fun b hb hn=>iK o (hn k hk)) (fun i cW=>.inl ⟨i,?_,rfl⟩) (fun i h=>h) (fun i s hu qY=>?_)
 ·by_cases h':k=i
  ·subst h';exact hk
  ·rwa [hH i h']at cW
 ·by_cases h:k=i
  ·subst h;rw[dY,hi]at qY;exact⟨qY,rfl,hs⟩
  ·rw[hH i h]at qY;refine⟨qY,rfl,fJ (iK o fun he=>h ?_)⟩;exact R.inj k i hk (fun h'=>by rw[h']at qY;simp[dx.info]at qY) he
end
end
section
inductive AO where
 |t (n:Nat)
 |c (v:AV)
 |f (n:Nat)
 deriving Inhabited
inductive J8 where
 |bool|str|ptr|iface (code:Bool)|slice|func|plain (bs:List Bool)
 deriving Inhabited,DecidableEq
inductive fE where
 |mv (x:AO)
 |pick (c a b:AO)
 |alloc (cs:List AV)
 |box (x:AO)
 |build (zero:List AV) (parts:List (Nat×Nat×AO))
 |cr (sz len:Nat) (zero:List AV) (parts:List (Nat×Nat×AO))
 |load (agg:Bool) (n:Nat) (x:AO)
 |store (n:Nat) (x y:AO)
 |jS (x:AO)
 |bin (op:BinOp) (k:Option J8) (x y:AO)
 |not (x:AO)
 |neg (x:AO)
 |conv (k:IntKind) (x:AO)
 |Vh (x:AO)
 |G2 (x:AO)
 |lr (t:Nat) (x:AO)
 |xa (f:Nat) (first cap:List AO)
 |fieldAddr (off:Nat) (x:AO)
 |ox (agg:Bool) (off n:Nat) (x:AO)
 |fC (sz:Nat) (x i:AO)
 |dA (len sz:Nat) (x i:AO)
 |uS (agg:Bool) (len sz:Nat) (x i:AO)
 |len (x:AO)
 |uY (x:AO)
 |wm (n:Nat)
 |extract (x:AO) (i:Nat)
 |slice (sz:Nat) (x:AO) (lo hi:Option AO)
 |hY (len sz:Nat) (x:AO) (lo hi:Option AO)
 |append (sz bytes:Nat) (s x:AO)
 |call (f:Nat) (args:List AO)
 |fK (f:AO) (args:List AO)
 |t8 (xs:List AO)
 |tb (xs:List AO)
 |mkMap
 |jR (s ok:Bool) (zero:PV) (m k:AO)
 |lj (s:Bool) (m k v:AO)
 |TJ (m:AO)
 |CE (i:AO)
 |QT (i:AO)
 |other
 deriving Inhabited
def cV:Value->Option AV
 | .bool b=>some (.pv (.bool b))
 | .int k n=>some (.pv (.int k n))
 | .string s=>some (.pv (.str s))
 | .pointer none=>some (.pv .sd)
 | .nilFunc=>some (.pv .nw)
 | .nilIface=>some (.pv .dI)
 | .slice none 0 0=>some .bu
 | .map none=>some .bot
 |_=>none
def Es:List Value->Option (List AV)
 |[]=>some []
 |v::r=>match cV v,Es r with
  |some a,some l=>some (a::l)
  |_,_=>none
theorem Lg{V:View}{v:Value}{a:AV}(h:cV v=some a):VA V a v:=by
 unfold cV at h;split at h <;>simp at h <;>subst h <;>simp[VA,VP]
theorem u5{V:View}:∀{vs:List Value} {as:List AV},Es vs=some as->ed V as vs
 |[],as,h=>by simp[Es]at h;subst h;simp[ed]
 |v::r,as,h=>by
  simp only[Es]at h;split at h
  ·rename_i a l h1 h2;simp at h;subst h;simp only[ed];exact⟨v,r,rfl,Lg h1,u5 h2⟩
  ·simp at h
def cP:Value->Option PV
 | .bool b=>some (.bool b)
 | .int k n=>some (.int k n)
 | .string s=>some (.str s)
 |_=>none
def O3:List Value->Option (List PV)
 |[]=>some []
 |v::r=>match cP v,O3 r with
  |some a,some l=>some (a::l)
  |_,_=>none
def cZ:Value->Option PV
 | .agg cs=>(O3 cs.toList).map .agg
 |v=>cP v
theorem Lf{E:Env}{w:World}{ok:Nat->Prop}{v:Value}{p:PV}(h:cP v=some p):VP E w ok p v:=by
 unfold cP at h;split at h <;>simp at h <;>subst h <;>simp[VP]
theorem GI{E:Env}{w:World}{ok:Nat->Prop}:∀{vs:List Value} {ps:List PV},O3 vs=some ps->VPs E w ok ps vs
 |[],ps,h=>by simp[O3]at h;subst h;simp[VPs]
 |v::r,ps,h=>by
  simp only[O3]at h;split at h
  ·rename_i a l h1 h2;simp at h;subst h;simp only[VPs];exact⟨v,r,rfl,Lf h1,GI h2⟩
  ·simp at h
theorem O4{E:Env}{w:World}{ok:Nat->Prop}{v:Value}{p:PV}(h:cZ v=some p):VP E w ok p v:=by
 unfold cZ at h;split at h
 ·rename_i cs;simp only[aH]at h;obtain⟨l,h1,rfl⟩:=h;simp only[VP];exact⟨cs.toList,rfl,GI h1⟩
 ·exact Lf h
def s7(s:Bool):TypeDesc->Bool
 | .int _=>!s
 | .string=>s
 |_=>false
section
variable(E:Env)
def cO:Operand->Option AO
 | .tmp t=>some (.t t)
 | .const v=>(cV v).map .c
 | .func f=>(E.FG f).map .f
 | .global _=>none
def qC:List Operand->Option (List AO)
 |[]=>some []
 |x::r=>match cO E x,qC r with
  |some a,some l=>some (a::l)
  |_,_=>none
end
def dF(F:Fr):AO->AV
 | .t n=>F n
 | .c v=>v
 | .f n=>.func n [] []
def fg(F:Fr):List AO->List AV
 |[]=>[]
 |x::r=>dF F x::fg F r
def AO.tmps:AO->List Nat
 | .t n=>[n]
 |_=>[]
section
variable{X:Ctx}{M:Nat->Nat}{F:Fr}{H:Hp}{U:Nat->Prop}{a:Act}{w:World}
theorem dc(hE:X.E.OK)(R:Rel X M F H U a w){x:Operand}{y:AO}(h:cO X.E x=some y):VA (aB X w U M H) (dF F y) (a.eval x):=by
 cases x with
 |tmp t=>simp[cO]at h;subst h;exact R.fr t
 |const v =>
  simp[cO]at h;obtain⟨u,h1,h2⟩:=h;subst h2;exact Lg h1
 |func f =>
  simp[cO]at h;obtain⟨u,h1,h2⟩:=h;subst h2;simp only[dF,Act.eval,VA];exact⟨[],[],by rw[show(aB X w U M H).E=X.E from rfl,hE.FG f u h1],by simp[ed],by simp[ed]⟩
 |global g=>simp[cO]at h
theorem mi(hE:X.E.OK)(R:Rel X M F H U a w):∀{xs:List Operand} {ys:List AO},qC X.E xs=some ys->ed (aB X w U M H) (fg F ys) (xs.map a.eval)
 |[],ys,h=>by simp[qC]at h;subst h;simp[fg,ed]
 |x::r,ys,h=>by
  simp only[qC]at h;split at h
  ·rename_i a' l h1 h2;simp at h;subst h;simp only[fg,ed,aX];exact⟨_,_,rfl,dc hE R h1,mi hE R h2⟩
  ·simp at h
end
def cL(E:Env)(N:Nat)(o:Oper)(F:Fr)(H:Hp)(U:Nat->Prop)(v:AV)(W:List (Nat×dx))(U':Nat->Prop):Prop :=
 ∀X M a w Q,X.E=E->X.N=N->Rel X M F H U a w->o.wp E.P a w (fun a' w'=>∃M',Rel X M' (put F o.dst v) (wr H W) U' a' w') Q
theorem run_pure{α:Type}(P:Program)(a:α)(w:World):Sem.run P (pure a:Sem α) w=.ok a w:=rfl
theorem run_bind{α β:Type}(P:Program)(s:Sem α)(f:α->Sem β)(w:World):Sem.run P (s >>= f) w=match Sem.run P s w with| .ok a w'=>Sem.run P (f a) w'| .halt h w'=>.halt h w':=by
 change Sem.run P (Sem.bind s f) w=_;induction s generalizing w with
 |pure a=>rfl
 |load m a k ih =>
  simp only[Sem.bind,Sem.run];split
  ·exact ih _ _
  ·split
   ·exact ih _ _
   ·rfl
 |store m a v k ih =>
  cases v <;>simp only[Sem.bind,Sem.run] <;>(split <;>first|(split <;>first|rfl|exact ih _)|(split <;>first|rfl|exact ih _))
 |new o k ih=>simp only[Sem.bind,Sem.run];exact ih _ _
 |shape r k ih=>simp only[Sem.bind,Sem.run];exact ih _ _
 |freeze a n k ih=>simp only[Sem.bind,Sem.run];exact ih _
 |frozen a k ih=>simp only[Sem.bind,Sem.run];exact ih _ _
 |getObj r k ih =>
  simp only[Sem.bind,Sem.run];split
  ·rfl
  ·exact ih _ _
  ·rfl
 |setObj r o k ih =>
  simp only[Sem.bind,Sem.run];split
  ·rfl
  ·exact ih _
  ·rfl
 |choose q k ih =>
  simp only[Sem.bind,Sem.run];split
  ·exact ih _ _
  ·exact ih _ _
 |sys c k ih=>simp only[Sem.bind,Sem.run];exact ih _ _
 |program k ih=>simp only[Sem.bind,Sem.run];exact ih _ _
 |mark m k ih=>simp only[Sem.bind,Sem.run];exact ih _
 |halt h=>rfl
theorem cL.value{E:Env}{N:Nat}{o:Oper}{F:Fr}{H:Hp}{U:Nat->Prop}{v:AV}(hd:∀k,o.dst=some k->k<N)
    (h:∀X M a w,X.E=E->Rel X M F H U a w->∃u,(execOp a.eval o).run E.P w=.ok (.value u) w/\VA (aB X w U M H) v u):cL E N o F H U v [] U:=by
 intro X M a w Q hE hN R;obtain⟨u,h1,h2⟩:=h X M a w hE R;rw[Oper.wp,h1,Eb];exact⟨M,R.put h2 (fun k hk=>by rw[hN];exact hd k hk)⟩
end
section
def eg:TypeDesc->Bool
 | .struct _| .array _ _=>true
 |_=>false
def vh(P:Program)(T:TypeId->Option (List Bool)):List Field->Nat->Option (List Bool)
 |[],_=>some []
 |f::r,o=>match T f.type,P.info? f.type,P.underlying f.type with
  | some l, some i, some dd => if f.offset = o /\ i.size = l.length /\ f.name ≠ "_" /\ (eg dd = false -> l.length = 1) then match vh P T r (o + l.length) with
      |some l'=>some (l++l')
      |none=>none
   else none
  |_,_,_=>none
def qk(P:Program):Nat->TypeId->Option (List Bool)
 |0,_=>none
 |d+1,t=>match P.underlying t with
  |some (.int _)=>some [false]
  |some .bool=>some [true]
  |some (.struct fs)=>if P.stoodInHeld t then none else vh P (qk P d) fs.toList 0
  |some (.array len e)=>match qk P d e,P.info? e,P.underlying e with
   |some l,some i,some dd=>if i.size=l.length/\(eg dd=false->l.length=1)then some (List.replicate len l).flatten else none
   |_,_,_=>none
  |_=>none
def Di(E:Env):Bool:=match E.P.underlying (E.τ 0),E.P.info? (E.τ 0)with
 |some (.int _),some i=>i.comparable
 |_,_=>false
def Ob(E:Env)(t:TypeId):Option J8 :=
 match E.P.underlying t with
 |some .bool=>some .bool
 |some .string=>some .str
 |some (.pointer e)=>match E.P.info? e with
  |some i=>if i.size=0 then none else some .ptr
  |none=>none
 |some (.interface _)=>some (.iface (Di E))
 |some (.slice _)=>some .slice
 |some (.func _ _ _)=>some .func
 |some (.struct _)|some (.array _ _)=>if E.P.eqGuardType E.P.depth t then none else(qk E.P 20 t).map .plain
 |_=>none
section
variable(E:Env)
def jP(place:Nat->Option (Nat×Nat)):List (Nat×Operand)->Option (List (Nat×Nat×AO))
 |[]=>some []
 |(i,x)::r=>match place i,cO E x,jP place r with
  |some (off,n),some y,some l=>some ((off,n,y)::l)
  |_,_,_=>none
def gz(b:Builtin)(ts:List TypeId)(xs:List Operand):Option fE :=
 match b,ts,xs with
 | .len,[t],[x]=>match E.P.underlying t,cO E x with
  |some .string,some y=>some (.uY y)
  |some (.slice _),some y=>some (.len y)
  |some (.array n _),some _=>some (.wm n)
  |_,_=>none
 | .append,[t,u],[s,x]=>match E.P.underlying t,E.P.underlying u,cO E s,cO E x with
  |some (.slice e),some (.slice _),some s,some x=>match E.P.info? e with
   |some i=>match i.zero with
    |some z=>if z.cells.size=i.size/\i.bytes<=4096/\0<i.bytes then some (.append i.size i.bytes s x)else none
    |none=>none
   |none=>none
  |_,_,_,_=>none
 | .max,_,xs=>(qC E xs).map .t8
 | .min,_,xs=>(qC E xs).map .tb
 |_,_,_=>none
def u0(c:Call):Option fE :=
 match c.callee with
 | .value (.func f)=>match E.FG f,qC E c.args.toList with
  |some n,some l=>some (.call n l)
  |_,_=>none
 | .value (.tmp t)=>(qC E c.args.toList).map (.fK (.t t))
 | .builtin b=>gz E b c.argTypes.toList c.args.toList
 |_=>none
def ey(o:Oper):Option fE :=
 match o.op with
 | .move x| .assign x=>(cO E x).map .mv
 | .pick c a b=>match cO E c,cO E a,cO E b with
  |some c,some a,some b=>some (.pick c a b)
  |_,_,_=>none
 | .alloc e=>match(E.P.info? e).bind (·.zero)with
  |some z=>(Es z.cells.toList).map .alloc
  |none=>none
 | .box _ x=>(cO E x).map .box
 | .build t ps=>match E.P.underlying t,(E.P.info? t).bind (·.zero)with
  |some (.struct fs),some z=>match Es z.cells.toList,fs.toList.mapM (fun f=>(E.P.info? f.type).map fun i=>(f.offset,i.size))with
   |some zs,some places=>(jP E (fun i=>places[i]?) ps.toList).map (.build zs)
   |_,_=>none
  |some (.array _ e),some z=>match(E.P.info? e),Es z.cells.toList with
   |some n,some zs=>(jP E (fun i=>some (i*n.size,n.size)) ps.toList).map (.build zs)
   |_,_=>none
  |_,_=>none
 | .buildSlice t len ps=>match E.P.underlying t with
  |some (.slice e)=>match E.P.info? e with
   |some i=>match i.zero with
    |some z=>match Es z.cells.toList,jP E (fun j=>some (j*i.size,i.size)) ps.toList with
     |some zs,some l=>if z.cells.size=i.size/\len*i.size<=2^24/\0<i.size then some (.cr i.size len (List.replicate len zs).flatten l)else none
     |_,_=>none
    |none=>none
   |none=>none
  |_=>none
 | .load t x=>match E.P.underlying t,E.P.info? t,cO E x with
  |some d,some i,some y=>if eg d then some (.load true i.size y)else if i.size=1 then some (.load false 1 y)else none
  |_,_,_=>none
 | .store t x y=>match E.P.info? t,cO E x,cO E y with
  |some i,some x,some y=>some (.store i.size x y)
  |_,_,_=>none
 | .nilCheck x=>(cO E x).map .jS
 | .binOp op t x y _=>match cO E x,cO E y with
  |some x,some y=>some (.bin op (Ob E t) x y)
  |_,_=>none
 | .unOp .not _ x=>(cO E x).map .not
 | .unOp .neg _ x=>(cO E x).map .neg
 | .convert s d x=>match E.P.underlying s,E.P.underlying d,cO E x with
  |some (.int _),some (.int k),some y=>some (.conv k y)
  |some (.slice e),some .string,some y=>match E.P.underlying e with
   |some (.int .u8)=>some (.G2 y)
   |_=>none
  |_,_,_=>none
 | .makeInterface t x=>match E.P.underlying t,E.NG t,cO E x with
  |some d,some n,some y=>if d matches .interface _ then none else some (.lr n y)
  |_,_,_=>none
 | .makeFunc (.func f) first cap=>match E.FG f,qC E first.toList,qC E cap.toList with
  |some n,some a,some b=>some (.xa n a b)
  |_,_,_=>none
 | .fieldAddr s x f=>match E.P.underlying s,cO E x with
  |some (.struct fs),some y=>match fs[f]? with
   |some fd=>match E.P.info? fd.type with
    |some i=>if i.size=0 then none else some (.fieldAddr fd.offset y)
    |none=>none
   |none=>none
  |_,_=>none
 | .field s x f=>match E.P.underlying s,cO E x with
  |some (.struct fs),some y=>match fs[f]? with
   |some fd=>match E.P.info? fd.type,E.P.underlying fd.type with
    |some i,some d=>some (.ox (eg d) fd.offset (if eg d then i.size else 1) y)
    |_,_=>none
   |none=>none
  |_,_=>none
 | .indexAddr t x i=>match E.P.underlying t,cO E x,cO E i with
  |some (.slice e),some x,some i=>match E.P.info? e with
   |some n=>some (.fC n.size x i)
   |none=>none
  |some (.array len e),some x,some i=>match E.P.info? e with
   |some n=>some (.dA len n.size x i)
   |none=>none
  |_,_,_=>none
 | .index t x i=>match E.P.underlying t,cO E x,cO E i with
  |some (.array len e),some x,some i=>match E.P.info? e,E.P.underlying e with
   |some n,some d=>if eg d then some (.uS true len n.size x i)else if n.size=1 then some (.uS false len 1 x i)else none
   |_,_=>none
  |_,_,_=>none
 | .extract x i=>(cO E x).map fun y=>.extract y i
 | .slice t x lo hi none=>match E.P.underlying t,cO E x,qC E lo.toList,qC E hi.toList with
  |some (.slice e),some x,some lo,some hi=>match E.P.info? e with
   |some n=>some (.slice n.size x lo.head? hi.head?)
   |none=>none
  |some (.array len e),some x,some lo,some hi=>match E.P.info? e with
   |some n=>some (.hY len n.size x lo.head? hi.head?)
   |none=>none
  |_,_,_,_=>none
 | .makeMap _ none=>some .mkMap
 | .lookup t x i ok=>match E.P.underlying t,cO E x,cO E i with
  |some (.map kt et),some x,some i=>match E.P.underlying kt,(E.P.info? et).bind (·.zero)with
   |some d,some z=>if s7 false d then(cZ z).map fun z=>.jR false ok z x i else if s7 true d then(cZ z).map fun z=>.jR true ok z x i else none
   |_,_=>none
  |_,_,_=>none
 | .mapUpdate t m k v=>match o.dst,E.P.underlying t,cO E m,cO E k,cO E v with
  |none,some (.map kt _),some m,some k,some v=>match E.P.underlying kt with
   |some d=>if s7 false d then some (.lj false m k v)else if s7 true d then some (.lj true m k v)else none
   |_=>none
  |_,_,_,_,_=>none
 | .range t x=>match E.P.underlying t,cO E x with
  |some (.map _ _),some x=>some (.TJ x)
  |_,_=>none
 | .next it s=>match s with
  |true=>none
  |false=>(cO E it).map .CE
 | .entry it=>(cO E it).map .QT
 | .call c=>u0 E c
 |_=>none
end
def fE.dM:fE->Bool
 | .call _ _| .fK _ _| .len _| .uY _| .wm _| .append _ _ _ _| .t8 _| .tb _=>true
 |_=>false
theorem td{E:Env}{b:Builtin}{ts:List TypeId}{xs:List Operand}{a:fE}(h:gz E b ts xs=some a):a.dM=true:=by
 unfold gz at h;split at h <;>grind [aH,fE.dM]
def fE.Ct:fE->Bool
 | .len _| .uY _| .wm _| .append _ _ _ _| .t8 _| .tb _=>true
 |_=>false
theorem pJ{E:Env}{b:Builtin}{ts:List TypeId}{xs:List Operand}{a:fE}(h:gz E b ts xs=some a):a.Ct=true:=by
 unfold gz at h;split at h <;>grind [aH,fE.Ct]
theorem bU{E:Env}{c:Call}{a:fE}(h:u0 E c=some a):a.dM=true:=by
 unfold u0 at h;split at h <;>grind [aH,fE.dM,td]
/-! ### Gj taken apart and put together -/
def jj:List AV->Option (List PV)
 |[]=>some []
 | .pv p::r=>match jj r with
  |some l=>some (p::l)
  |none=>none
 |_=>none
def jY(cs:List AV):AV:=match jj cs with
 |some ps=>.pv (.agg ps)
 |none=>.agg cs
def dL:List PV->List AV
 |[]=>[]
 |p::r=>.pv p::dL r
theorem lW{V:View}:∀{ps:List PV} {vs:List Value},ed V (dL ps) vs↔VPs V.E V.w V.ok ps vs
 |[],vs=>by simp[dL,ed,VPs]
 |p::r,vs=>by
  simp only[dL,ed,VPs,VA];constructor
  ·rintro⟨u,us,h1,h2,h3⟩;exact⟨u,us,h1,h2,lW.1 h3⟩
  ·rintro⟨u,us,h1,h2,h3⟩;exact⟨u,us,h1,h2,lW.2 h3⟩
theorem mE{V:View}:∀{cs:List AV} {ps:List PV} {vs:List Value},jj cs=some ps->ed V cs vs->VPs V.E V.w V.ok ps vs
 |[],ps,vs,h,hv=>by simp[jj]at h;subst h;simpa[ed,VPs]using hv
 |c::r,ps,vs,h,hv=>by
  cases c <;>simp only[jj]at h
  case pv p =>
   split at h
   ·rename_i l hl;simp at h;subst h;simp only[ed,VPs,VA]at hv⊢;obtain⟨u,us,h1,h2,h3⟩:=hv;exact⟨u,us,h1,h2,mE hl h3⟩
   ·simp at h
  all_goals simp at h
theorem mL{V:View}{cs:List AV}{vs:List Value}(h:ed V cs vs):VA V (jY cs) (.agg vs.toArray):=by
 unfold jY;split
 ·rename_i ps iW;simp only[VA,VP];exact⟨vs,rfl,mE iW h⟩
 ·simp only[VA];exact⟨vs,rfl,h⟩
def cellsOf:AV->Option (List AV)
 | .pv (.agg ps)=>some (dL ps)
 | .agg cs=>some cs
 | .bot=>none
 | .pv (.tuple _)=>none
 | .tuple _=>none
 |v=>some [v]
theorem Eg{E:Env}{w:World}{ok:Nat->Prop}{p:PV}{v:Value}(h:VP E w ok p v)(h1:∀ps,p≠ .agg ps)(h2:∀ps,p≠ .tuple ps):v.cells= #[v]/\(∀c,v≠ .agg c)/\(∀c,v≠ .tuple c):=by
 cases p <;>simp only[VP]at h
 case agg ps=>exact absurd rfl (h1 ps)
 case tuple ps=>exact absurd rfl (h2 ps)
 case gX=>obtain⟨b,o,rfl,_⟩:=h;simp[Value.cells]
 case slice=>obtain⟨b,o,c,rfl,_⟩:=h;simp[Value.cells]
 case map=>obtain⟨b,o,c,rfl,_⟩:=h;simp[Value.cells]
 case func=>obtain⟨b,o,rfl,_⟩:=h;simp[Value.cells]
 case iface=>obtain⟨b,rfl,_⟩:=h;simp[Value.cells]
 all_goals (subst h;simp[Value.cells])
def lF:AV->Bool
 | .pv (.agg _)| .pv (.tuple _)| .agg _| .tuple _| .bot=>false
 |_=>true
def lG:List AV->Bool
 |[]=>true
 |c::r=>lF c&&lG r
theorem cN.cells{v:Value}(h:cN v):v.cells= #[v]:=by
 cases v <;>simp only[Value.cells];exact absurd rfl (h.1 _)
theorem E3{V:View}{c:AV}{v:Value}(hc:lF c=true)(h:VA V c v):cN v:=by
 cases c with
 |pv p =>
  have:=Eg (show VP V.E V.w V.ok p v by simpa only[VA]using h) (fun ps he=>by subst he;simp[lF]at hc) (fun ps he=>by subst he;simp[lF]at hc);exact⟨this.2.1,this.2.2⟩
 |bu=>simp only[VA]at h;subst h;exact⟨by simp,by simp⟩
 |bot=>simp[lF]at hc
 |ptr=>simp only[VA]at h;exact h.2.1
 |ms=>simp only[VA]at h;exact h.2.1
 |gd=>simp only[VA]at h;exact h.2.1
 |tT=>simp only[VA]at h;exact h.2.1
 |map=>simp only[VA]at h;exact h.2.1
 |func=>simp only[VA]at h;obtain⟨vs,us,rfl,_⟩:=h;exact⟨by simp,by simp⟩
 |iface=>simp only[VA]at h;obtain⟨u,rfl,_⟩:=h;exact⟨by simp,by simp⟩
 |agg=>simp[lF]at hc
 |tuple=>simp[lF]at hc
theorem rz{V:View}:∀{cs:List AV} {vs:List Value},lG cs=true->ed V cs vs->∀v∈vs,cN v
 |[],vs,h,hv,v,hm=>by simp[ed]at hv;subst hv;simp at hm
 |c::r,vs,h,hv,v,hm=>by
  simp only[ed]at hv;obtain⟨u,us,rfl,h1,h2⟩:=hv;simp only[lG,bj]at h;rcases aQ.1 hm with rfl|hm
  ·exact E3 h.1 h1
  ·exact rz h.2 h2 v hm
theorem l7{V:View}{c:AV}{cs:List AV}{v:Value}(hc:cellsOf c=some cs)(h:VA V c v):ed V cs v.cells.toList:=by
 have hs:lF c=true->cellsOf c=some [c]->ed V cs v.cells.toList:=fun h1 h2=>by
  rw[h2]at hc;simp at hc;subst hc;rw[(E3 h1 h).cells];simp only[ed];exact⟨v,[],rfl,h,rfl⟩
 cases c with
 |pv p =>
  cases p with
  |agg ps =>
   simp[cellsOf]at hc;subst hc;simp only[VA,VP]at h;obtain⟨vs,rfl,h⟩:=h;simpa[Value.cells]using lW.2 h
  |tuple ps=>simp[cellsOf]at hc
  |_=>exact hs rfl rfl
 |agg ps =>
  simp[cellsOf]at hc;subst hc;simp only[VA]at h;obtain⟨vs,rfl,h⟩:=h;simpa[Value.cells]using h
 |tuple ps=>simp[cellsOf]at hc
 |bot=>simp[cellsOf]at hc
 |_=>exact hs rfl rfl
theorem Jw{v:Value}{a:AV}(h:cV v=some a):cN v:=by
 unfold cV at h;split at h <;>simp at h <;>exact⟨by simp,by simp⟩
theorem u9:∀{vs:List Value} {as:List AV},Es vs=some as->∀v∈vs,cN v
 |[],as,h,v,hv=>by simp at hv
 |u::r,as,h,v,hv=>by
  simp only[Es]at h;split at h
  ·rename_i a l h1 h2;rcases aQ.1 hv with rfl|hv
   ·exact Jw h1
   ·exact u9 h2 v hv
  ·simp at h
def fE.lT:fE->Bool
 | .store _ _ _=>true
 |_=>false
end
section
section
variable{E:Env}{o:Oper}
theorem MU{x:AO}(h:ey E o=some (.mv x)):∃y,(o.op=.move y\/o.op=.assign y)/\cO E y=some x:=by
 unfold ey at h;split at h <;>first|exact absurd (bU h) (by simp[fE.dM])|grind [aH]
theorem HF{c a b:AO}(h:ey E o=some (.pick c a b)):∃c' a' b',o.op=.pick c' a' b'/\cO E c'=some c/\cO E a'=some a/\cO E b'=some b:=by
 unfold ey at h;split at h <;>first|exact absurd (bU h) (by simp[fE.dM])|grind [aH]
theorem F5{cs:List AV}(h:ey E o=some (.alloc cs)):∃e i z,o.op=.alloc e/\E.P.info? e=some i/\i.zero=some z/\Es z.cells.toList=some cs:=by
 unfold ey at h;split at h <;>first|exact absurd (bU h) (by simp[fE.dM])|grind [aH,pB]
theorem Kf{x:AO}(h:ey E o=some (.box x)):∃e y,o.op=.box e y/\cO E y=some x:=by
 unfold ey at h;split at h <;>first|exact absurd (bU h) (by simp[fE.dM])|grind [aH]
theorem HE{agg:Bool}{n:Nat}{x:AO}(h:ey E o=some (.load agg n x)) :
    ∃t y d i,o.op=.load t y/\cO E y=some x/\E.P.underlying t=some d/\E.P.info? t=some i/\agg=eg d/\n=i.size/\(agg=false->n=1):=by
 unfold ey at h;split at h <;>first|exact absurd (bU h) (by simp[fE.dM])|grind [aH]
theorem Fc{n:Nat}{x y:AO}(h:ey E o=some (.store n x y)) :
    ∃t x' y' i,o.op=.store t x' y'/\cO E x'=some x/\cO E y'=some y/\E.P.info? t=some i/\n=i.size:=by
 unfold ey at h;split at h <;>first|exact absurd (bU h) (by simp[fE.dM])|grind [aH]
theorem Cs{x:AO}(h:ey E o=some (.jS x)):∃y,o.op=.nilCheck y/\cO E y=some x:=by
 unfold ey at h;split at h <;>first|exact absurd (bU h) (by simp[fE.dM])|grind [aH]
theorem yW{op:BinOp}{k:Option J8}{x y:AO}(h:ey E o=some (.bin op k x y)) :
    ∃t x' y' u,o.op=.binOp op t x' y' u/\cO E x'=some x/\cO E y'=some y/\k=Ob E t:=by
 unfold ey at h;split at h <;>first|exact absurd (bU h) (by simp[fE.dM])|grind [aH]
theorem Kj{x:AO}(h:ey E o=some (.not x)):∃t y,o.op=.unOp .not t y/\cO E y=some x:=by
 unfold ey at h;split at h <;>first|exact absurd (bU h) (by simp[fE.dM])|grind [aH]
theorem inv_neg{x:AO}(h:ey E o=some (.neg x)):∃t y,o.op=.unOp .neg t y/\cO E y=some x:=by
 unfold ey at h;split at h <;>first|exact absurd (bU h) (by simp[fE.dM])|grind [aH]
theorem HA{k:IntKind}{x:AO}(h:ey E o=some (.conv k x)):∃s d y j,o.op=.convert s d y/\cO E y=some x/\E.P.underlying s=some (.int j)/\E.P.underlying d=some (.int k):=by
 unfold ey at h;split at h <;>first|exact absurd (bU h) (by simp[fE.dM])|grind [aH]
theorem Ke{x:AO}(h:ey E o=some (.G2 x)):∃s d y e,o.op=.convert s d y/\cO E y=some x/\E.P.underlying s=some (.slice e)/\E.P.underlying d=some .string/\E.P.underlying e=some (.int .u8):=by
 unfold ey at h;split at h <;>first|exact absurd (bU h) (by simp[fE.dM])|grind [aH]
theorem Ki{n:Nat}{x:AO}(h:ey E o=some (.lr n x)):∃t y d,o.op=.makeInterface t y/\cO E y=some x/\E.P.underlying t=some d/\(∀m,d≠ .interface m)/\E.NG t=some n:=by
 unfold ey at h;split at h <;>first|exact absurd (bU h) (by simp[fE.dM])|grind [aH]
theorem Kh{n:Nat}{f c:List AO}(h:ey E o=some (.xa n f c)):∃g f' c',o.op=.makeFunc (.func g) f' c'/\E.FG g=some n/\qC E f'.toList=some f/\qC E c'.toList=some c:=by
 unfold ey at h;split at h <;>first|exact absurd (bU h) (by simp[fE.dM])|grind [aH]
theorem wh{off:Nat}{x:AO}(h:ey E o=some (.fieldAddr off x)) :
    ∃s y f fs fd i,o.op=.fieldAddr s y f/\cO E y=some x/\E.P.underlying s=some (.struct fs)/\fs[f]? =some fd/\E.P.info? fd.type=some i/\i.size≠0/\off=fd.offset:=by
 unfold ey at h;split at h <;>first|exact absurd (bU h) (by simp[fE.dM])|grind [aH]
theorem Co{agg:Bool}{off n:Nat}{x:AO}(h:ey E o=some (.ox agg off n x)) :
    ∃s y f fs fd i d,o.op=.field s y f/\cO E y=some x/\E.P.underlying s=some (.struct fs)/\fs[f]? =some fd/\E.P.info? fd.type=some i/\E.P.underlying fd.type=some d/\agg=eg d/\off=fd.offset/\n=if eg d then i.size else 1:=by
 unfold ey at h;split at h <;>first|exact absurd (bU h) (by simp[fE.dM])|grind [aH]
theorem oF{sz:Nat}{x i:AO}(h:ey E o=some (.fC sz x i)) :
    ∃t x' i' e n,o.op=.indexAddr t x' i'/\cO E x'=some x/\cO E i'=some i/\E.P.underlying t=some (.slice e)/\E.P.info? e=some n/\sz=n.size:=by
 unfold ey at h;split at h <;>first|exact absurd (bU h) (by simp[fE.dM])|grind [aH]
theorem Cp{len sz:Nat}{x i:AO}(h:ey E o=some (.dA len sz x i)) :
    ∃t x' i' e n,o.op=.indexAddr t x' i'/\cO E x'=some x/\cO E i'=some i/\E.P.underlying t=some (.array len e)/\E.P.info? e=some n/\sz=n.size:=by
 unfold ey at h;split at h <;>first|exact absurd (bU h) (by simp[fE.dM])|grind [aH]
theorem HB{agg:Bool}{len n:Nat}{x i:AO}(h:ey E o=some (.uS agg len n x i)) :
    ∃t x' i' e m d,o.op=.index t x' i'/\cO E x'=some x/\cO E i'=some i/\E.P.underlying t=some (.array len e)/\E.P.info? e=some m/\E.P.underlying e=some d/\agg=eg d/\n=m.size/\(n=if eg d then m.size else 1):=by
 unfold ey at h;split at h <;>first|exact absurd (bU h) (by simp[fE.dM])|grind [aH]
theorem AH{x:AO}{i:Nat}(h:ey E o=some (.extract x i)):∃y,o.op=.extract y i/\cO E y=some x:=by
 unfold ey at h;split at h <;>first|exact absurd (bU h) (by simp[fE.dM])|grind [aH]
theorem qf{a:fE}(h:ey E o=some a)(ha:a.dM=true):∃c,o.op=.call c/\u0 E c=some a:=by
 unfold ey at h;split at h <;>grind [aH,fE.dM]
theorem uV{n:Nat}{l:List AO}(h:ey E o=some (.call n l)):∃c f,o.op=.call c/\c.callee=.value (.func f)/\E.FG f=some n/\qC E c.args.toList=some l:=by
 obtain⟨c,h1,h⟩:=qf h rfl;unfold u0 at h;split at h <;>first|exact absurd (pJ h) (by simp[fE.Ct])|grind [aH]
theorem wY{x:AO}{l:List AO}(h:ey E o=some (.fK x l)):∃c t,o.op=.call c/\c.callee=.value (.tmp t)/\x=.t t/\qC E c.args.toList=some l:=by
 obtain⟨c,h1,h⟩:=qf h rfl;unfold u0 at h;split at h <;>first|exact absurd (pJ h) (by simp[fE.Ct])|grind [aH]
theorem s4{a:fE}(hb:a.Ct=true)(h:ey E o=some a):∃c b,o.op=.call c/\c.callee=.builtin b/\gz E b c.argTypes.toList c.args.toList=some a:=by
 obtain⟨c,h1,h⟩:=qf h (by cases a <;>simp[fE.Ct]at hb <;>rfl);unfold u0 at h;split at h <;>grind [aH,fE.Ct]
theorem Kg{x:AO}(h:ey E o=some (.len x)):∃c t y,o.op=.call c/\c.callee=.builtin .len/\c.argTypes.toList=[t]/\c.args.toList=[y]/\cO E y=some x/\∃e,E.P.underlying t=some (.slice e):=by
 obtain⟨c,b,h1,h2,h3⟩:=s4 rfl h;unfold gz at h3;split at h3 <;>grind [aH]
theorem HD{x:AO}(h:ey E o=some (.uY x)):∃c t y,o.op=.call c/\c.callee=.builtin .len/\c.argTypes.toList=[t]/\c.args.toList=[y]/\cO E y=some x/\E.P.underlying t=some .string:=by
 obtain⟨c,b,h1,h2,h3⟩:=s4 rfl h;unfold gz at h3;split at h3 <;>grind [aH]
theorem HC{n:Nat}(h:ey E o=some (.wm n)):∃c t y e,o.op=.call c/\c.callee=.builtin .len/\c.argTypes.toList=[t]/\c.args.toList=[y]/\E.P.underlying t=some (.array n e):=by
 obtain⟨c,b,h1,h2,h3⟩:=s4 rfl h;unfold gz at h3;split at h3 <;>grind [aH]
theorem qe{sz bytes:Nat}{s x:AO}(h:ey E o=some (.append sz bytes s x)) :
    ∃elem c t u e' i z s' x',o.op=.call c/\c.callee=.builtin .append/\c.argTypes.toList=[t,u]/\c.args.toList=[s',x']/\E.P.underlying t=some (.slice elem)/\E.P.underlying u=some (.slice e') /\
     cO E s'=some s/\cO E x'=some x/\E.P.info? elem=some i/\i.zero=some z/\z.cells.size=i.size/\sz=i.size/\bytes=i.bytes/\i.bytes<=4096/\0<i.bytes:=by
 obtain⟨c,b,h1,h2,h3⟩:=s4 rfl h;unfold gz at h3;split at h3 <;>grind [aH]
theorem Hy{xs:List AO}(h:ey E o=some (.t8 xs)):∃c,o.op=.call c/\c.callee=.builtin .max/\qC E c.args.toList=some xs:=by
 obtain⟨c,b,h1,h2,h3⟩:=s4 rfl h;unfold gz at h3;split at h3 <;>grind [aH]
theorem Hz{xs:List AO}(h:ey E o=some (.tb xs)):∃c,o.op=.call c/\c.callee=.builtin .min/\qC E c.args.toList=some xs:=by
 obtain⟨c,b,h1,h2,h3⟩:=s4 rfl h;unfold gz at h3;split at h3 <;>grind [aH]
theorem Fb{sz:Nat}{x:AO}{lo hi:Option AO}(h:ey E o=some (.slice sz x lo hi)) :
    ∃t y l u e n l' u',o.op=.slice t y l u none/\cO E y=some x/\E.P.underlying t=some (.slice e)/\E.P.info? e=some n/\sz=n.size/\qC E l.toList=some l'/\qC E u.toList=some u'/\lo=l'.head? /\hi=u'.head? :=by
 unfold ey at h;split at h <;>first|exact absurd (bU h) (by simp[fE.dM])|grind [aH]
theorem re{len sz:Nat}{x:AO}{lo hi:Option AO}(h:ey E o=some (.hY len sz x lo hi)) :
    ∃t y l u e n l' u',o.op=.slice t y l u none/\cO E y=some x/\E.P.underlying t=some (.array len e)/\E.P.info? e=some n/\sz=n.size/\qC E l.toList=some l'/\qC E u.toList=some u'/\lo=l'.head? /\hi=u'.head? :=by
 unfold ey at h;split at h <;>first|exact absurd (bU h) (by simp[fE.dM])|grind [aH]
theorem Ch{sz len:Nat}{zs:List AV}{ps:List (Nat×Nat×AO)}(h:ey E o=some (.cr sz len zs ps)) :
    ∃t qs e i z QC,o.op=.buildSlice t len qs/\E.P.underlying t=some (.slice e)/\E.P.info? e=some i/\i.zero=some z/\Es z.cells.toList=some QC/\zs=(List.replicate len QC).flatten /\
     jP E (fun j=>some (j*i.size,i.size)) qs.toList=some ps/\z.cells.size=i.size/\len*i.size<=2^24/\0<i.size/\sz=i.size:=by
 unfold ey at h;split at h <;>first|exact absurd (bU h) (by simp[fE.dM])|grind [aH]
theorem F6{zs:List AV}{ps:List (Nat×Nat×AO)}(h:ey E o=some (.build zs ps)) :
    ∃t qs i z,o.op=.build t qs/\E.P.info? t=some i/\i.zero=some z/\Es z.cells.toList=some zs /\
     ((∃fs places,E.P.underlying t=some (.struct fs)/\fs.toList.mapM (fun f=>(E.P.info? f.type).map fun i=>(f.offset,i.size))=some places/\jP E (fun i=>places[i]?) qs.toList=some ps) \/
      (∃len e n,E.P.underlying t=some (.array len e)/\E.P.info? e=some n/\jP E (fun i=>some (i*n.size,n.size)) qs.toList=some ps)):=by
 unfold ey at h;split at h <;>first|exact absurd (bU h) (by simp[fE.dM])|grind [aH,pB]
theorem Fa(h:ey E o=some .mkMap):∃t,o.op=.makeMap t none:=by
 unfold ey at h;split at h <;>first|exact absurd (bU h) (by simp[fE.dM])|grind [aH,pB]
theorem Cq{s ok:Bool}{z:PV}{m k:AO}(h:ey E o=some (.jR s ok z m k)) :
    ∃t x i kt et d zi zv,o.op=.lookup t x i ok/\E.P.underlying t=some (.map kt et)/\cO E x=some m/\cO E i=some k/\E.P.underlying kt=some d/\s7 s d=true/\E.P.info? et=some zi/\zi.zero=some zv/\cZ zv=some z:=by
 unfold ey at h;split at h <;>first|exact absurd (bU h) (by simp[fE.dM])|grind [aH,pB]
theorem Cr{s:Bool}{m k v:AO}(h:ey E o=some (.lj s m k v)) :
    ∃t x i y kt et d,o.op=.mapUpdate t x i y/\o.dst=none/\E.P.underlying t=some (.map kt et)/\cO E x=some m/\cO E i=some k/\cO E y=some v/\E.P.underlying kt=some d/\s7 s d=true:=by
 unfold ey at h;split at h <;>first|exact absurd (bU h) (by simp[fE.dM])|grind [aH,pB]
end
end
section
/-! ### QI -/
section
variable{P:Program}{w:World}
theorem sm{α:Type}(f:Program->Sem α):(program >>= f).run P w=(f P).run P w:=by
 rw[run_bind];rfl
theorem bF{t:TypeId}{d:TypeDesc}(h:P.underlying t=some d):(underlying t).run P w=.ok d w:=by
 unfold underlying;rw[sm,h];rfl
theorem jx{t:TypeId}{i:TypeInfo}(h:P.info? t=some i):(typeInfo t).run P w=.ok i w:=by
 unfold typeInfo;rw[sm];simp only[h];rfl
theorem fj{t:TypeId}{i:TypeInfo}(h:P.info? t=some i):(sizeOf t).run P w=.ok i.size w:=by
 unfold sizeOf;rw[run_bind,jx h];rfl
theorem lX{t:TypeId}{i:TypeInfo}{z:Value}(h:P.info? t=some i)(hz:i.zero=some z):(zeroValue t).run P w=.ok z w:=by
 unfold zeroValue;rw[run_bind,jx h];simp only[hz];rfl
theorem tC{t:TypeId}{d:TypeDesc}(h:P.underlying t=some d):(isAgg t).run P w=.ok (eg d) w:=by
 unfold isAgg;rw[run_bind,bF h];cases d <;>rfl
theorem Ic{b o:Nat}{v:Value}(h:w.cell? ⟨b,o,none⟩=some v):(load ⟨b,o,none⟩).run P w=.ok v w:=by
 simp[load,Sem.run,h]
theorem add_eq(b o n:Nat):(⟨b,o,none⟩:Addr).add n=⟨b,o+n,none⟩:=by
 unfold Addr.add;split
 ·rename_i h;subst h;rfl
 ·rfl
theorem nL(b o:Nat):∀(vs:List Value) (i:Nat) (acc:Array Value),(∀(j:Nat) v,vs[j]? =some v->w.cell? ⟨b,o+i+j,none⟩=some v) ->
    (loadCellsFrom ⟨b,o,none⟩ i vs.length acc).run P w=.ok (acc++vs.toArray) w
 |[],i,acc,h=>by simp[loadCellsFrom,run_pure]
 |v::r,i,acc,h=>by
  simp only[ay,loadCellsFrom];rw[run_bind,add_eq,Ic (v:=v) (by simpa using h 0 v rfl)];simp only;rw[nL b o r (i+1) _ (fun j u hu=>by have:=h (j+1) u (by simpa using hu);rwa [show o+(i+1)+j=o+i+(j+1) by omega])];simp
theorem oN(b o:Nat)(vs:List Value)(n:Nat)(hn:n=vs.length)(h:∀(j:Nat) v,vs[j]? =some v->w.cell? ⟨b,o+j,none⟩=some v) :
    (loadCells ⟨b,o,none⟩ n).run P w=.ok vs.toArray w:=by
 subst hn;unfold loadCells;rw[nL b o vs 0 #[] (by simpa using h)];simp
theorem nD(b o:Nat)(t:TypeId):∀(vs:List Value) (i:Nat) (c:Array Value) (w:World),w.heap[b]? =some (.cells c t (0,0))->o+i+vs.length<=c.size->(∀v∈vs,cN v) ->
    (storeCells ⟨b,o,none⟩ vs i).run P w=.ok () (fY w b (.cells (patch c (o+i) vs) t (0,0)))
 |[],i,c,w,h,hl,hs=>by simp[storeCells,run_pure,patch,FK h]
 |v::r,i,c,w,h,hl,hs=>by
  simp only[storeCells,ay]at hl⊢;have hv:=hs v (by simp);have hc:w.cell? ⟨b,o+i,none⟩=some (c[o+i]'(by omega)):=by rw[eM h];simp
  have hf:w.frozen? ⟨b,o+i,none⟩=false:=by simp[World.frozen?,h]
  have h1:(store ⟨b,o+i,none⟩ v).run P w=.ok () (w.setCell ⟨b,o+i,none⟩ v):=by
   unfold store;cases v with
   |agg cs=>exact absurd rfl (hv.1 cs)
   |tuple cs=>exact absurd rfl (hv.2 cs)
   |_=>simp only[Sem.run,hc,hf];rfl
  rw[run_bind,add_eq,h1];simp only;rw[setCell_eq h];have hb:b<w.heap.size:=(cf.1 h).1;rw[nD b o t r (i+1) _ _ (dB _ hb) (by simp;omega) (fun u hu=>hs u (by simp[hu])),FL];rfl
end
/-! ### Rows that are read -/
section
variable{V:View}
theorem gf:∀{cs:List AV} {b o:Nat},mT V cs b o->∃vs,ed V cs vs/\(∀v∈vs,cN v)/\∀(j:Nat) v,vs[j]? =some v->V.w.cell? ⟨b,o+j,none⟩=some v
 |[],b,o,h=>⟨[],by simp[ed],by simp,fun j v h=>by simp at h⟩
 |c::r,b,o,h=>by
  simp only[mT]at h;obtain⟨⟨u,h1,hs,h2⟩,h3⟩:=h;obtain⟨vs,h4,MI,h5⟩:=gf h3;refine⟨u::vs,by simp only[ed];exact⟨u,vs,rfl,h2,h4⟩,fun v hv=>?_,fun j v hv=>?_⟩
  ·rcases aQ.1 hv with rfl|hv
   ·exact hs
   ·exact MI v hv
  cases j with
  |zero=>simp at hv;subst hv;exact h1
  |succ j=>have:=h5 j v (by simpa using hv);rwa [show o+1+j=o+(j+1) by omega]at this
theorem o6{E:Env}{w:World}{ok:Nat->Prop}:∀{cs:List PV} {b o:Nat},iu E w ok cs b o->∃vs,VPs E w ok cs vs/\(∀v∈vs,cN v)/\∀(j:Nat) v,vs[j]? =some v->w.cell? ⟨b,o+j,none⟩=some v
 |[],b,o,h=>⟨[],by simp[VPs],by simp,fun j v h=>by simp at h⟩
 |c::r,b,o,h=>by
  simp only[iu]at h;obtain⟨⟨u,h1,hs,h2⟩,h3⟩:=h;obtain⟨vs,h4,MI,h5⟩:=o6 h3;refine⟨u::vs,by simp only[VPs];exact⟨u,vs,rfl,h2,h4⟩,fun v hv=>?_,fun j v hv=>?_⟩
  ·rcases aQ.1 hv with rfl|hv
   ·exact hs
   ·exact MI v hv
  cases j with
  |zero=>simp at hv;subst hv;exact h1
  |succ j=>have:=h5 j v (by simpa using hv);rwa [show o+1+j=o+(j+1) by omega]at this
theorem tH{cs:List AV}{b o:Nat}(h:mT V cs b o)(off n:Nat):mT V ((cs.drop off).take n) b (o+off):=by
 rw[qu]at h⊢;intro j p hp;rw[md]at hp;split at hp
 ·rw[List.getElem?_drop]at hp;have:=h (off+j) p hp;rwa [<-eW]at this
 ·simp at hp
theorem o5{E:Env}{w:World}{ok:Nat->Prop}{cs:List PV}{b o:Nat}(h:iu E w ok cs b o)(off n:Nat):iu E w ok ((cs.drop off).take n) b (o+off):=by
 rw[eF]at h⊢;intro j p hp;rw[md]at hp;split at hp
 ·rw[List.getElem?_drop]at hp;have:=h (off+j) p hp;rwa [<-eW]at this
 ·simp at hp
theorem ee:∀{cs:List AV} {vs:List Value},ed V cs vs->vs.length=cs.length:=fun h=>((ig _ _).1 h).1
theorem dW{E:Env}{w:World}{ok:Nat->Prop}{cs:List PV}{vs:List Value}(h:VPs E w ok cs vs):vs.length=cs.length:=((gn _ _).1 h).1
end
def fk(H:Hp):AV->Option (List AV)
 | .ptr id i off=>match H id with
  | .var cs=>some (cs.drop off)
  | .row _ es=>match es[i]? with
   |some e=>some (dL (e.drop off))
   |none=>none
  |_=>none
 | .pv (.gX cs off)=>some (dL (cs.drop off))
 |_=>none
theorem nC:∀(ps:List PV),(dL ps).length=ps.length
 |[]=>rfl
 |p::r=>by simp[dL,nC r]
theorem zh:∀(ps:List PV) (j:Nat),(dL ps)[j]? =(ps[j]?).map .pv
 |[],j=>by simp[dL]
 |p::r,0=>by simp[dL]
 |p::r,j+1=>by simp[dL,zh r j]
theorem E0{V:View}{ps:List PV}{b o:Nat}(h:iu V.E V.w V.ok ps b o):mT V (dL ps) b o:=by
 rw[eF]at h;rw[qu];intro j p hp;rw[zh]at hp;simp at hp;obtain⟨q,h1,rfl⟩:=hp;obtain⟨u,h2,hs,h3⟩:=h j q h1;exact⟨u,h2,hs,by simpa only[VA]using h3⟩
section
variable{X:Ctx}{M:Nat->Nat}{F:Fr}{H:Hp}{U:Nat->Prop}{a:Act}{w:World}
theorem ud(R:Rel X M F H U a w){p:AV}{cs:List AV}{v:Value}(hc:fk H p=some cs)(hv:VA (aB X w U M H) p v) :
    ∃b o,v=.pointer (some ⟨b,o,none⟩)/\mT (aB X w U M H) cs b o:=by
 unfold fk at hc;split at hc
 ·rename_i id i off;simp only[VA]at hv;have hb:=R.blk id;split at hc
  ·rename_i pD dT;simp at hc;subst hc;rw[dT]at hb;obtain⟨c,t,h1,h2,h3⟩:=hb;have:=hv.2.2 (0,0) (by simp[aB,dT,dx.info]);refine⟨M id,off,by simpa[aB]using this,?_⟩;have h4:=tH h3 off (pD.drop off).length;rw[zy,aM]at h4;exact h4
  ·rename_i sz es dT;split at hc
   ·rename_i e he;simp at hc;subst hc;rw[dT]at hb;obtain⟨c,t,h1,h2,h3⟩:=hb;have:=hv.2.2 (sz,es.length) (by simp[aB,dT,dx.info]);refine⟨M id,i*sz+off,by simpa[aB]using this,?_⟩;have h4:=((eH es 0).1 h3 i e he).2;have h5:=o5 h4 off (e.drop off).length;rw[zy,aM]at h5;exact E0 h5
   ·simp at hc
  ·simp at hc
 ·rename_i ps off;simp at hc;subst hc;simp only[VA,VP]at hv;obtain⟨b,o,h1,h2,h3⟩:=hv;refine⟨b,o+off,h1,?_⟩;have h5:=o5 h3 off (ps.drop off).length;rw[zy]at h5;exact E0 h5
 ·simp at hc
end
theorem pP{P:Program}{w:World}{t:TypeId}{d:TypeDesc}{i:TypeInfo}(hu:P.underlying t=some d)(hi:P.info? t=some i)(ha:eg d=true){b o:Nat}{vs:List Value}(hn:i.size=vs.length)
    (h:∀(j:Nat) v,vs[j]? =some v->w.cell? ⟨b,o+j,none⟩=some v):(loadVar t ⟨b,o,none⟩).run P w=.ok (.agg vs.toArray) w:=by
 unfold loadVar;rw[run_bind,tC hu];simp only[ha,bz];rw[run_bind,fj hi];simp only;rw[run_bind,oN b o vs i.size hn h];rfl
theorem pQ{P:Program}{w:World}{t:TypeId}{d:TypeDesc}(hu:P.underlying t=some d)(ha:eg d=false){b o:Nat}{v:Value}
    (h:w.cell? ⟨b,o,none⟩=some v):(loadVar t ⟨b,o,none⟩).run P w=.ok v w:=by
 unfold loadVar;rw[run_bind,tC hu];simp only[ha,bA,aJ];exact Ic h
theorem cJ{P:Program}{w w':World}{s:Sem Value}{v:Value}(h:s.run P w=.ok v w'):(do pure (Next.value (<-s)):Sem Next).run P w=.ok (.value v) w':=by
 rw[run_bind,h];rfl
def iY(agg:Bool)(n:Nat)(cs:List AV):Option AV :=
 match Nat.beq (cs.take n).length n with
 |true=>match agg with
  |true=>some (jY (cs.take n))
  |false=>match cs with
   |c::_=>some c
   |[]=>none
 |false=>none
theorem Fh{E:Env}(hE:E.OK){N:Nat}{o:Oper}{F:Fr}{H:Hp}{U:Nat->Prop}{agg:Bool}{n:Nat}{x:AO}{cs:List AV}{v:AV}
    (hc:ey E o=some (.load agg n x)) (hd:∀k,o.dst=some k->k<N) (h1:fk H (dF F x)=some cs) (h2:iY agg n cs=some v):cL E N o F H U v [] U:=by
 obtain⟨t,y,d,i,ho,hy,hu,hi,rfl,rfl,hn⟩:=HE hc;refine cL.value hd fun X M a w hX R=>?_;subst hX;obtain⟨b,off,h3,h4⟩:=ud R h1 (dc hE R hy);have hex:execOp a.eval o=(do pure (Next.value (<-loadVar t ⟨b,off,none⟩)):Sem Next):=by
  unfold execOp;rw[ho];simp only[h3];rfl
 rw[hex];unfold iY at h2;split at h2
 ·rename_i hl;have hl:=cU hl;have h5:=tH h4 0 i.size;simp only[gL,fb]at h5;obtain⟨vs,h6,_,h7⟩:=gf h5;have hlen:i.size=vs.length:=by rw[ee h6,hl]
  split at h2
  ·rename_i jJ;simp at h2;subst h2;exact⟨_,cJ (pP hu hi jJ hlen h7),mL h6⟩
  ·rename_i jJ;split at h2
   ·rename_i c r;simp at h2;subst h2;rw[hn jJ]at h6 hlen;simp only[kj,List.take_zero,ed]at h6;obtain⟨u,us,rfl,h8,rfl⟩:=h6;have:=h7 0 u rfl;simp only[fb]at this;exact⟨_,cJ (pQ hu jJ this),h8⟩
   ·simp at h2
 ·simp at h2
end
section
section
variable{E:Env}{N:Nat}{o:Oper}{F:Fr}{H:Hp}{U:Nat->Prop}
theorem Ky(hE:E.OK){x:AO}(hc:ey E o=some (.mv x))(hd:∀k,o.dst=some k->k<N):cL E N o F H U (dF F x) [] U:=by
 obtain⟨y,ho,hy⟩:=MU hc;refine cL.value hd fun X M a w hX R=>?_;subst hX;refine⟨a.eval y,?_,dc hE R hy⟩;unfold execOp;rcases ho with ho|ho <;>rw[ho] <;>rfl
def oK(t:Bool)(x y:AV):AV:=match x,y with
 | .pv (.bool p),.pv (.bool q)=>.pv (.bool (cond t p q))
 |x,y=>cond t x y
theorem I1{V:View}{t:Bool}{x y:AV}{u v:Value}(h1:VA V x u)(h2:VA V y v):VA V (oK t x y) (if t then u else v):=by
 unfold oK;split
 ·simp only[VA,VP]at h1 h2⊢;subst h1;subst h2;cases t <;>rfl
 ·cases t
  ·exact h2
  ·exact h1
theorem Ft(hE:E.OK){c x y:AO}{t:Bool}(hc:ey E o=some (.pick c x y))(hd:∀k,o.dst=some k->k<N)(h1:dF F c=.pv (.bool t)) :
    cL E N o F H U (oK t (dF F x) (dF F y)) [] U:=by
 obtain⟨c',x',y',ho,wb,hx,hy⟩:=HF hc;refine cL.value hd fun X M a w hX R=>?_;subst hX;have h2:=dc hE R wb;rw[h1]at h2;simp only[VA,VP]at h2;refine⟨if t then a.eval x' else a.eval y',?_,I1 (dc hE R hx) (dc hE R hy)⟩;unfold execOp;rw[ho];simp only[h2];rfl
def dQ(H:Hp):AV->Bool
 | .ptr id _ _=>match H id with
  | .dead=>false
  |_=>true
 | .pv (.gX _ _)=>true
 | .pv (.func _ _ _)=>true
 | .func _ _ _=>true
 | .pv (.iface _ _)=>true
 | .iface _ _=>true
 |_=>false
theorem AX(hE:E.OK){x:AO}(hc:ey E o=some (.jS x))(hd:∀k,o.dst=some k->k<N)(h1:dQ H (dF F x)=true):cL E N o F H U (dF F x) [] U:=by
 obtain⟨y,ho,hy⟩:=Cs hc;refine cL.value hd fun X M a w hX R=>?_;subst hX;have h2:=dc hE R hy;refine⟨a.eval y,?_,h2⟩;have ir:(∀u,a.eval y=.pointer (some u)->(execOp a.eval o).run X.E.P w=.ok (.value (a.eval y)) w) /\
                                                                                                                        (∀f p q,a.eval y=.func (.func f) p q->(execOp a.eval o).run X.E.P w=.ok (.value (a.eval y)) w) /\
                                                                                                                        (∀t u,a.eval y=.iface t u->(execOp a.eval o).run X.E.P w=.ok (.value (a.eval y)) w):=by
  refine⟨fun u hu=>?_,fun f p q hu=>?_,fun t u hu=>?_⟩ <;>(unfold execOp;rw[ho];simp only[hu];rfl)
 generalize dF F x=v at h1 h2;cases v <;>try (simp[dQ]at h1;done)
 case pv p =>
  cases p <;>try (simp[dQ]at h1;done)
  case gX=>simp only[VA,VP]at h2;obtain⟨b,o,h3,_⟩:=h2;exact ir.1 _ h3
  case func=>simp only[VA,VP]at h2;obtain⟨b,o,h3,_⟩:=h2;exact ir.2.1 _ _ _ h3
  case iface=>simp only[VA,VP]at h2;obtain⟨b,h3,_⟩:=h2;exact ir.2.2 _ _ h3
 case ptr id i off =>
  simp only[VA]at h2;have:∃s,(H id).info=some s:=by
   simp only[dQ]at h1;cases hH:H id <;>simp[hH]at h1 <;>simp[dx.info]
  obtain⟨s,hs⟩:=this;exact ir.1 _ (h2.2.2 s hs)
 case func=>simp only[VA]at h2;obtain⟨b,o,h3,_⟩:=h2;exact ir.2.1 _ _ _ h3
 case iface=>simp only[VA]at h2;obtain⟨b,h3,_⟩:=h2;exact ir.2.2 _ _ h3
def dP(op:BinOp)(k:IntKind)(a b:Int):Option PV :=
 match op with
 | .add=>some (.int k (k.wrap (a+b)))
 | .sub=>some (.int k (k.wrap (a-b)))
 | .mul=>some (.int k (k.wrap (a*b)))
 | .and=>some (.int k (k.wrap (BitVec.ofInt k.bits a &&& BitVec.ofInt k.bits b).toNat))
 | .or=>some (.int k (k.wrap (BitVec.ofInt k.bits a ||| BitVec.ofInt k.bits b).toNat))
 | .andNot=>some (.int k (k.wrap (BitVec.ofInt k.bits a &&& ~~~ BitVec.ofInt k.bits b).toNat))
 | .eql=>some (.bool (a==b))
 | .neq=>some (.bool (a !=b))
 | .lss=>some (.bool (decide (a<b)))
 | .leq=>some (.bool (decide (a<=b)))
 | .gtr=>some (.bool (decide (a>b)))
 | .geq=>some (.bool (decide (a>=b)))
 |_=>none
theorem Ib{P:Program}{w:World}{op:BinOp}{t:TypeId}{k:IntKind}{a b:Int}{p:PV}{E:Env}{ok:Nat->Prop}(h:dP op k a b=some p) :
    ∃u,(binOp op t (.int k a) (.int k b)).run P w=.ok u w/\VP E w ok p u:=by
 unfold dP at h;cases op <;>simp at h <;>subst h <;>simp[binOp,Op.intArith,Op.intBits,Op.intCmp,run_pure,VP,bne]
theorem E1{P:Program}{w:World}{t:TypeId}{k j:IntKind}{a b:Int}(hb:0<=b) :
    (binOp .shl t (.int k a) (.int j b)).run P w=.ok (.int k (k.wrap (a*2^(min b.toNat k.bits)))) w /\
    (binOp .shr t (.int k a) (.int j b)).run P w=.ok (.int k (a.fdiv (2^(min b.toNat k.bits)))) w:=by
 have:¬b<0:=by omega
 constructor <;>simp[binOp,Op.shift,this,run_pure]
theorem LQ{P:Program}{w:World}{t:TypeId}{k:IntKind}{a b:Int}(hb:b≠0) :
    (binOp .quo t (.int k a) (.int k b)).run P w=.ok (.int k (k.wrap (a.tdiv b))) w /\
    (binOp .rem t (.int k a) (.int k b)).run P w=.ok (.int k (a.tmod b)) w:=by
 constructor <;>simp[binOp,Op.intDiv,hb,run_pure]
theorem vn{P:Program}{w:World}{op:BinOp}{t:TypeId}{x y:Operand}{k j:IntKind}{a b:Int}:(eqGuard op t x y (.int k a) (.int j b)).run P w=.ok () w:=by
 unfold eqGuard;cases op <;>rfl
def aa(op:BinOp)(x y:AV):Option AV :=
 match x,y with
 | .pv (.int k a),.pv (.int j b) =>
  match op with
  | .shl=>match b with
   | .ofNat n=>some (.pv (.int k (k.wrap (a*2^(min n k.bits)))))
   |_=>none
  | .shr=>match b with
   | .ofNat n=>some (.pv (.int k (a.fdiv (2^(min n k.bits)))))
   |_=>none
  | .quo=>match b with
   | .ofNat (n+1)=>if k=j then some (.pv (.int k (k.wrap (a.tdiv (.ofNat (n+1))))))else none
   |_=>none
  | .rem=>match b with
   | .ofNat (n+1)=>if k=j then some (.pv (.int k (a.tmod (.ofNat (n+1)))))else none
   |_=>none
  |op=>if k=j then match dP op k a b with
   |some p=>some (.pv p)
   |none=>none
   else none
 |_,_=>none
theorem GF(hE:E.OK){op:BinOp}{k:Option J8}{x y:AO}{v:AV}(hc:ey E o=some (.bin op k x y))(hd:∀k,o.dst=some k->k<N)(h1:aa op (dF F x) (dF F y)=some v) :
    cL E N o F H U v [] U:=by
 obtain⟨t,x',y',u,ho,hx,hy,hk⟩:=yW hc;refine cL.value hd fun X M a w hX R=>?_;subst hX;have h2:=dc hE R hx;have h3:=dc hE R hy;unfold aa at h1;split at h1
 ·rename_i k1 a1 j1 b1 e1 e2;rw[e1]at h2;rw[e2]at h3;simp only[VA,VP]at h2 h3;have hex:execOp a.eval o=(do pure (Next.value (<-(do eqGuard op t x' y' (.int k1 a1) (.int j1 b1);binOp op t (.int k1 a1) (.int j1 b1)))):Sem Next):=by
   unfold execOp;rw[ho];simp only[h2,h3]
  have hg:∀u,(binOp op t (.int k1 a1) (.int j1 b1)).run X.E.P w=.ok u w->(execOp a.eval o).run X.E.P w=.ok (.value u) w:=fun u hu=>by
   rw[hex];refine cJ ?_;rw[run_bind,vn];exact hu
  split at h1
  ·split at h1
   ·rename_i n;simp at h1;subst h1;exact⟨_,hg _ ((E1 (b:=.ofNat n) (by simp)).1),by simp[VA,VP]⟩
   ·simp at h1
  ·split at h1
   ·rename_i n;simp at h1;subst h1;exact⟨_,hg _ ((E1 (b:=.ofNat n) (by simp)).2),by simp[VA,VP]⟩
   ·simp at h1
  ·split at h1
   ·rename_i n;split at h1
    ·rename_i MC;subst MC;simp at h1;subst h1;exact⟨_,hg _ ((LQ (b:=.ofNat (n+1)) (by simp;omega)).1),by simp[VA,VP]⟩
    ·simp at h1
   ·simp at h1
  ·split at h1
   ·rename_i n;split at h1
    ·rename_i MC;subst MC;simp at h1;subst h1;exact⟨_,hg _ ((LQ (b:=.ofNat (n+1)) (by simp;omega)).2),by simp[VA,VP]⟩
    ·simp at h1
   ·simp at h1
  ·split at h1
   ·rename_i MC;subst MC;split at h1
    ·rename_i p hp;simp at h1;subst h1;obtain⟨u,h4,h5⟩:=Ib (P:=X.E.P) (w:=w) (t:=t) (E:=X.E) (ok:=ju X w M H) hp;exact⟨u,hg u h4,by simp only[VA];exact h5⟩
    ·simp at h1
   ·simp at h1
 ·simp at h1
theorem HW(hE:E.OK){x:AO}{b:Bool}(hc:ey E o=some (.not x))(hd:∀k,o.dst=some k->k<N)(h1:dF F x=.pv (.bool b)):cL E N o F H U (.pv (.bool (!b))) [] U:=by
 obtain⟨t,y,ho,hy⟩:=Kj hc;refine cL.value hd fun X M a w hX R=>?_;subst hX;have h2:=dc hE R hy;rw[h1]at h2;simp only[VA,VP]at h2;refine⟨.bool (!b),?_,by simp[VA,VP]⟩;unfold execOp;rw[ho];simp only[h2];rfl
theorem HU(hE:E.OK){x:AO}{k:IntKind}{n:Int}(hc:ey E o=some (.neg x))(hd:∀k,o.dst=some k->k<N)(h1:dF F x=.pv (.int k n)):cL E N o F H U (.pv (.int k (k.wrap (0-n)))) [] U:=by
 obtain⟨t,y,ho,hy⟩:=inv_neg hc;refine cL.value hd fun X M a w hX R=>?_;subst hX;have h2:=dc hE R hy;rw[h1]at h2;simp only[VA,VP]at h2;refine⟨.int k (k.wrap (0-n)),?_,by simp[VA,VP]⟩;unfold execOp;rw[ho];simp only[h2];rfl
theorem EB(hE:E.OK){x:AO}{k j:IntKind}{n:Int}(hc:ey E o=some (.conv k x))(hd:∀k,o.dst=some k->k<N)(h1:dF F x=.pv (.int j n)):cL E N o F H U (.pv (.int k (k.wrap n))) [] U:=by
 obtain⟨s,d,y,i,ho,hy,hs,dh⟩:=HA hc;refine cL.value hd fun X M a w hX R=>?_;subst hX;have h2:=dc hE R hy;rw[h1]at h2;simp only[VA,VP]at h2;refine⟨.int k (k.wrap n),?_,by simp[VA,VP]⟩;unfold execOp;rw[ho];refine cJ ?_;unfold convert;rw[run_bind,bF hs];simp only;rw[run_bind,bF dh,h2];rfl
theorem HS(hE:E.OK){x:AO}{n:Nat}(hc:ey E o=some (.lr n x))(hd:∀k,o.dst=some k->k<N) :
    cL E N o F H U (match dF F x with| .pv p=>.pv (.iface n p)|v=>.iface n v) [] U:=by
 obtain⟨t,y,d,ho,hy,hu,hn,ht⟩:=Ki hc;refine cL.value hd fun X M a w hX R=>?_;subst hX;have h2:=dc hE R hy;refine⟨.iface t (a.eval y),?_,?_⟩
 ·unfold execOp;rw[ho];refine cJ ?_;unfold Instr.makeInterface;rw[run_bind,bF hu];cases d <;>first|rfl|exact absurd rfl (hn _)
 ·have e:=(hE.NG t n ht).1;generalize dF F x=v at h2;cases v <;>simp only[VA,VP]at h2⊢ <;>exact⟨_,by rw[<-e];rfl,h2⟩
def mZ(a b:List AV):Option (List PV×List PV):=match jj a,jj b with
 |some x,some y=>some (x,y)
 |_,_=>none
def mkFun(n:Nat)(f c:List AV):AV:=match mZ f c with
 |some (x,y)=>.pv (.func n x y)
 |none=>.func n f c
theorem vW{α β:Type}(f:α->β)(xs:Array α):xs.map f=(xs.toList.map f).toArray:=by
 apply Array.toList_inj.1;simp
theorem HQ(hE:E.OK){n:Nat}{f c:List AO}(hc:ey E o=some (.xa n f c))(hd:∀k,o.dst=some k->k<N):cL E N o F H U (mkFun n (fg F f) (fg F c)) [] U:=by
 obtain⟨g,f',c',ho,hg,hf,OL⟩:=Kh hc;refine cL.value hd fun X M a w hX R=>?_;subst hX;have h1:=mi hE R hf;have h2:=mi hE R OL;refine⟨.func (.func g) (f'.map a.eval) (c'.map a.eval),?_,?_⟩
 ·unfold execOp;rw[ho];rfl
 ·have e:=hE.FG g n hg;unfold mkFun mZ;split
  ·rename_i x y h3;split at h3
   ·rename_i ps qs h4 h5;simp at h3;obtain⟨rfl,rfl⟩:=h3;simp only[VA,VP];exact⟨_,_,by rw[show(aB X w U M H).E=X.E from rfl,e,vW,vW],mE h4 h1,mE h5 h2⟩
   ·simp at h3
  ·simp only[VA];exact⟨_,_,by rw[show(aB X w U M H).E=X.E from rfl,e,vW,vW],h1,h2⟩
def jQ(off:Nat):AV->Option AV
 | .ptr id i o=>some (.ptr id i (o+off))
 | .pv (.gX cs o)=>some (.pv (.gX cs (o+off)))
 |_=>none
theorem FF{P:Program}{w:World}{s:TypeId}{fs:Array Field}{f:Nat}{fd:Field}{i:TypeInfo}{b q:Nat}(hu:P.underlying s=some (.struct fs))(hf:fs[f]? =some fd)
    (hi:P.info? fd.type=some i) (hn:i.size≠0):(Instr.fieldAt s (.pointer (some ⟨b,q,none⟩)) f).run P w=.ok (.pointer (some ⟨b,q+fd.offset,none⟩)) w:=by
 have h1:(fieldPlace ⟨b,q,none⟩ fd).run P w=.ok ⟨b,q+fd.offset,none⟩ w:=by
  unfold fieldPlace;rw[run_bind,fj hi];simp only[hn,aJ];rw[run_pure,add_eq]
 unfold Instr.fieldAt;rw[run_bind,bF hu];simp only[hf,Instr.sureAddr];rw[run_bind,run_pure];simp only;rw[run_bind,h1];rfl
theorem uG(hE:E.OK){x:AO}{off:Nat}{v:AV}(hc:ey E o=some (.fieldAddr off x))(hd:∀k,o.dst=some k->k<N)(h1:jQ off (dF F x)=some v)(h0:dQ H (dF F x)=true) :
    cL E N o F H U v [] U:=by
 obtain⟨s,y,f,fs,fd,i,ho,hy,hu,hf,hi,hn,rfl⟩:=wh hc;refine cL.value hd fun X M a w hX R=>?_;subst hX;have h2:=dc hE R hy;have ir:∀b q,a.eval y=.pointer (some ⟨b,q,none⟩)->(execOp a.eval o).run X.E.P w=.ok (.value (.pointer (some ⟨b,q+fd.offset,none⟩))) w:=fun b q hq=>by
  unfold execOp;rw[ho];refine cJ ?_;rw[hq];exact FF hu hf hi hn
 unfold jQ at h1;split at h1
 ·rename_i id j q e;simp at h1;subst h1;rw[e]at h2 h0;simp only[VA]at h2;have:∃s,(H id).info=some s:=by
   simp only[dQ]at h0;cases hH:H id <;>simp[hH]at h0 <;>simp[dx.info]
  obtain⟨s',hs⟩:=this;have h3:=h2.2.2 s' hs;refine⟨_,ir _ _ h3,?_⟩;simp only[VA];refine⟨h2.1,⟨by simp,by simp⟩,fun s S8=>?_⟩;have:s=s':=by
   have:some s=some s':=by rw[<-S8];exact hs
   simpa using this
  subst this;rw[eW]
 ·rename_i cs q e;simp at h1;subst h1;rw[e]at h2;simp only[VA,VP]at h2;obtain⟨b,q',h3,h4,h5⟩:=h2;refine⟨_,ir _ _ h3,?_⟩;simp only[VA,VP];exact⟨b,q',by rw[eW],h4,h5⟩
 ·simp at h1
def gA(i:Nat):AV->Option AV
 | .pv (.tuple ps)=>match ps[i]? with
  |some p=>some (.pv p)
  |none=>none
 | .tuple vs=>vs[i]?
 |_=>none
theorem xV(hE:E.OK){x:AO}{i:Nat}{v:AV}(hc:ey E o=some (.extract x i))(hd:∀k,o.dst=some k->k<N)(h1:gA i (dF F x)=some v):cL E N o F H U v [] U:=by
 obtain⟨y,ho,hy⟩:=AH hc;refine cL.value hd fun X M a w hX R=>?_;subst hX;have h2:=dc hE R hy;have ir:∀(vs:List Value) u,a.eval y=.tuple vs.toArray->vs[i]? =some u->(execOp a.eval o).run X.E.P w=.ok (.value u) w:=fun vs u h3 h4=>by
  unfold execOp;rw[ho];refine cJ ?_;unfold Instr.extract;simp only[h3,List.getElem?_toArray,h4];rfl
 unfold gA at h1;split at h1
 ·rename_i ps e;rw[e]at h2;simp only[VA,VP]at h2;obtain⟨vs,h3,h4⟩:=h2;split at h1
  ·rename_i p hp;simp at h1;subst h1;obtain⟨h5,h6⟩:=(gn _ _).1 h4;have hlt:i<vs.length:=by rw[h5];exact(aA.1 hp).1
   exact⟨_,ir vs vs[i] h3 (by simp[hlt]),by simpa only[VA]using h6 i p _ hp (by simp[hlt])⟩
  ·simp at h1
 ·rename_i vs' e;rw[e]at h2;simp only[VA]at h2;obtain⟨vs,h3,h4⟩:=h2;obtain⟨h5,h6⟩:=(ig _ _).1 h4;have hlt:i<vs.length:=by rw[h5];exact(aA.1 h1).1
  exact⟨_,ir vs vs[i] h3 (by simp[hlt]),h6 i v _ h1 (by simp[hlt])⟩
 ·simp at h1
def aS(H:Hp):AV->Option Nat
 | .pv (.slice es)=>some es.length
 | .bu=>some 0
 | .ms id=>match H id with
  | .row _ es=>some es.length
  |_=>none
 | .gd id _ len=>match H id with
  | .row _ _=>some len
  |_=>none
 |_=>none
theorem Kt{X:Ctx}{M:Nat->Nat}{w:World}{v:AV}{n:Nat}{u:Value}(h:aS H v=some n)(hv:VA (aB X w U M H) v u):∃A cap,u=.slice A n cap:=by
 unfold aS at h;split at h
 ·rename_i es;simp at h;subst h;simp only[VA,VP]at hv;obtain⟨A,len,cap,h1,h2,_⟩:=hv;exact⟨A,cap,by rw[h1,h2]⟩
 ·simp at h;subst h;simp only[VA]at hv;exact⟨_,_,hv⟩
 ·rename_i id;split at h
  ·rename_i sz es dT;simp at h;subst h;simp only[VA]at hv;obtain⟨cap,t,gU,h1,_⟩:=hv.2.2 (sz,es.length) (by simp[aB,dT,dx.info]);exact⟨_,_,h1⟩
  ·simp at h
 ·rename_i id off len;split at h
  ·rename_i sz es dT;simp at h;subst h;simp only[VA]at hv;obtain⟨A,cap,t,gU,h1,_⟩:=hv.2.2 (sz,es.length) (by simp[aB,dT,dx.info]);exact⟨_,_,h1⟩
  ·simp at h
 ·simp at h
theorem fX{P:Program}{o:Oper}{c:Call}{b:Builtin}{ev:Operand->Value}(ho:o.op=.call c)(hb:c.callee=.builtin b) :
    execOp ev o=builtin b c.argTypes o.type (c.args.map fun| .const _=>true|_=>false) (c.args.map ev):=by
 unfold execOp;rw[ho];simp only[resolve,hb];rfl
theorem HJ(hE:E.OK){x:AO}{n:Nat}(hc:ey E o=some (.len x))(hd:∀k,o.dst=some k->k<N)(h1:aS H (dF F x)=some n):cL E N o F H U (.pv (.int .i64 n)) [] U:=by
 obtain⟨c,t,y,ho,hb,ht,ha,hy,e,hu⟩:=Kg hc;refine cL.value hd fun X M a w hX R=>?_;subst hX;obtain⟨A,cap,h2⟩:=Kt h1 (dc hE R hy);refine⟨.int .i64 n,?_,by simp[VA,VP]⟩;rw[fX (P:=X.E.P) ho hb];have ML:c.argTypes[0]? =some t:=by rw[<-cp,ht];rfl
 have Nw:(c.args.map a.eval)[0]? =some (a.eval y):=by rw[Array.getElem?_map,<-cp,ha];rfl
 refine cJ ?_;unfold Builtin.len_;rw[ML,Nw];simp only;rw[run_bind,bF hu,h2];rfl
theorem Fg(hE:E.OK){x:AO}{s:ByteArray}(hc:ey E o=some (.uY x))(hd:∀k,o.dst=some k->k<N)(h1:dF F x=.pv (.str s)):cL E N o F H U (.pv (.int .i64 s.size)) [] U:=by
 obtain⟨c,t,y,ho,hb,ht,ha,hy,hu⟩:=HD hc;refine cL.value hd fun X M a w hX R=>?_;subst hX;have h2:=dc hE R hy;rw[h1]at h2;simp only[VA,VP]at h2;refine⟨.int .i64 s.size,?_,by simp[VA,VP]⟩;rw[fX (P:=X.E.P) ho hb];have ML:c.argTypes[0]? =some t:=by rw[<-cp,ht];rfl
 have Nw:(c.args.map a.eval)[0]? =some (a.eval y):=by rw[Array.getElem?_map,<-cp,ha];rfl
 refine cJ ?_;unfold Builtin.len_;rw[ML,Nw];simp only;rw[run_bind,bF hu,h2];rfl
theorem Ff(hE:E.OK){n:Nat}(hc:ey E o=some (.wm n))(hd:∀k,o.dst=some k->k<N):cL E N o F H U (.pv (.int .i64 n)) [] U:=by
 obtain⟨c,t,y,e,ho,hb,ht,ha,hu⟩:=HC hc;refine cL.value hd fun X M a w hX R=>?_;subst hX;refine⟨.int .i64 n,?_,by simp[VA,VP]⟩;rw[fX (P:=X.E.P) ho hb];have ML:c.argTypes[0]? =some t:=by rw[<-cp,ht];rfl
 have Nw:(c.args.map a.eval)[0]? =some (a.eval y):=by rw[Array.getElem?_map,<-cp,ha];rfl
 refine cJ ?_;unfold Builtin.len_;rw[ML,Nw];simp only;rw[run_bind,bF hu];rfl
end
/-! ### Gj L4 owned memory -/
mutual
def eZ:AV->Option PV
 | .pv p=>some p
 | .bu=>some (.slice [])
 | .func f fs cs=>match ca fs,ca cs with
  |some a,some b=>some (.func f a b)
  |_,_=>none
 | .iface t v=>match eZ v with
  |some p=>some (.iface t p)
  |none=>none
 | .agg cs=>match ca cs with
  |some l=>some (.agg l)
  |none=>none
 | .tuple cs=>match ca cs with
  |some l=>some (.tuple l)
  |none=>none
 |_=>none
def ca:List AV->Option (List PV)
 |[]=>some []
 |c::r=>match eZ c,ca r with
  |some p,some l=>some (p::l)
  |_,_=>none
end
mutual
theorem B4{V:View}:(c:AV)->(p:PV)->(v:Value)->eZ c=some p->VA V c v->VP V.E V.w V.ok p v
 | .pv q,p,v,h,hv=>by simp[eZ]at h;subst h;simpa only[VA]using hv
 | .bu,p,v,h,hv=>by
  simp[eZ]at h;subst h;simp only[VA]at hv;subst hv;simp only[VP];exact⟨none,0,0,rfl,rfl,ax _,fun h=>by simp at h⟩
 | .bot,p,v,h,hv=>by simp[eZ]at h
 | .ptr _ _ _,p,v,h,hv=>by simp[eZ]at h
 | .ms _,p,v,h,hv=>by simp[eZ]at h
 | .gd _ _ _,p,v,h,hv=>by simp[eZ]at h
 | .map _,p,v,h,hv=>by simp[eZ]at h
 | .func f fs cs,p,v,h,hv=>by
  simp only[eZ]at h;split at h
  ·rename_i x y h1 h2;simp at h;subst h;simp only[VA,VP]at hv⊢;obtain⟨vs,us,g1,g2,g3⟩:=hv;exact⟨vs,us,g1,eT fs x vs h1 g2,eT cs y us h2 g3⟩
  ·simp at h
 | .iface t u,p,v,h,hv=>by
  simp only[eZ]at h;split at h
  ·rename_i x h1;simp at h;subst h;simp only[VA,VP]at hv⊢;obtain⟨y,g1,g2⟩:=hv;exact⟨y,g1,B4 u x y h1 g2⟩
  ·simp at h
 | .agg cs,p,v,h,hv=>by
  simp only[eZ]at h;split at h
  ·rename_i x h1;simp at h;subst h;simp only[VA,VP]at hv⊢;obtain⟨vs,g1,g2⟩:=hv;exact⟨vs,g1,eT cs x vs h1 g2⟩
  ·simp at h
 | .tuple cs,p,v,h,hv=>by
  simp only[eZ]at h;split at h
  ·rename_i x h1;simp at h;subst h;simp only[VA,VP]at hv⊢;obtain⟨vs,g1,g2⟩:=hv;exact⟨vs,g1,eT cs x vs h1 g2⟩
  ·simp at h
theorem eT{V:View}:(cs:List AV)->(ps:List PV)->(vs:List Value)->ca cs=some ps->ed V cs vs->VPs V.E V.w V.ok ps vs
 |[],ps,vs,h,hv=>by simp[ca]at h;subst h;simpa[ed,VPs]using hv
 |c::r,ps,vs,h,hv=>by
  simp only[ca]at h;split at h
  ·rename_i p l h1 h2;simp at h;subst h;simp only[ed,VPs]at hv⊢;obtain⟨u,us,g1,g2,g3⟩:=hv;exact⟨u,us,g1,B4 c p u h1 g2,eT r l us h2 g3⟩
  ·simp at h
end
end
section
/-! ### Gj filled in -/
theorem oJ:∀(vs:List Value) (c:Array Value) (off j:Nat),(vs.zipIdx j).foldl (fun cs (x:Value×Nat)=>cs.setIfInBounds (off+x.2) x.1) c=patch c (off+j) vs
 |[],c,off,j=>rfl
 |v::r,c,off,j=>by
  simp only[List.zipIdx_cons,gP,patch];rw[oJ r _ off (j+1)];rfl
def ft(F:Fr)(zs:List AV):List (Nat×Nat×AO)->Option (List AV)
 |[]=>some zs
 |(off,n,x)::r=>match cellsOf (dF F x)with
  |some cs=>match Nat.beq cs.length n,Nat.ble (off+n) zs.length with
   |true,true=>ft F (eI zs off cs) r
   |_,_=>none
  |none=>none
theorem wD{V:View}{zs cs:List AV}{c:Array Value}{vs:List Value}{off:Nat}(h1:ed V zs c.toList)(h2:ed V cs vs)(hl:off+cs.length<=zs.length):ed V (eI zs off cs) (patch c off vs).toList:=by
 have l1:=ee h1;have l2:=ee h2;have hc:c.size=zs.length:=by simpa using l1
 rw[ig];refine⟨by rw[gE];simp[fI,hc],fun j p v hp hv=>?_⟩;rw[nA _ _ _ _ hl]at hp;rw[cp,mP _ _ _ _ (by rw[l2,hc];exact hl),l2]at hv;split at hp
 ·rename_i hj;rw[aW hj]at hv;exact((ig _ _).1 h2).2 _ p v hp hv
 ·rename_i hj;rw[ar hj]at hv;exact((ig _ _).1 h1).2 j p v hp (by simpa using hv)
theorem rm{c:Array Value}{off:Nat}{vs:List Value}(h1:∀v∈c.toList,cN v)(h2:∀v∈vs,cN v):∀v∈(patch c off vs).toList,cN v:=by
 induction vs generalizing c off with
 |nil=>exact h1
 |cons u r ih =>
  simp only[patch];refine ih (fun v hv=>?_) (fun v hv=>h2 v (by simp[hv]));simp only[Array.toList_setIfInBounds]at hv;rcases List.mem_or_eq_of_mem_set hv with h|h
  ·exact h1 v h
  ·rw[h];exact h2 u (by simp)
section
variable{X:Ctx}{M:Nat->Nat}{F:Fr}{H:Hp}{U:Nat->Prop}{a:Act}{w:World}
theorem tt(hE:X.E.OK)(R:Rel X M F H U a w){place:Nat->Option (Nat×Nat)}:∀{qs:List (Nat×Operand)} {ps:List (Nat×Nat×AO)} {zs cs:List AV} {c:Array Value},
    jP X.E place qs=some ps->ft F zs ps=some cs->ed (aB X w U M H) zs c.toList ->
    ∃c',Instr.fill place c (qs.map fun(i,x)=>(i,a.eval x))=some c'/\ed (aB X w U M H) cs c'.toList
 |[],ps,zs,cs,c,h1,h2,h3=>by
  simp[jP]at h1;subst h1;simp[ft]at h2;subst h2;exact⟨c,rfl,h3⟩
 |(i,x)::r,ps,zs,cs,c,h1,h2,h3=>by
  simp only[jP]at h1;split at h1
  ·rename_i off n y l e1 e2 e3;simp at h1;subst h1;simp only[ft]at h2;split at h2
   ·rename_i pD e4;split at h2
    ·rename_i e5 e6;have e5:=cU e5;have e6:=fc e6;have h4:=l7 e4 (dc hE R e2);have l4:=ee h4;have l3:=ee h3;obtain⟨c',h5,h6⟩:=tt hE R e3 h2 (wD (off:=off) h3 h4 (by rw[e5];exact e6));refine⟨c',?_,h6⟩;simp only[aX,Instr.fill,e1];rw[ar]
     ·rw[<-Array.foldl_toList,Array.toList_zipIdx,oJ];exact h5
     ·simp only[Array.length_toList]at l3 l4;simp only[ke,bI,not_or];constructor
      ·simp only[ne_eq,Decidable.not_not];omega
      ·omega
    ·simp at h2
   ·simp at h2
  ·simp at h1
end
section
variable{E:Env}{N:Nat}{o:Oper}{F:Fr}{H:Hp}{U:Nat->Prop}
theorem BI(hE:E.OK){zs cs:List AV}{ps:List (Nat×Nat×AO)}(hc:ey E o=some (.build zs ps))(hd:∀k,o.dst=some k->k<N)(h1:ft F zs ps=some cs):cL E N o F H U (jY cs) [] U:=by
 obtain⟨t,qs,i,z,ho,hi,hz,J6,hh⟩:=F6 hc;refine cL.value hd fun X M a w hX R=>?_;subst hX;have hex:execOp a.eval o=(do pure (Next.value (<-Instr.build t (qs.map fun(i,x)=>(i,a.eval x)))):Sem Next):=by
  unfold execOp;rw[ho]
 have hl:(qs.map fun(i,x)=>(i,a.eval x)).toList=qs.toList.map fun(i,x)=>(i,a.eval x):=by simp
 rcases hh with⟨fs,places,hu,hp,hq⟩|⟨len,e,n,hu,hn,hq⟩
 ·obtain⟨c',h2,h3⟩:=tt hE R hq h1 (u5 (V:=aB X w U M H) J6);refine⟨.agg c',?_,?_⟩
  ·rw[hex];refine cJ (run_build w t _ c' ?_);unfold Program.built;rw[hi,hu];simp only[hz,hp];rw[hl];simpa using h2
  ·have:=mL h3;simpa using this
 ·obtain⟨c',h2,h3⟩:=tt hE R hq h1 (u5 (V:=aB X w U M H) J6);refine⟨.agg c',?_,?_⟩
  ·rw[hex];refine cJ (run_build w t _ c' ?_);unfold Program.built;rw[hi,hu];simp only[hz,hn];rw[hl];exact h2
  ·have:=mL h3;simpa using this
/-! ### A new block -/
theorem Rel.ve{X:Ctx}{M:Nat->Nat}{a:Act}{w:World}(R:Rel X M F H U a w)(o:Obj)(B:dx)(k:Nat)(hk:¬U k) :
    iL (aB X w U M H) (aB X {w with heap:=w.heap.push o} (fun i=>U i\/i=k) (wz M k w.heap.size) (wr H [(k,B)])):=by
 have hH:∀i,k≠i->wr H [(k,B)] i=H i:=fun i h=>by rw[eu H B [] h];rfl
 refine R.turn (by simp) (fun b hb _=>jt w o b hb) (fun i hi=>?_) (fun i h=>.inl h) (fun i s hu hs=>?_)
 ·by_cases h:k=i
  ·subst h;exact .inr (by rw[cS];exact ax _)
  ·rw[hH i h]at hi;exact .inl ⟨i,hi,cI h⟩
 ·by_cases h:k=i
  ·subst h;exact absurd hu hk
  ·rw[hH i h]at hs;refine⟨hs,cI h,fJ (jt w o _ (R.own i ?_).1)⟩;intro h';rw[h']at hs;simp[dx.info]at hs
theorem cL.zd{v:AV}{B:dx}{k:Nat}(hk:¬U k)(hd:∀k,o.dst=some k->k<N)(hB:B≠ .dead)
    (h:∀X M a w,X.E=E->Rel X M F H U a w->∃ob u,(execOp a.eval o).run E.P w=.ok (.value u) {w with heap:=w.heap.push ob} /\
     pH (aB X {w with heap:=w.heap.push ob} (fun i=>U i\/i=k) (wz M k w.heap.size) (wr H [(k,B)])) w.heap.size B /\
     VA (aB X {w with heap:=w.heap.push ob} (fun i=>U i\/i=k) (wz M k w.heap.size) (wr H [(k,B)])) v u) :
    cL E N o F H U v [(k,B)] (fun i=>U i\/i=k):=by
 intro X M a w Q hE hN R;obtain⟨ob,u,h1,h2,h3⟩:=h X M a w hE R;rw[Oper.wp,h1,Eb];exact⟨_,(R.new ob B k hk hB h2).put h3 (fun k hk=>by rw[hN];exact hd k hk)⟩
theorem kQ{V:View}{cs:List AV}{vs:List Value}{b o:Nat}(h:ed V cs vs)(hs:∀v∈vs,cN v)(hc:∀(j:Nat) v,vs[j]? =some v->V.w.cell? ⟨b,o+j,none⟩=some v):mT V cs b o:=by
 obtain⟨h1,h2⟩:=(ig _ _).1 h;rw[qu];intro j p hp;have hlt:j<vs.length:=by rw[h1];exact(aA.1 hp).1
 exact⟨vs[j],hc j _ (by simp[hlt]),hs _ (lL _),h2 j p _ hp (by simp[hlt])⟩
theorem ri{X:Ctx}{M:Nat->Nat}{a:Act}{w:World}(R:Rel X M F H U a w){k:Nat}(hk:¬U k){cs:List AV}{c:Array Value}{t:TypeId}(h:ed (aB X w U M H) cs c.toList)(hs:∀v∈c.toList,cN v) :
    pH (aB X {w with heap:=w.heap.push (.cells c t (0,0))} (fun i=>U i\/i=k) (wz M k w.heap.size) (wr H [(k,.var cs)])) w.heap.size (.var cs) /\
    VA (aB X {w with heap:=w.heap.push (.cells c t (0,0))} (fun i=>U i\/i=k) (wz M k w.heap.size) (wr H [(k,.var cs)])) (.ptr k 0 0) (.pointer (some ⟨w.heap.size,0,none⟩)):=by
 have T:=R.ve (.cells c t (0,0)) (.var cs) k hk;constructor
 ·refine⟨c,t,iw _ _,by have:=ee h;simpa using this,kQ (ij T _ _ h) hs fun j v hv=>?_⟩;have:(aB X {w with heap:=w.heap.push (.cells c t (0,0))} (fun i=>U i\/i=k) (wz M k w.heap.size) (wr H [(k,.var cs)])).w.heap[w.heap.size]? =some (.cells c t (0,0)):=iw _ _;rw[eM this];simpa using hv
 ·simp only[VA];refine⟨.inr rfl,⟨by simp,by simp⟩,fun s hs=>?_⟩;have:some (0,0)=some s:=by rw[<-hs];simp[aB,dY,dx.info]
  simp at this;subst this;simp[aB,cS]
theorem Bz(hE:E.OK){cs:List AV}{k:Nat}(hc:ey E o=some (.alloc cs))(hd:∀k,o.dst=some k->k<N)(hk:¬U k):cL E N o F H U (.ptr k 0 0) [(k,.var cs)] (fun i=>U i\/i=k):=by
 obtain⟨e,i,z,ho,hi,hz,Lr⟩:=F5 hc;refine cL.zd hk hd (by simp) fun X M a w hX R=>?_;subst hX;refine⟨.cells z.cells e (0,0),.pointer (some ⟨w.heap.size,0,none⟩),?_,ri R hk (u5 Lr) (u9 Lr)⟩;unfold execOp;rw[ho];refine cJ ?_;unfold Instr.alloc;rw[run_bind,lX hi hz];rfl
theorem GG(hE:E.OK){x:AO}{cs:List AV}{k:Nat}(hc:ey E o=some (.box x))(hd:∀k,o.dst=some k->k<N)(hk:¬U k)(h1:cellsOf (dF F x)=some cs)(hs:lG cs=true) :
    cL E N o F H U (.ptr k 0 0) [(k,.var cs)] (fun i=>U i\/i=k):=by
 obtain⟨e,y,ho,hy⟩:=Kf hc;refine cL.zd hk hd (by simp) fun X M a w hX R=>?_;subst hX;refine⟨.cells (a.eval y).cells e (0,0),.pointer (some ⟨w.heap.size,0,none⟩),?_,ri R hk (l7 h1 (dc hE R hy)) (rz hs (l7 h1 (dc hE R hy)))⟩;unfold execOp;rw[ho];rfl
/-! ### A store -/
def jA(H:Hp)(p:AV)(cs:List AV):Option (Nat×dx) :=
 match p with
 | .ptr id i off=>match H id with
  | .var old=>match Nat.ble (off+cs.length) old.length with
   |true=>some (id,.var (eI old off cs))
   |false=>none
  | .row sz es=>match es[i]?,ca cs with
   |some e,some ps=>match Nat.ble (off+cs.length) e.length with
    |true=>some (id,.row sz (es.set i (eI e off ps)))
    |false=>none
   |_,_=>none
  |_=>none
 |_=>none
theorem cL.write{N:Nat}{id:Nat}{B:dx}(hd:o.dst=none)
    (h:∀X M a w,X.E=E->Rel X M F H U a w->∃ob,(execOp a.eval o).run E.P w=.ok .skip (fY w (M id) ob)/\H id≠ .dead/\B≠ .dead/\B.info=(H id).info /\
     (fY w (M id) ob).shape? (M id)=w.shape? (M id)/\pH (aB X (fY w (M id) ob) U M (wr H [(id,B)])) (M id) B) :
    cL E N o F H U .bot [(id,B)] U:=by
 intro X M a w Q hE hN R;obtain⟨ob,h1,h2,h3,h4,h5,h6⟩:=h X M a w hE R;rw[Oper.wp,h1,Oper.upon_skip];refine⟨M,?_⟩;rw[hd];exact R.write ob B id h2 h3 h4 h5 h6
theorem CT(hE:E.OK){n:Nat}{x y:AO}{cs:List AV}{id:Nat}{B:dx}(hc:ey E o=some (.store n x y))(hd:o.dst=none)(h1:cellsOf (dF F y)=some cs)(h2:Nat.beq cs.length n=true)
    (h3:lG cs=true) (h4:jA H (dF F x) cs=some (id,B)):cL E N o F H U .bot [(id,B)] U:=by
 obtain⟨t,x',y',i,ho,hx,hy,hi,rfl⟩:=Fc hc;have h2:=cU h2;refine cL.write hd fun X M a w hX R=>?_;subst hX;have lS:=dc hE R hx;have G5:=l7 h1 (dc hE R hy);have hlen:=ee G5;have Ht:=rz h3 G5;have ir:∀b off c t',a.eval x'=.pointer (some ⟨b,off,none⟩)->w.heap[b]? =some (.cells c t' (0,0))->off+cs.length<=c.size ->
                                                                                                                                                                                                 (execOp a.eval o).run X.E.P w=.ok .skip (fY w b (.cells (patch c off (a.eval y').cells.toList) t' (0,0))):=fun b off c t' e1 e2 e3=>by
  have h5:(Instr.storeAt t (a.eval x') (a.eval y')).run X.E.P w=.ok () (fY w b (.cells (patch c off (a.eval y').cells.toList) t' (0,0))):=by
   rw[e1];unfold Instr.storeAt;rw[run_bind];simp only[Instr.sureAddr];rw[run_pure];simp only;unfold storeVar;rw[run_bind,fj hi];simp only;rw[ar (by simp at hlen;simp;omega)];exact nD b off t' _ 0 c w e2 (by rw[hlen];simpa using e3) Ht
  have hex:execOp a.eval o=(do Instr.storeAt t (a.eval x') (a.eval y');pure Next.skip:Sem Next):=by
   unfold execOp;rw[ho]
  rw[hex,run_bind,h5];rfl
 unfold jA at h4;split at h4
 ·rename_i k j off e;rw[e]at lS;simp only[VA]at lS;have hb:=R.blk k;split at h4
  ·rename_i old hk;split at h4
   ·rename_i hle;have hle:=fc hle;simp at h4;obtain⟨rfl,rfl⟩:=h4;have h6:=lS.2.2 (0,0) (by simp[aB,hk,dx.info]);rw[hk]at hb;obtain⟨c,t',g1,g2,g3⟩:=hb;have h7:a.eval x'=.pointer (some ⟨M k,off,none⟩):=by simpa[aB]using h6
    have C6:M k<w.heap.size:=(cf.1 g1).1;refine⟨_,ir _ _ _ _ h7 g1 (by rw[g2];exact hle),by simp[hk],by simp,by simp[hk,dx.info],?_,?_⟩
    ·have vZ:w.heap[M k]? =some (.cells c t' (0,0)):=g1;simp[World.shape?,dB _ C6,vZ,fI]
    ·have T:=R.qp (.cells (patch c off (a.eval y').cells.toList) t' (0,0)) (.var (eI old off cs)) k (by simp[hk]) (by simp[hk,dx.info])
      (by have vZ:w.heap[M k]? =some (.cells c t' (0,0)):=g1
          simp[World.shape?,dB _ C6,vZ,fI])
     obtain⟨us,g4,gs,g5⟩:=gf g3;have l5:=ee g4;have U4:=ij T _ _ g4;have MP:=ij T _ _ G5;refine⟨patch c off (a.eval y').cells.toList,t',dB _ C6,by rw[fI,gE,g2],?_⟩;have Tr:us=c.toList:=by
      apply List.ext_getElem?;intro j;by_cases hj:j<us.length
      ·have g6:=g5 j us[j] (by simp[hj]);rw[eM g1]at g6;simp only[aM]at g6;have g7:c.toList[j]? =some us[j]:=by rw[cp];exact g6
       rw[g7];simp[hj]
      ·rw[List.getElem?_eq_none (by omega),List.getElem?_eq_none (by simp;omega)]
     subst Tr;refine kQ (wD (off:=off) U4 MP hle) (rm gs Ht) fun j v hv=>?_;have:(aB X (fY w (M k) (.cells (patch c off (a.eval y').cells.toList) t' (0,0))) U M (wr H [(k,.var (eI old off cs))])).w.heap[M k]? =some (.cells (patch c off (a.eval y').cells.toList) t' (0,0)):=dB _ C6;rw[eM this];simpa using hv
   ·simp at h4
  ·rename_i sz es hk;split at h4
   ·rename_i e' ps he iW;split at h4
    ·rename_i hle;have hle:=fc hle;simp at h4;obtain⟨rfl,rfl⟩:=h4;have h6:=lS.2.2 (sz,es.length) (by simp[aB,hk,dx.info]);rw[hk]at hb;obtain⟨c,t',g1,g2,g3⟩:=hb;have h7:a.eval x'=.pointer (some ⟨M k,j*sz+off,none⟩):=by simpa[aB]using h6
     have C6:M k<w.heap.size:=(cf.1 g1).1;obtain⟨g7,g8⟩:=(eH es 0).1 g3 j e' he;have pk:j<es.length:=(aA.1 he).1;have rX:j*sz+off+cs.length<=c.size:=by
      have:(j+1)*sz<=es.length*sz:=cQ _ pk;rw[dq]at this;omega
     have vZ:w.heap[M k]? =some (.cells c t' (0,0)):=g1;refine⟨_,ir _ _ _ _ h7 g1 rX,by simp[hk],by simp,by simp[hk,dx.info],?_,?_⟩
     ·simp[World.shape?,dB _ C6,vZ,fI]
     ·have T:=R.qp (.cells (patch c (j*sz+off) (a.eval y').cells.toList) t' (0,0)) (.row sz (es.set j (eI e' off ps))) k (by simp[hk]) (by simp[hk,dx.info])
       (by simp[World.shape?,dB _ C6,vZ,fI])
      have MP:=ij T _ _ G5;have Pe:=eT _ _ _ iW MP;have V5:ps.length=cs.length:=by have:=dW Pe;rw[<-this];exact hlen
      refine⟨patch c (j*sz+off) (a.eval y').cells.toList,t',dB _ C6,by rw[fI];simpa using g2,?_⟩;rw[eH];intro i q hq;have uN:∀o',(aB X (fY w (M k) (.cells (patch c (j*sz+off) (a.eval y').cells.toList) t' (0,0))) U M (wr H [(k,.row sz (es.set j (eI e' off ps)))])).w.cell? ⟨M k,o',none⟩=(patch c (j*sz+off) (a.eval y').cells.toList)[o']? :=fun o'=>eM (dB _ C6) o';have Th:i<es.length:=by have:=(aA.1 hq).1;simpa using this
      by_cases rY:j=i
      ·subst rY;rw[kL pk]at hq;simp at hq;subst hq;refine⟨by rw[gE];exact g7,?_⟩;rw[eF];intro m p hp;rw[nA _ _ _ _ (by rw[V5];exact hle)]at hp;rw[uN,aM,mP _ _ _ _ (by rw[hlen];exact rX),hlen];split at hp
       ·rename_i hm;rw[aW (by omega)];obtain⟨q1,q2⟩:=(gn _ _).1 Pe;have hlt:m-off<(a.eval y').cells.toList.length:=by rw[hlen];omega
        refine⟨(a.eval y').cells.toList[m-off],?_,Ht _ (lL _),q2 _ p _ hp (by simp[hlt])⟩;rw[show j*sz+m-(j*sz+off)=m-off by omega];simp[hlt]
       ·rename_i hm;rw[ar (by have:=(aA.1 hp).1;omega)];obtain⟨u,q1,qs,q2⟩:=(eF _ _).1 g8 m p hp;rw[eM g1,aM]at q1;exact⟨u,q1,qs,iz T.stays p u q2⟩
      ·rw[List.getElem?_set_ne rY]at hq;obtain⟨q1,q2⟩:=(eH es 0).1 g3 i q hq;refine⟨q1,?_⟩;rw[eF];intro m p hp;obtain⟨u,q3,qs,q4⟩:=(eF _ _).1 q2 m p hp;have hm:m<sz:=by rw[<-q1];exact(aA.1 hp).1
       refine⟨u,?_,qs,iz T.stays p u q4⟩;rw[uN,aM,mP _ _ _ _ (by rw[hlen];exact rX),hlen,ar]
       ·rw[eM g1,aM]at q3;exact q3
       ·rcases Nat.lt_or_gt_of_ne rY with h|h
        ·have:(j+1)*sz<=i*sz:=cQ _ h;rw[dq]at this;omega
        ·have:(i+1)*sz<=j*sz:=cQ _ h;rw[dq]at this;omega
    ·simp at h4
   ·simp at h4
  ·simp at h4
 ·simp at h4
end
end
section
/-! ### An Nm place -/
theorem sk{P:Program}{w:World}{t e:TypeId}{i:TypeInfo}{b o len cap:Nat}{k:IntKind}{n:Int}(hu:P.underlying t=some (.slice e))(hi:P.info? e=some i)(h0:0<=n)(hn:n.toNat<len) :
    (Instr.indexAt t (.slice (some ⟨b,o,none⟩) len cap) (.int k n)).run P w=.ok (.pointer (some ⟨b,o+n.toNat*i.size,none⟩)) w:=by
 have hlt:0<=n/\n<(len:Int):=⟨h0,by omega⟩;unfold Instr.indexAt;simp only[asIntOf];rw[run_bind,run_pure];simp only;rw[run_bind,bF hu];simp only;rw[run_bind,run_pure];simp only;rw[run_bind,bF hu];simp only[hlt,and_self,bz];rw[run_bind,fj hi];simp only[add_eq];rfl
section
variable{E:Env}{N:Nat}{o:Oper}{F:Fr}{H:Hp}{U:Nat->Prop}
theorem qH{t:TypeId}{x i:Operand}(ho:o.op=.indexAddr t x i)(ev:Operand->Value):execOp ev o=(do pure (Next.value (<-Instr.indexAt t (ev x) (ev i))):Sem Next):=by
 unfold execOp;rw[ho]
theorem AD(hE:E.OK){sz:Nat}{x i:AO}{es:List (List PV)}{e:List PV}{k:IntKind}{n:Int}(hc:ey E o=some (.fC sz x i))(hd:∀k,o.dst=some k->k<N)
    (h1:dF F x=.pv (.slice es)) (h2:dF F i=.pv (.int k n)) (h0:0<=n) (h3:es[n.toNat]? =some e) (h4:e.length=sz):cL E N o F H U (.pv (.gX e 0)) [] U:=by
 obtain⟨t,x',i',el,info,ho,hx,hi,hu,qU,rfl⟩:=oF hc;refine cL.value hd fun X M a w hX R=>?_;subst hX;have lS:=dc hE R hx;have yS:=dc hE R hi;rw[h1]at lS;rw[h2]at yS;simp only[VA,VP]at lS yS;obtain⟨A,len,cap,g1,g2,g3,g4⟩:=lS;have hlt:n.toNat<es.length:=(aA.1 h3).1;obtain⟨b,q,wu,rfl,g5,g6⟩:=g4 (by omega);obtain⟨g7,g8⟩:=(eH es q).1 g6 _ e h3;refine⟨.pointer (some ⟨b,q+n.toNat*info.size,none⟩),?_,?_⟩
 ·rw[qH ho,g1,yS];exact cJ (sk hu qU h0 (by omega))
 ·simp only[VA,VP];exact⟨b,q+n.toNat*info.size,by simp,g5,by rw[<-h4,g7];exact g8⟩
theorem AB(hE:E.OK){sz:Nat}{x i:AO}{id:Nat}{es:List (List PV)}{k:IntKind}{n:Int}(hc:ey E o=some (.fC sz x i))(hd:∀k,o.dst=some k->k<N)
    (h1:dF F x=.ms id) (dT:H id=.row sz es) (h2:dF F i=.pv (.int k n)) (h0:0<=n) (h3:n.toNat<es.length):cL E N o F H U (.ptr id n.toNat 0) [] U:=by
 obtain⟨t,x',i',el,info,ho,hx,hi,hu,qU,rfl⟩:=oF hc;refine cL.value hd fun X M a w hX R=>?_;subst hX;have lS:=dc hE R hx;have yS:=dc hE R hi;rw[h1]at lS;rw[h2]at yS;simp only[VA,VP]at lS yS;obtain⟨cap,t',gU,g1,g2,g3,g4⟩:=lS.2.2 (info.size,es.length) (by simp[aB,dT,dx.info]);refine⟨.pointer (some ⟨M id,0+n.toNat*info.size,none⟩),?_,?_⟩
 ·rw[qH ho,g1,yS];exact cJ (sk hu qU h0 h3)
 ·simp only[VA];refine⟨lS.1,⟨by simp,by simp⟩,fun s hs=>?_⟩;have:some (info.size,es.length)=some s:=by rw[<-hs];simp[aB,dT,dx.info]
  simp at this;subst this;simp[aB]
theorem wg(hE:E.OK){sz:Nat}{x i:AO}{id off len:Nat}{es:List (List PV)}{k:IntKind}{n:Int}(hc:ey E o=some (.fC sz x i))(hd:∀k,o.dst=some k->k<N)
    (h1:dF F x=.gd id off len) (dT:H id=.row sz es) (h2:dF F i=.pv (.int k n)) (h0:0<=n) (h3:n.toNat<len):cL E N o F H U (.ptr id (off+n.toNat) 0) [] U:=by
 obtain⟨t,x',i',el,info,ho,hx,hi,hu,qU,rfl⟩:=oF hc;refine cL.value hd fun X M a w hX R=>?_;subst hX;have lS:=dc hE R hx;have yS:=dc hE R hi;rw[h1]at lS;rw[h2]at yS;simp only[VA,VP]at lS yS;obtain⟨A,cap,t',gU,g1,g2,g3,g4,g5⟩:=lS.2.2 (info.size,es.length) (by simp[aB,dT,dx.info]);have g5:=g5 (.inl (by omega));refine⟨.pointer (some ⟨M id,off*info.size+n.toNat*info.size,none⟩),?_,?_⟩
 ·rw[qH ho,g1,g5,yS];exact cJ (sk hu qU h0 h3)
 ·simp only[VA];refine⟨lS.1,⟨by simp,by simp⟩,fun s hs=>?_⟩;have:some (info.size,es.length)=some s:=by rw[<-hs];simp[aB,dT,dx.info]
  simp at this;subst this;simp[aB,dq]
end
/-! ### What is NX -/
def dV(H:Hp):AV->Option (List (List PV))
 | .pv (.slice es)=>some es
 | .bu=>some []
 | .ms id=>match H id with
  | .row _ es=>some es
  |_=>none
 | .gd id off len=>match H id with
  | .row _ es=>match Nat.ble (off+len) es.length with
   |true=>some ((es.drop off).take len)
   |false=>none
  |_=>none
 | .tT id off len=>match H id with
  | .var cs=>match Nat.ble (off+len) cs.length,ca cs with
   |true,some pl=>some (((pl.drop off).take len).map fun p=>[p])
   |_,_=>none
  |_=>none
 |_=>none
theorem sx{E:Env}{w:World}{ok:Nat->Prop}{b:Nat}:∀{ps:List PV} {o:Nat},iu E w ok ps b o->di E w ok (ps.map fun p=>[p]) b o 1
 |[],o,h=>by simp[di]
 |p::r,o,h=>by
  rw[eF]at h;simp only[aX,di];refine⟨rfl,?_,sx ?_⟩
  ·rw[eF];intro j q hq;exact h j q (by cases j with
    |zero=>simpa using hq
    |succ j=>simp at hq)
  ·rw[eF];intro j q hq;have:=h (j+1) q (by simpa using hq);rwa [show o+1+j=o+(j+1) by omega]
theorem o4{E:Env}{w:World}{ok:Nat->Prop}{sz b:Nat}:∀{es:List (List PV)} {o:Nat},di E w ok es b o sz->iu E w ok es.flatten b o/\es.flatten.length=es.length*sz
 |[],o,h=>by simp[iu]
 |e::es,o,h=>by
  simp only[di]at h;obtain⟨h1,h2,h3⟩:=h;obtain⟨h4,h5⟩:=o4 h3;simp only[Jb,aG,ay,h5,h1];refine⟨?_,by rw[dq];omega⟩;rw[eF]at h2 h4⊢;intro j p hp;rw[PW]at hp;split at hp
  ·exact h2 j p hp
  ·rename_i hj;have:=h4 (j-e.length) p hp;rwa [show o+sz+(j-e.length)=o+j by omega]at this
theorem kS{E:Env}{w:World}{ok:Nat->Prop}{sz b:Nat}:∀{es:List (List PV)} {o:Nat},(∀e∈es,e.length=sz)->iu E w ok es.flatten b o->di E w ok es b o sz
 |[],o,h,h2=>by simp[di]
 |e::es,o,h,h2=>by
  simp only[di];have he:=h e (by simp);rw[Jb]at h2;refine⟨he,?_,kS (fun x hx=>h x (by simp[hx])) ?_⟩
  ·rw[eF]at h2⊢;intro j p hp;exact h2 j p (by rw[List.getElem?_append_left (aA.1 hp).1];exact hp)
  ·rw[eF]at h2⊢;intro j p hp;have:=h2 (e.length+j) p (by rw[List.getElem?_append_right (by omega)];simpa using hp);rwa [he,<-eW]at this
theorem oz{sz:Nat}:∀{es:List (List PV)},(∀e∈es,e.length=sz)->es.flatten.length=es.length*sz
 |[],h=>by simp
 |e::es,h=>by
  rw[Jb,aG,h e (by simp),oz (fun x hx=>h x (by simp[hx])),ay,dq];omega
section
variable{X:Ctx}{M:Nat->Nat}{F:Fr}{H:Hp}{U:Nat->Prop}{a:Act}{w:World}
theorem kT{E:Env}{w:World}{ok:Nat->Prop}{sz b o:Nat}{es:List (List PV)}(h:di E w ok es b o sz)(off n:Nat):di E w ok ((es.drop off).take n) b (o+off*sz) sz:=by
 rw[eH]at h⊢;intro i e he;rw[md]at he;split at he
 ·rw[List.getElem?_drop]at he;have:=h (off+i) e he;rwa [dq,<-eW]at this
 ·simp at he
theorem tF(R:Rel X M F H U a w){v:AV}{es:List (List PV)}{u:Value}{sz:Nat}(h:dV H v=some es)(hv:VA (aB X w U M H) v u)(lI:∀e∈es,e.length=sz) :
    ∃A cap mz,u=.slice A es.length cap/\(∀v∈mz,cN v)/\VPs X.E w (ju X w M H) es.flatten mz/\∀d,(Builtin.firstCells sz es.length u).run X.E.P {w with drawn:=d}=.ok mz.toArray {w with drawn:=d}:=by
 have main:∀A cap b o wu,u=.slice A es.length cap->A=some ⟨b,o,none⟩->di X.E w (ju X w M H) es b o wu->es≠[]->∃A cap mz,u=.slice A es.length cap/\(∀v∈mz,cN v)/\VPs X.E w (ju X w M H) es.flatten mz/\∀d,(Builtin.firstCells sz es.length u).run X.E.P {w with drawn:=d}=.ok mz.toArray {w with drawn:=d}:=by
  intro A cap b o wu h1 h2 h3 eA;obtain⟨e,r,rfl⟩:∃e r,es=e::r:=by cases es with
   |nil=>exact absurd rfl eA
   |cons e r=>exact⟨e,r,rfl⟩
  have hs:wu=sz:=by
   have:=((eH _ _).1 h3 0 e rfl).1;rw[<-this];exact lI e (by simp)
  subst hs;obtain⟨h4,h5⟩:=o4 h3;obtain⟨vs,h6,hs,h7⟩:=o6 h4;refine⟨A,cap,vs,h1,hs,h6,?_⟩;intro d;rw[h1,h2];exact oN b o vs _ (by rw[dW h6,h5]) h7
 have nil:es=[]->∀A cap,u=.slice A es.length cap->(A=none\/∃b o,A=some ⟨b,o,none⟩\/True)->∃A cap mz,u=.slice A es.length cap/\(∀v∈mz,cN v)/\VPs X.E w (ju X w M H) es.flatten mz/\∀d,(Builtin.firstCells sz es.length u).run X.E.P {w with drawn:=d}=.ok mz.toArray {w with drawn:=d}:=by
  intro he A cap h1 _;subst he;refine⟨A,cap,[],h1,by simp,by simp[VPs],?_⟩;intro d;rw[h1];cases A with
  |none=>rfl
  |some ad =>
   simp only[Builtin.firstCells,bM,Nat.zero_mul];rfl
 unfold dV at h;split at h
 ·rename_i es';simp at h;subst h;simp only[VA,VP]at hv;obtain⟨A,len,cap,h1,h2,h3,h4⟩:=hv;subst h2;by_cases he:es'=[]
  ·exact nil he A cap h1 (.inr ⟨0,0,.inr trivial⟩)
  ·obtain⟨b,o,wu,h5,h6,h7⟩:=h4 (by cases es' with
    |nil=>exact absurd rfl he
    |cons=>simp)
   exact main A cap b o wu h1 h5 h7 he
 ·simp at h;subst h;simp only[VA]at hv;exact nil rfl _ _ hv (.inl rfl)
 ·rename_i id;split at h
  ·rename_i wu es' dT;simp at h;subst h;simp only[VA]at hv;obtain⟨cap,t,gU,h1,h2,h3,h4⟩:=hv.2.2 (wu,es'.length) (by simp[aB,dT,dx.info]);have hb:=R.blk id;rw[dT]at hb;obtain⟨c,t',g1,g2,g3⟩:=hb;by_cases he:es'=[]
   ·exact nil he _ cap h1 (.inr ⟨0,0,.inr trivial⟩)
   ·exact main _ cap (M id) 0 wu h1 rfl g3 he
  ·simp at h
 ·rename_i id off len;split at h
  ·rename_i wu es' dT;split at h
   ·rename_i hle;have hle:=fc hle;simp at h;subst h;simp only[VA]at hv;obtain⟨A,cap,t,gU,h1,h2,h3,h4,h5⟩:=hv.2.2 (wu,es'.length) (by simp[aB,dT,dx.info]);have hb:=R.blk id;rw[dT]at hb;obtain⟨c,t',g1,g2,g3⟩:=hb;have hl:((es'.drop off).take len).length=len:=by simp;omega
    rw[<-hl]at h1;by_cases he:(es'.drop off).take len=[]
    ·exact nil he _ cap h1 (.inr ⟨0,0,.inr trivial⟩)
    ·have wc:0<len:=by
      rcases Nat.eq_zero_or_pos len with h0|h0
      ·subst h0;simp at he
      ·exact h0
     refine main _ cap (M id) (off*wu) wu h1 (by rw[h5 (.inl wc)];rfl) ?_ he;have:=kT g3 off len;rwa [aM]at this
   ·simp at h
  ·simp at h
 ·rename_i id off len;split at h
  ·rename_i cs dT;split at h
   ·rename_i hle Ca;rename_i pl;have hle:=fc hle;simp only[ai]at h;subst h;simp only[VA]at hv;have h1:=hv.2.2 (0,0) (by simp[aB,dT,dx.info]);have hb:=R.blk id;rw[dT]at hb;obtain⟨c,t',g1,g2,g3⟩:=hb;obtain⟨vs,k1,k2,k3⟩:=gf g3;have k4:=eT _ _ _ Ca k1;have Pa:pl.length=cs.length:=(dW k4).symm.trans (ee k1);have hr:iu X.E w (ju X w M H) pl (M id) 0:=by
     obtain⟨l1,m1⟩:=(gn _ _).1 k4;rw[eF];intro j q hq;have hlt:j<vs.length:=by rw[l1];exact(aA.1 hq).1
     exact⟨vs[j],k3 j _ (by simp[hlt]),k2 _ (lL _),m1 j q _ hq (by simp[hlt])⟩
    have hl:(((pl.drop off).take len).map fun p=>[p]).length=len:=by simp;omega
    rw[<-hl]at h1;by_cases he:((pl.drop off).take len).map (fun p=>[p])=[]
    ·exact nil he _ _ h1 (.inr ⟨0,0,.inr trivial⟩)
    ·refine main _ _ (M id) off 1 h1 rfl (sx ?_) he;have:=o5 hr off len;rwa [aM]at this
   ·simp at h
  ·simp at h
 ·simp at h
theorem Rel.sc(R:Rel X M F H U a w){w':World}{id k b':Nat}{B:dx}(hk:¬U k)(dT:H id≠ .dead)(lQ:w.heap.size<=w'.heap.size)
    (sO:∀b,b<w.heap.size->b≠M id->w'.heap[b]? =w.heap[b]?) (hb:b'=M id\/w.heap.size<=b') :
    iL (aB X w U M H) (aB X w' (fun i=>U i\/i=k) (wz M k b') (wr H [(id,.dead),(k,B)])):=by
 have MB:id≠k:=fun h=>hk (h▸R.used id dT);have hH:∀i,id≠i->k≠i->wr H [(id,.dead),(k,B)] i=H i:=fun i h1 h2=>by rw[eu H _ _ h1,eu H _ _ h2];rfl
 have Tb:wr H [(id,.dead),(k,B)] k=B:=by rw[eu H _ _ MB,dY]
 refine R.turn lQ (fun b hb hn=>sO b hb (fun h=>hn id dT h.symm)) (fun i hi=>?_) (fun i h=>.inl h) (fun i s hu hs=>?_)
 ·by_cases h1:id=i
  ·subst h1;rw[dY]at hi;exact absurd rfl hi
  ·by_cases h2:k=i
   ·subst h2;rw[cS];rcases hb with h|h
    ·exact .inl ⟨id,dT,h⟩
    ·exact .inr h
   ·rw[hH i h1 h2]at hi;exact .inl ⟨i,hi,cI h2⟩
 ·by_cases h1:id=i
  ·subst h1;rw[dY]at hs;simp[dx.info]at hs
  ·by_cases h2:k=i
   ·subst h2;exact absurd hu hk
   ·rw[hH i h1 h2]at hs;have eA:H i≠ .dead:=fun h'=>by rw[h']at hs;simp[dx.info]at hs
    exact⟨hs,cI h2,fJ (sO _ (R.own i eA).1 fun h=>h1 (R.inj id i dT eA h.symm))⟩
theorem Rel.move(R:Rel X M F H U a w){w':World}{id k b':Nat}{B:dx}(hk:¬U k)(dT:H id≠ .dead)(lQ:w.heap.size<=w'.heap.size)
    (sO:∀b,b<w.heap.size->b≠M id->w'.heap[b]? =w.heap[b]?) (hb:b'=M id\/w.heap.size<=b') (UG:w'.os=w.os) (Pk:w'.tape=w.tape) (S2:w'.output=w.output)
    (hB:pH (aB X w' (fun i=>U i\/i=k) (wz M k b') (wr H [(id,.dead),(k,B)])) b' B) (Ud:B≠ .dead) :
    Rel X (wz M k b') F (wr H [(id,.dead),(k,B)]) (fun i=>U i\/i=k) a w':=by
 have T:=R.sc (B:=B) hk dT lQ sO hb;have MB:id≠k:=fun h=>hk (h▸R.used id dT);have hH:∀i,id≠i->k≠i->wr H [(id,.dead),(k,B)] i=H i:=fun i h1 h2=>by rw[eu H _ _ h1,eu H _ _ h2];rfl
 have Tb:wr H [(id,.dead),(k,B)] k=B:=by rw[eu H _ _ MB,dY]
 have fL:∀i,wr H [(id,.dead),(k,B)] i≠ .dead->id≠i/\(k=i\/(k≠i/\H i≠ .dead)):=fun i hi=>by
  by_cases h1:id=i
  ·subst h1;rw[dY]at hi;exact absurd rfl hi
  ·by_cases h2:k=i
   ·exact⟨h1,.inl h2⟩
   ·rw[hH i h1 h2]at hi;exact⟨h1,.inr ⟨h2,hi⟩⟩
 have RJ:=G8 hB Ud;refine{defers:=R.defers,size:=R.size,keeps:=⟨UG.trans R.keeps.os,Pk.trans R.keeps.tape,S2.trans R.keeps.output,cG R.keeps.size lQ,fun b Av hn=>?_⟩,K:=R.K,
                          used:=fun i hi=>?_,inj:=fun i j hi hj rY=>?_,own:=fun i hi=>?_,blk:=fun i=>?_,fr:=fun t=>db T _ _ (R.fr t),gh:=fun v u h=>db T _ _ (R.gh v u h)}
 ·rw[sO b (dy Av R.keeps.size) ?_]
  ·exact R.keeps.block b Av hn
  ·intro he;rcases(R.own id dT).2.2 with h|h
   ·rw[<-he]at h;exact hn h
   ·omega
 ·rcases fL i hi with⟨_,h|⟨_,h⟩⟩
  ·exact .inr h.symm
  ·exact .inl (R.used i h)
 ·have key:∀i,id≠i->k≠i->H i≠ .dead->M i≠b':=fun i h1 h2 h3 h4=>by
   rcases hb with h|h
   ·exact h1 (R.inj id i dT h3 (h.symm.trans h4.symm))
   ·have:=(R.own i h3).1;omega
  rcases fL i hi with⟨h1,h2|⟨h2,h3⟩⟩ <;>rcases fL j hj with⟨h4,h5|⟨h5,h6⟩⟩
  ·exact h2.symm.trans h5
  ·subst h2;rw[cS,cI h5]at rY;exact absurd rY.symm (key j h4 h5 h6)
  ·subst h5;rw[cS,cI h2]at rY;exact absurd rY (key i h1 h2 h3)
  ·rw[cI h2,cI h5]at rY;exact R.inj i j h3 h6 rY
 ·rcases fL i hi with⟨h1,h2|⟨h2,h3⟩⟩
  ·subst h2;rw[cS];refine⟨RJ,fun hK=>?_,?_⟩
   ·rcases hb with h|h
    ·rw[h]at hK;exact(R.own id dT).2.1 hK
    ·have h1:=R.K _ hK;have h2:=R.keeps.size;omega
   ·rcases hb with h|h
    ·rw[h];exact(R.own id dT).2.2
    ·exact .inr (cG R.keeps.size h)
  ·rw[cI h2];obtain⟨h4,h5,h6⟩:=R.own i h3;exact⟨dy h4 lQ,h5,h6⟩
 ·by_cases h1:id=i
  ·subst h1;rw[dY];trivial
  ·by_cases h2:k=i
   ·subst h2;rw[cS,Tb];exact hB
   ·rw[hH i h1 h2,cI h2];exact fx T _ (fun eA=>sO _ (R.own i eA).1 fun h=>h1 (R.inj id i dT eA h.symm)) (R.blk i)
end
end
section
theorem wO(n:Nat):∀(r c:Nat),Builtin.growBy n r c<=c\/Builtin.growBy n r c<=2*n+192
 |0,c=>.inl (ax _)
 |r+1,c=>by
  unfold Builtin.growBy;split
  ·exact .inl (ax _)
  ·rename_i h;rcases wO n r (c+(c+768)/4)with h1|h1
   ·right;omega
   ·right;exact h1
theorem CB{Kz cap:Nat}(h:cap<Kz):Builtin.nextslicecap Kz cap<=2*Kz+768:=by
 unfold Builtin.nextslicecap;split
 ·omega
 ·split
  ·omega
  ·rcases wO Kz 4 cap with h1|h1 <;>omega
section
variable{P:Program}{w:World}
theorem rb{α β:Type}{s:Sem α}{f:α->Sem β}{w':World}{a:α}(h:s.run P w=.ok a w'):(s >>= f).run P w=(f a).run P w':=by
 rw[run_bind,h]
theorem B7{ts:Array TypeId}{ty:TypeId}{t u e e':TypeId}{info:TypeInfo}{b l cap n:Nat}{xv:Value}{A:Option Addr}{cx:Nat}{new:Array Value}{c:Array Value}{t':TypeId}
    (ht:ts[0]? =some t) (hu:ts[1]? =some u) (h1:P.underlying t=some (.slice e)) (h2:P.underlying u=some (.slice e')) (hi:P.info? e=some info)
    (hx:xv=.slice A n cx) (qV:(Builtin.firstCells info.size n xv).run P w=.ok new w) (rX:l+n<=cap) (hc:w.heap[b]? =some (.cells c t' (0,0))) (wU:l*info.size+new.size<=c.size) (hs:∀v∈new.toList,cN v) :
    (Builtin.append_ ts ty #[.slice (some ⟨b,0,none⟩) l cap,xv]).run P w=.ok (.slice (some ⟨b,0,none⟩) (l+n) cap) (fY w b (.cells (patch c (l*info.size) new.toList) t' (0,0))):=by
 have hl:(Builtin.lenOf xv).run P w=.ok n w:=by rw[hx];rfl
 unfold Builtin.append_;rw[ht];simp only[List.getElem?_toArray,gQ,eE,hu];rw[rb (bF h1)];simp only;rw[rb (fj hi)];rw[rb (bF h2)];rw[rb (run_pure _ _ _)];simp only[bA,aJ];rw[rb hl];simp only[rX,bz,Bool.not_false];rw[rb qV];simp only[add_eq,aM];rw[rb (nD b (l*info.size) t' new.toList 0 c w hc (by simpa using wU) hs)];rfl
theorem rr{ts:Array TypeId}{ty:TypeId}{t u e e':TypeId}{info:TypeInfo}{base:Option Addr}{l cap n:Nat}{xv z:Value}{A:Option Addr}{cx:Nat}{old new:Array Value}
    (ht:ts[0]? =some t) (hu:ts[1]? =some u) (h1:P.underlying t=some (.slice e)) (h2:P.underlying u=some (.slice e')) (hi:P.info? e=some info) (hz:info.zero=some z)
    (hx:xv=.slice A n cx) (rX:cap<l+n) (Mx:info.bytes<=4096) (Aw:0<info.bytes) (K9:l+n<=2^30)
    (hold:∀d,(Builtin.firstCells info.size l (.slice base l cap)).run P {w with drawn:=d}=.ok old {w with drawn:=d}) (qV:∀d,(Builtin.firstCells info.size n xv).run P {w with drawn:=d}=.ok new {w with drawn:=d}) :
    ∃lu rest d,l+n<=lu/\rest=Builtin.zeroCells z.cells (lu-(l+n)) /\
     (Builtin.append_ ts ty #[.slice base l cap,xv]).run P w=.ok (.slice (some ⟨w.heap.size,0,none⟩) (l+n) lu) {({w with drawn:=d}:World)with heap:=w.heap.push (.cells (old++new++rest) e (0,0))}:=by
 have hl:(Builtin.lenOf xv).run P w=.ok n w:=by rw[hx];rfl
 refine⟨(Question.appendCap (l+n) cap e).cut (w.tape w.drawn (.appendCap (l+n) cap e)),_,w.drawn+1,by simp only[Question.cut];omega,rfl,?_⟩;unfold Builtin.append_;rw[ht];simp only[List.getElem?_toArray,gQ,eE,hu];rw[rb (bF h1)];simp only;rw[rb (fj hi)];rw[rb (bF h2)];rw[rb (run_pure _ _ _)];simp only[bA,aJ];rw[rb hl];have P5:¬l+n<=cap:=by omega
 simp only[P5,aJ,Bool.not_false,bz];rw[rb (jx hi)];have w9:¬info.bytes=0:=by omega
 simp only[false_or,w9,and_false,aJ];rw[rb (jx hi)];have RM:¬Builtin.nextslicecap (l+n) cap*info.bytes>2^48:=by
  have h3:=CB rX;have h4:Builtin.nextslicecap (l+n) cap*info.bytes<=(2*(l+n)+768)*4096:=jM h3 Mx;have h5:(2*(l+n)+768)*4096<=(2*2^30+768)*4096:=cQ _ (by omega);omega
 simp only[RM,aJ];have RN:(choose (.appendCap (l+n) cap e)).run P w=.ok ((Question.appendCap (l+n) cap e).cut (w.tape w.drawn (.appendCap (l+n) cap e))) {w with drawn:=w.drawn+1}:=by
  simp[choose,Sem.run,Question.forced]
 rw[rb RN,rb (jx hi)];have wU:∀(k:Nat) (w:World),(askRoom k).run P w=.ok () w:=fun k w=>by
  unfold askRoom;split <;>rfl
 rw[rb (wU _ _),rb (hold _),rb (qV _),rb (lX hi hz)];rfl
end
end
section
section
variable{X:Ctx}{M:Nat->Nat}{F:Fr}{H:Hp}{U:Nat->Prop}{a:Act}{w:World}
def eQ(H:Hp)(sz:Nat):AV->Option (Nat×List (List PV))
 | .ms id=>match H id with
  | .row wu es=>match Nat.beq wu sz with
   |true=>some (id,es)
   |false=>none
  |_=>none
 | .gd id 0 len=>match H id with
  | .row wu es=>match Nat.beq wu sz,Nat.ble len es.length with
   |true,true=>some (id,es.take len)
   |_,_=>none
  |_=>none
 |_=>none
theorem GC(R:Rel X M F H U a w){sz id:Nat}{v:AV}{es:List (List PV)}{u:Value}(h:eQ H sz v=some (id,es))(hv:VA (aB X w U M H) v u) :
    H id≠ .dead/\∃cap c t,u=.slice (some ⟨M id,0,none⟩) es.length cap/\es.length<=cap/\w.heap[M id]? =some (.cells c t (0,0))/\cap*sz<=c.size/\di X.E w (ju X w M H) es (M id) 0 sz:=by
 unfold eQ at h;split at h
 ·rename_i k;split at h
  ·rename_i wu es' dT;split at h
   ·rename_i lI;have lI:=cU lI;subst lI;simp at h;obtain⟨rfl,rfl⟩:=h;simp only[VA]at hv;obtain⟨cap,t,gU,h1,h2,h3,h4⟩:=hv.2.2 (wu,es'.length) (by simp[aB,dT,dx.info]);have hb:=R.blk k;rw[dT]at hb;obtain⟨c,t',g1,g2,g3⟩:=hb;have vZ:w.heap[M k]? =some (.cells c t' (0,0)):=g1;have hs:w.shape? (M k)=some (t',c.size):=by simp[World.shape?,vZ]
    have:(t',c.size)=(t,gU):=by
     have:some (t',c.size)=some (t,gU):=by rw[<-hs,<-h3];rfl
     simpa using this
    obtain⟨rfl,rfl⟩:=Prod.mk.inj this;exact⟨by simp[dT],cap,c,t',h1,h2,vZ,h4,g3⟩
   ·simp at h
  ·simp at h
 ·rename_i k len;split at h
  ·rename_i wu es' dT;split at h
   ·rename_i lI hle;have lI:=cU lI;have hle:=fc hle;subst lI;simp at h;obtain⟨rfl,rfl⟩:=h;simp only[VA]at hv;obtain⟨A,cap,t,gU,h1,h2,h3,h4,h5⟩:=hv.2.2 (wu,es'.length) (by simp[aB,dT,dx.info]);have h5:=h5 (.inr trivial);have hb:=R.blk k;rw[dT]at hb;obtain⟨c,t',g1,g2,g3⟩:=hb;have vZ:w.heap[M k]? =some (.cells c t' (0,0)):=g1;have hs:w.shape? (M k)=some (t',c.size):=by simp[World.shape?,vZ]
    have:(t',c.size)=(t,gU):=by
     have:some (t',c.size)=some (t,gU):=by rw[<-hs,<-h3];rfl
     simpa using this
    obtain⟨rfl,rfl⟩:=Prod.mk.inj this;have hl:(es'.take len).length=len:=by simp;omega
    refine⟨by simp[dT],cap,c,t',?_,by omega,vZ,?_,?_⟩
    ·rw[h1,h5,hl];simp[aB]
    ·simpa using h4
    ·have:=kT g3 0 len;simp only[Nat.zero_mul,gL,aM]at this;exact this
   ·simp at h
  ·simp at h
 ·simp at h
theorem me{E:Env}{w:World}{ok:Nat->Prop}{b sz:Nat}{c:Array Value}{es es':List (List PV)}{t:TypeId}{vs vs':List Value}{fz:Nat×Nat}(hw:w.heap[b]? =some (.cells c t fz))(lI:∀e∈es,e.length=sz)(Sb:∀e∈es',e.length=sz)
    (h1:VPs E w ok es.flatten vs) (h2:VPs E w ok es'.flatten vs') (s1:∀v∈vs,cN v) (s2:∀v∈vs',cN v) (hc:∀j,j<vs.length+vs'.length->c[j]? =(vs++vs')[j]?):di E w ok (es++es') b 0 sz:=by
 refine kS (fun e he=>?_) ?_
 ·rcases cq.1 he with h|h
  ·exact lI e h
  ·exact Sb e h
 ·rw[List.flatten_append,eF];obtain⟨l1,m1⟩:=(gn _ _).1 h1;obtain⟨l2,m2⟩:=(gn _ _).1 h2;intro j p hp;have hj:j<vs.length+vs'.length:=by
   have:=(aA.1 hp).1;rw[aG]at this;omega
  rw[eM hw,aM,hc j hj];rw[PW]at hp;rw[PW];split at hp
  ·rename_i h;rw[aW (by omega)];have hlt:j<vs.length:=by omega
   exact⟨vs[j],by simp[hlt],s1 _ (lL _),m1 j p _ hp (by simp[hlt])⟩
  ·rename_i h;rw[ar (by omega),l1];have hlt:j-es.flatten.length<vs'.length:=by omega
   exact⟨vs'[j-es.flatten.length],by simp[hlt],s2 _ (lL _),m2 _ p _ hp (by simp[hlt])⟩
end
section
variable{E:Env}{N:Nat}{o:Oper}{F:Fr}{H:Hp}{U:Nat->Prop}
theorem ow{c:Call}(ho:o.op=.call c)(hb:c.callee=.builtin .append)(ev:Operand->Value){s x:Operand}(ha:c.args.toList=[s,x]) :
    execOp ev o=(do pure (Next.value (<-Builtin.append_ c.argTypes o.type #[ev s,ev x])):Sem Next):=by
 rw[fX (P:=default) ho hb];have:c.args.map ev= #[ev s,ev x]:=by rw[vW,ha];rfl
 rw[this];rfl
theorem zS(hE:E.OK){sz bytes:Nat}{s x:AO}{id k:Nat}{es es':List (List PV)}(hc:ey E o=some (.append sz bytes s x))(hd:∀k,o.dst=some k->k<N)
    (h1:eQ H sz (dF F s)=some (id,es)) (h2:dV H (dF F x)=some es') (lI:∀e∈es',e.length=sz) (K9:es.length+es'.length<=2^30) (hk:¬U k) :
    cL E N o F H U (.ms k) [(id,.dead),(k,.row sz (es++es'))] (fun i=>U i\/i=k):=by
 obtain⟨elem,c,t,u,e',i,z,s',x',ho,hb,ht,ha,hu,F3,hs,hx,hi,hz,J6,rfl,rfl,Qi,Aw⟩:=qe hc;intro X M a w Q hX hN R;subst hX;obtain⟨dT,cap,cb,t',g1,g2,g3,g4,g5⟩:=GC R h1 (dc hE R hs);obtain⟨A,cx,new,f1,f2,f3,f4⟩:=tF (sz:=i.size) R h2 (dc hE R hx) lI;have ht0:c.argTypes[0]? =some t:=by rw[<-cp,ht];rfl
 have NB:c.argTypes[1]? =some u:=by rw[<-cp,ht];rfl
 have Te:∀e∈es,e.length=i.size:=fun e he=>by
  obtain⟨j,hj⟩:=List.getElem?_of_mem he;exact((eH es 0).1 g5 j e hj).1
 obtain⟨p1,p2⟩:=o4 g5;obtain⟨old,q1,q2,q3⟩:=o6 p1;have MX:old.length=es.length*i.size:=by rw[dW q1,p2]
 have MW:new.length=es'.length*i.size:=by rw[dW f3,oz lI]
 have C6:M id<w.heap.size:=(R.own id dT).1;have OM:∀j,j<old.length->cb[j]? =old[j]? :=fun j hj=>by
  have:=q3 j old[j] (by simp[hj]);rw[eM g3,aM]at this;rw[this];simp[hj]
 rw[Oper.wp,ow ho hb a.eval ha];by_cases rX:es.length+es'.length<=cap
 ·have ir:=B7 (P:=X.E.P) (w:=w) (ty:=o.type) ht0 NB hu F3 hi f1 (f4 w.drawn) rX g3 (by
   have:(es.length+es'.length)*i.size<=cap*i.size:=cQ _ rX;rw[dq]at this;simp only[List.size_toArray];omega) (by simpa using f2)
  rw[g1,cJ ir,Eb];have qV:∀b,b<w.heap.size->b≠M id->(fY w (M id) (.cells (patch cb (es.length*i.size) new.toArray.toList) t' (0,0))).heap[b]? =w.heap[b]? :=fun b _ hb=>iK _ (Ne.symm hb);have T:=R.sc (B:=.row i.size (es++es')) hk dT (w':=fY w (M id) (.cells (patch cb (es.length*i.size) new.toArray.toList) t' (0,0))) (by rw[kO];exact ax _) qV (.inl rfl);have oC:(fY w (M id) (.cells (patch cb (es.length*i.size) new.toArray.toList) t' (0,0))).heap[M id]? =some (.cells (patch cb (es.length*i.size) new.toArray.toList) t' (0,0)):=dB _ C6;have wU:(es.length+es'.length)*i.size<=cb.size:=cG (cQ _ rX) g4;have R':=R.move (B:=.row i.size (es++es')) hk dT (w':=fY w (M id) (.cells (patch cb (es.length*i.size) new.toArray.toList) t' (0,0))) (by rw[kO];exact ax _) qV (.inl rfl) rfl rfl rfl (by
   refine⟨_,t',oC,by rw[fI,aG];exact wU,?_⟩;refine me (vs:=old) (vs':=new) oC Te lI (dJ T.stays _ _ q1) (dJ T.stays _ _ f3) q2 f2 fun j hj=>?_;rw[dq]at wU;rw[mP _ _ _ _ (by simp only[List.size_toArray,List.length];omega),PW];simp only;by_cases RT:j<old.length
   ·rw[ar (by omega),aW RT];exact OM j RT
   ·rw[aW (by omega),ar RT,MX]) (by simp)
  refine⟨_,R'.put ?_ (fun k hk=>by rw[hN];exact hd k hk)⟩;simp only[VA];refine⟨.inr rfl,⟨by simp,by simp⟩,fun s hs=>?_⟩;have MB:id≠k:=fun h=>hk (h▸R.used id dT);have:some (i.size,(es++es').length)=some s:=by rw[<-hs];simp only[aB];rw[eu H _ _ MB,dY];rfl
  simp only[ai]at this;subst this;refine⟨cap,t',cb.size,by simp[aB,cS],by simpa using rX,?_,g4⟩;simp only[aB,cS];simp[World.shape?,oC,fI]
 ·have hold:∀d,(Builtin.firstCells i.size es.length (.slice (some ⟨M id,0,none⟩) es.length cap)).run X.E.P {w with drawn:=d}=.ok old.toArray {w with drawn:=d}:=fun d =>
   oN (M id) 0 old _ MX.symm q3
  obtain⟨lu,rest,d,k1,k2,k3⟩:=rr (P:=X.E.P) (w:=w) (ty:=o.type) ht0 NB hu F3 hi hz f1 (Nat.lt_of_not_le rX) Qi Aw K9 hold f4;rw[g1,cJ k3,Eb];have oC:({({w with drawn:=d}:World)with heap:=w.heap.push (.cells (old.toArray++new.toArray++rest) elem (0,0))}:World).heap[w.heap.size]? =some (.cells (old.toArray++new.toArray++rest) elem (0,0)):=by simp
  have qV:∀b,b<w.heap.size->b≠M id->({({w with drawn:=d}:World)with heap:=w.heap.push (.cells (old.toArray++new.toArray++rest) elem (0,0))}:World).heap[b]? =w.heap[b]? :=fun b hb _=>jt w _ b hb;have T:=R.sc (B:=.row i.size (es++es')) hk dT (w':={({w with drawn:=d}:World)with heap:=w.heap.push (.cells (old.toArray++new.toArray++rest) elem (0,0))}) (by simp) qV (.inr (ax _));have lQ:(old.toArray++new.toArray++rest).size=lu*i.size:=by
   rw[k2];simp only[Array.size_append,List.size_toArray,MX,MW,Builtin.zeroCells,Array.size_map,Array.size_range,J6];rw[<-dq,<-dq]
   congr 1
   omega
  have R':=R.move (B:=.row i.size (es++es')) hk dT (w':={({w with drawn:=d}:World)with heap:=w.heap.push (.cells (old.toArray++new.toArray++rest) elem (0,0))}) (by simp) qV (.inr (ax _)) rfl rfl rfl (by
   refine⟨_,elem,oC,by rw[lQ,aG];exact cQ _ k1,?_⟩;refine me (vs:=old) (vs':=new) oC Te lI (dJ T.stays _ _ q1) (dJ T.stays _ _ f3) q2 f2 fun j hj=>?_;rw[Array.getElem?_append,aW (by simpa using hj),Array.getElem?_append,PW];simp) (by simp)
  refine⟨_,R'.put ?_ (fun k hk=>by rw[hN];exact hd k hk)⟩;simp only[VA];refine⟨.inr rfl,⟨by simp,by simp⟩,fun s hs=>?_⟩;have MB:id≠k:=fun h=>hk (h▸R.used id dT);have:some (i.size,(es++es').length)=some s:=by rw[<-hs];simp only[aB];rw[eu H _ _ MB,dY];rfl
  simp only[ai]at this;subst this;refine⟨lu,elem,lu*i.size,by simp[aB,cS],by simpa using k1,?_,ax _⟩;simp only[aB,cS];simp only[World.shape?,oC,lQ]
theorem t7(hE:E.OK){sz bytes:Nat}{s x:AO}{k:Nat}{es':List (List PV)}(hc:ey E o=some (.append sz bytes s x))(hd:∀k,o.dst=some k->k<N)
    (h1:dF F s=.bu) (h2:dV H (dF F x)=some es') (lI:∀e∈es',e.length=sz) (eA:0<es'.length) (K9:es'.length<=2^30) (hk:¬U k) :
    cL E N o F H U (.ms k) [(k,.row sz es')] (fun i=>U i\/i=k):=by
 obtain⟨elem,c,t,u,e',i,z,s',x',ho,hb,ht,ha,hu,F3,hs,hx,hi,hz,J6,rfl,rfl,Qi,Aw⟩:=qe hc;intro X M a w Q hX hN R;subst hX;have g1:=dc hE R hs;rw[h1]at g1;simp only[VA]at g1;obtain⟨A,cx,new,f1,f2,f3,f4⟩:=tF (sz:=i.size) R h2 (dc hE R hx) lI;have ht0:c.argTypes[0]? =some t:=by rw[<-cp,ht];rfl
 have NB:c.argTypes[1]? =some u:=by rw[<-cp,ht];rfl
 have MW:new.length=es'.length*i.size:=by rw[dW f3,oz lI]
 rw[Oper.wp,ow ho hb a.eval ha];have hold:∀d,(Builtin.firstCells i.size 0 (.slice none 0 0)).run X.E.P {w with drawn:=d}=.ok #[] {w with drawn:=d}:=fun d=>rfl;obtain⟨lu,rest,d,k1,k2,k3⟩:=rr (P:=X.E.P) (w:=w) (ty:=o.type) ht0 NB hu F3 hi hz f1 (by omega) Qi Aw (by omega) hold f4;rw[g1,cJ k3,Eb];simp only[aM]at k1 k2 k3⊢;have lQ:(#[]++new.toArray++rest).size=lu*i.size:=by
  rw[k2];simp only[Array.size_append,List.size_toArray,MW,Builtin.zeroCells,Array.size_map,Array.size_range,J6,bM,aM];rw[<-dq]
  congr 1
  omega
 have R1:=R.drew d;have T:=R1.ve (.cells (#[]++new.toArray++rest) elem (0,0)) (.row i.size es') k hk;have oC:({({w with drawn:=d}:World)with heap:=w.heap.push (.cells (#[]++new.toArray++rest) elem (0,0))}:World).heap[w.heap.size]? =some (.cells (#[]++new.toArray++rest) elem (0,0)):=by simp
 have R':=R1.new (.cells (#[]++new.toArray++rest) elem (0,0)) (.row i.size es') k hk (by simp) (by
  refine⟨_,elem,oC,by rw[lQ];exact cQ _ k1,?_⟩;have U0:VPs X.E {w with drawn:=d} (ju X {w with drawn:=d} M H) es'.flatten new:=dJ (w:=w) (w':={w with drawn:=d}) (ok:=ju X w M H) (ok':=ju X {w with drawn:=d} M H) ⟨fun _ h=>h,fun _ _=>rfl⟩ _ _ f3;have:=me (es:=[]) (es':=es') (sz:=i.size) (vs:=[]) (vs':=new) oC (by simp) lI (by simp[VPs]) (dJ T.stays _ _ U0) (by simp) f2 (fun j hj=>by
   rw[Array.getElem?_append,aW (by simpa using hj)];simp)
  rw[aE]at this;exact this)
 refine⟨_,R'.put ?_ (fun k hk=>by rw[hN];exact hd k hk)⟩;simp only[VA];refine⟨.inr rfl,⟨by simp,by simp⟩,fun s hs=>?_⟩;have:some (i.size,es'.length)=some s:=by rw[<-hs];simp only[aB];rw[dY];rfl
 simp only[ai]at this;subst this;refine⟨lu,elem,lu*i.size,by simp[aB,cS],by simpa using k1,?_,ax _⟩;simp only[aB,cS];simp only[World.shape?,oC,lQ]
theorem rI(hE:E.OK){sz bytes:Nat}{s x:AO}(hc:ey E o=some (.append sz bytes s x))(hd:∀k,o.dst=some k->k<N)
    (h1:dF F s=.bu) (h2:dV H (dF F x)=some []):cL E N o F H U .bu [] U:=by
 obtain⟨elem,c,t,u,e',i,z,s',x',ho,hb,ht,ha,hu,F3,hs,hx,hi,hz,J6,rfl,rfl,Qi,Aw⟩:=qe hc;refine cL.value hd fun X M a w hX R=>?_;subst hX;have g1:=dc hE R hs;rw[h1]at g1;simp only[VA]at g1;obtain⟨A,cx,new,f1,f2,f3,f4⟩:=tF (sz:=i.size) R h2 (dc hE R hx) (by simp);have ht0:c.argTypes[0]? =some t:=by rw[<-cp,ht];rfl
 have NB:c.argTypes[1]? =some u:=by rw[<-cp,ht];rfl
 refine⟨.slice none 0 0,?_,by simp[VA]⟩;rw[ow ho hb a.eval ha,g1];refine cJ ?_;have hl:(Builtin.lenOf (a.eval x')).run X.E.P w=.ok 0 w:=by rw[f1];rfl
 unfold Builtin.append_;rw[ht0];simp only[List.getElem?_toArray,gQ,eE,NB];rw[rb (bF hu)];simp only;rw[rb (fj hi)];rw[rb (bF F3)];simp only;rw[rb (run_pure _ _ _)];simp only[bA,aJ];rw[rb hl];simp only[fb,ax,bz,Bool.not_false];have U1:(Builtin.firstCells i.size 0 (a.eval x')).run X.E.P w=.ok new.toArray w:=f4 w.drawn;rw[rb U1];rfl
end
end
section
def PE(K:Nat->Prop)(w:World)(b:Nat):Prop:=b<w.heap.size/\¬K b
def E8(E : Env)(n : Nat) : Prop := ∃ fn, E.P.funcs[E.ρ n]? = some fn /\ (fn.name == "runtime.NumGoroutine") = false /\ fn.body.isNone = false
def Pure(E:Env)(n:Nat)(args:List PV)(r:PV):Prop :=
 E8 E n/\∀(K:Nat->Prop) w vs,E.inv w->(∀b,K b->b<w.heap.size)->VPs E w (PE K w) args vs ->
  Calls E.P (E.ρ n) vs.toArray w fun e w'=>∃v,e=.returned v/\VP E w' (PE K w') r v/\jF (fun _=>False) w w'
theorem lD{E:Env}{n:Nat}{args:Array Value}{w:World}(h:E8 E n):(callFunc (E.ρ n) args).run E.P w=.ok (.enter (E.ρ n) args) w:=by
 obtain⟨fn,h1,h2,h3⟩:=h;unfold callFunc;rw[sm,h1];simp only[h2,h3,bA,aJ];rfl
section
variable{X:Ctx}{M:Nat->Nat}{F:Fr}{H:Hp}{U:Nat->Prop}{a:Act}{w:World}
theorem Rel.Cv(R:Rel X M F H U a w){w':World}(h:jF (fun _=>False) w w'):iL (aB X w U M H) (aB X w' U M H) :=
 R.turn h.size (fun b hb _=>h.block b hb (fun h=>h)) (fun i hi=>.inl ⟨i,hi,rfl⟩) (fun i h=>h) (fun i s hu hs=>⟨hs,rfl,fJ (h.block _ (R.own i fun h'=>by rw[h']at hs;simp[dx.info]at hs).1 (fun h=>h))⟩)
theorem Rel.grown(R:Rel X M F H U a w){w':World}(h:jF (fun _=>False) w w'):Rel X M F H U a w':=by
 have T:=R.Cv h;exact{defers:=R.defers,size:=R.size,keeps:=R.keeps.trans h (fun _ _ h=>h.elim),K:=R.K,used:=R.used,inj:=R.inj,
                      own:=fun i hi=>by obtain⟨h1,h2,h3⟩:=R.own i hi;exact⟨dy h1 h.size,h2,h3⟩,
                      blk:=fun i=>fx T _ (fun eA=>h.block _ (R.own i eA).1 (fun h=>h)) (R.blk i),fr:=fun t=>db T _ _ (R.fr t),gh:=fun v u h=>db T _ _ (R.gh v u h)}
end
section
variable{E:Env}{N:Nat}{o:Oper}{F:Fr}{H:Hp}{U:Nat->Prop}
theorem rO{c:Call}{f:FuncId}(ho:o.op=.call c)(hb:c.callee=.value (.func f))(a:Act):execOp a.eval o=callFunc f (#[]++c.args.map a.eval++ #[]):=by
 unfold execOp;rw[ho];simp only[resolve,hb];rfl
theorem Ew(hE:E.OK){n:Nat}{l:List AO}{ps:List PV}{r:PV}(hc:ey E o=some (.call n l))(hd:∀k,o.dst=some k->k<N)(h1:ca (fg F l)=some ps)(h2:Pure E n ps r) :
    cL E N o F H U (.pv r) [] U:=by
 obtain⟨c,f,ho,hb,hf,hl⟩:=uV hc;intro X M a w Q hX hN R;subst hX;have e:=hE.FG f n hf;subst e;rw[Oper.wp,rO ho hb,lD h2.1,sZ];have h3:=eT _ _ _ h1 (mi hE R hl);have h4:=h2.2 (fun b=>X.K b\/∃i,H i≠ .dead/\M i=b) w _ R.inv (fun b hb=>by
  rcases hb with hb|⟨i,hi,rfl⟩
  ·exact dy (R.K b hb) R.keeps.size
  ·exact(R.own i hi).1) (dJ ⟨fun b hb=>⟨hb.1,fun h=>by
   rcases h with h|⟨i,hi,h⟩
   ·exact hb.2.1 h
   ·exact hb.2.2 i hi h⟩,fun _ _=>rfl⟩ _ _ h3)
 have hargs:(#[]++c.args.map a.eval++ #[]:Array Value)=(List.map a.eval c.args.toList).toArray:=by rw[vW];simp
 rw[hargs];refine h4.mono fun e w' hh=>?_;obtain⟨v,rfl,g1,g2⟩:=hh;have R':=R.grown g2;refine⟨M,R'.put ?_ (fun k hk=>by rw[hN];exact hd k hk)⟩;simp only[VA];refine iz ⟨fun b hb=>⟨hb.1,fun h=>hb.2 (.inl h),fun i hi h=>hb.2 (.inr ⟨i,hi,h⟩)⟩,fun _ _=>rfl⟩ _ _ g1
end
end
section
structure aV where
 dst:Option Nat
 op:fE
 guard:Option (Nat×Bool)
 kC:List Nat
 deriving Inhabited
inductive bx where
 |skip
 |ops (l:List aV)
 |draw (l:List aV)
 |seq (a b:bx)
 |cond (c:AO) (a b:bx)
 |block (id:Nat) (b:bx)
 |loop (b:bx)
 |exit (id:Nat)
 |ret
 deriving Inhabited
section
variable(E:Env)(N:Nat)
def u4(ops:Array Oper):Option (Nat×Bool)->Option (Option (Nat×Bool))
 |none=>some none
 |some (j,b)=>match(ops[j]?).bind (·.dst)with
  |some t=>if t<N then some (some (t,b))else none
  |none=>none
def Lj:Option Nat->Bool
 |some d=>decide (d<N)
 |none=>true
def sE(ops:Array Oper)(o:Oper):Option aV :=
 match ey E o,u4 N ops o.guard with
 |some op,some g=>if Lj N o.dst=true then
    some ⟨o.dst,op,g,(o.after.toList.filter (Region.binds .any)).map (·.on)⟩else none
 |_,_=>none
def od(ops:Array Oper):List Oper->Option (List aV)
 |[]=>some []
 |o::r=>match sE E N ops o,od ops r with
  |some a,some l=>some (a::l)
  |_,_=>none
def nH(l:List aV):bx:=.draw l
/-! PZ over a map. -/
structure NP where
 out:Nat
 V9:Nat
 it:Nat
 nx:Nat
 more:Nat
 pair:Nat
 d1:List Nat
 d2:List Nat
 d3:List Nat
 TT:List aV
 b2:bx
def NP.code(h:NP):bx:=.block h.out (.loop (.seq (.ops [⟨some h.nx,.CE (.t h.it),none,h.d1⟩,⟨some h.more,.extract (.t h.nx) 0,none,h.d2⟩]) (.seq (.cond (.t h.more) .skip (.exit h.out)) (.block h.V9 (.seq (.ops (⟨some h.pair,.QT (.t h.it),none,h.d3⟩::h.TT)) h.b2)))))
def PR(x y:bx):bx:=.seq x y
theorem kH(x y:bx):PR x y=.seq x y:=rfl
def eR:Code->Option bx
 | .skip=>some .skip
 | .region _ ops draw=>match od E N ops ops.toList with
  |some l=>some (if draw then nH l else .ops l)
  |none=>none
 | .seq a b=>match eR a,eR b with
  |some x,some y=>some (PR x y)
  |_,_=>none
 | .cond c a b=>match cO E c,eR a,eR b with
  |some c,some x,some y=>some (.cond c x y)
  |_,_,_=>none
 | .block id b=>match eR b with
  |some x=>some (.block id x)
  |none=>none
 | .loop b=>match eR b with
  |some x=>some (.loop x)
  |none=>none
 | .exit id=>some (.exit id)
 | .ret=>some .ret
 |_=>none
end
structure St where
 fr:List (Nat×AV)
 hp:List (Nat×dx)
 nx:Nat
 deriving Inhabited
def Rl(X:Ctx)(M:Nat->Nat)(st:St)(a:Act)(w:World):Prop:=Rel X M (look st.fr) (ah st.hp) (fun i=>i<st.nx) a w
theorem kX(H:List (Nat×dx)):∀(W:List (Nat×dx)),ah (W++H)=wr (ah H) W
 |[]=>rfl
 |(k,B)::r=>by
  funext t;simp only[aI,ah,wr,kX H r]
def dt(st:St)(d:Option Nat)(v:AV):List (Nat×AV):=match d with
 |some k=>(k,v)::st.fr
 |none=>st.fr
theorem fU(st:St)(d:Option Nat)(v:AV):look (dt st d v)=put (look st.fr) d v:=by
 cases d <;>rfl
theorem Rel.pr{X:Ctx}{M:Nat->Nat}{F:Fr}{H:Hp}{U U':Nat->Prop}{a:Act}{w:World}(R:Rel X M F H U a w)(h:∀i,U i->U' i):Rel X M F H U' a w:=by
 have T:iL (aB X w U M H) (aB X w U' M H):=⟨rfl,⟨fun _ h=>h,fun _ _=>rfl⟩,h,fun i s hu hs=>⟨hs,rfl,rfl⟩⟩;exact{defers:=R.defers,size:=R.size,keeps:=R.keeps,K:=R.K,used:=fun i hi=>h i (R.used i hi),inj:=R.inj,own:=R.own,
                                                                                                               blk:=fun i=>fx T _ (fun _=>rfl) (R.blk i),fr:=fun t=>db T _ _ (R.fr t),gh:=fun v u h=>db T _ _ (R.gh v u h)}
def NJ(E:Env)(N:Nat)(x:aV)(st:St)(v:AV)(W:List (Nat×dx))(n:Nat):Prop :=
 ∀o,ey E o=some x.op->o.dst=x.dst->(∀k,o.dst=some k->k<N) ->
  cL E N o (look st.fr) (ah st.hp) (fun i=>i<st.nx) v W (fun i=>i<st.nx+n)
def next(st:St)(x:aV)(v:AV)(W:List (Nat×dx))(n:Nat):St:=⟨dt st x.dst v,W++st.hp,st.nx+n⟩
def oZ(E:Env)(N:Nat)(l:List aV)(Q:St->Prop)(st:St):Prop :=
 ∀(ops:Array Oper) (k:Nat),k+l.length<=ops.size->(∀(j:Nat) x,l[j]? =some x->∃o,ops[k+j]? =some o/\sE E N ops o=some x) ->
  ∀X M a w (Q':Exit->Act->World->Prop),X.E=E->X.N=N->Rl X M st a w->(∀M' bT a' w',Q bT->Rl X M' bT a' w'->Q' .normal a' w')->wpOps E.P ops Q' (List.range' k l.length) a w
theorem oZ.nil{E:Env}{N:Nat}{Q:St->Prop}{st:St}(h:Q st):oZ E N [] Q st:=by
 intro ops k hk hl X M a w Q' hE hN R hq;exact hq M st a w h R
def cH(F:Fr):Option (Nat×Bool)->Option Bool
 |none=>some true
 |some (t,b)=>match F t with
  | .pv (.bool c)=>some (c==b)
  | .pv (.tuple [])=>some false
  |_=>none
theorem kY{E:Env}{N:Nat}{ops:Array Oper}{o:Oper}{x:aV}(h:sE E N ops o=some x) :
    ey E o=some x.op/\o.dst=x.dst/\(∀k,o.dst=some k->k<N)/\u4 N ops o.guard=some x.guard:=by
 unfold sE at h;split at h
 ·rename_i op g h1 h2;split at h
  ·rename_i h3;simp at h;subst h;refine⟨h1,rfl,fun k hk=>?_,h2⟩;rw[hk]at h3;simpa[Lj]using h3
  ·simp at h
 ·simp at h
theorem qR{X:Ctx}{M:Nat->Nat}{st:St}{a:Act}{w:World}{ops:Array Oper}{o:Oper}{g:Option (Nat×Bool)}{b:Bool}(R:Rl X M st a w)(hc:u4 X.N ops o.guard=some g)(hg:cH (look st.fr) g=some b) :
    Region.wanted o (yielded ops a.tmps)=b:=by
 unfold Region.wanted;unfold u4 at hc;split at hc
 ·rename_i h;simp at hc;subst hc;simp[cH]at hg;rw[h];simp[hg]
 ·rename_i j want h;rw[h];simp only;split at hc
  ·rename_i t ht;split at hc
   ·rename_i hlt;simp at hc;subst hc;simp only[cH]at hg;have hv:=R.fr t;have lI:t<a.tmps.size:=by rw[R.size];exact hlt
    have aN:a.tmps[t]? =some (a.tmps.getD t undef):=by simp[lI]
    split at hg
    ·rename_i c hF;rw[hF]at hv;simp only[VA,VP]at hv;simp at hg;subst hg;unfold yielded;rw[ht,Option.bind_some,aN,hv];simp
    ·rename_i hF;rw[hF]at hv;simp only[VA,VP,VPs]at hv;obtain⟨vs,h1,rfl⟩:=hv;simp at hg;subst hg;unfold yielded;rw[ht,Option.bind_some,aN,h1];simp
    ·simp at hg
   ·simp at hc
  ·simp at hc
theorem oZ.cons{E:Env}{N:Nat}{x:aV}{l:List aV}{Q:St->Prop}{st:St}{v:AV}{W:List (Nat×dx)}{n:Nat}(hg:cH (look st.fr) x.guard=some true)(hd:NJ E N x st v W n)
    (h:oZ E N l Q (next st x v W n)):oZ E N (x::l) Q st:=by
 intro ops k hk hl X M a w Q' hE hN R hq;obtain⟨o,ho,hc⟩:=hl 0 x rfl;obtain⟨h1,h2,h3,h4⟩:=kY hc;simp only[ay,List.range'_succ];rw[wpOps_cons];unfold wpOp;rw[show ops[k]? =some o from ho];simp only;have hw:=qR (X:=X) (o:=o) R (by rw[hN];exact h4) hg;rw[aW hw];left;refine Oper.wp_mono ?_ (hd o h1 h2 h3 X M a w Q' hE hN R)
 rintro a' w' ⟨M',R'⟩
 refine h ops (k+1) (by simp at hk;omega) (fun j y hy=>?_) X M' a' w' Q' hE hN ?_ hq
 ·have:=hl (j+1) y (by simpa using hy);rwa [<-eW,Nat.add_right_comm]at this
 ·unfold Rl next
  simp only;rw[fU,kX,<-h2];exact R'
theorem oZ.skip{E:Env}{N:Nat}{x:aV}{l:List aV}{Q:St->Prop}{st:St}(hg:cH (look st.fr) x.guard=some false)
    (h:oZ E N l Q (next st x (.pv (.tuple [])) [] 0)):oZ E N (x::l) Q st:=by
 intro ops k hk hl X M a w Q' hE hN R hq;obtain⟨o,ho,hc⟩:=hl 0 x rfl;obtain⟨h1,h2,h3,h4⟩:=kY hc;simp only[ay,List.range'_succ];rw[wpOps_cons];unfold wpOp;rw[show ops[k]? =some o from ho];simp only;have hw:=qR (X:=X) (o:=o) R (by rw[hN];exact h4) hg;rw[ar (by rw[hw];simp)];refine h ops (k+1) (by simp at hk;omega) (fun j y hy=>?_) X M (a.put o.dst undef) w Q' hE hN ?_ hq
 ·have:=hl (j+1) y (by simpa using hy);rwa [<-eW,Nat.add_right_comm]at this
 ·unfold Rl next
  simp only;rw[fU,<-h2,fb];exact Rel.put R (by simp only[VA,VP,VPs];exact⟨[],rfl,rfl⟩) (fun k hk=>by rw[hN];exact h3 k hk)
/-! ### Code -/
def WP(E:Env)(N:Nat)(c:bx)(Q:Exit->St->Prop)(st:St):Prop :=
 ∀code,eR E N code=some c->∀X M a w (Q':Exit->Act->World->Prop),X.E=E->X.N=N->Rl X M st a w->(∀e M' bT a' w',Q e bT->Rl X M' bT a' w'->Q' e a' w')->code.wp E.P Q' a w
theorem pX{E:Env}{N:Nat}{ops:Array Oper}:∀{os:List Oper} {l:List aV},od E N ops os=some l->l.length=os.length/\∀(j:Nat) x,l[j]? =some x->∃o,os[j]? =some o/\sE E N ops o=some x
 |[],l,h=>by simp[od]at h;subst h;simp
 |o::r,l,h=>by
  simp only[od]at h;split at h
  ·rename_i a l' h1 h2;simp at h;subst h;obtain⟨h3,h4⟩:=pX h2;refine⟨by simp[h3],fun j x hx=>?_⟩;cases j with
   |zero=>simp at hx;subst hx;exact⟨o,rfl,h1⟩
   |succ j=>exact h4 j x (by simpa using hx)
  ·simp at h
section
variable{E:Env}{N:Nat}{code:Code}
theorem Cn(h:eR E N code=some .skip):code=.skip:=by
 cases code <;>grind [eR,nH,kH]
theorem F7{l:List aV}(h:eR E N code=some (.ops l)):∃id ops,code=.region id ops false/\od E N ops ops.toList=some l:=by
 cases code <;>grind [eR,nH,kH]
theorem BT{l l':List aV}(h:nH l=.draw l'):l=l':=by
 unfold nH at h;simpa using h
theorem yX{c:bx}(h:eR E N code=some c)(id:Nat)(ops:Array Oper)(draw:Bool)(hc:code=.region id ops draw):∃l,od E N ops ops.toList=some l/\c=if draw then nH l else .ops l:=by
 subst hc;simp only[eR]at h;split at h
 ·rename_i l hl;exact⟨l,hl,(Option.some.inj h).symm⟩
 ·simp at h
theorem Cj{l:List aV}(h:eR E N code=some (.draw l)):∃id ops,code=.region id ops true/\od E N ops ops.toList=some l:=by
 cases code with
 |region id ops draw =>
  obtain⟨l',h1,h2⟩:=yX h id ops draw rfl;cases draw with
  |true=>exact⟨id,ops,rfl,by rw[h1,BT h2.symm]⟩
  |false=>simp at h2
 |_=>grind [eR,kH]
theorem F9{x y:bx}(h:eR E N code=some (.seq x y)):∃a b,code=.seq a b/\eR E N a=some x/\eR E N b=some y:=by
 cases code <;>grind [eR,nH,kH]
theorem Ci{c:AO}{x y:bx}(h:eR E N code=some (.cond c x y)):∃c' a b,code=.cond c' a b/\cO E c'=some c/\eR E N a=some x/\eR E N b=some y:=by
 cases code <;>grind [eR,nH,kH]
theorem AG{id:Nat}{x:bx}(h:eR E N code=some (.block id x)):∃a,code=.block id a/\eR E N a=some x:=by
 cases code <;>grind [eR,nH,kH]
theorem Cm{x:bx}(h:eR E N code=some (.loop x)):∃a,code=.loop a/\eR E N a=some x:=by
 cases code <;>grind [eR,nH,kH]
theorem Ck{id:Nat}(h:eR E N code=some (.exit id)):code=.exit id:=by
 cases code <;>grind [eR,nH,kH]
theorem F8(h:eR E N code=some .ret):code=.ret:=by
 cases code <;>grind [eR,nH,kH]
end
section
variable{E:Env}{N:Nat}{Q:Exit->St->Prop}{st:St}
theorem WP.skip(h:Q .normal st):WP E N .skip Q st:=by
 intro code hc X M a w Q' hE hN R hq;rw[Cn hc];exact wp_skip (hq _ M st a w h R)
theorem WP.exit{id:Nat}(h:Q (.exit id) st):WP E N (.exit id) Q st:=by
 intro code hc X M a w Q' hE hN R hq;rw[Ck hc];exact wp_exit (hq _ M st a w h R)
theorem WP.ret(h:Q .ret st):WP E N .ret Q st:=by
 intro code hc X M a w Q' hE hN R hq;rw[F8 hc];exact wp_ret (hq _ M st a w h R)
def xp(K:St->Prop)(Q:Exit->St->Prop):Exit->St->Prop
 | .normal,st=>K st
 |e,st=>Q e st
theorem WP.seq{x y:bx}(h:WP E N x (xp (WP E N y Q) Q) st):WP E N (.seq x y) Q st:=by
 intro code hc X M a w Q' hE hN R hq;obtain⟨c1,c2,rfl,h1,h2⟩:=F9 hc;refine wp_seq (h c1 h1 X M a w _ hE hN R fun e M' bT a' w' hQ R'=>?_);cases e with
 |normal=>exact hQ c2 h2 X M' a' w' Q' hE hN R' hq
 |_=>exact hq _ M' bT a' w' hQ R'
theorem WP.mono{x:bx}{Q₂:Exit->St->Prop}(h:WP E N x Q₂ st)(hh:∀e st,Q₂ e st->Q e st):WP E N x Q st:=by
 intro code hc X M a w Q' hE hN R hq;exact h code hc X M a w Q' hE hN R fun e M' bT a' w' hQ R'=>hq e M' bT a' w' (hh e bT hQ) R'
theorem WP.ops(tg:E.OK){l:List aV}(h:oZ E N l (Q .normal) st):WP E N (.ops l) Q st:=by
 intro code hc X M a w Q' hE hN R hq;obtain⟨id,ops,rfl,h1⟩:=F7 hc;obtain⟨h2,h3⟩:=pX h1;refine wp_region ?_;have:=h ops 0 (by rw[aM,h2];simp) (fun j x hx=>by
  obtain⟨o,h4,h5⟩:=h3 j x hx;exact⟨o,by rw[aM,<-cp];exact h4,h5⟩) X M a w Q' hE hN R (fun M' bT a' w' hQ R'=>hq _ M' bT a' w' hQ R')
 rw[h2,<-List.range_eq_range',Array.length_toList]at this;exact this
theorem WP.cond(tg:E.OK){c:AO}{x y:bx}{b:Bool}(hc:dF (look st.fr) c=.pv (.bool b))(h1:b=true->WP E N x Q st)(h2:b=false->WP E N y Q st):WP E N (.cond c x y) Q st:=by
 intro code OL X M a w Q' hE hN R hq;subst hE;obtain⟨c',c1,c2,rfl,g0,g1,g2⟩:=Ci OL;have hv:=dc tg R g0;rw[hc]at hv;simp only[VA,VP]at hv;refine wp_cond (t:=b) hv ?_;cases b with
 |true=>exact h1 rfl c1 g1 X M a w Q' rfl hN R hq
 |false=>exact h2 rfl c2 g2 X M a w Q' rfl hN R hq
def BG(id:Nat)(Q:Exit->St->Prop):Exit->St->Prop
 | .exit i,st=>cond (Nat.beq i id) (Q .normal st) (Q (.exit i) st)
 |e,st=>Q e st
theorem WP.block{id:Nat}{x:bx}(h:WP E N x (BG id Q) st):WP E N (.block id x) Q st:=by
 intro code hc X M a w Q' hE hN R hq;obtain⟨c1,rfl,h1⟩:=AG hc;refine wp_block (h c1 h1 X M a w _ hE hN R fun e M' bT a' w' hQ R'=>?_);cases e with
 |exit i =>
  simp only[BG]at hQ;simp only[Exit.inBlock];by_cases hi:i=id
  ·subst hi;rw[cg]at hQ;rw[aW rfl];exact hq _ M' bT a' w' hQ R'
  ·rw[f6 hi]at hQ;rw[ar hi];exact hq _ M' bT a' w' hQ R'
 |_=>exact hq _ M' bT a' w' hQ R'
theorem WP.loop{x:bx}(I:Nat->St->Prop)(n:Nat)(h0:I n st)(round:∀n st,I n st->WP E N x (xp (fun bT=>∃m,m<n/\I m bT) Q) st):WP E N (.loop x) Q st:=by
 intro code hc X M a w Q' hE hN R hq;obtain⟨c1,rfl,h1⟩:=Cm hc;refine wp_loop_ghost (fun n a w=>∃M st,I n st/\Rl X M st a w) n ⟨M,st,h0,R⟩ ?_
 rintro n a w ⟨M,st,hI,R⟩
 refine round n st hI c1 h1 X M a w _ hE hN R fun e M' bT a' w' hQ R'=>?_;cases e with
 |normal=>obtain⟨m,h2,h3⟩:=hQ;exact⟨m,h2,M',bT,h3,R'⟩
 |_=>exact hq _ M' bT a' w' hQ R'
end
end
section
/-! ### SN memory that is handed over -/
mutual
def dH(H:Hp):AV->Option PV
 | .pv p=>some p
 | .bu=>some (.slice [])
 | .ms id=>match H id with
  | .row _ es=>some (.slice es)
  |_=>none
 | .gd id off len=>match H id with
  | .row _ es=>match Nat.ble (off+len) es.length with
   |true=>some (.slice ((es.drop off).take len))
   |false=>none
  |_=>none
 | .func f fs cs=>match hZ H fs,hZ H cs with
  |some a,some b=>some (.func f a b)
  |_,_=>none
 | .iface t v=>match dH H v with
  |some p=>some (.iface t p)
  |none=>none
 | .agg cs=>match hZ H cs with
  |some l=>some (.agg l)
  |none=>none
 | .tuple cs=>match hZ H cs with
  |some l=>some (.tuple l)
  |none=>none
 |_=>none
def hZ(H:Hp):List AV->Option (List PV)
 |[]=>some []
 |c::r=>match dH H c,hZ H r with
  |some p,some l=>some (p::l)
  |_,_=>none
end
mutual
def dD(H:Hp):AV->Option PV
 | .ptr id i off=>match H id with
  | .var cs=>match hZ H cs with
   |some ps=>some (.gX ps off)
   |none=>none
  | .row _ es=>match es[i]? with
   |some e=>some (.gX e off)
   |none=>none
  |_=>none
 | .func f fs cs=>match gy H fs,gy H cs with
  |some a,some b=>some (.func f a b)
  |_,_=>none
 | .iface t v=>match dD H v with
  |some p=>some (.iface t p)
  |none=>none
 | .agg cs=>match gy H cs with
  |some l=>some (.agg l)
  |none=>none
 | .tuple cs=>match gy H cs with
  |some l=>some (.tuple l)
  |none=>none
 |v=>dH H v
def gy(H:Hp):List AV->Option (List PV)
 |[]=>some []
 |c::r=>match dD H c,gy H r with
  |some p,some l=>some (p::l)
  |_,_=>none
end
section
variable{X:Ctx}{M:Nat->Nat}{F:Fr}{H:Hp}{U:Nat->Prop}{a:Act}{w:World}{ok:Nat->Prop}
mutual
theorem ja(R:Rel X M F H U a w)(h1:∀b,ju X w M H b->ok b)(h2:∀i,H i≠ .dead->ok (M i)):(c:AV)->(p:PV)->(v:Value)->dH H c=some p->VA (aB X w U M H) c v->VP X.E w ok p v
 | .pv q,p,v,h,hv=>by
  simp[dH]at h;subst h;simp only[VA]at hv;exact iz ⟨h1,fun _ _=>rfl⟩ _ _ hv
 | .bu,p,v,h,hv=>by
  simp[dH]at h;subst h;simp only[VA]at hv;subst hv;simp only[VP];exact⟨none,0,0,rfl,rfl,ax _,fun h=>by simp at h⟩
 | .bot,p,v,h,hv=>by simp[dH]at h
 | .ptr _ _ _,p,v,h,hv=>by simp[dH]at h
 | .map _,p,v,h,hv=>by simp[dH]at h
 | .ms id,p,v,h,hv=>by
  simp only[dH]at h;split at h
  ·rename_i sz es dT;simp at h;subst h;simp only[VA]at hv;obtain⟨cap,t,gU,g1,g2,g3,g4⟩:=hv.2.2 (sz,es.length) (by simp[aB,dT,dx.info]);have hb:=R.blk id;rw[dT]at hb;obtain⟨c,t',q1,q2,q3⟩:=hb;simp only[VP];exact⟨_,es.length,cap,g1,rfl,g2,fun _=>⟨M id,0,sz,rfl,h2 id (by simp[dT]),gg ⟨h1,fun _ _=>rfl⟩ _ _ _ _ (fun _=>rfl) q3⟩⟩
  ·simp at h
 | .tT id off len,p,v,h,hv=>by simp[dH]at h
 | .gd id off len,p,v,h,hv=>by
  simp only[dH]at h;split at h
  ·rename_i sz es dT;split at h
   ·rename_i hle;have hle:=fc hle;simp at h;subst h;simp only[VA]at hv;obtain⟨A,cap,t,gU,g1,g2,g3,g4,g5⟩:=hv.2.2 (sz,es.length) (by simp[aB,dT,dx.info]);have hb:=R.blk id;rw[dT]at hb;obtain⟨c,t',q1,q2,q3⟩:=hb;have hl:((es.drop off).take len).length=len:=by simp;omega
    simp only[VP];refine⟨A,len,cap,g1,hl.symm,g2,fun hp=>⟨M id,off*sz,sz,g5 (.inl (by omega)),h2 id (by simp[dT]),?_⟩⟩;have:=kT q3 off len;rw[aM]at this;exact gg ⟨h1,fun _ _=>rfl⟩ _ _ _ _ (fun _=>rfl) this
   ·simp at h
  ·simp at h
 | .func f fs cs,p,v,h,hv=>by
  simp only[dH]at h;split at h
  ·rename_i x y e1 e2;simp at h;subst h;simp only[VA,VP]at hv⊢;obtain⟨vs,us,g1,g2,g3⟩:=hv;exact⟨vs,us,g1,kP R h1 h2 fs x vs e1 g2,kP R h1 h2 cs y us e2 g3⟩
  ·simp at h
 | .iface t u,p,v,h,hv=>by
  simp only[dH]at h;split at h
  ·rename_i x e1;simp at h;subst h;simp only[VA,VP]at hv⊢;obtain⟨y,g1,g2⟩:=hv;exact⟨y,g1,ja R h1 h2 u x y e1 g2⟩
  ·simp at h
 | .agg cs,p,v,h,hv=>by
  simp only[dH]at h;split at h
  ·rename_i x e1;simp at h;subst h;simp only[VA,VP]at hv⊢;obtain⟨vs,g1,g2⟩:=hv;exact⟨vs,g1,kP R h1 h2 cs x vs e1 g2⟩
  ·simp at h
 | .tuple cs,p,v,h,hv=>by
  simp only[dH]at h;split at h
  ·rename_i x e1;simp at h;subst h;simp only[VA,VP]at hv⊢;obtain⟨vs,g1,g2⟩:=hv;exact⟨vs,g1,kP R h1 h2 cs x vs e1 g2⟩
  ·simp at h
theorem kP(R:Rel X M F H U a w)(h1:∀b,ju X w M H b->ok b)(h2:∀i,H i≠ .dead->ok (M i)):(cs:List AV)->(ps:List PV)->(vs:List Value)->hZ H cs=some ps->ed (aB X w U M H) cs vs->VPs X.E w ok ps vs
 |[],ps,vs,h,hv=>by simp[hZ]at h;subst h;simpa[ed,VPs]using hv
 |c::r,ps,vs,h,hv=>by
  simp only[hZ]at h;split at h
  ·rename_i p l e1 e2;simp at h;subst h;simp only[ed,VPs]at hv⊢;obtain⟨u,us,g1,g2,g3⟩:=hv;exact⟨u,us,g1,ja R h1 h2 c p u e1 g2,kP R h1 h2 r l us e2 g3⟩
  ·simp at h
end
mutual
theorem vB(R:Rel X M F H U a w)(h1:∀b,ju X w M H b->ok b)(h2:∀i,H i≠ .dead->ok (M i)):(c:AV)->(p:PV)->(v:Value)->dD H c=some p->VA (aB X w U M H) c v->VP X.E w ok p v
 | .pv q,p,v,h,hv=>ja R h1 h2 _ p v (by simpa only[dD]using h) hv
 | .bu,p,v,h,hv=>ja R h1 h2 _ p v (by simpa only[dD]using h) hv
 | .bot,p,v,h,hv=>ja R h1 h2 _ p v (by simpa only[dD]using h) hv
 | .map _,p,v,h,hv=>ja R h1 h2 _ p v (by simpa only[dD]using h) hv
 | .ms _,p,v,h,hv=>ja R h1 h2 _ p v (by simpa only[dD]using h) hv
 | .tT _ _ _,p,v,h,hv=>ja R h1 h2 _ p v (by simpa only[dD]using h) hv
 | .gd _ _ _,p,v,h,hv=>ja R h1 h2 _ p v (by simpa only[dD]using h) hv
 | .ptr id i off,p,v,h,hv=>by
  simp only[dD]at h;have hb:=R.blk id;simp only[VA]at hv;split at h
  ·rename_i cs dT;split at h
   ·rename_i ps e1;simp at h;subst h;rw[dT]at hb;obtain⟨c,t,q1,q2,q3⟩:=hb;have:=hv.2.2 (0,0) (by simp[aB,dT,dx.info]);simp only[VP];refine⟨M id,0,by simpa[aB]using this,h2 id (by simp[dT]),?_⟩;obtain⟨vs,g1,gs,g2⟩:=gf q3;obtain⟨l1,m1⟩:=(gn _ _).1 (kP R h1 h2 cs ps vs e1 g1);rw[eF];intro j q hq;have hlt:j<vs.length:=by rw[l1];exact(aA.1 hq).1
    exact⟨vs[j],g2 j _ (by simp[hlt]),gs _ (lL _),m1 j q _ hq (by simp[hlt])⟩
   ·simp at h
  ·rename_i sz es dT;split at h
   ·rename_i e he;simp at h;subst h;rw[dT]at hb;obtain⟨c,t,q1,q2,q3⟩:=hb;have:=hv.2.2 (sz,es.length) (by simp[aB,dT,dx.info]);simp only[VP];refine⟨M id,i*sz,by simpa[aB]using this,h2 id (by simp[dT]),?_⟩;have g:=((eH es 0).1 q3 i e he).2;rw[aM]at g;exact mD ⟨h1,fun _ _=>rfl⟩ _ _ _ (fun _=>rfl) g
   ·simp at h
  ·simp at h
 | .func f fs cs,p,v,h,hv=>by
  simp only[dD]at h;split at h
  ·rename_i x y e1 e2;simp at h;subst h;simp only[VA,VP]at hv⊢;obtain⟨vs,us,g1,g2,g3⟩:=hv;exact⟨vs,us,g1,jz R h1 h2 fs x vs e1 g2,jz R h1 h2 cs y us e2 g3⟩
  ·simp at h
 | .iface t u,p,v,h,hv=>by
  simp only[dD]at h;split at h
  ·rename_i x e1;simp at h;subst h;simp only[VA,VP]at hv⊢;obtain⟨y,g1,g2⟩:=hv;exact⟨y,g1,vB R h1 h2 u x y e1 g2⟩
  ·simp at h
 | .agg cs,p,v,h,hv=>by
  simp only[dD]at h;split at h
  ·rename_i x e1;simp at h;subst h;simp only[VA,VP]at hv⊢;obtain⟨vs,g1,g2⟩:=hv;exact⟨vs,g1,jz R h1 h2 cs x vs e1 g2⟩
  ·simp at h
 | .tuple cs,p,v,h,hv=>by
  simp only[dD]at h;split at h
  ·rename_i x e1;simp at h;subst h;simp only[VA,VP]at hv⊢;obtain⟨vs,g1,g2⟩:=hv;exact⟨vs,g1,jz R h1 h2 cs x vs e1 g2⟩
  ·simp at h
theorem jz(R:Rel X M F H U a w)(h1:∀b,ju X w M H b->ok b)(h2:∀i,H i≠ .dead->ok (M i)):(cs:List AV)->(ps:List PV)->(vs:List Value)->gy H cs=some ps->ed (aB X w U M H) cs vs->VPs X.E w ok ps vs
 |[],ps,vs,h,hv=>by simp[gy]at h;subst h;simpa[ed,VPs]using hv
 |c::r,ps,vs,h,hv=>by
  simp only[gy]at h;split at h
  ·rename_i p l e1 e2;simp at h;subst h;simp only[ed,VPs]at hv⊢;obtain⟨u,us,g1,g2,g3⟩:=hv;exact⟨u,us,g1,vB R h1 h2 c p u e1 g2,jz R h1 h2 r l us e2 g3⟩
  ·simp at h
end
end
end
inductive zE where
 |t (n:Nat)
 |cell (n:Nat) (agg:Bool) (sz:Nat)
 deriving Inhabited
structure bf where
 N:Nat
 res:List zE
 body:bx
 deriving Inhabited
def zZ(E:Env):List ResultVar->Option (List zE)
 |[]=>some []
 | .tmp t::r=>match zZ E r with
  |some l=>some (.t t::l)
  |none=>none
 | .cell a t::r=>match E.P.underlying t,E.P.info? t,zZ E r with
  |some d,some i,some l=>if eg d then some (.cell a true i.size::l)else if i.size=1 then some (.cell a false 1::l)else none
  |_,_,_=>none
def cFunc(E:Env)(n:Nat):Option bf :=
 match E.P.funcs[E.ρ n]? with
 | some fn => if (fn.name == "runtime.NumGoroutine") then none else
  match fn.body with
  |some c=>match eR E fn.ntmps c,zZ E fn.results.toList with
   |some b,some l=>some ⟨fn.ntmps,l,b⟩
   |_,_=>none
  |none=>none
 |none=>none
def kG(F:Fr)(H:Hp):List zE->Option (List AV)
 |[]=>some []
 | .t n::r=>match kG F H r with
  |some l=>some (F n::l)
  |none=>none
 | .cell n agg sz::r=>match fk H (F n)with
  |some cs=>match iY agg sz cs,kG F H r with
   |some v,some l=>some (v::l)
   |_,_=>none
  |none=>none
def gJ:List AV->AV
 |[v]=>v
 |vs=>.tuple vs
theorem Ig{α β:Type}{P:Program}{w:World}{f:α->Sem β}:∀{l:List α} {vs:List β},vs.length=l.length->(∀(i:Nat) a v,l[i]? =some a->vs[i]? =some v->(f a).run P w=.ok v w)->(l.mapM f).run P w=.ok vs w
 |[],vs,h,_=>by
  have:vs=[]:=bX (by simpa using h);subst this;rfl
 |a::l,vs,h,hf=>by
  cases vs with
  |nil=>simp at h
  |cons v vs =>
   rw[List.mapM_cons,rb (hf 0 a v rfl rfl),rb (Ig (by simpa using h) fun i a v h1 h2=>hf (i+1) a v (by simpa using h1) (by simpa using h2))];rfl
theorem Ie{X:Ctx}{M:Nat->Nat}{F:Fr}{H:Hp}{U:Nat->Prop}{a:Act}{w:World}(R:Rel X M F H U a w){t:TypeId}{d:TypeDesc}{i:TypeInfo}{p:AV}{cs:List AV}{u:Value}{v:AV}{n:Nat}{agg:Bool}
    (hu:X.E.P.underlying t=some d) (hi:X.E.P.info? t=some i) (jJ:agg=eg d) (hn:n=i.size) (qX:agg=false->n=1) (h1:fk H p=some cs) (hv:VA (aB X w U M H) p u) (h2:iY agg n cs=some v) :
    ∃b o,u=.pointer (some ⟨b,o,none⟩)/\∃x,(loadVar t ⟨b,o,none⟩).run X.E.P w=.ok x w/\VA (aB X w U M H) v x:=by
 subst jJ hn;obtain⟨b,off,h3,h4⟩:=ud R h1 hv;refine⟨b,off,h3,?_⟩;unfold iY at h2;split at h2
 ·rename_i hl;have hl:=cU hl;have h5:=tH h4 0 i.size;simp only[gL,fb]at h5;obtain⟨vs,h6,_,h7⟩:=gf h5;have hlen:i.size=vs.length:=by rw[ee h6,hl]
  split at h2
  ·rename_i jJ;simp at h2;subst h2;exact⟨_,pP hu hi jJ hlen h7,mL h6⟩
  ·rename_i jJ;split at h2
   ·rename_i c r;simp at h2;subst h2;rw[qX jJ]at h6 hlen;simp only[kj,List.take_zero,ed]at h6;obtain⟨u,us,rfl,h8,rfl⟩:=h6;have:=h7 0 u rfl;simp only[fb]at this;exact⟨_,pQ hu jJ this,h8⟩
   ·simp at h2
 ·simp at h2
theorem zl{X:Ctx}{M:Nat->Nat}{F:Fr}{H:Hp}{U:Nat->Prop}{a:Act}{w:World}(R:Rel X M F H U a w):∀{rs:List ResultVar} {l:List zE} {vs:List AV},zZ X.E rs=some l->kG F H l=some vs ->
    ∃us:List Value,us.length=rs.length/\ed (aB X w U M H) vs us/\∀(i:Nat) r u,rs[i]? =some r->us[i]? =some u->(match r with| .tmp t=>pure (a.tmps.getD t undef)| .cell p t=>do loadVar t (<-asAddr (a.tmps.getD p undef)):Sem Value).run X.E.P w=.ok u w
 |[],l,vs,h1,h2=>by
  simp[zZ]at h1;subst h1;simp[kG]at h2;subst h2;exact⟨[],rfl,by simp[ed],fun i r u h=>by simp at h⟩
 | .tmp t::r,l,vs,h1,h2=>by
  simp only[zZ]at h1;split at h1
  ·rename_i l' e1;simp at h1;subst h1;simp only[kG]at h2;split at h2
   ·rename_i vs' e2;simp at h2;subst h2;obtain⟨us,g1,g2,g3⟩:=zl R e1 e2;refine⟨a.tmps.getD t undef::us,by simp[g1],by simp only[ed];exact⟨_,_,rfl,R.fr t,g2⟩,fun i r u hr hu=>?_⟩;cases i with
    |zero =>
     simp only[gQ,ai]at hr hu;subst hr;subst hu;rfl
    |succ i=>exact g3 i r u (by simpa using hr) (by simpa using hu)
   ·simp at h2
  ·simp at h1
 | .cell p t::r,l,vs,h1,h2=>by
  simp only[zZ]at h1;have main:∀agg n l' d i,zZ X.E r=some l'->X.E.P.underlying t=some d->X.E.P.info? t=some i->agg=eg d->n=i.size->(agg=false->n=1)->l=.cell p agg n::l' ->
                         ∃us:List Value,us.length=(ResultVar.cell p t::r).length/\ed (aB X w U M H) vs us/\∀(i:Nat) r' u,(ResultVar.cell p t::r)[i]? =some r'->us[i]? =some u->(match r' with| .tmp t=>pure (a.tmps.getD t undef)| .cell p t=>do loadVar t (<-asAddr (a.tmps.getD p undef)):Sem Value).run X.E.P w=.ok u w:=by
   intro agg n l' d i e1 hu hi jJ hn qX hl;subst hl;simp only[kG]at h2;split at h2
   ·rename_i cs e3;split at h2
    ·rename_i v vs' e4 e5;simp at h2;subst h2;obtain⟨us,g1,g2,g3⟩:=zl R e1 e5;obtain⟨b,o,k1,x,k2,k3⟩:=Ie R hu hi jJ hn qX e3 (R.fr p) e4;refine⟨x::us,by simp[g1],by simp only[ed];exact⟨_,_,rfl,k3,g2⟩,fun i r u hr F3=>?_⟩;cases i with
     |zero =>
      simp only[gQ,ai]at hr F3;subst hr;subst F3;simp only;have:(asAddr (a.tmps.getD p undef)).run X.E.P w=.ok ⟨b,o,none⟩ w:=by rw[k1];rfl
      rw[rb this];exact k2
     |succ i=>exact g3 i r u (by simpa using hr) (by simpa using F3)
    ·simp at h2
   ·simp at h2
  split at h1
  ·rename_i d i l' hu hi e1;split at h1
   ·rename_i jJ;simp at h1;exact main true i.size l' d i e1 hu hi jJ.symm rfl (by simp) h1.symm
   ·rename_i jJ;split at h1
    ·rename_i lI;simp at h1;exact main false 1 l' d i e1 hu hi (by simpa using jJ) lI.symm (fun _=>rfl) h1.symm
    ·simp at h1
  ·simp at h1
section
def dC:List Bool->List PV->List PV->Option Bool
 |[],[],[]=>some true
 |false::bs,.int k a::r,.int j b::s=>if k=j then(match dC bs r s with
    |some c=>some (a==b&&c)
    |none=>none)else none
 |true::bs,.bool a::r,.bool b::s=>match dC bs r s with
    |some c=>some (a==b&&c)
    |none=>none
 |_,_,_=>none
theorem dO:∀{bs:List Bool} {xs ys:List PV} {c:Bool},dC bs xs ys=some c->xs.length=bs.length/\ys.length=bs.length
 |[],[],[],c,h=>by simp
 |false::bs,.int k a::r,.int j b::s,c,h=>by
  simp only[dC]at h;split at h
  ·split at h
   ·rename_i c' h';have:=dO h';simp[this.1,this.2]
   ·simp at h
  ·simp at h
 |true::bs,.bool a::r,.bool b::s,c,h=>by
  simp only[dC]at h;split at h
  ·rename_i c' h';have:=dO h';simp[this.1,this.2]
  ·simp at h
 |[],[],_::_,c,h=>by simp[dC]at h
 |[],_::_,_,c,h=>by simp[dC]at h
 |b::bs,[],ys,c,h=>by cases b <;>simp[dC]at h
 |b::bs,x::xs,[],c,h=>by cases b <;>cases x <;>simp[dC]at h
 |false::bs,x::xs,y::ys,c,h=>by
  cases x <;>cases y <;>simp only[dC]at h <;>try (simp at h;done)
  split at h
  ·split at h
   ·rename_i c' h';have:=dO h';simp[this.1,this.2]
   ·simp at h
  ·simp at h
 |true::bs,x::xs,y::ys,c,h=>by
  cases x <;>cases y <;>simp only[dC]at h <;>try (simp at h;done)
  split at h
  ·rename_i c' h';have:=dO h';simp[this.1,this.2]
  ·simp at h
theorem lO:∀{as bs:List Bool} {xs ys:List PV} {c:Bool},dC (as++bs) xs ys=some c ->
    ∃a b,dC as (xs.take as.length) (ys.take as.length)=some a/\dC bs (xs.drop as.length) (ys.drop as.length)=some b/\c=(a&&b)
 |[],bs,xs,ys,c,h=>⟨true,c,by simp[dC],by simpa using h,by simp⟩
 |b::as,bs,xs,ys,c,h=>by
  have hl:=dO h;cases xs with
  |nil=>simp at hl
  |cons x xs =>
   cases ys with
   |nil=>simp at hl
   |cons y ys =>
    cases b <;>cases x <;>cases y <;>simp only[aI,dC]at h <;>try (simp at h;done)
    ·rename_i k1 n1 k2 n2;split at h
     ·rename_i hk;split at h
      ·rename_i c' h';obtain⟨a',b',g1,g2,g3⟩:=lO h';simp at h;refine⟨n1==n2&&a',b',?_,by simpa using g2,?_⟩
       ·simp only[ay,kj,dC,hk,bz,g1]
       ·rw[<-h,g3,Bool.and_assoc]
      ·simp at h
     ·simp at h
    ·rename_i n1 n2;split at h
     ·rename_i c' h';obtain⟨a',b',g1,g2,g3⟩:=lO h';simp at h;refine⟨n1==n2&&a',b',?_,by simpa using g2,?_⟩
      ·simp only[ay,kj,dC,g1]
      ·rw[<-h,g3,Bool.and_assoc]
     ·simp at h
section
variable{P:Program}{E:Env}{w:World}{ok:Nat->Prop}
def pack(d:TypeDesc)(us:List Value):Option Value:=if eg d then some (.agg us.toArray)else match us with
 |[u]=>some u
 |_=>none
def QE(P:Program)(E:Env)(ok:Nat->Prop)(D:Nat)(t:TypeId)(bs:List Bool):Prop :=
 ∀(w:World) (d:TypeDesc) (xs ys:List PV) (us vs:List Value) (x y:Value) (c:Bool),P.underlying t=some d->VPs E w ok xs us->VPs E w ok ys vs->dC bs xs ys=some c ->
  pack d us=some x->pack d vs=some y->(Op.equalIn D t x y).run P w=.ok c w
theorem qA{xs:List PV}{us:List Value}(h:VPs E w ok xs us)(n:Nat):VPs E w ok (xs.take n) (us.take n):=by
 obtain⟨l,m⟩:=(gn _ _).1 h;refine(gn _ _).2 ⟨by simp[l],fun i p v hp hv=>?_⟩;simp only[md]at hp hv;split at hp
 ·rename_i hi;rw[aW hi]at hv;exact m i p v hp hv
 ·simp at hp
theorem qz{xs:List PV}{us:List Value}(h:VPs E w ok xs us)(n:Nat):VPs E w ok (xs.drop n) (us.drop n):=by
 obtain⟨l,m⟩:=(gn _ _).1 h;refine(gn _ _).2 ⟨by simp[l],fun i p v hp hv=>?_⟩;simp only[List.getElem?_drop]at hp hv;exact m _ p v hp hv
theorem ry{t:TypeId}{d:TypeDesc}{i:TypeInfo}{us:Array Value}{o n:Nat}(hd:P.underlying t=some d)(hi:P.info? t=some i)(hn:i.size=n)(h1:eg d=false->n=1)(hl:eg d=false->o<us.size) :
    ∃x,(part t us o).run P w=.ok x w/\pack d ((us.toList.drop o).take n)=some x:=by
 unfold part pack;rw[rb (tC hd)];by_cases ha:eg d=true
 ·rw[aW ha,aW ha];refine⟨_,?_,rfl⟩;rw[rb (fj hi),hn];have:us.extract o (o+n)=(List.take n (List.drop o us.toList)).toArray:=by
   apply Array.toList_inj.1;rw[Array.toList_extract];simp[List.extract]
  rw[this];rfl
 ·rw[ar ha,ar ha];have:=h1 (by simpa using ha);subst this;have hlt:o<us.size:=hl (by simpa using ha);refine⟨us[o],by simp[hlt,run_pure],?_⟩;have:us.toList.drop o=us[o]::us.toList.drop (o+1):=by
   rw[List.drop_eq_getElem_cons (by simpa using hlt)];simp
  rw[this];simp
theorem ou{D:Nat}{T:TypeId->Option (List Bool)}(IH:∀t bs,T t=some bs->QE P E ok D t bs):∀{fs:List Field} {o:Nat} {bs:List Bool} {xs ys:List PV} {us vs:Array Value} {c:Bool} {w:World},vh P T fs o=some bs ->
    VPs E w ok xs (us.toList.drop o)->VPs E w ok ys (vs.toList.drop o)->dC bs xs ys=some c->(Op.eqFields D us vs fs).run P w=.ok c w
 |[],o,bs,xs,ys,us,vs,c,w,h,hx,hy,he=>by
  simp[vh]at h;subst h;have:=dO he;obtain rfl:=bX this.1;obtain rfl:=bX this.2;simp[dC]at he;subst he;simp[Op.eqFields,run_pure]
 |f::r,o,bs,xs,ys,us,vs,c,w,h,hx,hy,he=>by
  simp only[vh]at h;split at h
  ·rename_i l i dd h1 h2 h3;split at h
   ·rename_i hc;obtain⟨ho,hs,hn,qX⟩:=hc;split at h
    ·rename_i l' h4;simp at h;subst h;have hlen:=dO he;obtain⟨a,b,e1,e2,rfl⟩:=lO he;have lx:=dW hx;have ly:=dW hy;simp at lx ly hlen;obtain⟨x,px,kx⟩:=ry (w:=w) (us:=us) (o:=o) (n:=l.length) h3 h2 hs qX (fun ha=>by have:=qX ha;omega);obtain⟨y,py,ky⟩:=ry (w:=w) (us:=vs) (o:=o) (n:=l.length) h3 h2 hs qX (fun ha=>by have:=qX ha;omega);have hr:=IH _ _ h1 w dd _ _ _ _ x y a h3 (qA hx l.length) (qA hy l.length) e1 kx ky;simp only[Op.eqFields,hn,ne_eq,not_false_eq_true,bz,ho];rw[rb px,rb py,rb hr];cases a
     ·simp[run_pure]
     ·have we:=ou IH (us:=us) (vs:=vs) (w:=w) h4 (xs:=xs.drop l.length) (ys:=ys.drop l.length) (c:=b)
       (by have:=qz hx l.length;rwa [iE]at this) (by have:=qz hy l.length;rwa [iE]at this) e2
      simpa using we
    ·simp at h
   ·simp at h
  ·simp at h
theorem pK{D:Nat}{e:TypeId}{l:List Bool}{i:TypeInfo}{dd:TypeDesc}(IH:QE P E ok D e l)(h2:P.info? e=some i)(h3:P.underlying e=some dd)(hs:i.size=l.length)(qX:eg dd=false->l.length=1) :
    ∀{n k:Nat} {xs ys:List PV} {us vs:Array Value} {c:Bool} {w:World},VPs E w ok xs (us.toList.drop (k*l.length))->VPs E w ok ys (vs.toList.drop (k*l.length))->dC (List.replicate n l).flatten xs ys=some c ->
    (Op.eqItems D e (P.cellsOf e) us vs (List.range' k n)).run P w=.ok c w
 |0,k,xs,ys,us,vs,c,w,hx,hy,he=>by
  simp at he;have:=dO he;obtain rfl:=bX this.1;obtain rfl:=bX this.2;simp[dC]at he;subst he;simp[Op.eqItems,run_pure]
 |n+1,k,xs,ys,us,vs,c,w,hx,hy,he=>by
  rw[List.replicate_succ,Jb]at he;have hlen:=dO he;obtain⟨a,b,e1,e2,rfl⟩:=lO he;have lx:=dW hx;have ly:=dW hy;simp at lx ly hlen;have Tf:P.cellsOf e=l.length:=by simp[Program.cellsOf,h2,hs]
  obtain⟨x,px,kx⟩:=ry (w:=w) (us:=us) (o:=k*l.length) (n:=l.length) h3 h2 hs qX (fun ha=>by have:=qX ha;omega);obtain⟨y,py,ky⟩:=ry (w:=w) (us:=vs) (o:=k*l.length) (n:=l.length) h3 h2 hs qX (fun ha=>by have:=qX ha;omega);have hr:=IH w dd _ _ _ _ x y a h3 (qA hx l.length) (qA hy l.length) e1 kx ky;rw[List.range'_succ];simp only[Op.eqItems,Tf];rw[rb px,rb py,rb hr];cases a
  ·simp[run_pure]
  ·have we:=pK IH h2 h3 hs qX (n:=n) (k:=k+1) (us:=us) (vs:=vs) (w:=w) (xs:=xs.drop l.length) (ys:=ys.drop l.length) (c:=b)
    (by have:=qz hx l.length;rwa [iE,show k*l.length+l.length=(k+1)*l.length by rw[dq];omega]at this)
    (by have:=qz hy l.length;rwa [iE,show k*l.length+l.length=(k+1)*l.length by rw[dq];omega]at this) e2
   rw[Tf]at we;simpa using we
theorem vi:∀(m D:Nat) (t:TypeId) (bs:List Bool),qk P m t=some bs->QE P E ok (m+D) t bs
 |0,D,t,bs,h=>by simp[qk]at h
 |m+1,D,t,bs,h=>by
  intro w d xs ys us vs x y c hd hx hy he kx ky;rw[show m+1+D=(m+D)+1 by omega];unfold qk at h;rw[hd]at h;have lx:=dW hx;have ly:=dW hy;have hlen:=dO he;split at h
  ·rename_i k hk;simp at hk;simp at h;subst h hk;obtain⟨x0,rfl⟩:=IQ.1 hlen.1;obtain⟨y0,rfl⟩:=IQ.1 hlen.2;cases x0 <;>cases y0 <;>simp only[dC]at he <;>try (simp at he;done)
   split at he
   ·rename_i hk;simp at he;subst he hk;simp only[VPs,VP]at hx hy;obtain⟨_,_,rfl,rfl,rfl⟩:=hx;obtain⟨_,_,rfl,rfl,rfl⟩:=hy;simp[pack,eg]at kx ky;subst kx ky;simp[run_equalIn_int w _ t _ _ _ _ hd]
   ·simp at he
  ·rename_i hk;simp at hk;simp at h;subst h hk;obtain⟨x0,rfl⟩:=IQ.1 hlen.1;obtain⟨y0,rfl⟩:=IQ.1 hlen.2;cases x0 <;>cases y0 <;>simp only[dC]at he <;>try (simp at he;done)
   simp at he;subst he;simp only[VPs,VP]at hx hy;obtain⟨_,_,rfl,rfl,rfl⟩:=hx;obtain⟨_,_,rfl,rfl,rfl⟩:=hy;simp[pack,eg]at kx ky;subst kx ky;simp[run_equalIn_bool w _ t _ _ hd]
  ·rename_i fs hk;simp at hk;subst hk;split at h
   ·simp at h
   ·rename_i iX;simp[pack,eg]at kx ky;subst kx ky;rw[run_equalIn_struct w (m+D) t _ _ (by simp[Program.fieldsOf,hd]) (by simpa using iX)];have:P.fieldsOf t=fs:=by simp[Program.fieldsOf,hd]
    rw[this];exact ou (fun t bs ht=>vi m D t bs ht) h (by simpa using hx) (by simpa using hy) he
  ·rename_i len e hk;simp at hk;subst hk;split at h
   ·rename_i l i dd h1 h2 h3;split at h
    ·rename_i hc;simp at h;subst h;simp[pack,eg]at kx ky;subst kx ky;rw[run_equalIn_array w (m+D) _ _ hd h2,List.range_eq_range'];exact pK (vi m D e l h1) h2 h3 hc.1 hc.2 (n:=len) (k:=0) (by simpa using hx) (by simpa using hy) he
    ·simp at h
   ·simp at h
  ·simp at h
end
end
section
def AO.DL:AO->Bool
 | .c _=>true
 |_=>false
def je(H:Hp)(k:J8)(c:Bool)(x y:AV):Option Bool :=
 match k,x,y with
 | .bool,.pv (.bool a),.pv (.bool b)=>some (a==b)
 | .str,.pv (.str a),.pv (.str b)=>some (a.toList==b.toList)
 | .plain bs,.pv (.agg xs),.pv (.agg ys)=>dC bs xs ys
 | .iface _,.pv .dI,.pv .dI=>if c=true then some true else none
 | .iface _,.pv .dI,.pv (.iface _ _)=>some false
 | .iface _,.pv (.iface _ _),.pv .dI=>some false
 | .iface _,.pv .dI,.iface _ _=>some false
 | .iface _,.iface _ _,.pv .dI=>some false
 | .iface true,.pv (.iface 0 (.int k a)),.pv (.iface 0 (.int j b))=>if k=j then some (a==b)else none
 | .ptr,.pv .sd,.pv .sd=>some true
 | .ptr,.pv .sd,.pv (.gX _ _)=>some false
 | .ptr,.pv (.gX _ _),.pv .sd=>some false
 | .ptr,.pv .sd,.ptr id _ _=>match(H id).info with
  |some _=>some false
  |none=>none
 | .ptr,.ptr id _ _,.pv .sd=>match(H id).info with
  |some _=>some false
  |none=>none
 | .ptr,.ptr id i a,.ptr jd j b=>if id=jd then(match(H id).info with
  |some s=>some (decide (i*s.1+a=j*s.1+b))
  |none=>none)else none
 | .slice,.bu,.bu=>some true
 | .slice,.bu,.pv (.slice (_::_))=>some false
 | .slice,.pv (.slice (_::_)),.bu=>some false
 | .slice,.bu,.ms id=>match(H id).info with
  |some _=>some false
  |none=>none
 | .slice,.ms id,.bu=>match(H id).info with
  |some _=>some false
  |none=>none
 | .func,.pv .nw,.pv .nw=>some true
 | .func,.pv .nw,.pv (.func _ _ _)=>some false
 | .func,.pv (.func _ _ _),.pv .nw=>some false
 |_,_,_=>none
def G3(op:BinOp)(b:Bool):Option Bool:=match op with
 | .eql=>some b
 | .neq=>some (!b)
 |_=>none
section
variable{E:Env}{N:Nat}{o:Oper}{F:Fr}{H:Hp}{U:Nat->Prop}
theorem A8{t:TypeId}{k:J8}(h:Ob E t=some k):∃d,E.P.underlying t=some d/\match k with
    | .bool=>d=.bool
    | .str=>d=.string
    | .ptr=>(∃e,d=.pointer e)/\∃e i,d=.pointer e/\E.P.info? e=some i/\i.size≠0
    | .iface c=>(∃ms,d=.interface ms)/\(c=true->Di E=true)
    | .slice=>∃e,d=.slice e
    | .func=>∃a b c,d=.func a b c
    | .plain bs=>eg d=true/\E.P.eqGuardType E.P.depth t=false/\qk E.P 20 t=some bs:=by
 unfold Ob at h;split at h <;>rename_i hd
 ·simp at h;subst h;exact⟨_,hd,rfl⟩
 ·simp at h;subst h;exact⟨_,hd,rfl⟩
 ·split at h
  ·rename_i i hi;split at h
   ·simp at h
   ·rename_i hz;simp at h;subst h;exact⟨_,hd,⟨_,rfl⟩,_,i,rfl,hi,hz⟩
  ·simp at h
 ·simp at h;subst h;exact⟨_,hd,⟨_,rfl⟩,id⟩
 ·simp at h;subst h;exact⟨_,hd,_,rfl⟩
 ·simp at h;subst h;exact⟨_,hd,_,_,_,rfl⟩
 ·split at h
  ·simp at h
  ·rename_i hg;simp at h;obtain⟨bs,h1,rfl⟩:=h;exact⟨_,hd,rfl,by simpa using hg,h1⟩
 ·split at h
  ·simp at h
  ·rename_i hg;simp at h;obtain⟨bs,h1,rfl⟩:=h;exact⟨_,hd,rfl,by simpa using hg,h1⟩
 ·simp at h
theorem BQ(h:Di E=true):∃k i,E.P.underlying (E.τ 0)=some (.int k)/\E.P.info? (E.τ 0)=some i/\i.comparable=true:=by
 unfold Di at h;split at h
 ·exact⟨_,_,by assumption,by assumption,h⟩
 ·simp at h
section
variable{P:Program}{w:World}{t:TypeId}
theorem PJ(d:Nat){ms}(h:P.underlying t=some (.interface ms)):(Op.equalIn (d+1) t .nilIface .nilIface).run P w=.ok true w:=by simp[Op.equalIn,fP h]
theorem LM(d:Nat){ms u v}(h:P.underlying t=some (.interface ms)):(Op.equalIn (d+1) t .nilIface (.iface u v)).run P w=.ok false w:=by simp[Op.equalIn,fP h]
theorem LL(d:Nat){ms u v}(h:P.underlying t=some (.interface ms)):(Op.equalIn (d+1) t (.iface u v) .nilIface).run P w=.ok false w:=by simp[Op.equalIn,fP h]
theorem LK(d:Nat){ms u x y i}(h:P.underlying t=some (.interface ms))(hi:P.info? u=some i)(hc:i.comparable=true):(Op.equalIn (d+1) t (.iface u x) (.iface u y)).run P w=(Op.equalIn d u x y).run P w:=by
 simp only[Op.equalIn];rw[rb (bF h)];simp only[ne_eq,not_true_eq_false,aJ];rw[rb (jx hi),hc];simp only[Bool.not_true,bA,aJ]
theorem PK(d:Nat){e}(h:P.underlying t=some (.pointer e)):(Op.equalIn (d+1) t (.pointer none) (.pointer none)).run P w=.ok true w:=by simp[Op.equalIn,fP h]
theorem LN(d:Nat){e a}(h:P.underlying t=some (.pointer e)):(Op.equalIn (d+1) t (.pointer none) (.pointer (some a))).run P w=.ok false w:=by simp[Op.equalIn,fP h]
theorem LO(d:Nat){e a}(h:P.underlying t=some (.pointer e)):(Op.equalIn (d+1) t (.pointer (some a)) (.pointer none)).run P w=.ok false w:=by simp[Op.equalIn,fP h]
theorem PL(d:Nat){e i}{a b:Addr}(h:P.underlying t=some (.pointer e))(hi:P.info? e=some i)(hs:i.size≠0)(hb:a.block=b.block):(Op.equalIn (d+1) t (.pointer (some a)) (.pointer (some b))).run P w=.ok (a==b) w:=by
 simp[Op.equalIn,fP h,sizeOf,typeInfo,hi,hs,sameAddr,hb]
theorem PM(d:Nat){e}(h:P.underlying t=some (.slice e)):(Op.equalIn (d+1) t (.slice none 0 0) (.slice none 0 0)).run P w=.ok true w:=by simp[Op.equalIn,fP h]
theorem LP(d:Nat){e a n m}(h:P.underlying t=some (.slice e)):(Op.equalIn (d+1) t (.slice none 0 0) (.slice (some a) n m)).run P w=.ok false w:=by simp[Op.equalIn,fP h]
theorem Ia(d:Nat){e a n m}(h:P.underlying t=some (.slice e)):(Op.equalIn (d+1) t (.slice (some a) n m) (.slice none 0 0)).run P w=.ok false w:=by simp[Op.equalIn,fP h]
theorem PG(d:Nat){e f g}(h:P.underlying t=some (.func e f g)):(Op.equalIn (d+1) t .nilFunc .nilFunc).run P w=.ok true w:=by simp[Op.equalIn,fP h]
theorem PH(d:Nat){e f g a b c}(h:P.underlying t=some (.func e f g)):(Op.equalIn (d+1) t .nilFunc (.func a b c)).run P w=.ok false w:=by simp[Op.equalIn,fP h]
theorem PI(d:Nat){e f g a b c}(h:P.underlying t=some (.func e f g)):(Op.equalIn (d+1) t (.func a b c) .nilFunc).run P w=.ok false w:=by simp[Op.equalIn,fP h]
end
theorem PO{X:Ctx}{M:Nat->Nat}{w:World}{t:TypeId}{k:J8}{x' y':Operand}{x y:AO}{b:Bool}{u v:Value}
    (hk:Ob X.E t=some k) (hx:cO X.E x'=some x) (hy:cO X.E y'=some y) (h:je H k (x.DL||y.DL) (dF F x) (dF F y)=some b)
    (hu:VA (aB X w U M H) (dF F x) u) (hv:VA (aB X w U M H) (dF F y) v) :
    (∀op,(eqGuard op t x' y' u v).run X.E.P w=.ok () w)/\((binOp .eql t u v).run X.E.P w=.ok (.bool b) w/\(binOp .neq t u v).run X.E.P w=.ok (.bool (!b)) w):=by
 obtain⟨d,hd,qc⟩:=A8 hk;have QU:∀{u v:Value},(Op.equal t u v).run X.E.P w=.ok b w->(∀k n,u≠ .int k n)->(∀s,u≠ .string s)->(∀k n,u≠ .float k n)->(∀k n m,u≠ .complex k n m) ->
                            (binOp .eql t u v).run X.E.P w=.ok (.bool b) w/\(binOp .neq t u v).run X.E.P w=.ok (.bool (!b)) w:=by
  intro u v h1 h2 h3 h4 h5;cases u <;>first|exact absurd rfl (h2 _ _)|exact absurd rfl (h3 _)|exact absurd rfl (h4 _ _)|exact absurd rfl (h5 _ _ _) |
   (constructor
    ·simp only[binOp];rw[rb h1];rfl
    ·simp only[binOp];rw[rb h1];rfl)
 have hg:∀{u v:Value},(∀c,u≠ .agg c)->u≠ .nilIface\/v≠ .nilIface->∀op,(eqGuard op t x' y' u v).run X.E.P w=.ok () w:=by
  intro u v h1 h2 op;have key:∀op,(op=.eql\/op=.neq)->(eqGuard op t x' y' u v).run X.E.P w=.ok () w:=by
   intro op ho;unfold eqGuard;rcases ho with rfl|rfl <;>simp only[Bool.not_true,bA,aJ]
   all_goals
    split
    ·rcases h2 with h2|h2 <;>exact absurd rfl h2
    ·exact absurd rfl (h1 _)
    ·rfl
  cases op <;>first|exact key _ (.inl rfl)|exact key _ (.inr rfl)|rfl
 have fin:∀{u v:Value},(∀c,u≠ .agg c)->u≠ .nilIface\/v≠ .nilIface->(Op.equal t u v).run X.E.P w=.ok b w->(∀k n,u≠ .int k n)->(∀s,u≠ .string s)->(∀k n,u≠ .float k n)->(∀k n m,u≠ .complex k n m) ->
     (∀op,(eqGuard op t x' y' u v).run X.E.P w=.ok () w)/\((binOp .eql t u v).run X.E.P w=.ok (.bool b) w/\(binOp .neq t u v).run X.E.P w=.ok (.bool (!b)) w) :=
  fun h1 h2 h3 h4 h5 h6 h7=>⟨hg h1 h2,QU h3 h4 h5 h6 h7⟩
 have eqs:∀{u v:Value},(Op.equalIn 10000 t u v).run X.E.P w=.ok b w->(Op.equal t u v).run X.E.P w=.ok b w:=fun h=>h;unfold je at h;split at h <;>(try rename_i e1 e2) <;>(try (rw[e1]at hu;rw[e2]at hv)) <;>(try simp only[VA,VP]at hu hv) <;>(try simp only at qc)
 case h_1 =>
  subst hu hv;simp at h;subst h;subst qc;exact fin (by simp) (by simp) (run_equal_bool w t _ _ hd) (by simp) (by simp) (by simp) (by simp)
 case h_2 =>
  subst hu hv;simp at h;subst h;subst qc;exact⟨hg (by simp) (by simp),rfl,rfl⟩
 case h_3 =>
  obtain⟨us,rfl,h1⟩:=hu;obtain⟨vs,rfl,h2⟩:=hv;obtain⟨jJ,Uo,hg2⟩:=qc;refine⟨fun op=>run_eqGuard_agg w op t _ _ _ _ Uo,QU (eqs ?_) (by simp) (by simp) (by simp) (by simp)⟩;exact vi 20 9980 t _ hg2 w d _ _ us vs _ _ _ hd h1 h2 h (by simp[pack,jJ]) (by simp[pack,jJ])
 case h_4 =>
  subst hu hv;obtain⟨⟨ms,rfl⟩,_⟩:=qc;split at h
  ·rename_i hc;simp at h;subst h;have OL:(∃v,x'=.const v)\/∃v,y'=.const v:=by
    cases x with
    |c v=>cases x' <;>simp[cO]at hx <;>simp
    |_=>cases y with
     |c v=>cases y' <;>simp[cO]at hy <;>simp
     |_=>simp[AO.DL]at hc
   refine⟨fun op=>?_,QU (eqs ?_) (by simp) (by simp) (by simp) (by simp)⟩
   ·cases op <;>first|rfl|(simp only[eqGuard,Bool.not_true,bA,aJ];rcases OL with⟨v,rfl⟩|⟨v,rfl⟩ <;>simp[run_pure])
   ·exact PJ _ hd
  ·simp at h
 case h_5 =>
  obtain⟨v,rfl,_⟩:=hv;subst hu;obtain⟨⟨ms,rfl⟩,_⟩:=qc;simp at h;subst h;exact fin (by simp) (by simp) (eqs (LM _ hd)) (by simp) (by simp) (by simp) (by simp)
 case h_6 =>
  obtain⟨u,rfl,_⟩:=hu;subst hv;obtain⟨⟨ms,rfl⟩,_⟩:=qc;simp at h;subst h;exact fin (by simp) (by simp) (eqs (LL _ hd)) (by simp) (by simp) (by simp) (by simp)
 case h_7 =>
  obtain⟨v,rfl,_⟩:=hv;subst hu;obtain⟨⟨ms,rfl⟩,_⟩:=qc;simp at h;subst h;exact fin (by simp) (by simp) (eqs (LM _ hd)) (by simp) (by simp) (by simp) (by simp)
 case h_8 =>
  obtain⟨u,rfl,_⟩:=hu;subst hv;obtain⟨⟨ms,rfl⟩,_⟩:=qc;simp at h;subst h;exact fin (by simp) (by simp) (eqs (LL _ hd)) (by simp) (by simp) (by simp) (by simp)
 case h_9 =>
  obtain⟨u,rfl,rfl⟩:=hu;obtain⟨v,rfl,rfl⟩:=hv;obtain⟨⟨ms,rfl⟩,hc⟩:=qc;split at h
  ·rename_i MC;subst MC;simp at h;subst h;obtain⟨k0,i,g1,g2,g3⟩:=BQ (by simpa using hc);refine fin (by simp) (by simp) (eqs ?_) (by simp) (by simp) (by simp) (by simp);exact(LK 9999 hd g2 g3).trans (run_equalIn_int w 9998 _ _ _ _ _ g1)
  ·simp at h
 case h_10 =>
  subst hu hv;obtain⟨⟨e,rfl⟩,_⟩:=qc;simp at h;subst h;exact fin (by simp) (by simp) (eqs (PK _ hd)) (by simp) (by simp) (by simp) (by simp)
 case h_11 =>
  obtain⟨b,o,rfl,_⟩:=hv;subst hu;obtain⟨⟨e,rfl⟩,_⟩:=qc;simp at h;subst h;exact fin (by simp) (by simp) (eqs (LN _ hd)) (by simp) (by simp) (by simp) (by simp)
 case h_12 =>
  obtain⟨b,o,rfl,_⟩:=hu;subst hv;obtain⟨⟨e,rfl⟩,_⟩:=qc;simp at h;subst h;exact fin (by simp) (by simp) (eqs (LO _ hd)) (by simp) (by simp) (by simp) (by simp)
 case h_13 =>
  subst hu;obtain⟨⟨e,rfl⟩,_⟩:=qc;split at h
  ·rename_i s hs;simp at h;subst h;have:=hv.2.2 s hs;subst this;exact fin (by simp) (by simp) (eqs (LN _ hd)) (by simp) (by simp) (by simp) (by simp)
  ·simp at h
 case h_14 =>
  subst hv;obtain⟨⟨e,rfl⟩,_⟩:=qc;split at h
  ·rename_i s hs;simp at h;subst h;have:=hu.2.2 s hs;subst this;exact fin (by simp) (by simp) (eqs (LO _ hd)) (by simp) (by simp) (by simp) (by simp)
  ·simp at h
 case h_15 =>
  obtain⟨_,e,i,rfl,g1,g2⟩:=qc;split at h
  ·rename_i he;subst he;split at h
   ·rename_i s hs;simp only[ai]at h;subst h;have a1:=hu.2.2 s hs;have a2:=hv.2.2 s hs;subst a1 a2;refine fin (by simp) (by simp) (eqs ?_) (by simp) (by simp) (by simp) (by simp);refine(PL 9999 hd g1 g2 (by rfl)).trans (da (fun z=>Result.ok z w) ?_);rw[Bool.eq_iff_iff];simp
   ·simp at h
  ·simp at h
 case h_16 =>
  subst hu hv;obtain⟨e,rfl⟩:=qc;simp at h;subst h;exact fin (by simp) (by simp) (eqs (PM _ hd)) (by simp) (by simp) (by simp) (by simp)
 case h_17 =>
  obtain⟨a,l,c,rfl,h1,h2,h3⟩:=hv;obtain⟨b,o,sz,rfl,_⟩:=h3 (by simp);subst hu;obtain⟨e,rfl⟩:=qc;simp at h;subst h;exact fin (by simp) (by simp) (eqs (LP _ hd)) (by simp) (by simp) (by simp) (by simp)
 case h_18 =>
  obtain⟨a,l,c,rfl,h1,h2,h3⟩:=hu;obtain⟨b,o,sz,rfl,_⟩:=h3 (by simp);subst hv;obtain⟨e,rfl⟩:=qc;simp at h;subst h;exact fin (by simp) (by simp) (eqs (Ia _ hd)) (by simp) (by simp) (by simp) (by simp)
 case h_19 =>
  subst hu;obtain⟨e,rfl⟩:=qc;split at h
  ·rename_i s hs;simp at h;subst h;obtain⟨_,_,_,rfl,_⟩:=hv.2.2 s hs;exact fin (by simp) (by simp) (eqs (LP _ hd)) (by simp) (by simp) (by simp) (by simp)
  ·simp at h
 case h_20 =>
  subst hv;obtain⟨e,rfl⟩:=qc;split at h
  ·rename_i s hs;simp at h;subst h;obtain⟨_,_,_,rfl,_⟩:=hu.2.2 s hs;exact fin (by simp) (by simp) (eqs (Ia _ hd)) (by simp) (by simp) (by simp) (by simp)
  ·simp at h
 case h_21 =>
  subst hu hv;obtain⟨a,b,c,rfl⟩:=qc;simp at h;subst h;exact fin (by simp) (by simp) (eqs (PG _ hd)) (by simp) (by simp) (by simp) (by simp)
 case h_22 =>
  obtain⟨_,_,rfl,_⟩:=hv;subst hu;obtain⟨a,b,c,rfl⟩:=qc;simp at h;subst h;exact fin (by simp) (by simp) (eqs (PH _ hd)) (by simp) (by simp) (by simp) (by simp)
 case h_23 =>
  obtain⟨_,_,rfl,_⟩:=hu;subst hv;obtain⟨a,b,c,rfl⟩:=qc;simp at h;subst h;exact fin (by simp) (by simp) (eqs (PI _ hd)) (by simp) (by simp) (by simp) (by simp)
 case h_24=>simp at h
theorem JG(hE:E.OK){op:BinOp}{k:J8}{x y:AO}{b c:Bool}(hc:ey E o=some (.bin op (some k) x y))(hd:∀k,o.dst=some k->k<N)(h1:je H k (x.DL||y.DL) (dF F x) (dF F y)=some b)(h2:G3 op b=some c) :
    cL E N o F H U (.pv (.bool c)) [] U:=by
 obtain⟨t,x',y',u,ho,hx,hy,hk⟩:=yW hc;refine cL.value hd fun X M a w hX R=>?_;subst hX;obtain⟨g1,g2,g3⟩:=PO hk.symm hx hy h1 (dc hE R hx) (dc hE R hy);have hex:execOp a.eval o=(do pure (Next.value (<-(do eqGuard op t x' y' (a.eval x') (a.eval y');binOp op t (a.eval x') (a.eval y')))):Sem Next):=by
  unfold execOp;rw[ho]
 cases op <;>simp only[G3,ai,reduceCtorEq]at h2
 ·rw[<-h2];refine⟨.bool b,?_,by simp[VA,VP]⟩;rw[hex];exact cJ (by rw[rb (g1 _)];exact g2)
 ·rw[<-h2];refine⟨.bool (!b),?_,by simp[VA,VP]⟩;rw[hex];exact cJ (by rw[rb (g1 _)];exact g3)
end
end
section
def chunk(sz:Nat):Nat->List PV->List (List PV)
 |0,_=>[]
 |n+1,l=>l.take sz::chunk sz n (l.drop sz)
theorem kv{sz:Nat}:∀{n:Nat} {l:List PV},(chunk sz n l).length=n
 |0,l=>rfl
 |n+1,l=>by simp[chunk,kv]
theorem A2{sz:Nat}:∀{n:Nat} {l:List PV},l.length=n*sz->∀e∈chunk sz n l,e.length=sz
 |0,l,h,e,he=>by simp[chunk]at he
 |n+1,l,h,e,he=>by
  rw[dq]at h;simp only[chunk,aQ]at he;rcases he with rfl|he
  ·simp;omega
  ·exact A2 (by simp;omega) e he
theorem ue{sz:Nat}:∀{n:Nat} {l:List PV},l.length=n*sz->(chunk sz n l).flatten=l
 |0,l,h=>by simp at h;subst h;rfl
 |n+1,l,h=>by
  rw[dq]at h;simp only[chunk,Jb];rw[ue (by simp;omega),List.take_append_drop]
theorem Ai{α:Type}{zs:List α}:∀{n j:Nat},j<n*zs.length->(List.replicate n zs).flatten[j]? =zs[j % zs.length]?
 |0,j,h=>by simp at h
 |n+1,j,h=>by
  rw[List.replicate_succ,Jb];rw[dq]at h;by_cases hj:j<zs.length
  ·rw[List.getElem?_append_left hj,Nat.mod_eq_of_lt hj]
  ·rw[List.getElem?_append_right (by omega),Ai (by omega),<-Nat.mod_eq_sub_mod (by omega)]
theorem Jj{V:View}{zs:List AV}{z:Array Value}{n s:Nat}(h:ed V zs z.toList)(hs:z.size=s)(h0:0<s) :
    ed V (List.replicate n zs).flatten ((Array.range (n*s)).map (fun j=>z[j % z.size]!)).toList:=by
 obtain⟨l,m⟩:=(ig _ _).1 h;simp at l;have hl:zs.length=s:=by omega
 refine(ig _ _).2 ⟨by simp[hl],fun i p v hp hv=>?_⟩;have hlt:i<n*s:=by
  have:=(aA.1 hv).1;simpa using this
 rw[Ai (by rw[hl];exact hlt),hl]at hp;have hm:i % s<z.size:=by rw[hs];exact Nat.mod_lt _ h0
 refine m (i % s) p v hp ?_;simp[hlt]at hv;rw[hs]at hv;rw[<-hv];simp[hm]
section
variable{X:Ctx}{M:Nat->Nat}{F:Fr}{H:Hp}{U:Nat->Prop}{a:Act}{w:World}
theorem sJ{place:Nat->Option (Nat×Nat)}:∀{qs:List (Nat×Value)} {c c':Array Value},Instr.fill place c qs=some c'->(∀v∈c.toList,cN v)->(∀q∈qs,∀v∈q.2.cells.toList,cN v)->∀v∈c'.toList,cN v
 |[],c,c',h,h1,h2=>by simp[Instr.fill]at h;subst h;exact h1
 |(i,x)::r,c,c',h,h1,h2=>by
  simp only[Instr.fill]at h;split at h
  ·simp at h
  ·split at h
   ·simp at h
   ·rw[<-Array.foldl_toList,Array.toList_zipIdx,oJ]at h;exact sJ h (rm h1 (h2 (i,x) (by simp))) (fun q hq=>h2 q (by simp[hq]))
def bt(F:Fr):List (Nat×Nat×AO)->Bool
 |[]=>true
 |(_,_,x)::r=>match cellsOf (dF F x)with
  |some cs=>lG cs&&bt F r
  |none=>false
theorem rl(hE:X.E.OK)(R:Rel X M F H U a w){place:Nat->Option (Nat×Nat)}:∀{qs:List (Nat×Operand)} {ps:List (Nat×Nat×AO)},jP X.E place qs=some ps->bt F ps=true ->
    ∀q∈qs.map (fun(i,x)=>(i,a.eval x)),∀v∈q.2.cells.toList,cN v
 |[],ps,h1,h2=>by simp
 |(i,x)::r,ps,h1,h2=>by
  simp only[jP]at h1;split at h1
  ·rename_i off n y l e1 e2 e3;simp at h1;subst h1;simp only[bt]at h2;split at h2
   ·rename_i cs Lr;simp only[bj]at h2;intro q hq;simp only[aX,aQ]at hq;rcases hq with rfl|hq
    ·exact rz h2.1 (l7 Lr (dc hE R e2))
    ·exact rl hE R e3 h2.2 q hq
   ·simp at h2
  ·simp at h1
end
section
variable{E:Env}{N:Nat}{o:Oper}{F:Fr}{H:Hp}{U:Nat->Prop}
theorem zY(hE:E.OK){sz len k:Nat}{zs cs:List AV}{pl:List PV}{ps:List (Nat×Nat×AO)}(hc:ey E o=some (.cr sz len zs ps))(hd:∀k,o.dst=some k->k<N)(hk:¬U k)(h1:ft F zs ps=some cs)
    (h2:bt F ps=true) (h3:ca cs=some pl):cL E N o F H U (.ms k) [(k,.row sz (chunk sz len pl))] (fun i=>U i\/i=k):=by
 obtain⟨t,qs,e,i,z,QC,ho,hu,hi,hz,J6,rfl,hp,UX,K9,h0,rfl⟩:=Ch hc;refine cL.zd hk hd (by simp) fun X M a w hX R=>?_;subst hX;have hzero:ed (aB X w U M H) (List.replicate len QC).flatten ((Array.range (len*i.size)).map (fun j=>z.cells[j % z.cells.size]!)).toList:=Jj (u5 J6) UX h0;obtain⟨c',g1,g2⟩:=tt hE R hp h1 hzero;have Sl:∀v∈((Array.range (len*i.size)).map (fun j=>z.cells[j % z.cells.size]!)).toList,cN v:=by
  intro v hv;simp at hv;obtain⟨j,hj,rfl⟩:=hv;have hm:j % z.cells.size<z.cells.size:=Nat.mod_lt _ (by omega);rw[getElem!_pos z.cells (j % z.cells.size) hm];exact u9 J6 _ (by simp)
 have UK:=sJ g1 Sl (rl hE R hp h2);have Ca:=eT _ _ _ h3 g2;have hlen:pl.length=len*i.size:=by
  have l1:=dW Ca;have l2:c'.size=len*i.size:=by
   have l3:=ee g2;have l4:=ee hzero;have:∀{ps:List (Nat×Nat×AO)} {zs cs:List AV},ft F zs ps=some cs->cs.length=zs.length:=by
    intro ps;induction ps with
    |nil=>intro zs cs h;simp[ft]at h;rw[h]
    |cons q r ih =>
     intro zs cs h;obtain⟨off,n,x⟩:=q;simp only[ft]at h;split at h
     ·split at h
      ·rw[ih h,gE]
      ·simp at h
     ·simp at h
   have l5:=this h1;simp at l3 l4 l5;omega
  simp at l1;omega
 refine⟨.cells c' e (0,0),.slice (some ⟨w.heap.size,0,none⟩) len len,?_,?_,?_⟩
 ·unfold execOp;rw[ho];simp only;refine cJ ?_;unfold Instr.buildSlice;rw[rb (bF hu)];simp only;rw[rb (fj hi),ar (by omega)];have hl:(qs.map fun(i,x)=>(i,a.eval x)).toList=qs.toList.map fun(i,x)=>(i,a.eval x):=by simp
  by_cases Sj:len*i.size=0
  ·rw[aW Sj,rb (show(pure #[]:Sem (Array Value)).run X.E.P w=.ok #[] w from rfl)];have e0:∀f:Nat->Value,(Array.range (len*i.size)).map f= #[]:=fun f=>by simp[Sj]
   rw[e0]at g1⊢;rw[hl,g1];rfl
  ·rw[ar Sj,rb (lX hi hz),rb (show(pure z.cells:Sem (Array Value)).run X.E.P w=.ok z.cells w from rfl),hl,g1];rfl
 ·refine⟨c',e,iw _ _,?_,?_⟩
  ·rw[kv];have:=dW Ca;simp at this;omega
  ·have OU:mC (aB X w U M H).ok (aB X {w with heap:=w.heap.push (.cells c' e (0,0))} (fun i=>U i\/i=k) (wz M k w.heap.size) (wr H [(k,.row i.size (chunk i.size len pl))])).ok w {w with heap:=w.heap.push (.cells c' e (0,0))} :=
    (R.ve (.cells c' e (0,0)) (.row i.size (chunk i.size len pl)) k hk).stays
   refine kS (A2 hlen) ?_;rw[ue hlen,eF];intro j p hp';have Pa:=dJ OU _ _ Ca;obtain⟨l1,m1⟩:=(gn _ _).1 Pa;have hlt:j<c'.toList.length:=by rw[l1];exact(aA.1 hp').1
   refine⟨c'.toList[j],?_,UK _ (lL _),m1 j p _ hp' (by simp[hlt])⟩;have:(aB X {w with heap:=w.heap.push (.cells c' e (0,0))} (fun i=>U i\/i=k) (wz M k w.heap.size) (wr H [(k,.row i.size (chunk i.size len pl))])).w.heap[w.heap.size]? =some (.cells c' e (0,0)):=iw _ _;rw[eM this];simp at hlt;simp[hlt]
 ·simp only[VA];refine⟨.inr rfl,⟨by simp,by simp⟩,fun s hs=>?_⟩;have:some (i.size,len)=some s:=by rw[<-hs];simp[aB,dY,dx.info,kv]
  simp at this;subst this;refine⟨len,e,c'.size,by simp[aB,cS],ax _,?_,?_⟩
  ·simp only[aB,cS];simp only[World.shape?,Array.getElem?_push_size]
  ·have:=dW Ca;rw[<-hlen];exact Nat.le_of_eq (by simpa using this.symm)
end
end
section
def cn(sz:Nat)(es:List (List PV)):Bool:=es.all fun e=>Nat.beq e.length sz
theorem rG{sz:Nat}{es:List (List PV)}(h:cn sz es=true):∀e∈es,e.length=sz:=fun e he=>cU (NM.1 h e he)
def nX(H:Hp)(sz l:Nat)(h:Option Nat):AV->Option AV
 | .pv (.slice es)=>if cn sz es=true/\l<=h.getD es.length/\h.getD es.length<=es.length then some (.pv (.slice ((es.drop l).take (h.getD es.length-l))))else none
 | .bu=>if l=0/\h.getD 0=0 then some .bu else none
 | .ms id=>match H id with
  | .row s es=>if s=sz/\l<=h.getD es.length/\h.getD es.length<=es.length then some (.gd id l (h.getD es.length-l))else none
  |_=>none
 | .gd id off len=>match H id with
  | .row s es=>if s=sz/\l<=h.getD len/\h.getD len<=len then some (.gd id (off+l) (h.getD len-l))else none
  |_=>none
 |_=>none
def nd(F:Fr):Option AO->Option (Option Nat)
 |none=>some none
 |some x=>match dF F x with
  | .pv (.int _ n)=>if 0<=n then some (some n.toNat)else none
  |_=>none
section
variable{P:Program}{w:World}
def tc(f:Value->Option Nat):Option Value->Option (Option Nat)
 |none=>some none
 |some v=>(f v).map some
def yU:Value->Option Nat
 | .int _ n=>if 0<=n then some n.toNat else none
 |_=>none
theorem ru{v:Value}{n y:Nat}{code:BoundsCode}(h:yU v=some n)(hy:n<=y):(Instr.sliceBound v y code).run P w=.ok n w:=by
 cases v <;>simp only[yU]at h <;>try (simp at h;done)
 split at h
 ·rename_i k i h0;simp at h;subst h;unfold Instr.sliceBound;simp only[asIntOf];rw[rb (show(pure (k,i):Sem (IntKind×Int)).run P w=.ok (k,i) w from rfl)];simp only;rw[aW ⟨h0,by omega⟩];rfl
 ·simp at h
theorem mw{isSlice:Bool}{len cap:Nat}{lo hi:Option Value}{l:Nat}{h:Option Nat}(h1:tc yU lo=some (some l)\/lo=none/\l=0)(h2:tc yU hi=some h)(hl:l<=h.getD len)(hh:h.getD len<=cap) :
    (Instr.sliceBounds isSlice len cap lo hi none).run P w=.ok (l,h.getD len,cap) w:=by
 unfold Instr.sliceBounds;rw[rb (show(pure cap:Sem Nat).run P w=.ok cap w from rfl)];have hH:(match hi,(none:Option Value)with
  |some v,some _=>Instr.sliceBound v cap .slice3B
  |some v,none=>Instr.sliceBound v cap (if isSlice then .sliceAcap else .sliceAlen)
  |none,none=>pure len
  | none, some _ => stuck "Slice: max without high").run P w = .ok (h.getD len) w := by
  cases hi with
  |none=>simp[tc]at h2;subst h2;rfl
  |some v =>
   simp[tc]at h2;obtain⟨n,h3,rfl⟩:=h2;exact ru h3 hh
 have hL:(match lo with
  |some v=>Instr.sliceBound v (h.getD len) (if(none:Option Value).isSome then .slice3C else .sliceB)
  |none=>pure 0).run P w=.ok l w:=by
  rcases h1 with h1|⟨rfl,rfl⟩
  ·cases lo with
   |none=>simp[tc]at h1
   |some v =>
    simp[tc]at h1;exact ru h1 hl
  ·rfl
 cases hi with
 |none =>
  simp only at hH⊢;rw[rb hH];cases lo with
  |none=>simp only at hL⊢;rw[rb hL];rfl
  |some v=>simp only at hL⊢;rw[rb hL];rfl
 |some v' =>
  simp only at hH⊢;rw[rb hH];cases lo with
  |none=>simp only at hL⊢;rw[rb hL];rfl
  |some v=>simp only at hL⊢;rw[rb hL];rfl
theorem tD{t e:TypeId}{i:TypeInfo}{a:Option Addr}{len cap:Nat}{lo hi:Option Value}{l:Nat}{h:Option Nat}(hu:P.underlying t=some (.slice e))(cW:P.info? e=some i)
    (h1:tc yU lo=some (some l)\/lo=none/\l=0) (h2:tc yU hi=some h) (hl:l<=h.getD len) (hh:h.getD len<=cap) :
    (Instr.sliceAt t (.slice a len cap) lo hi none).run P w=.ok (.slice (if cap=l then a else a.map (·.add (l*i.size))) (h.getD len-l) (cap-l)) w:=by
 unfold Instr.sliceAt;rw[rb (bF hu)];simp only;unfold Instr.slice;rw[rb (bF hu)];simp only;rw[rb (mw h1 h2 hl hh)];simp only;rw[rb (fj cW)];rfl
end
section
variable{E:Env}{N:Nat}{o:Oper}{F:Fr}{H:Hp}{U:Nat->Prop}
theorem Df{X:Ctx}{M:Nat->Nat}{a:Act}{w:World}(hE:X.E.OK)(R:Rel X M F H U a w){l:Option Operand}{l':List AO}{n:Option Nat}(h1:qC X.E l.toList=some l')(h2:nd F l'.head? =some n) :
    tc yU (l.map a.eval)=some n:=by
 cases l with
 |none =>
  simp[qC]at h1;subst h1;simp[nd]at h2;subst h2;rfl
 |some x =>
  simp only[Ed,qC]at h1;split at h1
  ·rename_i y VK e1 e2;simp at e2 h1;subst e2 h1;simp only[List.head?_cons,nd]at h2;have hx:=dc hE R e1;split at h2
   ·rename_i k m e3;rw[e3]at hx;simp only[VA,VP]at hx;split at h2
    ·rename_i h0;simp at h2;subst h2;simp[tc,hx,yU,h0]
    ·simp at h2
   ·simp at h2
  ·simp at h1
theorem CN(hE:E.OK){sz:Nat}{x:AO}{lo hi:Option AO}{l h:Option Nat}{v:AV}(hc:ey E o=some (.slice sz x lo hi))(hd:∀k,o.dst=some k->k<N)
    (h1:nd F lo=some l) (h2:nd F hi=some h) (h3:nX H sz (l.getD 0) h (dF F x)=some v):cL E N o F H U v [] U:=by
 obtain⟨t,y,lq,uq,e,i,l',u',ho,hy,hu,cW,rfl,e1,e2,rfl,rfl⟩:=Fb hc;refine cL.value hd fun X M a w hX R=>?_;subst hX;have lS:=dc hE R hy;have b1:=Df hE R e1 h1;have b2:=Df hE R e2 h2;have rE:tc yU (lq.map a.eval)=some (some (l.getD 0))\/lq.map a.eval=none/\l.getD 0=0:=by
  cases l with
  |some n=>exact .inl b1
  |none =>
   cases lq with
   |none=>exact .inr ⟨rfl,rfl⟩
   |some q=>simp[tc]at b1
 have hex:execOp a.eval o=(do pure (Next.value (<-Instr.sliceAt t (a.eval y) (lq.map a.eval) (uq.map a.eval) none)):Sem Next):=by
  unfold execOp;rw[ho];rfl
 rw[hex];unfold nX at h3;split at h3
 ·rename_i es ex;rw[ex]at lS;simp only[VA,VP]at lS;obtain⟨A,len,cap,g1,g2,g3,g4⟩:=lS;split at h3
  ·rename_i hb;obtain⟨ha,hb⟩:=hb;have ha:=rG ha;simp at h3;subst h3 g2;refine⟨_,cJ (by rw[g1];exact tD hu cW rE b2 hb.1 (cG hb.2 g3)),?_⟩;simp only[VA,VP];refine⟨_,_,_,rfl,by simp;omega,by omega,fun hp=>?_⟩;simp at hp;obtain⟨b,q,sz,rfl,g5,g6⟩:=g4 (by omega);have eA:cap≠l.getD 0:=by omega
   have lI:sz=i.size:=by
    cases es with
    |nil=>simp at hp
    |cons e0 r =>
     simp only[di]at g6;rw[<-g6.1];exact ha e0 (by simp)
   subst lI;refine⟨b,q+l.getD 0*i.size,i.size,?_,g5,kT g6 _ _⟩;rw[ar eA];simp[add_eq]
  ·simp at h3
 ·rename_i ex;rw[ex]at lS;simp only[VA]at lS;split at h3
  ·rename_i hb;simp at h3;subst h3;refine⟨_,cJ (by rw[lS];exact tD hu cW rE b2 (by omega) (by omega)),?_⟩;simp only[VA,hb.1,hb.2];simp
  ·simp at h3
 ·rename_i id ex;rw[ex]at lS;simp only[VA]at lS;split at h3
  ·rename_i s es dT;split at h3
   ·rename_i hb;obtain⟨rfl,hb⟩:=hb;simp at h3;subst h3;obtain⟨cap,t',gU,g1,g2,g3,g4⟩:=lS.2.2 (i.size,es.length) (by simp[aB,dT,dx.info]);simp only at g1 g2 g4;refine⟨_,cJ (by rw[g1];exact tD hu cW rE b2 hb.1 (cG hb.2 g2)),?_⟩;simp only[VA];refine⟨lS.1,⟨by simp,by simp⟩,fun s hs=>?_⟩;have:some (i.size,es.length)=some s:=by rw[<-hs];simp[aB,dT,dx.info]
    simp at this;subst this;refine⟨_,_,t',gU,rfl,by omega,g3,?_,fun hp=>?_⟩
    ·simp only;rw[show l.getD 0+(cap-l.getD 0)=cap by omega];exact g4
    ·by_cases hm:cap=l.getD 0
     ·rw[aW hm];have:l.getD 0=0:=by omega
      simp[this]
     ·rw[ar hm];simp[add_eq]
   ·simp at h3
  ·simp at h3
 ·rename_i id off len ex;rw[ex]at lS;simp only[VA]at lS;split at h3
  ·rename_i s es dT;split at h3
   ·rename_i hb;obtain⟨rfl,hb⟩:=hb;simp at h3;subst h3;obtain⟨A,cap,t',gU,g1,g2,g3,g4,g5⟩:=lS.2.2 (i.size,es.length) (by simp[aB,dT,dx.info]);simp only at g4 g5;refine⟨_,cJ (by rw[g1];exact tD hu cW rE b2 hb.1 (cG hb.2 g2)),?_⟩;simp only[VA];refine⟨lS.1,⟨by simp,by simp⟩,fun s hs=>?_⟩;have:some (i.size,es.length)=some s:=by rw[<-hs];simp[aB,dT,dx.info]
    simp at this;subst this;refine⟨_,_,t',gU,rfl,by omega,g3,?_,fun hp=>?_⟩
    ·simp only;rw[show off+l.getD 0+(cap-l.getD 0)=off+cap by omega];exact g4
    ·have g5:=g5 (by omega);subst g5;by_cases hm:cap=l.getD 0
     ·rw[aW hm];have:l.getD 0=0:=by omega
      simp[this]
     ·rw[ar hm];simp[add_eq,dq]
   ·simp at h3
  ·simp at h3
 ·simp at h3
theorem Rel.kill{X:Ctx}{M:Nat->Nat}{a:Act}{w:World}(R:Rel X M F H U a w)(id:Nat):Rel X M F (wr H [(id,.dead)]) U a w:=by
 have hH:∀i,id≠i->wr H [(id,.dead)] i=H i:=fun i h=>by rw[eu H .dead [] h];rfl
 have fL:∀i,wr H [(id,.dead)] i≠ .dead->id≠i/\H i≠ .dead:=fun i h=>by
  by_cases h':id=i
  ·subst h';rw[dY]at h;exact absurd rfl h
  ·rw[hH i h']at h;exact⟨h',h⟩
 have T:iL (aB X w U M H) (aB X w U M (wr H [(id,.dead)])):=by
  refine⟨rfl,⟨fun b hb=>⟨hb.1,hb.2.1,fun i hi=>hb.2.2 i (fL i hi).2⟩,fun _ _=>rfl⟩,fun i h=>h,fun i s hu hs=>?_⟩;by_cases h':id=i
  ·subst h';simp only[aB]at hs;rw[dY]at hs;simp[dx.info]at hs
  ·simp only[aB]at hs⊢;rw[hH i h']at hs;exact⟨hs,trivial,trivial⟩
 refine{defers:=R.defers,size:=R.size,keeps:=R.keeps,K:=R.K,used:=fun i hi=>R.used i (fL i hi).2,inj:=fun i j hi hj=>R.inj i j (fL i hi).2 (fL j hj).2,own:=fun i hi=>R.own i (fL i hi).2,
        blk:=fun i=>?_,fr:=fun t=>db T _ _ (R.fr t),gh:=fun v u h=>db T _ _ (R.gh v u h)}
 by_cases h':id=i
 ·subst h';rw[dY];trivial
 ·rw[hH i h'];exact fx T _ (fun _=>rfl) (R.blk i)
end
end
section
section
variable{E:Env}{N:Nat}{o:Oper}{F:Fr}{H:Hp}{U:Nat->Prop}
def iP(d:Nat):AV->Option AV
 | .pv (.gX cs off)=>some (.pv (.gX cs (off+d)))
 | .ptr id i off=>some (.ptr id i (off+d))
 |_=>none
theorem CD{X:Ctx}{M:Nat->Nat}{w:World}{p:AV}{v:Value}(h:dQ H p=true)(hs:iP 0 p≠none)(hv:VA (aB X w U M H) p v):∃b o,v=.pointer (some ⟨b,o,none⟩) /\
    ∀d q,iP d p=some q->VA (aB X w U M H) q (.pointer (some ⟨b,o+d,none⟩)):=by
 cases p with
 |pv q =>
  cases q with
  |gX cs off =>
   simp only[VA,VP]at hv;obtain⟨b,o,h1,h2,h3⟩:=hv;refine⟨b,o+off,h1,fun d q hq=>?_⟩;simp[iP]at hq;subst hq;simp only[VA,VP];exact⟨b,o,by rw[eW],h2,h3⟩
  |_=>simp[iP]at hs
 |ptr id i off =>
  simp only[VA]at hv;have:∃s,(H id).info=some s:=by
   simp only[dQ]at h;cases hH:H id <;>simp[hH]at h <;>simp[dx.info]
  obtain⟨s,qY⟩:=this;refine⟨M id,i*s.1+off,hv.2.2 s qY,fun d q hq=>?_⟩;simp[iP]at hq;subst hq;simp only[VA];refine⟨hv.1,⟨by simp,by simp⟩,fun s2 S8=>?_⟩;have:some s=some s2:=by rw[<-S8,<-qY];rfl
  simp at this;subst this;simp[aB,eW]
 |_=>simp[iP]at hs
theorem AA(hE:E.OK){len sz:Nat}{x i:AO}{k:IntKind}{n:Int}{v:AV}(hc:ey E o=some (.dA len sz x i))(hd:∀k,o.dst=some k->k<N)(h1:dQ H (dF F x)=true)
    (h2:dF F i=.pv (.int k n)) (h0:0<=n) (h3:n.toNat<len) (h4:iP (n.toNat*sz) (dF F x)=some v):cL E N o F H U v [] U:=by
 obtain⟨t,x',i',e,info,ho,hx,hi,hu,qU,rfl⟩:=Cp hc;refine cL.value hd fun X M a w hX R=>?_;subst hX;have lS:=dc hE R hx;have yS:=dc hE R hi;rw[h2]at yS;simp only[VA,VP]at yS;obtain⟨b,q,g1,g2⟩:=CD h1 (fun hn=>by
  cases hp:dF F x <;>rw[hp]at hn h4 <;>simp[iP]at hn h4;rename_i p;cases p <;>simp[iP]at hn h4) lS
 refine⟨.pointer (some ⟨b,q+n.toNat*info.size,none⟩),?_,g2 _ _ h4⟩;rw[qH ho,g1,yS];refine cJ ?_;unfold Instr.indexAt;simp only[asIntOf];rw[rb (show(pure (k,n):Sem (IntKind×Int)).run X.E.P w=.ok (k,n) w from rfl)];simp only;rw[rb (bF hu)];simp only;rw[rb (show(Instr.sureAddr (.pointer (some ⟨b,q,none⟩))).run X.E.P w=.ok ⟨b,q,none⟩ w from rfl),rb (show(pure (some ⟨b,q,none⟩,len,e):Sem (Option Addr×Nat×TypeId)).run X.E.P w=.ok (some ⟨b,q,none⟩,len,e) w from rfl)];simp only;rw[rb (bF hu)];simp only;rw[aW (by omega),rb (fj qU)];simp only[add_eq];rfl
theorem tO{V:View}{sz b:Nat}:∀{n:Nat} {ps:List PV} {o:Nat},n*sz<=ps.length->iu V.E V.w V.ok ps b o->di V.E V.w V.ok (chunk sz n ps) b o sz
 |0,ps,o,h,hr=>by simp[chunk,di]
 |n+1,ps,o,h,hr=>by
  rw[dq]at h;simp only[chunk,di];have h1:=o5 hr 0 sz;have h2:=o5 hr sz ps.length;simp only[gL,fb]at h1;refine⟨by simp;omega,h1,?_⟩;rw[qx (by simp)]at h2;exact tO (by simp;omega) h2
def zT(H:Hp)(len sz:Nat):AV->Option AV
 | .ptr id i off=>match H id with
  | .var cs=>match Nat.beq sz 1,Nat.ble (off+len) cs.length with
   |true,true=>some (.tT id off len)
   |_,_=>none
  |_=>none
 |_=>none
theorem Jp{H:Hp}{len sz:Nat}{x v:AV}(h:zT H len sz x=some v):∃id i off cs,x=.ptr id i off/\H id=.var cs/\v=.tT id off len:=by
 unfold zT at h;split at h
 ·rename_i id i off;split at h
  ·rename_i cs dT;split at h
   ·simp only[ai]at h;exact⟨id,i,off,cs,rfl,dT,h.symm⟩
   ·simp at h
  ·simp at h
 ·simp at h
theorem Em(hE:E.OK){len sz:Nat}{x:AO}{v:AV}(hc:ey E o=some (.hY len sz x none none))(hd:∀k,o.dst=some k->k<N)(h1:zT H len sz (dF F x)=some v):cL E N o F H U v [] U:=by
 obtain⟨t,y,lq,uq,e,i,l',u',ho,hy,hu,cW,rfl,e1,e2,e3,e4⟩:=re hc;obtain⟨id,i0,off,cs,hx,dT,rfl⟩:=Jp h1;refine cL.value hd fun X M a w hX R=>?_;subst hX;have lS:=dc hE R hy;rw[hx]at lS;simp only[VA]at lS;have hp:=lS.2.2 (0,0) (by simp[aB,dT,dx.info]);have hl:lq=none:=by
  cases lq with
  |none=>rfl
  |some q=>simp only[Ed,qC]at e1;split at e1 <;>simp at e1;subst e1;simp at e3
 have hh:uq=none:=by
  cases uq with
  |none=>rfl
  |some q=>simp only[Ed,qC]at e2;split at e2 <;>simp at e2;subst e2;simp at e4
 subst hl hh;refine⟨.slice (some ⟨M id,off,none⟩) len len,?_,?_⟩
 ·unfold execOp;rw[ho];simp only[Option.map_none];refine cJ ?_;rw[hp];unfold Instr.sliceAt;rw[rb (bF hu)];simp only;rw[rb (show(Instr.sureAddr (.pointer (some ⟨(aB X w U M H).M id,i0*(0,0).1+off,none⟩))).run X.E.P w=.ok ⟨M id,off,none⟩ w by simp[Instr.sureAddr,aB,run_pure])];rw[rb (mw (isSlice:=false) (len:=len) (cap:=len) (lo:=none) (hi:=none) (l:=0) (h:=none) (.inr ⟨rfl,rfl⟩) rfl (aO _) (ax _))];simp only;rw[rb (fj cW)];simp[run_pure,add_eq]
 ·simp only[VA];exact⟨lS.1,⟨by simp,by simp⟩,fun s hs=>rfl⟩
theorem wq(hE:E.OK){len sz id:Nat}{x:AO}{cs:List AV}{pl:List PV}(hc:ey E o=some (.hY len sz x none none))(hd:∀k,o.dst=some k->k<N)
    (h1:dF F x=.ptr id 0 0) (h2:H id=.var cs) (h3:ca cs=some pl) (h4:len*sz<=pl.length) :
    cL E N o F H U (.pv (.slice (chunk sz len pl))) [(id,.dead)] U:=by
 obtain⟨t,y,lq,uq,e,i,l',u',ho,hy,hu,cW,rfl,e1,e2,e3,e4⟩:=re hc;intro X M a w Q hX hN R;subst hX;have lS:=dc hE R hy;rw[h1]at lS;simp only[VA]at lS;have hp:=lS.2.2 (0,0) (by simp[aB,h2,dx.info]);have hl:lq=none:=by
  cases lq with
  |none=>rfl
  |some q=>simp only[Ed,qC]at e1;split at e1 <;>simp at e1;subst e1;simp at e3
 have hh:uq=none:=by
  cases uq with
  |none=>rfl
  |some q=>simp only[Ed,qC]at e2;split at e2 <;>simp at e2;subst e2;simp at e4
 subst hl hh;have hex:(execOp a.eval o).run X.E.P w=.ok (.value (.slice (some ⟨M id,0,none⟩) len len)) w:=by
  unfold execOp;rw[ho];simp only[Option.map_none];refine cJ ?_;rw[hp];unfold Instr.sliceAt;rw[rb (bF hu)];simp only;rw[rb (show(Instr.sureAddr (.pointer (some ⟨(aB X w U M H).M id,0*(0,0).1+0,none⟩))).run X.E.P w=.ok ⟨M id,0,none⟩ w by simp[Instr.sureAddr,aB,run_pure])];rw[rb (mw (isSlice:=false) (len:=len) (cap:=len) (lo:=none) (hi:=none) (l:=0) (h:=none) (.inr ⟨rfl,rfl⟩) rfl (aO _) (ax _))];simp only;rw[rb (fj cW)];simp[run_pure,add_eq]
 rw[Oper.wp,hex,Eb];refine⟨M,(R.kill id).put ?_ (fun k hk=>by rw[hN];exact hd k hk)⟩;simp only[VA,VP];refine⟨_,len,len,rfl,by rw[kv],ax _,fun wc=>⟨M id,0,i.size,rfl,?_,?_⟩⟩
 ·have:=R.own id (by rw[h2];simp);refine⟨this.1,this.2.1,fun j hj he=>?_⟩;by_cases rY:id=j
  ·subst rY;rw[dY]at hj;exact hj rfl
  ·rw[eu H .dead [] rY]at hj;exact rY (R.inj id j (by rw[h2];simp) hj he.symm)
 ·have hb:=R.blk id;rw[h2]at hb;obtain⟨c,t',g1,g2,g3⟩:=hb;obtain⟨vs,k1,k2,k3⟩:=gf g3;have k4:=eT _ _ _ h3 k1;have T:=(R.kill id);have P3:mC (aB X w U M H).ok (ju X w M (wr H [(id,.dead)])) w w:=⟨fun b hb=>⟨hb.1,hb.2.1,fun j hj=>hb.2.2 j (fun hd=>by
   by_cases rY:id=j
   ·subst rY;rw[dY]at hj;exact hj rfl
   ·rw[eu H .dead [] rY]at hj;exact hj hd)⟩,fun _ _=>rfl⟩
  have k5:=dJ P3 _ _ k4;have ir:iu X.E w (ju X w M (wr H [(id,.dead)])) pl (M id) 0:=by
   rw[eF];intro j p hj;obtain⟨l1,m1⟩:=(gn _ _).1 k5;have hlt:j<vs.length:=by rw[l1];exact(aA.1 hj).1
   exact⟨vs[j],k3 j _ (by simp[hlt]),k2 _ (lL _),m1 j p _ hj (by simp[hlt])⟩
  exact tO (V:=aB X w U M (wr H [(id,.dead)])) h4 ir
/-! ### SO of values -/
theorem Ij{P:Program}{w:World}{V:View}{t:TypeId}{d:TypeDesc}{i:TypeInfo}{c:Array Value}{off n:Nat}{cs:List AV}{v:AV}(hu:P.underlying t=some d)(hi:P.info? t=some i)(hn:n=if eg d then i.size else 1)
    (Lr:ed V cs c.toList) (h:iY (eg d) n (cs.drop off)=some v):∃u,(part t c off).run P w=.ok u w/\VA V v u:=by
 unfold iY at h;split at h
 ·rename_i hl;have hl:=cU hl;obtain⟨l1,m1⟩:=(ig _ _).1 Lr;have MK:ed V ((cs.drop off).take n) ((c.toList.drop off).take n):=by
   refine(ig _ _).2 ⟨by simp at l1;simp[l1],fun j p u hp hu=>?_⟩;simp only[md,List.getElem?_drop]at hp hu;split at hp
   ·rename_i hj;rw[aW hj]at hu;exact m1 _ p u hp hu
   ·simp at hp
  unfold part;rw[rb (tC hu)];split at h
  ·rename_i ha;simp at h;subst h;rw[aW ha,rb (fj hi)];have hn:n=i.size:=by rw[hn,aW ha]
   refine⟨.agg (((c.toList.drop off).take n).toArray),?_,mL MK⟩;have:c.extract off (off+i.size)=((c.toList.drop off).take n).toArray:=by
    apply Array.toList_inj.1;rw[Array.toList_extract,hn];simp[List.extract]
   rw[this];rfl
  ·rename_i ha;split at h
   ·rename_i q r hq;simp at h;subst h;rw[ar (by simp[ha])];have hlt:off<cs.length:=by
     rcases Nat.lt_or_ge off cs.length with h|h
     ·exact h
     ·rw[List.drop_eq_nil_of_le h]at hq;simp at hq
    have hc:off<c.size:=by simp at l1;omega
    refine⟨c[off],by simp[hc,run_pure],m1 off _ _ ?_ (by simp[hc])⟩;have:(cs.drop off)[0]? =some q:=by rw[hq];rfl
    simpa using this
   ·simp at h
 ·simp at h
def xK:AV->Option (List AV)
 | .pv (.agg ps)=>some (dL ps)
 | .agg cs=>some cs
 |_=>none
theorem Db{V:View}{x:AV}{cs:List AV}{v:Value}(h:xK x=some cs)(hv:VA V x v):∃c,v=.agg c/\ed V cs c.toList:=by
 unfold xK at h;split at h
 ·simp at h;subst h;simp only[VA,VP]at hv;obtain⟨vs,rfl,h1⟩:=hv;exact⟨_,rfl,by simpa using lW.2 h1⟩
 ·simp at h;subst h;simp only[VA]at hv;obtain⟨vs,rfl,h1⟩:=hv;exact⟨_,rfl,by simpa using h1⟩
 ·simp at h
theorem Ah(hE:E.OK){agg:Bool}{off n:Nat}{x:AO}{cs:List AV}{v:AV}(hc:ey E o=some (.ox agg off n x))(hd:∀k,o.dst=some k->k<N)(h1:xK (dF F x)=some cs)(h2:iY agg n (cs.drop off)=some v) :
    cL E N o F H U v [] U:=by
 obtain⟨s,y,f,fs,fd,i,d,ho,hy,hu,hf,hi,J3,rfl,rfl,hn⟩:=Co hc;refine cL.value hd fun X M a w hX R=>?_;subst hX;obtain⟨c,g1,g2⟩:=Db h1 (dc hE R hy);obtain⟨u,g3,g4⟩:=Ij (w:=w) J3 hi hn g2 h2;refine⟨u,?_,g4⟩;unfold execOp;rw[ho];simp only;refine cJ ?_;unfold Instr.field;rw[rb (bF hu)];simp only[hf,g1];exact(rb (show(asAgg (.agg c)).run X.E.P w=.ok c w from rfl)).trans g3
theorem F4(hE:E.OK){agg:Bool}{len sz:Nat}{x i:AO}{k:IntKind}{n:Int}{cs:List AV}{v:AV}(hc:ey E o=some (.uS agg len sz x i))(hd:∀k,o.dst=some k->k<N)(h1:xK (dF F x)=some cs)
    (h2:dF F i=.pv (.int k n)) (h0:0<=n) (h3:n.toNat<len) (h4:iY agg sz (cs.drop (n.toNat*sz))=some v):cL E N o F H U v [] U:=by
 obtain⟨t,x',i',e,m,d,ho,hx,hi,hu,hm,J3,rfl,lI,hn⟩:=HB hc;refine cL.value hd fun X M a w hX R=>?_;subst hX;have yS:=dc hE R hi;rw[h2]at yS;simp only[VA,VP]at yS;obtain⟨c,g1,g2⟩:=Db h1 (dc hE R hx);obtain⟨u,g3,g4⟩:=Ij (w:=w) J3 hm hn g2 h4;refine⟨u,?_,g4⟩;unfold execOp;rw[ho];simp only[g1,yS];refine cJ ?_;unfold Instr.index;simp only[asIntOf];rw[rb (show(pure (k,n):Sem (IntKind×Int)).run X.E.P w=.ok (k,n) w from rfl)];simp only;rw[rb (bF hu)];simp only;rw[aW (by omega),rb (fj hm),<-lI];exact g3
/-! ### The greatest and the least -/
def ti(f:Int->Int->Int)(k:IntKind)(acc:Int):List AV->Option Int
 |[]=>some acc
 | .pv (.int j n)::r=>if j=k then ti f k (f acc n) r else none
 |_=>none
def Kc(x y:Int):Int:=if y>x then y else x
def Kd(x y:Int):Int:=if y<x then y else x
theorem Ih{X:Ctx}{M:Nat->Nat}{w:World}{P:Program}:∀{vs:List AV} {us:List Value} {k:IntKind} {acc r:Int},ti Kc k acc vs=some r->ed (aB X w U M H) vs us ->
    (us.foldlM Builtin.max2 (.int k acc)).run P w=.ok (.int k r) w
 |[],us,k,acc,r,h,hv=>by
  simp[ti]at h;subst h;simp only[ed]at hv;subst hv;rfl
 |a::l,us,k,acc,r,h,hv=>by
  simp only[ed]at hv;obtain⟨u,PU,rfl,h1,h2⟩:=hv;cases a with
  |pv p=>cases p with
   |int j n =>
    simp only[ti]at h;split at h
    ·rename_i hj;subst hj;simp only[VA,VP]at h1;subst h1;simp only[List.foldlM_cons];rw[rb (show(Builtin.max2 (.int j acc) (.int j n)).run P w=.ok (.int j (Kc acc n)) w from rfl)];exact Ih h h2
    ·simp at h
   |_=>simp[ti]at h
  |_=>simp[ti]at h
theorem Ii{X:Ctx}{M:Nat->Nat}{w:World}{P:Program}:∀{vs:List AV} {us:List Value} {k:IntKind} {acc r:Int},ti Kd k acc vs=some r->ed (aB X w U M H) vs us ->
    (us.foldlM Builtin.min2 (.int k acc)).run P w=.ok (.int k r) w
 |[],us,k,acc,r,h,hv=>by
  simp[ti]at h;subst h;simp only[ed]at hv;subst hv;rfl
 |a::l,us,k,acc,r,h,hv=>by
  simp only[ed]at hv;obtain⟨u,PU,rfl,h1,h2⟩:=hv;cases a with
  |pv p=>cases p with
   |int j n =>
    simp only[ti]at h;split at h
    ·rename_i hj;subst hj;simp only[VA,VP]at h1;subst h1;simp only[List.foldlM_cons];rw[rb (show(Builtin.min2 (.int j acc) (.int j n)).run P w=.ok (.int j (Kd acc n)) w from rfl)];exact Ii h h2
    ·simp at h
   |_=>simp[ti]at h
  |_=>simp[ti]at h
def Fj(f:Int->Int->Int):List AV->Option AV
 | .pv (.int k n)::r=>match ti f k n r with
  |some m=>some (.pv (.int k m))
  |none=>none
 |_=>none
theorem HO(hE:E.OK){xs:List AO}{v:AV}(hc:ey E o=some (.t8 xs))(hd:∀k,o.dst=some k->k<N)(h1:Fj Kc (fg F xs)=some v):cL E N o F H U v [] U:=by
 obtain⟨c,ho,hb,LD⟩:=Hy hc;refine cL.value hd fun X M a w hX R=>?_;subst hX;have hv:=mi hE R LD;unfold Fj at h1;split at h1
 ·rename_i k n r hx;rw[hx]at hv;simp only[ed]at hv;obtain⟨u,us,g1,g2,g3⟩:=hv;split at h1
  ·rename_i m hm;simp at h1;subst h1;simp only[VA,VP]at g2;subst g2;refine⟨.int k m,?_,by simp[VA,VP]⟩;rw[fX (P:=X.E.P) ho hb];refine cJ ?_;show(Builtin.max_ _ _ _).run X.E.P w=_;unfold Builtin.max_;have:(c.args.map a.eval).toList=.int k n::us:=by simpa using g1
   rw[this];exact Ih hm g3
  ·simp at h1
 ·simp at h1
theorem HP(hE:E.OK){xs:List AO}{v:AV}(hc:ey E o=some (.tb xs))(hd:∀k,o.dst=some k->k<N)(h1:Fj Kd (fg F xs)=some v):cL E N o F H U v [] U:=by
 obtain⟨c,ho,hb,LD⟩:=Hz hc;refine cL.value hd fun X M a w hX R=>?_;subst hX;have hv:=mi hE R LD;unfold Fj at h1;split at h1
 ·rename_i k n r hx;rw[hx]at hv;simp only[ed]at hv;obtain⟨u,us,g1,g2,g3⟩:=hv;split at h1
  ·rename_i m hm;simp at h1;subst h1;simp only[VA,VP]at g2;subst g2;refine⟨.int k m,?_,by simp[VA,VP]⟩;rw[fX (P:=X.E.P) ho hb];refine cJ ?_;show(Builtin.min_ _ _ _).run X.E.P w=_;unfold Builtin.min_;have:(c.args.map a.eval).toList=.int k n::us:=by simpa using g1
   rw[this];exact Ii hm g3
  ·simp at h1
 ·simp at h1
end
end
section
open Go.Instr (sameNow findNow findKey checkKey keyThatStays sameBits)
def NC:Bool->PV->PV->Option Bool
 |false,.int k a,.int j b=>if k=j then some (a==b)else none
 |true,.str a,.str b=>some (a==b)
 |_,_,_=>none
def lV(s:Bool)(x:PV):List (PV×PV)->Option (Option PV)
 |[]=>some none
 |(k,v)::r=>match NC s x k with
  |some true=>some (some v)
  |some false=>lV s x r
  |none=>none
def oI(s:Bool)(x v:PV):List (PV×PV)->Option (List (PV×PV))
 |[]=>some [(x,v)]
 |(k,u)::r=>match NC s x k with
  |some true=>some ((x,v)::r)
  |some false=>match oI s x v r with
   |some l=>some ((k,u)::l)
   |none=>none
  |none=>none
def rV(ok:Bool)(z:PV)(o:Option PV):PV:=match ok with
 |true=>.tuple [o.getD z,.bool o.isSome]
 |false=>o.getD z
section
variable{E:Env}{w:World}{ok:Nat->Prop}
theorem BE(a b:ByteArray):(a==b)=decide (a=b):=by
 cases a with|mk x=>cases b with|mk y =>
 rw[show((ByteArray.mk x==ByteArray.mk y)=(x==y))from rfl];by_cases h:x=y
 ·subst h;simp
 ·have h2:¬ByteArray.mk x=ByteArray.mk y:=fun e=>h (ByteArray.mk.inj e);rw[TZ h2];simpa using h
theorem tE{s:Bool}{d:TypeDesc}(hd:s7 s d=true){x y:PV}{u v:Value}{b:Bool}(hx:VP E w ok x u)(hy:VP E w ok y v)(h:NC s x y=some b):sameNow d u v=some b/\(b=true->sameBits 10000 v u=true):=by
 unfold NC at h;split at h
 ·simp only[VP]at hx hy;subst hx;subst hy;split at h
  ·rename_i hk;subst hk;simp at h;subst h;cases d <;>simp[s7]at hd;refine⟨by simp[sameNow],fun hb=>?_⟩;simp at hb;simp[sameBits,hb]
  ·simp at h
 ·simp only[VP]at hx hy;subst hx;subst hy;simp only[ai]at h;subst h;cases d <;>simp[s7]at hd;refine⟨by simp[sameNow],fun hb=>?_⟩;rw[BE,bI]at hb;subst hb;simp[sameBits,BE]
 ·simp at h
theorem Dy{s:Bool}{d:TypeDesc}(hd:s7 s d=true){x:PV}{u:Value}(hx:VP E w ok x u):∀{es:List (PV×PV)} {ms:List MapEntry} {r:Option PV} (i:Nat),ji E w ok es ms->lV s x es=some r ->
    (r=none->findNow d u ms i=some none)/\∀p,r=some p->∃j m,findNow d u ms i=some (some (i+j,m.val))/\ms[j]? =some m/\VP E w ok p m.val/\sameBits 10000 m.key u=true
 |[],ms,r,i,h,hf=>by
  simp only[ji]at h;subst h;simp only[lV,ai]at hf;subst hf;exact⟨fun _=>rfl,fun p hp=>by simp at hp⟩
 |(k,v)::es,ms,r,i,h,hf=>by
  simp only[ji]at h;obtain⟨m,rest,rfl,h1,h2,h3⟩:=h;simp only[lV]at hf;split at hf
  ·rename_i hq;obtain⟨g1,g2⟩:=tE hd hx h1 hq;simp only[ai]at hf;subst hf;refine⟨fun h=>by simp at h,fun p hp=>?_⟩;simp only[ai]at hp;subst hp;exact⟨0,m,by simp[findNow,g1],by simp,h2,g2 rfl⟩
  ·rename_i hq;obtain⟨g1,_⟩:=tE hd hx h1 hq;obtain⟨q1,q2⟩:=Dy hd hx (i+1) h3 hf;refine⟨fun h=>by simp[findNow,g1,q1 h],fun p hp=>?_⟩;obtain⟨j,m',e1,e2,e3,e4⟩:=q2 p hp;exact⟨j+1,m',by simp only[findNow,g1];rw[e1,show i+1+j=i+(j+1) by omega],by simpa using e2,e3,e4⟩
  ·simp at hf
theorem tL{x v:PV}{u y:Value}{n:Nat}(hx:VP E w ok x u)(hv:VP E w ok v y):∀{es:List (PV×PV)} {ms:List MapEntry},ji E w ok es ms->ji E w ok (es++[(x,v)]) (ms++[{key:=u,val:=y,born:=n}])
 |[],ms,h=>by
  simp only[ji]at h;subst h;exact⟨_,[],rfl,hx,hv,rfl⟩
 |(k,z)::es,ms,h=>by
  simp only[ji]at h;obtain⟨m,rest,rfl,h1,h2,h3⟩:=h;exact⟨m,_,rfl,h1,h2,tL hx hv h3⟩
theorem Im{s:Bool}{d:TypeDesc}(hd:s7 s d=true){x v:PV}{u y:Value}(hx:VP E w ok x u)(hv:VP E w ok v y):∀{es es':List (PV×PV)} {ms:List MapEntry} (i:Nat),ji E w ok es ms->oI s x v es=some es' ->
    (findNow d u ms i=some none/\es'=es++[(x,v)]) \/
     ∃j m,findNow d u ms i=some (some (i+j,m.val))/\ms[j]? =some m/\sameBits 10000 m.key u=true/\ji E w ok es' (ms.modify j fun e=>{e with key:=u,val:=y})
 |[],es',ms,i,h,hf=>by
  simp only[ji]at h;subst h;simp only[oI,ai]at hf;subst hf;exact .inl ⟨rfl,rfl⟩
 |(k,z)::es,es',ms,i,h,hf=>by
  simp only[ji]at h;obtain⟨m,rest,rfl,h1,h2,h3⟩:=h;simp only[oI]at hf;split at hf
  ·rename_i hq;obtain⟨g1,g2⟩:=tE hd hx h1 hq;simp only[ai]at hf;subst hf;exact .inr ⟨0,m,by simp[findNow,g1],by simp,g2 rfl,⟨{m with key:=u,val:=y},rest,by simp,hx,hv,h3⟩⟩
  ·rename_i hq;obtain⟨g1,_⟩:=tE hd hx h1 hq;split at hf
   ·rename_i l hl;simp only[ai]at hf;subst hf;rcases Im hd hx hv (i+1) h3 hl with⟨q1,rfl⟩|⟨j,m',q1,q2,q3,q4⟩
    ·exact .inl ⟨by simp[findNow,g1,q1],rfl⟩
    ·exact .inr ⟨j+1,m',by simp only[findNow,g1];rw[q1,show i+1+j=i+(j+1) by omega],by simpa using q2,q3,⟨m,_,by simp,h1,h2,q4⟩⟩
   ·simp at hf
  ·simp at hf
end
section
variable{E:Env}{N:Nat}{o:Oper}{F:Fr}{H:Hp}{U:Nat->Prop}
theorem CA(hE:E.OK){k:Nat}(hc:ey E o=some .mkMap)(hd:∀k,o.dst=some k->k<N)(hk:¬U k):cL E N o F H U (.map k) [(k,.map [])] (fun i=>U i\/i=k):=by
 obtain⟨t,ho⟩:=Fa hc;refine cL.zd hk hd (by simp) fun X M a w hX R=>?_;subst hX;refine⟨.map #[] 0,.map (some w.heap.size),?_,⟨#[],0,iw _ _,by simp[ji],by simp,by simp⟩,?_⟩
 ·unfold execOp;rw[ho];rfl
 ·simp only[VA];refine⟨.inr rfl,⟨by simp,by simp⟩,fun s hs=>?_⟩;simp[aB,cS]
theorem oh{P:Program}{w:World}{s:Bool}{kt:TypeId}{d:TypeDesc}(hd:s7 s d=true)(hu:P.underlying kt=some d)(b:Bool)(u:Value):(checkKey b 10000 kt u).run P w=.ok () w:=by
 unfold checkKey;rw[rb (bF hu)];cases d <;>simp[s7]at hd <;>rfl
theorem nk{P:Program}{w:World}{kt:TypeId}{d:TypeDesc}{u:Value}{ms:List MapEntry}{r:Option (Nat×Value)}(hu:P.underlying kt=some d)(h:findNow d u ms 0=some r):(findKey kt u ms).run P w=.ok r w:=by
 unfold findKey;rw[rb (bF hu),h];rfl
theorem vo{P:Program}{w:World}{r:Nat}{ms:Array MapEntry}{Bm:Nat}(h:w.heap[r]? =some (.map ms Bm)):(getObj r).run P w=.ok (.map ms Bm) w:=by
 simp[getObj,Sem.run,h]
theorem AM(hE:E.OK){s ok:Bool}{z x:PV}{m k:AO}{id:Nat}{es:List (PV×PV)}{r:Option PV}(hc:ey E o=some (.jR s ok z m k))(hd:∀k,o.dst=some k->k<N)
    (h1:dF F m=.map id) (h2:H id=.map es) (h3:dF F k=.pv x) (h4:lV s x es=some r):cL E N o F H U (.pv (rV ok z r)) [] U:=by
 obtain⟨t,x',i',kt,et,d,zi,zv,ho,hu,hx,hi,hk,qc,Qr,UW,hz⟩:=Cq hc;refine cL.value hd fun X M a w hX R=>?_;subst hX;have MO:=dc hE R hx;have LB:=dc hE R hi;rw[h1]at MO;rw[h3]at LB;simp only[VA]at MO LB;have hb:=R.blk id;rw[h2]at hb;obtain⟨ms,Bm,g1,g2,g3,g4⟩:=hb;have h5:a.eval x'=.map (some (M id)):=by simpa[aB]using MO.2.2 (0,0) (by simp[aB,h2,dx.info])
 have vZ:w.heap[M id]? =some (.map ms Bm):=g1;obtain⟨q1,q2⟩:=Dy qc LB 0 g2 h4;have hex:execOp a.eval o=(do pure (Next.value (<-Instr.lookup t (a.eval x') (a.eval i') ok)):Sem Next):=by
  unfold execOp;rw[ho]
 have ir:∃v,(Instr.lookup t (a.eval x') (a.eval i') ok).run X.E.P w=.ok v w/\VP X.E w (ju X w M H) (rV ok z r) v:=by
  rw[h5];unfold Instr.lookup;rw[rb (bF hu)];simp only;rw[rb (vo vZ)];simp only;rw[rb (show(pure ms:Sem (Array MapEntry)).run X.E.P w=.ok ms w from rfl),rb (oh qc hk _ _)];cases r with
  |none =>
   rw[rb (nk hk (q1 rfl))];simp only;rw[rb (lX Qr UW)];refine⟨_,rfl,?_⟩;have Br:VP X.E w (ju X w M H) z zv:=O4 hz;cases ok with
   |false=>simpa[rV]using Br
   |true=>simp only[rV,VP];exact⟨[zv,.bool false],rfl,zv,[.bool false],rfl,by simpa using Br,_,[],rfl,by simp[VP],rfl⟩
  |some p =>
   obtain⟨j,m',e1,e2,e3,e4⟩:=q2 p rfl;rw[rb (nk hk e1)];simp only;refine⟨_,rfl,?_⟩;have IX:VP X.E w (ju X w M H) p m'.val:=e3;cases ok with
   |false=>simpa[rV]using IX
   |true=>simp only[rV,VP];exact⟨[m'.val,.bool true],rfl,m'.val,[.bool true],rfl,by simpa using IX,_,[],rfl,by simp[VP],rfl⟩
 obtain⟨v,Se,MN⟩:=ir;refine⟨v,?_,by simp only[VA];exact MN⟩;rw[hex];exact cJ Se
theorem B8{P:Program}{w:World}{r:Nat}{ms:Array MapEntry}{Bm:Nat}{o2:Obj}(h:w.heap[r]? =some (.map ms Bm)):(setObj r o2).run P w=.ok () (fY w r o2):=by
 have hr:=(cf.1 h).1;simp only[setObj,Sem.run,h,fY]
theorem AP(hE:E.OK){s:Bool}{x p:PV}{m k v:AO}{id:Nat}{es es':List (PV×PV)}(hc:ey E o=some (.lj s m k v))
    (h1:dF F m=.map id) (h2:H id=.map es) (h3:dF F k=.pv x) (h4:dF F v=.pv p) (h5:oI s x p es=some es'):cL E N o F H U .bot [(id,.map es')] U:=by
 obtain⟨t,x',i',y',kt,et,d,ho,RP,hu,hx,hi,hy,hk,qc⟩:=Cr hc;refine cL.write RP fun X M a w hX R=>?_;subst hX;have MO:=dc hE R hx;have LB:=dc hE R hi;have LC:=dc hE R hy;rw[h1]at MO;rw[h3]at LB;rw[h4]at LC;simp only[VA]at MO LB LC;have hb:=R.blk id;rw[h2]at hb;obtain⟨ms,Bm,g1,g2,g3,g4⟩:=hb;have h6:a.eval x'=.map (some (M id)):=by simpa[aB]using MO.2.2 (0,0) (by simp[aB,h2,dx.info])
 have vZ:w.heap[M id]? =some (.map ms Bm):=g1;have C6:M id<w.heap.size:=(cf.1 vZ).1;have hex:execOp a.eval o=(do Instr.mapUpdate t (a.eval x') (a.eval i') (a.eval y');pure Next.skip:Sem Next):=by
  unfold execOp;rw[ho]
 have ir:∀ob,(Instr.mapUpdate t (a.eval x') (a.eval i') (a.eval y')).run X.E.P w=.ok () (fY w (M id) ob)->(execOp a.eval o).run X.E.P w=.ok .skip (fY w (M id) ob):=fun ob h=>by
  rw[hex,run_bind,h];rfl
 have NA:∀NF EA,(fY w (M id) (.map NF EA)).shape? (M id)=w.shape? (M id):=fun NF EA=>by
  simp[World.shape?,dB _ C6,vZ]
 have Lz:∀NF EA,iL (aB X w U M H) (aB X (fY w (M id) (.map NF EA)) U M (wr H [(id,.map es')])):=fun NF EA =>
  R.qp (.map NF EA) (.map es') id (by simp[h2]) (by simp[h2,dx.info]) (NA _ _)
 rcases Im qc LB LC 0 g2 h5 with⟨q1,rfl⟩|⟨j,m',q1,q2,q3,q4⟩
 ·refine⟨.map (ms.push {key:=a.eval i',val:=a.eval y',born:=Bm}) (Bm+1),ir _ ?_,by simp[h2],by simp,by simp[h2,dx.info],NA _ _,?_⟩
  ·rw[h6];unfold Instr.mapUpdate;rw[rb (bF hu)];simp only;rw[rb (vo vZ)];simp only;rw[rb (oh qc hk _ _),rb (nk hk q1)];simp only;exact B8 vZ
  ·refine⟨_,_,dB _ C6,?_,?_,?_⟩
   ·rw[Array.toList_push];exact mW (Lz _ _).stays _ _ (tL LB LC g2)
   ·intro e he;simp only[Array.toList_push,cq,gR]at he;rcases he with he|rfl
    ·have:=g3 e he;omega
    ·exact Nat.lt_succ_self _
   ·rw[Array.toList_push,vU];refine⟨g4,by simp,fun a1 ha b1 Mv=>?_⟩;simp only[gR]at Mv;subst Mv;have:=g3 a1 ha;simp only[ne_eq];omega
 ·have hj:j<ms.size:=by have:=(aA.1 q2).1;simpa using this
  have Ve:ms[j]? =some m':=by rw[<-cp];exact q2
  refine⟨.map (ms.modify j fun e=>{e with key:=a.eval i',val:=a.eval y'}) Bm,ir _ ?_,by simp[h2],by simp,by simp[h2,dx.info],NA _ _,?_⟩
  ·rw[h6];unfold Instr.mapUpdate;rw[rb (bF hu)];simp only;rw[rb (vo vZ)];simp only;rw[rb (oh qc hk _ _),rb (nk hk q1)];simp only[aM];rw[rb (show(keyThatStays (((ms[j]?).map (·.key)).getD (a.eval i')) (a.eval i')).run X.E.P w=.ok (a.eval i') w by
    rw[Ve];simp only[Ec,ic];unfold keyThatStays;rw[aW q3];rfl)]
   exact B8 vZ
  ·refine⟨_,_,dB _ C6,?_,?_,?_⟩
   ·rw[Array.toList_modify];exact mW (Lz _ _).stays _ _ q4
   ·intro e he;rw[Array.toList_modify]at he;obtain⟨n,UD,Qn⟩:=List.getElem_of_mem he;rw[List.getElem_modify]at Qn;have hl:n<ms.toList.length:=by simpa using UD
    have h0:=g3 _ (lL hl);split at Qn
    ·subst Qn;exact h0
    ·subst Qn;exact h0
   ·rw[Array.toList_modify,List.pairwise_iff_getElem];rw[List.pairwise_iff_getElem]at g4;intro i1 j1 Us RS hlt;rw[List.getElem_modify,List.getElem_modify];have:=g4 i1 j1 (by simpa using Us) (by simpa using RS) hlt;split <;>split <;>exact this
end
end
section
def tY(ns:List Int):ByteArray:=ns.foldl (fun r n=>r.push (UInt8.ofNat n.toNat)) ByteArray.empty
def o9:List (List PV)->Option (List Int)
 |[]=>some []
 |e::r=>match e,o9 r with
  |[.int .u8 n],some l=>some (n::l)
  |_,_=>none
theorem sD:∀{es:List (List PV)} {ns:List Int},o9 es=some ns->es.flatten=ns.map (PV.int .u8)/\(∀e∈es,e.length=1)/\es.length=ns.length
 |[],ns,h=>by simp[o9]at h;subst h;simp
 |e::r,ns,h=>by
  simp only[o9]at h;split at h
  ·rename_i n l hl;simp only[ai]at h;subst h;obtain⟨h1,h2,h3⟩:=sD hl;refine⟨by simp[h1],fun e he=>?_,by simp[h3]⟩;rcases aQ.1 he with rfl|he
   ·rfl
   ·exact h2 e he
  ·simp at h
theorem Gi{E:Env}{w:World}{ok:Nat->Prop}:∀{ns:List Int} {mz:List Value},VPs E w ok (ns.map (PV.int .u8)) mz->mz=ns.map (Value.int .u8)
 |[],mz,h=>by simpa[VPs]using h
 |n::r,mz,h=>by
  simp only[aX,VPs,VP]at h;obtain⟨_,us,rfl,rfl,h3⟩:=h;rw[Gi h3];rfl
section
variable{E:Env}{N:Nat}{o:Oper}{F:Fr}{H:Hp}{U:Nat->Prop}
theorem GA(hE:E.OK){x:AO}{es:List (List PV)}{ns:List Int}(hc:ey E o=some (.G2 x))(hd:∀k,o.dst=some k->k<N)(h1:dV H (dF F x)=some es)(h2:o9 es=some ns):cL E N o F H U (.pv (.str (tY ns))) [] U:=by
 obtain⟨s,d,y,e,ho,hy,hs,dh,he⟩:=Ke hc;refine cL.value hd fun X M a w hX R=>?_;subst hX;obtain⟨f1,f2,f3⟩:=sD h2;obtain⟨A,cap,mz,q1,q2,q3,q4⟩:=tF (sz:=1) R h1 (dc hE R hy) f2;rw[f1]at q3;have hv:=Gi q3;have Qx:(Builtin.firstCells 1 es.length (a.eval y)).run X.E.P w=.ok mz.toArray w:=q4 w.drawn;refine⟨.string (tY ns),?_,by simp[VA,VP]⟩;unfold execOp;rw[ho];refine cJ ?_;rw[q1]at Qx⊢;rw[run_convert_bytes_string w s d e A es.length cap hs he dh];cases A with
 |none =>
  have h0:(#[]:Array Value)=mz.toArray:=by
   have:Result.ok (#[]:Array Value) w=Result.ok mz.toArray w:=Qx;injection this
  have UN:mz=[]:=by simpa using h0.symm
  rw[UN]at hv;have hn:ns=[]:=by simpa using hv.symm
  subst hn;rfl
 |some ad =>
  rw[hv]at Qx;refine run_bytesToString w ad es.length cap ns ?_;have:(loadCells ad (es.length*1)).run X.E.P w=.ok (ns.map (Value.int .u8)).toArray w:=Qx;rwa [Nat.mul_one]at this
end
end
end Go.Proofs.YtkjehofblipcaaaGreatDoor.Ab
