/- The layer, part 0: Ab0, Ab1, Ab2, Ab3, Ab4, Ab5, Ab6, Ab7, Ab8, Ab9, Ab10, Ab11, Ab12, Ab13, Ab14, Ab15, Ab20, Ab21, Ab22. -/
import Derived.Below
import Derived.Still
import Derived.Laws.Tables
import Derived.Deep.LoopGhost
import Derived.DeepKeys
import Derived.Laws.BytesString
import Derived.Maps.RangeRun
import GoSem.Claim
import GoSem.ClaimJoined
import Derived.OpenShut
import Derived.ChangeOld
import Derived.Sort.Row
import Derived.Sort.Grow
import Derived.Lib.SlicesCompact
import Derived.Lib.RowBridge
import Derived.Lib.Slices
set_option linter.unusedVariables false
set_option linter.unusedSimpArgs false
namespace Go.Proofs.YtebfpcfbmhkiiaaGreatDoor.Ab
open Go
section
structure Env where
 P:Program
 ρ:Nat→FuncId
 τ:Nat→TypeId
 rho:FuncId→Option Nat
 tau:TypeId→Option Nat
 nt:Nat
 /-- Package-level variables of one cell, and what they hold throughout. -/
 gl:List (Nat × Value):=[]
def Env.inv (E:Env) (w:World):Prop:=∀ p ∈ E.gl,p.1<w.heap.size∧w.cell? ⟨p.1,0,none⟩=some p.2
structure Env.OK (E:Env):Prop where
 rho:∀ f n,E.rho f=some n→E.ρ n=f
 tau:∀ t n,E.tau t=some n→E.τ n=t∧n<E.nt
 inj:∀ n m,n<E.nt→m<E.nt→E.τ n=E.τ m→n=m
 mixed:E.P.follows .mixedOrders=true
inductive PV where
 | bool (b:Bool)
 | int (k:IntKind) (n:Int)
 | str (s:ByteArray)
 | nilp | nilf | nili
 | cptr (cells:List PV) (off:Nat)
 | slice (es:List (List PV))
 | map (es:List (List PV × List PV))
 | func (f:Nat) (first cap:List PV)
 | iface (t:Nat) (v:PV)
 | agg (cells:List PV)
 | tuple (vs:List PV)
 deriving Inhabited
def Scalar (v:Value):Prop:=(∀ c,v ≠ .agg c)∧∀ c,v ≠ .tuple c
section
variable (E:Env) (w:World) (ok:Nat→Prop)
mutual
def VP:PV→Value→Prop
 | .bool b,v=>v=.bool b
 | .int k n,v=>v=.int k n
 | .str s,v=>v=.string s
 | .nilp,v=>v=.pointer none
 | .nilf,v=>v=.nilFunc
 | .nili,v=>v=.nilIface
 | .cptr cs off,v=>∃ b o,v=.pointer (some ⟨b,o + off,none⟩)∧ok b∧VRun cs b o
 | .slice es,v=>∃ a len cap,v=.slice a len cap∧len=es.length∧len≤cap ∧
     (0<es.length→∃ b o sz,a=some ⟨b,o,none⟩∧ok b∧VElems es b o sz)
 | .map es,v=>∃ r ms c,v=.map (some r)∧ok r∧w.heap[r]? = some (.map ms c)∧VEnts es ms.toList
 | .func f fs cs,v=>∃ vs us:List Value,v=.func (.func (E.ρ f)) vs.toArray us.toArray∧VPs fs vs∧VPs cs us
 | .iface t p,v=>∃ u,v=.iface (E.τ t) u∧VP p u
 | .agg ps,v=>∃ vs:List Value,v=.agg vs.toArray∧VPs ps vs
 | .tuple ps,v=>∃ vs:List Value,v=.tuple vs.toArray∧VPs ps vs
def VPs:List PV→List Value→Prop
 | [],vs=>vs=[]
 | p :: ps,vs=>∃ u us,vs=u :: us∧VP p u∧VPs ps us
def VRun:List PV→Nat→Nat→Prop
 | [],_,_=>True
 | p :: ps,b,o=>(∃ u,w.cell? ⟨b,o,none⟩=some u∧Scalar u∧VP p u)∧VRun ps b (o + 1)
def VElems:List (List PV)→Nat→Nat→Nat→Prop
 | [],_,_,_=>True
 | e :: es,b,o,sz=>e.length=sz∧VRun e b o∧VElems es b (o + sz) sz
def VEnts:List (List PV × List PV)→List MapEntry→Prop
 | [],ms=>ms=[]
 | (k,x) :: es,ms=>∃ m rest,ms=m :: rest∧VPs k m.key.cells.toList∧VPs x m.val.cells.toList∧VEnts es rest
end
end
section mono
variable {E:Env} {w w':World} {ok ok':Nat→Prop}
structure Stays (ok ok':Nat→Prop) (w w':World):Prop where
 sub:∀ b,ok b→ok' b
 same:∀ b,ok b→w'.heap[b]? = w.heap[b]?
theorem Stays.cell (h:Stays ok ok' w w') {b:Nat} (hb:ok b) (o:Nat):w'.cell? ⟨b,o,none⟩=w.cell? ⟨b,o,none⟩:=by
 simp only [World.cell?,h.same b hb]
theorem Stays.refl:Stays ok ok w w:=⟨fun _ h=>h,fun _ _=>rfl⟩
mutual
theorem VP_mono (H:Stays ok ok' w w'):(p:PV)→(v:Value)→VP E w ok p v→VP E w' ok' p v
 | .bool b,v,h=>by simpa only [VP] using h
 | .int k n,v,h=>by simpa only [VP] using h
 | .str s,v,h=>by simpa only [VP] using h
 | .nilp,v,h=>by simpa only [VP] using h
 | .nilf,v,h=>by simpa only [VP] using h
 | .nili,v,h=>by simpa only [VP] using h
 | .cptr cs off,v,h=>by
  simp only [VP] at h ⊢
  obtain ⟨b,o,h1,h2,h3⟩:=h
  exact ⟨b,o,h1,H.sub _ h2,VRun_mono H cs b o (fun o=>H.cell h2 o) h3⟩
 | .slice es,v,h=>by
  simp only [VP] at h ⊢
  obtain ⟨a,len,cap,h1,h2,h3,h4⟩:=h
  refine ⟨a,len,cap,h1,h2,h3,fun hp=>?_⟩
  obtain ⟨b,o,sz,h5,h6,h7⟩:=h4 hp
  exact ⟨b,o,sz,h5,H.sub _ h6,VElems_mono H es b o sz (fun o=>H.cell h6 o) h7⟩
 | .map es,v,h=>by
  simp only [VP] at h ⊢
  obtain ⟨r,ms,c,h1,h2,h3,h4⟩:=h
  exact ⟨r,ms,c,h1,H.sub _ h2,(H.same _ h2).trans h3,VEnts_mono H es _ h4⟩
 | .func f fs cs,v,h=>by
  simp only [VP] at h ⊢
  obtain ⟨vs,us,h1,h2,h3⟩:=h
  exact ⟨vs,us,h1,VPs_mono H fs vs h2,VPs_mono H cs us h3⟩
 | .iface t p,v,h=>by
  simp only [VP] at h ⊢
  obtain ⟨u,h1,h2⟩:=h
  exact ⟨u,h1,VP_mono H p u h2⟩
 | .agg ps,v,h=>by
  simp only [VP] at h ⊢
  obtain ⟨vs,h1,h2⟩:=h
  exact ⟨vs,h1,VPs_mono H ps vs h2⟩
 | .tuple ps,v,h=>by
  simp only [VP] at h ⊢
  obtain ⟨vs,h1,h2⟩:=h
  exact ⟨vs,h1,VPs_mono H ps vs h2⟩
theorem VPs_mono (H:Stays ok ok' w w'):(ps:List PV)→(vs:List Value)→VPs E w ok ps vs→VPs E w' ok' ps vs
 | [],vs,h=>by simpa only [VPs] using h
 | p :: ps,vs,h=>by
  simp only [VPs] at h ⊢
  obtain ⟨u,us,h1,h2,h3⟩:=h
  exact ⟨u,us,h1,VP_mono H p u h2,VPs_mono H ps us h3⟩
theorem VRun_mono (H:Stays ok ok' w w'):(ps:List PV)→(b o:Nat)→(∀ o,w'.cell? ⟨b,o,none⟩=w.cell? ⟨b,o,none⟩)→VRun E w ok ps b o→VRun E w' ok' ps b o
 | [],b,o,_,h=>by simp only [VRun]
 | p :: ps,b,o,hb,h=>by
  simp only [VRun] at h ⊢
  obtain ⟨⟨u,h1,hs,h2⟩,h3⟩:=h
  exact ⟨⟨u,by rw [hb]; exact h1,hs,VP_mono H p u h2⟩,VRun_mono H ps b (o + 1) hb h3⟩
theorem VElems_mono (H:Stays ok ok' w w'):(es:List (List PV))→(b o sz:Nat)→(∀ o,w'.cell? ⟨b,o,none⟩=w.cell? ⟨b,o,none⟩)→VElems E w ok es b o sz→VElems E w' ok' es b o sz
 | [],b,o,sz,_,h=>by simp only [VElems]
 | e :: es,b,o,sz,hb,h=>by
  simp only [VElems] at h ⊢
  obtain ⟨h1,h2,h3⟩:=h
  exact ⟨h1,VRun_mono H e b o hb h2,VElems_mono H es b (o + sz) sz hb h3⟩
theorem VEnts_mono (H:Stays ok ok' w w'):(es:List (List PV × List PV))→(ms:List MapEntry)→VEnts E w ok es ms→VEnts E w' ok' es ms
 | [],ms,h=>by simpa only [VEnts] using h
 | (k,x) :: es,ms,h=>by
  simp only [VEnts] at h ⊢
  obtain ⟨m,rest,h1,h2,h3,h4⟩:=h
  exact ⟨m,rest,h1,VPs_mono H k _ h2,VPs_mono H x _ h3,VEnts_mono H es rest h4⟩
end
end mono
end
section
inductive AV where
 | pv (p:PV)
 | nils
 | bot
 | ptr (id i off:Nat)
 | ms (id:Nat)
 | msub (id off len:Nat)
 | asub (id off len:Nat)
 | map (id:Nat)
 | func (f:Nat) (first cap:List AV)
 | iface (t:Nat) (v:AV)
 | agg (cells:List AV)
 | tuple (vs:List AV)
 deriving Inhabited
inductive Blk where
 | dead
 | var (cs:List AV)
 | row (sz:Nat) (es:List (List PV))
 | map (es:List (PV × PV))
 | obj (o:Obj)
 deriving Inhabited
def Blk.info:Blk→Option (Nat × Nat)
 | .dead=>none
 | .var _=>some (0,0)
 | .row sz es=>some (sz,es.length)
 | .map _=>some (0,0)
 | .obj _=>some (0,0)
structure View where
 E:Env
 w:World
 ok:Nat→Prop
 U:Nat→Prop
 M:Nat→Nat
 I:Nat→Option (Nat × Nat)
mutual
def VA (V:View):AV→Value→Prop
 | .pv p,v=>VP V.E V.w V.ok p v
 | .nils,v=>v=.slice none 0 0
 | .bot,_=>True
 | .ptr id i off,v=>V.U id∧Scalar v∧∀ s,V.I id=some s→v=.pointer (some ⟨V.M id,i * s.1 + off,none⟩)
 | .ms id,v=>V.U id∧Scalar v∧∀ s,V.I id=some s→∃ cap t tot,v=.slice (some ⟨V.M id,0,none⟩) s.2 cap∧s.2≤cap ∧
     V.w.shape? (V.M id)=some (t,tot)∧cap * s.1≤tot
 | .msub id off len,v=>V.U id∧Scalar v∧∀ s,V.I id=some s→∃ a cap t tot,v=.slice a len cap∧len≤cap ∧
     V.w.shape? (V.M id)=some (t,tot)∧(off + cap) * s.1≤tot∧(0<len∨off=0→a=some ⟨V.M id,off * s.1,none⟩)
 | .asub id off len,v=>V.U id∧Scalar v∧∀ s,V.I id=some s→v=.slice (some ⟨V.M id,off,none⟩) len len
 | .map id,v=>V.U id∧Scalar v∧∀ s,V.I id=some s→v=.map (some (V.M id))
 | .func f fs cs,v=>∃ vs us:List Value,v=.func (.func (V.E.ρ f)) vs.toArray us.toArray∧VAs V fs vs∧VAs V cs us
 | .iface t p,v=>∃ u,v=.iface (V.E.τ t) u∧VA V p u
 | .agg ps,v=>∃ vs:List Value,v=.agg vs.toArray∧VAs V ps vs
 | .tuple ps,v=>∃ vs:List Value,v=.tuple vs.toArray∧VAs V ps vs
def VAs (V:View):List AV→List Value→Prop
 | [],vs=>vs=[]
 | p :: ps,vs=>∃ u us,vs=u :: us∧VA V p u∧VAs V ps us
end
def ARun (V:View):List AV→Nat→Nat→Prop
 | [],_,_=>True
 | p :: ps,b,o=>(∃ u,V.w.cell? ⟨b,o,none⟩=some u∧Scalar u∧VA V p u)∧ARun V ps b (o + 1)
structure Turns (V V':View):Prop where
 env:V'.E=V.E
 stays:Stays V.ok V'.ok V.w V'.w
 used:∀ i,V.U i→V'.U i
 keep:∀ i s,V.U i→V'.I i=some s→V.I i=some s∧V'.M i=V.M i∧V'.w.shape? (V.M i)=V.w.shape? (V.M i)
mutual
theorem VA_turns {V V':View} (H:Turns V V'):(a:AV)→(v:Value)→VA V a v→VA V' a v
 | .pv q,v,h=>by
  simp only [VA] at h ⊢
  rw [H.env]
  exact VP_mono H.stays q v h
 | .nils,v,h=>by simpa only [VA] using h
 | .bot,v,h=>by simp only [VA]
 | .ptr id i off,v,h=>by
  simp only [VA] at h ⊢
  refine ⟨H.used _ h.1,h.2.1,fun s hs=>?_⟩
  obtain ⟨h1,h2,h3⟩:=H.keep id s h.1 hs
  rw [h2]
  exact h.2.2 s h1
 | .ms id,v,h=>by
  simp only [VA] at h ⊢
  refine ⟨H.used _ h.1,h.2.1,fun s hs=>?_⟩
  obtain ⟨h1,h2,h3⟩:=H.keep id s h.1 hs
  rw [h2,h3]
  exact h.2.2 s h1
 | .msub id off len,v,h=>by
  simp only [VA] at h ⊢
  refine ⟨H.used _ h.1,h.2.1,fun s hs=>?_⟩
  obtain ⟨h1,h2,h3⟩:=H.keep id s h.1 hs
  rw [h2,h3]
  exact h.2.2 s h1
 | .asub id off len,v,h=>by
  simp only [VA] at h ⊢
  refine ⟨H.used _ h.1,h.2.1,fun s hs=>?_⟩
  obtain ⟨h1,h2,h3⟩:=H.keep id s h.1 hs
  rw [h2]
  exact h.2.2 s h1
 | .map id,v,h=>by
  simp only [VA] at h ⊢
  refine ⟨H.used _ h.1,h.2.1,fun s hs=>?_⟩
  obtain ⟨h1,h2,h3⟩:=H.keep id s h.1 hs
  rw [h2]
  exact h.2.2 s h1
 | .func f fs cs,v,h=>by
  simp only [VA] at h ⊢
  obtain ⟨vs,us,h1,h2,h3⟩:=h
  rw [H.env]
  exact ⟨vs,us,h1,VAs_turns H fs vs h2,VAs_turns H cs us h3⟩
 | .iface t p,v,h=>by
  simp only [VA] at h ⊢
  obtain ⟨u,h1,h2⟩:=h
  rw [H.env]
  exact ⟨u,h1,VA_turns H p u h2⟩
 | .agg ps,v,h=>by
  simp only [VA] at h ⊢
  obtain ⟨vs,h1,h2⟩:=h
  exact ⟨vs,h1,VAs_turns H ps vs h2⟩
 | .tuple ps,v,h=>by
  simp only [VA] at h ⊢
  obtain ⟨vs,h1,h2⟩:=h
  exact ⟨vs,h1,VAs_turns H ps vs h2⟩
theorem VAs_turns {V V':View} (H:Turns V V'):(as:List AV)→(vs:List Value)→VAs V as vs→VAs V' as vs
 | [],vs,h=>by simpa only [VAs] using h
 | a :: l,vs,h=>by
  simp only [VAs] at h ⊢
  obtain ⟨u,us,h1,h2,h3⟩:=h
  exact ⟨u,us,h1,VA_turns H a u h2,VAs_turns H l us h3⟩
end
theorem ARun_turns {V V':View} (H:Turns V V'):∀ (cs:List AV) (b o:Nat),(∀ o,V'.w.cell? ⟨b,o,none⟩=V.w.cell? ⟨b,o,none⟩) →
    ARun V cs b o→ARun V' cs b o
 | [],b,o,_,h=>by simp only [ARun]
 | a :: l,b,o,hb,h=>by
  simp only [ARun] at h ⊢
  obtain ⟨⟨u,h1,hs,h2⟩,h3⟩:=h
  exact ⟨⟨u,by rw [hb]; exact h1,hs,VA_turns H a u h2⟩,ARun_turns H l b (o + 1) hb h3⟩
def VEnt2 (E:Env) (w:World) (ok:Nat→Prop):List (PV × PV)→List MapEntry→Prop
 | [],ms=>ms=[]
 | (k,x) :: es,ms=>∃ m rest,ms=m :: rest∧VP E w ok k m.key∧VP E w ok x m.val∧VEnt2 E w ok es rest
theorem VEnt2_mono {E:Env} {w w':World} {ok ok':Nat→Prop} (H:Stays ok ok' w w'):∀ (es:List (PV × PV)) (ms:List MapEntry),VEnt2 E w ok es ms→VEnt2 E w' ok' es ms
 | [],ms,h=>by simpa only [VEnt2] using h
 | (k,x) :: es,ms,h=>by
  simp only [VEnt2] at h ⊢
  obtain ⟨m,rest,h1,h2,h3,h4⟩:=h
  exact ⟨m,rest,h1,VP_mono H k _ h2,VP_mono H x _ h3,VEnt2_mono H es rest h4⟩
def BlkOK (V:View) (b:Nat):Blk→Prop
 | .dead=>True
 | .var cs=>∃ c t,V.w.heap[b]? = some (.cells c t (0,0))∧c.size=cs.length∧ARun V cs b 0
 | .row sz es=>∃ c t,V.w.heap[b]? = some (.cells c t (0,0))∧es.length * sz≤c.size∧VElems V.E V.w V.ok es b 0 sz
 | .map es=>∃ ms clk,V.w.heap[b]? = some (.map ms clk)∧VEnt2 V.E V.w V.ok es ms.toList ∧
     (∀ m ∈ ms.toList,m.born<clk)∧ms.toList.Pairwise (fun a b=>a.born ≠ b.born)
 | .obj o=>V.w.heap[b]? = some o
theorem BlkOK_turns {V V':View} (H:Turns V V') {b:Nat} (B:Blk) (hb:B ≠ .dead→V'.w.heap[b]? = V.w.heap[b]?) (h:BlkOK V b B):BlkOK V' b B:=by
 cases B with
 | dead=>trivial
 | var cs =>
  have hb:=hb (by simp)
  have hc:∀ o,V'.w.cell? ⟨b,o,none⟩=V.w.cell? ⟨b,o,none⟩:=fun o=>by simp only [World.cell?,hb]
  obtain ⟨c,t,h1,h2,h3⟩:=h
  exact ⟨c,t,hb.trans h1,h2,ARun_turns H cs b 0 hc h3⟩
 | row sz es =>
  have hb:=hb (by simp)
  have hc:∀ o,V'.w.cell? ⟨b,o,none⟩=V.w.cell? ⟨b,o,none⟩:=fun o=>by simp only [World.cell?,hb]
  obtain ⟨c,t,h1,h2,h3⟩:=h
  refine ⟨c,t,hb.trans h1,h2,?_⟩
  rw [H.env]
  exact VElems_mono H.stays es b 0 sz hc h3
 | map es =>
  have hb:=hb (by simp)
  obtain ⟨ms,clk,h1,h2,h3⟩:=h
  refine ⟨ms,clk,hb.trans h1,?_,h3⟩
  rw [H.env]
  exact VEnt2_mono H.stays es _ h2
 | obj o=>exact (hb (by simp)).trans h
structure Keeps (S:Nat→Prop) (w w':World):Prop where
 os:w'.os=w.os
 tape:w'.tape=w.tape
 output:w'.output=w.output
 size:w.heap.size≤w'.heap.size
 block:∀ b,b<w.heap.size→¬ S b→w'.heap[b]? = w.heap[b]?
theorem Keeps.refl {S:Nat→Prop} {w:World}:Keeps S w w:=⟨rfl,rfl,rfl,Nat.le_refl _,fun _ _ _=>rfl⟩
theorem Keeps.trans {S S':Nat→Prop} {w w1 w2:World} (h:Keeps S w w1) (h':Keeps S' w1 w2) (hs:∀ b,b<w.heap.size→S' b→S b):Keeps S w w2 :=
 ⟨h'.os.trans h.os,h'.tape.trans h.tape,h'.output.trans h.output,Nat.le_trans h.size h'.size,fun b hb hn =>
  (h'.block b (Nat.lt_of_lt_of_le hb h.size) (fun hs'=>hn (hs b hb hs'))).trans (h.block b hb hn)⟩
structure Ctx where
 E:Env
 K:Nat→Prop
 w0:World
 S:Nat→Prop
 N:Nat
 G:AV→Value→Prop
 good:E.inv w0∧∀ p ∈ E.gl,¬ S p.1
abbrev Fr:=Nat→AV
abbrev Hp:=Nat→Blk
def okOf (X:Ctx) (w:World) (M:Nat→Nat) (H:Hp) (b:Nat):Prop:=b<w.heap.size∧¬ X.K b∧∀ i,H i ≠ .dead→M i ≠ b
def viewOf (X:Ctx) (w:World) (U:Nat→Prop) (M:Nat→Nat) (H:Hp):View :=
 { E:=X.E,w,ok:=okOf X w M H,U,M,I:=fun i=>(H i).info }
structure Rel (X:Ctx) (M:Nat→Nat) (F:Fr) (H:Hp) (U:Nat→Prop) (a:Act) (w:World):Prop where
 defers:a.defers=[]
 size:a.tmps.size=X.N
 keeps:Keeps X.S X.w0 w
 K:∀ b,X.K b→b<X.w0.heap.size
 used:∀ i,H i ≠ .dead→U i
 inj:∀ i j,H i ≠ .dead→H j ≠ .dead→M i=M j→i=j
 own:∀ i,H i ≠ .dead→M i<w.heap.size∧¬ X.K (M i)∧(X.S (M i)∨X.w0.heap.size≤M i)
 blk:∀ i,BlkOK (viewOf X w U M H) (M i) (H i)
 fr:∀ t,VA (viewOf X w U M H) (F t) (a.tmps.getD t undef)
 gh:∀ v u,X.G v u→VA (viewOf X w U M H) v u
theorem Rel.inv {X:Ctx} {M:Nat→Nat} {F:Fr} {H:Hp} {U:Nat→Prop} {a:Act} {w:World} (R:Rel X M F H U a w):X.E.inv w:=fun p hp=>by
 obtain ⟨h1,h2⟩:=X.good.1 p hp
 refine ⟨Nat.lt_of_lt_of_le h1 R.keeps.size,?_⟩
 rw [← h2]
 have:=R.keeps.block p.1 h1 (X.good.2 p hp)
 unfold World.cell?
 simp only [this]
theorem Rel.gl {X:Ctx} {M:Nat→Nat} {F:Fr} {H:Hp} {U:Nat→Prop} {a:Act} {w:World} (R:Rel X M F H U a w):∀ p ∈ X.E.gl,∀ i,H i ≠ .dead→M i ≠ p.1:=fun p hp i hi he=>by
 rcases (R.own i hi).2.2 with h | h
 · exact X.good.2 p hp (he ▸ h)
 · have:=(X.good.1 p hp).1
   omega
theorem beq_ne {k t:Nat} (h:k ≠ t):Nat.beq k t=false:=by
 rw [← Bool.not_eq_true,Nat.beq_eq]; exact h
theorem beq_self (k:Nat):Nat.beq k k=true:=by rw [Nat.beq_eq]
/-! ### Frames and heaps as lists,the newest first -/
def look:List (Nat × AV)→Nat→AV
 | [],_=>.bot
 | (k,v) :: r,t=>cond (Nat.beq k t) v (look r t)
def blkAt:List (Nat × Blk)→Nat→Blk
 | [],_=>.dead
 | (k,v) :: r,t=>cond (Nat.beq k t) v (blkAt r t)
def put (F:Fr) (d:Option Nat) (v:AV):Fr:=match d with | none=>F | some k=>fun t=>cond (Nat.beq k t) v (F t)
def wr (H:Hp):List (Nat × Blk)→Hp
 | []=>H
 | (k,v) :: r=>fun t=>cond (Nat.beq k t) v (wr H r t)
/-! ### The world's small laws -/
theorem heap_push (w:World) (o:Obj) (b:Nat) (hb:b<w.heap.size):({ w with heap:=w.heap.push o }:World).heap[b]? = w.heap[b]? := by
 simp [Array.getElem?_push,Nat.ne_of_lt hb]
theorem heap_push_new (w:World) (o:Obj):({ w with heap:=w.heap.push o }:World).heap[w.heap.size]? = some o:=by
 simp
theorem cell_of_heap {w:World} {b:Nat} {c:Array Value} {t:TypeId} {f:Nat × Nat} (h:w.heap[b]? = some (.cells c t f)) (o:Nat):w.cell? ⟨b,o,none⟩=c[o]? := by
 simp [World.cell?,h]
theorem shape_of_heap {w w':World} {b:Nat} (h:w'.heap[b]? = w.heap[b]?):w'.shape? b=w.shape? b:=by
 simp [World.shape?,h]
theorem BlkOK_lt {V:View} {b:Nat} {B:Blk} (h:BlkOK V b B) (hd:B ≠ .dead):b<V.w.heap.size:=by
 have:∃ o,V.w.heap[b]? = some o:=by
  cases B with
  | dead=>exact absurd rfl hd
  | var cs=>obtain ⟨c,t,h1,_⟩:=h; exact ⟨_,h1⟩
  | row sz es=>obtain ⟨c,t,h1,_⟩:=h; exact ⟨_,h1⟩
  | map es=>obtain ⟨c,t,h1,_⟩:=h; exact ⟨_,h1⟩
  | obj o=>exact ⟨o,h⟩
 obtain ⟨o,ho⟩:=this
 exact (Array.getElem?_eq_some_iff.1 ho).1
section
variable {X:Ctx} {M:Nat→Nat} {F:Fr} {H:Hp} {U:Nat→Prop} {a:Act} {w:World}
theorem Rel.put (R:Rel X M F H U a w) {d:Option Nat} {av:AV} {v:Value} (hv:VA (viewOf X w U M H) av v) (hd:∀ k,d=some k→k<X.N):Rel X M (put F d av) H U (a.put d v) w:=by
 cases d with
 | none=>exact R
 | some k =>
  refine { R with defers:=R.defers,size:=by simpa [Act.put] using R.size,fr:=fun t=>?_ }
  have hk:=hd k rfl
  simp only [Ab.put,Act.put]
  by_cases h:k=t
  · subst h
    rw [beq_self]
    simpa [R.size,hk] using hv
  · rw [beq_ne h]
    simpa [h,Array.getElem?_setIfInBounds_ne] using R.fr t
theorem Rel.drew (R:Rel X M F H U a w) (n:Nat):Rel X M F H U a { w with drawn:=n }:=by
 have ht:Turns (viewOf X w U M H) (viewOf X { w with drawn:=n } U M H) :=
  ⟨rfl,⟨fun _ h=>h,fun _ _=>rfl⟩,fun _ h=>h,fun _ _ _ h=>⟨h,rfl,rfl⟩⟩
 exact { defers:=R.defers,size:=R.size,keeps:=⟨R.keeps.os,R.keeps.tape,R.keeps.output,R.keeps.size,R.keeps.block⟩,K:=R.K,used:=R.used,inj:=R.inj,own:=R.own,
         blk:=fun i=>BlkOK_turns ht _ (fun _=>rfl) (R.blk i),fr:=fun t=>VA_turns ht _ _ (R.fr t),gh:=fun v u h=>VA_turns ht _ _ (R.gh v u h) }
end
end
section
/-! ### Runs of cells,cell by cell -/
theorem VPs_iff {E:Env} {w:World} {ok:Nat→Prop}:∀ (ps:List PV) (vs:List Value),VPs E w ok ps vs↔vs.length=ps.length∧∀ (j:Nat) p v,ps[j]? = some p→vs[j]? = some v→VP E w ok p v
 | [],vs=>by
  simp only [VPs]
  constructor
  · rintro rfl; exact ⟨rfl,fun j p v h=>by simp at h⟩
  · rintro ⟨h,_⟩; exact List.eq_nil_of_length_eq_zero (by simpa using h)
 | p :: ps,vs=>by
  simp only [VPs]
  constructor
  · rintro ⟨u,us,rfl,h1,h2⟩
    obtain ⟨h3,h4⟩:=(VPs_iff ps us).1 h2
    refine ⟨by simp [h3],fun j q v hq hv=>?_⟩
    cases j with
    | zero=>simp at hq hv; subst hq; subst hv; exact h1
    | succ j=>exact h4 j q v (by simpa using hq) (by simpa using hv)
  · rintro ⟨h1,h2⟩
    cases vs with
    | nil=>simp at h1
    | cons u us =>
     refine ⟨u,us,rfl,h2 0 p u rfl rfl,(VPs_iff ps us).2 ⟨by simpa using h1,fun j q v hq hv=>h2 (j + 1) q v (by simpa using hq) (by simpa using hv)⟩⟩
theorem VAs_iff {V:View}:∀ (ps:List AV) (vs:List Value),VAs V ps vs↔vs.length=ps.length∧∀ (j:Nat) p v,ps[j]? = some p→vs[j]? = some v→VA V p v
 | [],vs=>by
  simp only [VAs]
  constructor
  · rintro rfl; exact ⟨rfl,fun j p v h=>by simp at h⟩
  · rintro ⟨h,_⟩; exact List.eq_nil_of_length_eq_zero (by simpa using h)
 | p :: ps,vs=>by
  simp only [VAs]
  constructor
  · rintro ⟨u,us,rfl,h1,h2⟩
    obtain ⟨h3,h4⟩:=(VAs_iff ps us).1 h2
    refine ⟨by simp [h3],fun j q v hq hv=>?_⟩
    cases j with
    | zero=>simp at hq hv; subst hq; subst hv; exact h1
    | succ j=>exact h4 j q v (by simpa using hq) (by simpa using hv)
  · rintro ⟨h1,h2⟩
    cases vs with
    | nil=>simp at h1
    | cons u us =>
     refine ⟨u,us,rfl,h2 0 p u rfl rfl,(VAs_iff ps us).2 ⟨by simpa using h1,fun j q v hq hv=>h2 (j + 1) q v (by simpa using hq) (by simpa using hv)⟩⟩
theorem VRun_iff {E:Env} {w:World} {ok:Nat→Prop} {b:Nat}:∀ (ps:List PV) (o:Nat),VRun E w ok ps b o↔∀ (j:Nat) p,ps[j]? = some p→∃ u,w.cell? ⟨b,o + j,none⟩=some u∧Scalar u∧VP E w ok p u
 | [],o=>by simp [VRun]
 | p :: ps,o=>by
  simp only [VRun]
  rw [VRun_iff ps (o + 1)]
  constructor
  · rintro ⟨h1,h2⟩ j q hq
    cases j with
    | zero=>simp at hq; subst hq; exact h1
    | succ j=>have:=h2 j q (by simpa using hq); rwa [Nat.add_assoc,Nat.add_comm 1 j] at this
  · intro h
    refine ⟨h 0 p rfl,fun j q hq=>?_⟩
    have:=h (j + 1) q (by simpa using hq)
    rwa [← Nat.add_comm 1 j,← Nat.add_assoc] at this
theorem ARun_iff {V:View} {b:Nat}:∀ (ps:List AV) (o:Nat),ARun V ps b o↔∀ (j:Nat) p,ps[j]? = some p→∃ u,V.w.cell? ⟨b,o + j,none⟩=some u∧Scalar u∧VA V p u
 | [],o=>by simp [ARun]
 | p :: ps,o=>by
  simp only [ARun]
  rw [ARun_iff ps (o + 1)]
  constructor
  · rintro ⟨h1,h2⟩ j q hq
    cases j with
    | zero=>simp at hq; subst hq; exact h1
    | succ j=>have:=h2 j q (by simpa using hq); rwa [Nat.add_assoc,Nat.add_comm 1 j] at this
  · intro h
    refine ⟨h 0 p rfl,fun j q hq=>?_⟩
    have:=h (j + 1) q (by simpa using hq)
    rwa [← Nat.add_comm 1 j,← Nat.add_assoc] at this
theorem VElems_iff {E:Env} {w:World} {ok:Nat→Prop} {b sz:Nat}:∀ (es:List (List PV)) (o:Nat),VElems E w ok es b o sz↔∀ (i:Nat) e,es[i]? = some e→e.length=sz∧VRun E w ok e b (o + i * sz)
 | [],o=>by simp [VElems]
 | e :: es,o=>by
  simp only [VElems]
  rw [VElems_iff es (o + sz)]
  constructor
  · rintro ⟨h1,h2,h3⟩ i q hq
    cases i with
    | zero=>simp at hq; subst hq; simpa using ⟨h1,h2⟩
    | succ i =>
     have:=h3 i q (by simpa using hq)
     rwa [show o + sz + i * sz=o + (i + 1) * sz by rw [Nat.add_mul]; omega] at this
  · intro h
    refine ⟨(h 0 e rfl).1,by simpa using (h 0 e rfl).2,fun i q hq=>?_⟩
    have:=h (i + 1) q (by simpa using hq)
    rwa [show o + (i + 1) * sz=o + sz + i * sz by rw [Nat.add_mul]; omega] at this
/-! ### A block written -/
def setB (w:World) (b:Nat) (o:Obj):World:={ w with heap:=w.heap.setIfInBounds b o }
theorem setB_size (w:World) (b:Nat) (o:Obj):(setB w b o).heap.size=w.heap.size:=by simp [setB]
theorem setB_same {w:World} {b:Nat} (o:Obj) (h:b<w.heap.size):(setB w b o).heap[b]? = some o:=by simp [setB,h]
theorem setB_other {w:World} {b c:Nat} (o:Obj) (h:b ≠ c):(setB w b o).heap[c]? = w.heap[c]? := by simp [setB,Array.getElem?_setIfInBounds_ne h]
theorem setB_setB (w:World) (b:Nat) (o o':Obj):setB (setB w b o) b o'=setB w b o':=by
 simp only [setB]
 congr 1
 apply Array.ext_getElem?
 intro i
 by_cases h:b=i
 · subst h
   by_cases hb:b<w.heap.size <;> simp [hb]
 · simp [Array.getElem?_setIfInBounds_ne h]
theorem setB_self {w:World} {b:Nat} {o:Obj} (h:w.heap[b]? = some o):setB w b o=w:=by
 simp only [setB]
 have:w.heap.setIfInBounds b o=w.heap:=by
  apply Array.ext_getElem?
  intro i
  by_cases hb:b=i
  · subst hb
    have hlt:b<w.heap.size:=(Array.getElem?_eq_some_iff.1 h).1
    rw [h]
    simp [hlt]
  · simp [Array.getElem?_setIfInBounds_ne hb]
 rw [this]
theorem setCell_eq {w:World} {b:Nat} {c:Array Value} {t:TypeId} {f:Nat × Nat} (h:w.heap[b]? = some (.cells c t f)) (o:Nat) (v:Value) :
    w.setCell ⟨b,o,none⟩ v=setB w b (.cells (c.setIfInBounds o v) t f):=by
 simp only [setB,World.setCell]
 congr 1
 have hlt:b<w.heap.size:=(Array.getElem?_eq_some_iff.1 h).1
 apply Array.ext_getElem?
 intro i
 by_cases hb:b=i
 · subst hb
   obtain ⟨hlt',hg⟩:=Array.getElem?_eq_some_iff.1 h
   rw [Array.getElem?_modify,if_pos rfl,h]
   simp [hlt]
 · simp [Array.getElem?_modify,Array.getElem?_setIfInBounds_ne hb,hb]
def patch (c:Array Value) (o:Nat):List Value→Array Value
 | []=>c
 | v :: r=>patch (c.setIfInBounds o v) (o + 1) r
theorem patch_size:∀ (vs:List Value) (c:Array Value) (o:Nat),(patch c o vs).size=c.size
 | [],c,o=>rfl
 | v :: r,c,o=>by simp only [patch]; rw [patch_size]; simp
theorem patch_get:∀ (vs:List Value) (c:Array Value) (o j:Nat),o + vs.length≤c.size→(patch c o vs)[j]? = if o≤j∧j<o + vs.length then vs[j - o]? else c[j]?
 | [],c,o,j,h=>by
  simp only [patch]
  rw [if_neg (by simp)]
 | v :: r,c,o,j,h=>by
  simp only [patch]
  have hl:(v :: r).length=r.length + 1:=rfl
  rw [patch_get r _ (o + 1) j (by simp; omega)]
  by_cases h1:o=j
  · subst h1
    rw [if_neg (by omega),if_pos (by omega)]
    have:o<c.size:=by omega
    simp [this]
  · by_cases h2:o + 1≤j∧j<o + 1 + r.length
    · rw [if_pos h2,if_pos (by omega)]
      obtain ⟨k,hk⟩:∃ k,j - o=k + 1:=⟨j - o - 1,by omega⟩
      rw [hk,List.getElem?_cons_succ,show j - (o + 1)=k by omega]
    · rw [if_neg h2,if_neg (by omega)]
      simp [Array.getElem?_setIfInBounds_ne h1]
def patchL {α:Type}:List α→Nat→List α→List α
 | l,_,[]=>l
 | [],_,_=>[]
 | a :: l,0,x :: r=>x :: patchL l 0 r
 | a :: l,n + 1,xs=>a :: patchL l n xs
theorem patchL_length {α:Type}:∀ (l:List α) (o:Nat) (xs:List α),(patchL l o xs).length=l.length
 | l,_,[]=>by cases l <;> rfl
 | [],_,_ :: _=>rfl
 | a :: l,0,x :: r=>by simp only [patchL,List.length_cons,patchL_length l 0 r]
 | a :: l,n + 1,x :: r=>by simp only [patchL,List.length_cons,patchL_length l n (x :: r)]
theorem patchL_get {α:Type}:∀ (l:List α) (o:Nat) (xs:List α) (j:Nat),o + xs.length≤l.length→(patchL l o xs)[j]? = if o≤j∧j<o + xs.length then xs[j - o]? else l[j]?
 | l,o,[],j,h=>by
  rw [if_neg (by simp)]
  cases l <;> rfl
 | [],o,x :: r,j,h=>by simp at h
 | a :: l,0,x :: r,j,h=>by
  simp only [patchL]
  cases j with
  | zero=>simp
  | succ j =>
   simp only [List.getElem?_cons_succ,List.length_cons] at h ⊢
   rw [patchL_get l 0 r j (by omega)]
   by_cases h1:j<r.length
   · rw [if_pos (by omega),if_pos (by omega)]; simp
   · rw [if_neg (by omega),if_neg (by omega)]
 | a :: l,n + 1,x :: r,j,h=>by
  simp only [patchL]
  cases j with
  | zero=>simp
  | succ j =>
   simp only [List.getElem?_cons_succ,List.length_cons] at h ⊢
   rw [patchL_get l n (x :: r) j (by simp; omega)]
   by_cases h1:n≤j∧j<n + (x :: r).length
   · simp only [List.length_cons] at h1
     rw [if_pos (by simpa using h1),if_pos (by omega),show j + 1 - (n + 1)=j - n by omega]
   · simp only [List.length_cons] at h1
     rw [if_neg (by simpa using h1),if_neg (by omega)]
/-! ### The relation goes on -/
section
variable {X:Ctx} {M:Nat→Nat} {F:Fr} {H:Hp} {U:Nat→Prop} {a:Act} {w:World}
def upM (M:Nat→Nat) (k b:Nat):Nat→Nat:=fun i=>cond (Nat.beq k i) b (M i)
theorem upM_same (M:Nat→Nat) (k b:Nat):upM M k b k=b:=by simp [upM,beq_self]
theorem upM_other {M:Nat→Nat} {k b i:Nat} (h:k ≠ i):upM M k b i=M i:=by simp [upM,beq_ne h]
theorem wr_same (H:Hp) (k:Nat) (B:Blk) (r:List (Nat × Blk)):wr H ((k,B) :: r) k=B:=by simp [wr,beq_self]
theorem wr_other (H:Hp) {k i:Nat} (B:Blk) (r:List (Nat × Blk)) (h:k ≠ i):wr H ((k,B) :: r) i=wr H r i:=by simp [wr,beq_ne h]
theorem Rel.turn (R:Rel X M F H U a w) {w':World} {M':Nat→Nat} {H':Hp} {U':Nat→Prop}
    (hsize:w.heap.size≤w'.heap.size)
    (hsame:∀ b,b<w.heap.size→(∀ i,H i ≠ .dead→M i ≠ b)→w'.heap[b]? = w.heap[b]?)
    (hown:∀ i,H' i ≠ .dead→(∃ j,H j ≠ .dead∧M' i=M j)∨w.heap.size≤M' i)
    (hused:∀ i,U i→U' i)
    (hkeep:∀ i s,U i→(H' i).info=some s→(H i).info=some s∧M' i=M i∧w'.shape? (M i)=w.shape? (M i)) :
    Turns (viewOf X w U M H) (viewOf X w' U' M' H'):=by
 refine ⟨rfl,⟨fun b hb=>⟨Nat.lt_of_lt_of_le hb.1 hsize,hb.2.1,fun i hi=>?_⟩,fun b hb=>hsame b hb.1 hb.2.2⟩,hused,hkeep⟩
 rcases hown i hi with ⟨j,h1,h2⟩ | h
 · rw [h2]; exact hb.2.2 j h1
 · intro h'
   have:b<w.heap.size:=hb.1
   omega
theorem Rel.new (R:Rel X M F H U a w) (o:Obj) (B:Blk) (k:Nat) (hk:¬ U k) (hd:B ≠ .dead)
    (hB:BlkOK (viewOf X { w with heap:=w.heap.push o } (fun i=>U i∨i=k) (upM M k w.heap.size) (wr H [(k,B)])) w.heap.size B) :
    Rel X (upM M k w.heap.size) F (wr H [(k,B)]) (fun i=>U i∨i=k) a { w with heap:=w.heap.push o }:=by
 have hdead:H k=.dead:=Classical.byContradiction fun h=>hk (R.used k h)
 have hH:∀ i,k ≠ i→wr H [(k,B)] i=H i:=fun i h=>by rw [wr_other H B [] h]; rfl
 have T:Turns (viewOf X w U M H) (viewOf X { w with heap:=w.heap.push o } (fun i=>U i∨i=k) (upM M k w.heap.size) (wr H [(k,B)])):=by
  refine R.turn (by simp) (fun b hb _=>heap_push w o b hb) (fun i hi=>?_) (fun i h=>.inl h) (fun i s hu hs=>?_)
  · by_cases h:k=i
    · subst h; exact .inr (by rw [upM_same]; exact Nat.le_refl _)
    · rw [hH i h] at hi; exact .inl ⟨i,hi,upM_other h⟩
  · by_cases h:k=i
    · subst h; exact absurd hu hk
    · rw [hH i h] at hs
      refine ⟨hs,upM_other h,shape_of_heap (heap_push w o _ (R.own i ?_).1)⟩
      intro h'
      rw [h'] at hs
      simp [Blk.info] at hs
 refine { defers:=R.defers,size:=R.size,keeps:=⟨R.keeps.os,R.keeps.tape,R.keeps.output,?_,fun b hb hn=>?_⟩,K:=R.K,used:=fun i hi=>?_,inj:=fun i j hi hj hij=>?_,
          own:=fun i hi=>?_,blk:=fun i=>?_,fr:=fun t=>VA_turns T _ _ (R.fr t),gh:=fun v u h=>VA_turns T _ _ (R.gh v u h) }
 · have:=R.keeps.size; simp; omega
 · rw [heap_push w o b (Nat.lt_of_lt_of_le hb R.keeps.size)]; exact R.keeps.block b hb hn
 · by_cases h:k=i
   · exact .inr h.symm
   · rw [hH i h] at hi; exact .inl (R.used i hi)
 · by_cases h1:k=i
   · subst h1
     by_cases h2:k=j
     · exact h2
     · rw [hH j h2] at hj
       rw [upM_same,upM_other h2] at hij
       have:=(R.own j hj).1
       omega
   · rw [hH i h1] at hi
     by_cases h2:k=j
     · subst h2
       rw [upM_same,upM_other h1] at hij
       have:=(R.own i hi).1
       omega
     · rw [hH j h2] at hj
       rw [upM_other h1,upM_other h2] at hij
       exact R.inj i j hi hj hij
 · by_cases h:k=i
   · subst h
     rw [upM_same]
     refine ⟨by simp,fun hK=>?_,.inr R.keeps.size⟩
     have h1:=R.K _ hK
     have h2:=R.keeps.size
     omega
   · rw [hH i h] at hi
     rw [upM_other h]
     obtain ⟨h1,h2,h3⟩:=R.own i hi
     exact ⟨by simp; omega,h2,h3⟩
 · by_cases h:k=i
   · subst h
     rw [upM_same,wr_same]
     exact hB
   · rw [hH i h,upM_other h]
     refine BlkOK_turns T _ (fun hne=>heap_push w o _ (R.own i hne).1) (R.blk i)
theorem Rel.write (R:Rel X M F H U a w) (o:Obj) (B:Blk) (k:Nat) (hk:H k ≠ .dead) (hd:B ≠ .dead) (hi:B.info=(H k).info)
    (hs:(setB w (M k) o).shape? (M k)=w.shape? (M k))
    (hB:BlkOK (viewOf X (setB w (M k) o) U M (wr H [(k,B)])) (M k) B) :
    Rel X M F (wr H [(k,B)]) U a (setB w (M k) o):=by
 have hH:∀ i,k ≠ i→wr H [(k,B)] i=H i:=fun i h=>by rw [wr_other H B [] h]; rfl
 have hlive:∀ i,wr H [(k,B)] i ≠ .dead→H i ≠ .dead:=fun i h=>by
  by_cases h':k=i
  · subst h'; exact hk
  · rwa [hH i h'] at h
 have T:Turns (viewOf X w U M H) (viewOf X (setB w (M k) o) U M (wr H [(k,B)])):=by
  refine R.turn (by rw [setB_size]; exact Nat.le_refl _) (fun b hb hn=>setB_other o (hn k hk)) (fun i hi'=>.inl ⟨i,hlive i hi',rfl⟩) (fun i h=>h) (fun i s hu hs'=>?_)
  by_cases h:k=i
  · subst h
    rw [wr_same,hi] at hs'
    exact ⟨hs',rfl,hs⟩
  · rw [hH i h] at hs'
    refine ⟨hs',rfl,shape_of_heap (setB_other o fun he=>h ?_)⟩
    exact R.inj k i hk (fun h'=>by rw [h'] at hs'; simp [Blk.info] at hs') he
 refine { defers:=R.defers,size:=R.size,keeps:=⟨R.keeps.os,R.keeps.tape,R.keeps.output,by rw [setB_size]; exact R.keeps.size,fun b hb hn=>?_⟩,K:=R.K,used:=fun i hi'=>R.used i (hlive i hi'),
          inj:=fun i j h1 h2 h3=>R.inj i j (hlive i h1) (hlive j h2) h3,own:=fun i hi'=>by rw [setB_size]; exact R.own i (hlive i hi'),blk:=fun i=>?_,fr:=fun t=>VA_turns T _ _ (R.fr t),gh:=fun v u h=>VA_turns T _ _ (R.gh v u h) }
 · rw [setB_other o ?_]
   · exact R.keeps.block b hb hn
   · intro he
     rcases (R.own k hk).2.2 with h | h
     · rw [he] at h; exact hn h
     · omega
 · by_cases h:k=i
   · subst h
     rw [wr_same]
     exact hB
   · rw [hH i h]
     exact BlkOK_turns T _ (fun hne=>setB_other o fun he=>h (R.inj k i hk hne he)) (R.blk i)
theorem Rel.write_turn (R:Rel X M F H U a w) (o:Obj) (B:Blk) (k:Nat) (hk:H k ≠ .dead) (hi:B.info=(H k).info)
    (hs:(setB w (M k) o).shape? (M k)=w.shape? (M k)):Turns (viewOf X w U M H) (viewOf X (setB w (M k) o) U M (wr H [(k,B)])):=by
 have hH:∀ i,k ≠ i→wr H [(k,B)] i=H i:=fun i h=>by rw [wr_other H B [] h]; rfl
 refine R.turn (by rw [setB_size]; exact Nat.le_refl _) (fun b hb hn=>setB_other o (hn k hk)) (fun i hi'=>.inl ⟨i,?_,rfl⟩) (fun i h=>h) (fun i s hu hs'=>?_)
 · by_cases h':k=i
   · subst h'; exact hk
   · rwa [hH i h'] at hi'
 · by_cases h:k=i
   · subst h
     rw [wr_same,hi] at hs'
     exact ⟨hs',rfl,hs⟩
   · rw [hH i h] at hs'
     refine ⟨hs',rfl,shape_of_heap (setB_other o fun he=>h ?_)⟩
     exact R.inj k i hk (fun h'=>by rw [h'] at hs'; simp [Blk.info] at hs') he
end
end
section
inductive AO where
 | t (n:Nat)
 | c (v:AV)
 | f (n:Nat)
 deriving Inhabited
inductive EqK where
 | bool | str | ptr | iface (code:Bool) | slice | func | plain (bs:List Bool)
 deriving Inhabited,DecidableEq
inductive AOp where
 | mv (x:AO)
 | pick (c a b:AO)
 | alloc (cs:List AV)
 | box (x:AO)
 | build (zero:List AV) (parts:List (Nat × Nat × AO))
 | bslice (sz len:Nat) (zero:List AV) (parts:List (Nat × Nat × AO))
 | load (agg:Bool) (n:Nat) (x:AO)
 | store (n:Nat) (x y:AO)
 | nilchk (x:AO)
 | bin (op:BinOp) (k:Option EqK) (x y:AO)
 | not (x:AO)
 | neg (x:AO)
 | conv (k:IntKind) (x:AO)
 | s2b (x:AO)
 | b2s (x:AO)
 | mkI (t:Nat) (x:AO)
 | mkF (f:Nat) (first cap:List AO)
 | fieldAddr (off:Nat) (x:AO)
 | fieldV (agg:Bool) (off n:Nat) (x:AO)
 | idxAddr (sz:Nat) (x i:AO)
 | idxArr (len sz:Nat) (x i:AO)
 | idxV (agg:Bool) (len sz:Nat) (x i:AO)
 | len (x:AO)
 | lenS (x:AO)
 | lenC (n:Nat)
 | extract (x:AO) (i:Nat)
 | slice (sz:Nat) (x:AO) (lo hi:Option AO)
 | sliceArr (len sz:Nat) (x:AO) (lo hi:Option AO)
 | append (sz bytes:Nat) (s x:AO)
 | call (f:Nat) (args:List AO)
 | callv (f:AO) (args:List AO)
 | bmax (xs:List AO)
 | bmin (xs:List AO)
 | mkMap
 | mapGet (s ok:Bool) (zero:PV) (m k:AO)
 | mapPut (s:Bool) (m k v:AO)
 | rng (m:AO)
 | nxt (i:AO)
 | ent (i:AO)
 | other
 deriving Inhabited
def cV:Value→Option AV
 | .bool b=>some (.pv (.bool b))
 | .int k n=>some (.pv (.int k n))
 | .string s=>some (.pv (.str s))
 | .pointer none=>some (.pv .nilp)
 | .nilFunc=>some (.pv .nilf)
 | .nilIface=>some (.pv .nili)
 | .slice none 0 0=>some .nils
 | .map none=>some .bot
 | _=>none
def cVs:List Value→Option (List AV)
 | []=>some []
 | v :: r=>match cV v,cVs r with
  | some a,some l=>some (a :: l)
  | _,_=>none
theorem cV_ok {V:View} {v:Value} {a:AV} (h:cV v=some a):VA V a v:=by
 unfold cV at h
 split at h <;> simp at h <;> subst h <;> simp [VA,VP]
theorem cVs_ok {V:View}:∀ {vs:List Value} {as:List AV},cVs vs=some as→VAs V as vs
 | [],as,h=>by simp [cVs] at h; subst h; simp [VAs]
 | v :: r,as,h=>by
  simp only [cVs] at h
  split at h
  · rename_i a l h1 h2
    simp at h
    subst h
    simp only [VAs]
    exact ⟨v,r,rfl,cV_ok h1,cVs_ok h2⟩
  · simp at h
def cP:Value→Option PV
 | .bool b=>some (.bool b)
 | .int k n=>some (.int k n)
 | .string s=>some (.str s)
 | _=>none
def cPs:List Value→Option (List PV)
 | []=>some []
 | v :: r=>match cP v,cPs r with
  | some a,some l=>some (a :: l)
  | _,_=>none
def cZ:Value→Option PV
 | .agg cs=>(cPs cs.toList).map .agg
 | v=>cP v
theorem cP_ok {E:Env} {w:World} {ok:Nat→Prop} {v:Value} {p:PV} (h:cP v=some p):VP E w ok p v:=by
 unfold cP at h
 split at h <;> simp at h <;> subst h <;> simp [VP]
theorem cPs_ok {E:Env} {w:World} {ok:Nat→Prop}:∀ {vs:List Value} {ps:List PV},cPs vs=some ps→VPs E w ok ps vs
 | [],ps,h=>by simp [cPs] at h; subst h; simp [VPs]
 | v :: r,ps,h=>by
  simp only [cPs] at h
  split at h
  · rename_i a l h1 h2
    simp at h
    subst h
    simp only [VPs]
    exact ⟨v,r,rfl,cP_ok h1,cPs_ok h2⟩
  · simp at h
theorem cZ_ok {E:Env} {w:World} {ok:Nat→Prop} {v:Value} {p:PV} (h:cZ v=some p):VP E w ok p v:=by
 unfold cZ at h
 split at h
 · rename_i cs
   simp only [Option.map_eq_some_iff] at h
   obtain ⟨l,h1,rfl⟩:=h
   simp only [VP]
   exact ⟨cs.toList,rfl,cPs_ok h1⟩
 · exact cP_ok h
def keyD (s:Bool):TypeDesc→Bool
 | .int _ => !s
 | .string=>s
 | _=>false
section
variable (E:Env)
def cO:Operand→Option AO
 | .tmp t=>some (.t t)
 | .const v=>(cV v).map .c
 | .func f=>(E.rho f).map .f
 | .global _=>none
def cOs:List Operand→Option (List AO)
 | []=>some []
 | x :: r=>match cO E x,cOs r with
  | some a,some l=>some (a :: l)
  | _,_=>none
end
def evO (F:Fr):AO→AV
 | .t n=>F n
 | .c v=>v
 | .f n=>.func n [] []
def evOs (F:Fr):List AO→List AV
 | []=>[]
 | x :: r=>evO F x :: evOs F r
def AO.tmps:AO→List Nat
 | .t n=>[n]
 | _=>[]
section
variable {X:Ctx} {M:Nat→Nat} {F:Fr} {H:Hp} {U:Nat→Prop} {a:Act} {w:World}
theorem cO_ok (hE:X.E.OK) (R:Rel X M F H U a w) {x:Operand} {y:AO} (h:cO X.E x=some y):VA (viewOf X w U M H) (evO F y) (a.eval x):=by
 cases x with
 | tmp t=>simp [cO] at h; subst h; exact R.fr t
 | const v =>
  simp [cO] at h
  obtain ⟨u,h1,h2⟩:=h
  subst h2
  exact cV_ok h1
 | func f =>
  simp [cO] at h
  obtain ⟨u,h1,h2⟩:=h
  subst h2
  simp only [evO,Act.eval,VA]
  exact ⟨[],[],by rw [show (viewOf X w U M H).E=X.E from rfl,hE.rho f u h1],by simp [VAs],by simp [VAs]⟩
 | global g=>simp [cO] at h
theorem cOs_ok (hE:X.E.OK) (R:Rel X M F H U a w):∀ {xs:List Operand} {ys:List AO},cOs X.E xs=some ys→VAs (viewOf X w U M H) (evOs F ys) (xs.map a.eval)
 | [],ys,h=>by simp [cOs] at h; subst h; simp [evOs,VAs]
 | x :: r,ys,h=>by
  simp only [cOs] at h
  split at h
  · rename_i a' l h1 h2
    simp at h
    subst h
    simp only [evOs,VAs,List.map_cons]
    exact ⟨_,_,rfl,cO_ok hE R h1,cOs_ok hE R h2⟩
  · simp at h
end
def Does (E:Env) (N:Nat) (o:Oper) (F:Fr) (H:Hp) (U:Nat→Prop) (v:AV) (W:List (Nat × Blk)) (U':Nat→Prop):Prop :=
 ∀ X M a w Q,X.E=E→X.N=N→Rel X M F H U a w→o.wp E.P a w (fun a' w'=>∃ M',Rel X M' (put F o.dst v) (wr H W) U' a' w') Q
theorem run_pure {α:Type} (P:Program) (a:α) (w:World):Sem.run P (pure a:Sem α) w=.ok a w:=rfl
theorem run_bind {α β:Type} (P:Program) (s:Sem α) (f:α→Sem β) (w:World):Sem.run P (s >>= f) w=match Sem.run P s w with | .ok a w'=>Sem.run P (f a) w' | .halt h w'=>.halt h w':=by
 change Sem.run P (Sem.bind s f) w=_
 induction s generalizing w with
 | pure a=>rfl
 | load m a k ih =>
  simp only [Sem.bind,Sem.run]
  split
  · exact ih _ _
  · split
    · exact ih _ _
    · rfl
 | store m a v k ih =>
  cases v <;> simp only [Sem.bind,Sem.run] <;> (split <;> first | (split <;> first | rfl | exact ih _) | (split <;> first | rfl | exact ih _))
 | new o k ih=>simp only [Sem.bind,Sem.run]; exact ih _ _
 | shape r k ih=>simp only [Sem.bind,Sem.run]; exact ih _ _
 | freeze a n k ih=>simp only [Sem.bind,Sem.run]; exact ih _
 | frozen a k ih=>simp only [Sem.bind,Sem.run]; exact ih _ _
 | getObj r k ih =>
  simp only [Sem.bind,Sem.run]
  split
  · rfl
  · exact ih _ _
  · rfl
 | setObj r o k ih =>
  simp only [Sem.bind,Sem.run]
  split
  · rfl
  · exact ih _
  · rfl
 | choose q k ih =>
  simp only [Sem.bind,Sem.run]
  split
  · exact ih _ _
  · exact ih _ _
 | sys c k ih=>simp only [Sem.bind,Sem.run]; exact ih _ _
 | program k ih=>simp only [Sem.bind,Sem.run]; exact ih _ _
 | mark m k ih=>simp only [Sem.bind,Sem.run]; exact ih _
 | halt h=>rfl
theorem Does.value {E:Env} {N:Nat} {o:Oper} {F:Fr} {H:Hp} {U:Nat→Prop} {v:AV} (hd:∀ k,o.dst=some k→k<N)
    (h:∀ X M a w,X.E=E→Rel X M F H U a w→∃ u,(execOp a.eval o).run E.P w=.ok (.value u) w∧VA (viewOf X w U M H) v u):Does E N o F H U v [] U:=by
 intro X M a w Q hE hN R
 obtain ⟨u,h1,h2⟩:=h X M a w hE R
 rw [Oper.wp,h1,Oper.upon_value]
 exact ⟨M,R.put h2 (fun k hk=>by rw [hN]; exact hd k hk)⟩
end
section
def isAggD:TypeDesc→Bool
 | .struct _ | .array _ _=>true
 | _=>false
def plainF (P:Program) (T:TypeId→Option (List Bool)):List Field→Nat→Option (List Bool)
 | [],_=>some []
 | f :: r,o=>match T f.type,P.info? f.type,P.underlying f.type with
  | some l, some i, some dd => if f.offset = o ∧ i.size = l.length ∧ f.name ≠ "_" ∧ (isAggD dd = false → l.length = 1) then match plainF P T r (o + l.length) with
      | some l'=>some (l ++ l')
      | none=>none
   else none
  | _,_,_=>none
def plainT (P:Program):Nat→TypeId→Option (List Bool)
 | 0,_=>none
 | d + 1,t=>match P.underlying t with
  | some (.int _)=>some [false]
  | some .bool=>some [true]
  | some (.struct fs)=>if P.stoodInHeld t then none else plainF P (plainT P d) fs.toList 0
  | some (.array len e)=>match plainT P d e,P.info? e,P.underlying e with
   | some l,some i,some dd=>if i.size=l.length∧(isAggD dd=false→l.length=1) then some (List.replicate len l).flatten else none
   | _,_,_=>none
  | _=>none
def codeT (E:Env):Bool:=match E.P.underlying (E.τ 0),E.P.info? (E.τ 0) with
 | some (.int _),some i=>i.comparable
 | _,_=>false
def eqK (E:Env) (t:TypeId):Option EqK :=
 match E.P.underlying t with
 | some .bool=>some .bool
 | some .string=>some .str
 | some (.pointer e)=>match E.P.info? e with
  | some i=>if i.size=0 then none else some .ptr
  | none=>none
 | some (.interface _)=>some (.iface (codeT E))
 | some (.slice _)=>some .slice
 | some (.func _ _ _)=>some .func
 | some (.struct _) | some (.array _ _)=>if E.P.eqGuardType E.P.depth t then none else (plainT E.P 20 t).map .plain
 | _=>none
section
variable (E:Env)
def cParts (place:Nat→Option (Nat × Nat)):List (Nat × Operand)→Option (List (Nat × Nat × AO))
 | []=>some []
 | (i,x) :: r=>match place i,cO E x,cParts place r with
  | some (off,n),some y,some l=>some ((off,n,y) :: l)
  | _,_,_=>none
def cBuiltin (b:Builtin) (ts:List TypeId) (xs:List Operand):Option AOp :=
 match b,ts,xs with
 | .len,[t],[x]=>match E.P.underlying t,cO E x with
  | some .string,some y=>some (.lenS y)
  | some (.slice _),some y=>some (.len y)
  | some (.array n _),some _=>some (.lenC n)
  | _,_=>none
 | .append,[t,u],[s,x]=>match E.P.underlying t,E.P.underlying u,cO E s,cO E x with
  | some (.slice e),some (.slice _),some s,some x=>match E.P.info? e with
   | some i=>match i.zero with
    | some z=>if z.cells.size=i.size∧i.bytes≤4096∧0<i.bytes then some (.append i.size i.bytes s x) else none
    | none=>none
   | none=>none
  | _,_,_,_=>none
 | .max,_,xs=>(cOs E xs).map .bmax
 | .min,_,xs=>(cOs E xs).map .bmin
 | _,_,_=>none
def cCall (c:Call):Option AOp :=
 match c.callee with
 | .value (.func f)=>match E.rho f,cOs E c.args.toList with
  | some n,some l=>some (.call n l)
  | _,_=>none
 | .value (.tmp t)=>(cOs E c.args.toList).map (.callv (.t t))
 | .builtin b=>cBuiltin E b c.argTypes.toList c.args.toList
 | _=>none
def cOp (o:Oper):Option AOp :=
 match o.op with
 | .move x | .assign x=>(cO E x).map .mv
 | .pick c a b=>match cO E c,cO E a,cO E b with
  | some c,some a,some b=>some (.pick c a b)
  | _,_,_=>none
 | .alloc e=>match (E.P.info? e).bind (·.zero) with
  | some z=>(cVs z.cells.toList).map .alloc
  | none=>none
 | .box _ x=>(cO E x).map .box
 | .build t ps=>match E.P.underlying t,(E.P.info? t).bind (·.zero) with
  | some (.struct fs),some z=>match cVs z.cells.toList,fs.toList.mapM (fun f=>(E.P.info? f.type).map fun i=>(f.offset,i.size)) with
   | some zs,some places=>(cParts E (fun i=>places[i]?) ps.toList).map (.build zs)
   | _,_=>none
  | some (.array _ e),some z=>match (E.P.info? e),cVs z.cells.toList with
   | some n,some zs=>(cParts E (fun i=>some (i * n.size,n.size)) ps.toList).map (.build zs)
   | _,_=>none
  | _,_=>none
 | .buildSlice t len ps=>match E.P.underlying t with
  | some (.slice e)=>match E.P.info? e with
   | some i=>match i.zero with
    | some z=>match cVs z.cells.toList,cParts E (fun j=>some (j * i.size,i.size)) ps.toList with
     | some zs,some l=>if z.cells.size=i.size∧len * i.size≤2 ^ 24∧0<i.size then some (.bslice i.size len (List.replicate len zs).flatten l) else none
     | _,_=>none
    | none=>none
   | none=>none
  | _=>none
 | .load t x=>match E.P.underlying t,E.P.info? t,cO E x with
  | some d,some i,some y=>if isAggD d then some (.load true i.size y) else if i.size=1 then some (.load false 1 y) else none
  | _,_,_=>none
 | .store t x y=>match E.P.info? t,cO E x,cO E y with
  | some i,some x,some y=>some (.store i.size x y)
  | _,_,_=>none
 | .nilCheck x=>(cO E x).map .nilchk
 | .binOp op t x y _=>match cO E x,cO E y with
  | some x,some y=>some (.bin op (eqK E t) x y)
  | _,_=>none
 | .unOp .not _ x=>(cO E x).map .not
 | .unOp .neg _ x=>(cO E x).map .neg
 | .convert s d x=>match E.P.underlying s,E.P.underlying d,cO E x with
  | some (.int _),some (.int k),some y=>some (.conv k y)
  | some (.slice e),some .string,some y=>match E.P.underlying e with
   | some (.int .u8)=>some (.b2s y)
   | _=>none
  | _,_,_=>none
 | .makeInterface t x=>match E.P.underlying t,E.tau t,cO E x with
  | some d,some n,some y=>if d matches .interface _ then none else some (.mkI n y)
  | _,_,_=>none
 | .makeFunc (.func f) first cap=>match E.rho f,cOs E first.toList,cOs E cap.toList with
  | some n,some a,some b=>some (.mkF n a b)
  | _,_,_=>none
 | .fieldAddr s x f=>match E.P.underlying s,cO E x with
  | some (.struct fs),some y=>match fs[f]? with
   | some fd=>match E.P.info? fd.type with
    | some i=>if i.size=0 then none else some (.fieldAddr fd.offset y)
    | none=>none
   | none=>none
  | _,_=>none
 | .field s x f=>match E.P.underlying s,cO E x with
  | some (.struct fs),some y=>match fs[f]? with
   | some fd=>match E.P.info? fd.type,E.P.underlying fd.type with
    | some i,some d=>some (.fieldV (isAggD d) fd.offset (if isAggD d then i.size else 1) y)
    | _,_=>none
   | none=>none
  | _,_=>none
 | .indexAddr t x i=>match E.P.underlying t,cO E x,cO E i with
  | some (.slice e),some x,some i=>match E.P.info? e with
   | some n=>some (.idxAddr n.size x i)
   | none=>none
  | some (.array len e),some x,some i=>match E.P.info? e with
   | some n=>some (.idxArr len n.size x i)
   | none=>none
  | _,_,_=>none
 | .index t x i=>match E.P.underlying t,cO E x,cO E i with
  | some (.array len e),some x,some i=>match E.P.info? e,E.P.underlying e with
   | some n,some d=>if isAggD d then some (.idxV true len n.size x i) else if n.size=1 then some (.idxV false len 1 x i) else none
   | _,_=>none
  | _,_,_=>none
 | .extract x i=>(cO E x).map fun y=>.extract y i
 | .slice t x lo hi none=>match E.P.underlying t,cO E x,cOs E lo.toList,cOs E hi.toList with
  | some (.slice e),some x,some lo,some hi=>match E.P.info? e with
   | some n=>some (.slice n.size x lo.head? hi.head?)
   | none=>none
  | some (.array len e),some x,some lo,some hi=>match E.P.info? e with
   | some n=>some (.sliceArr len n.size x lo.head? hi.head?)
   | none=>none
  | _,_,_,_=>none
 | .makeMap _ none=>some .mkMap
 | .lookup t x i ok=>match E.P.underlying t,cO E x,cO E i with
  | some (.map kt et),some x,some i=>match E.P.underlying kt,(E.P.info? et).bind (·.zero) with
   | some d,some z=>if keyD false d then (cZ z).map fun z=>.mapGet false ok z x i else if keyD true d then (cZ z).map fun z=>.mapGet true ok z x i else none
   | _,_=>none
  | _,_,_=>none
 | .mapUpdate t m k v=>match o.dst,E.P.underlying t,cO E m,cO E k,cO E v with
  | none,some (.map kt _),some m,some k,some v=>match E.P.underlying kt with
   | some d=>if keyD false d then some (.mapPut false m k v) else if keyD true d then some (.mapPut true m k v) else none
   | _=>none
  | _,_,_,_,_=>none
 | .range t x=>match E.P.underlying t,cO E x with
  | some (.map _ _),some x=>some (.rng x)
  | _,_=>none
 | .next it s=>match s with
  | true=>none
  | false=>(cO E it).map .nxt
 | .entry it=>(cO E it).map .ent
 | .call c=>cCall E c
 | _=>none
end
def AOp.isCall:AOp→Bool
 | .call _ _ | .callv _ _ | .len _ | .lenS _ | .lenC _ | .append _ _ _ _ | .bmax _ | .bmin _=>true
 | _=>false
theorem cBuiltin_isCall {E:Env} {b:Builtin} {ts:List TypeId} {xs:List Operand} {a:AOp} (h:cBuiltin E b ts xs=some a):a.isCall=true:=by
 unfold cBuiltin at h
 split at h <;> grind [Option.map_eq_some_iff,AOp.isCall]
def AOp.isBi:AOp→Bool
 | .len _ | .lenS _ | .lenC _ | .append _ _ _ _ | .bmax _ | .bmin _=>true
 | _=>false
theorem cBuiltin_isBi {E:Env} {b:Builtin} {ts:List TypeId} {xs:List Operand} {a:AOp} (h:cBuiltin E b ts xs=some a):a.isBi=true:=by
 unfold cBuiltin at h
 split at h <;> grind [Option.map_eq_some_iff,AOp.isBi]
theorem cCall_isCall {E:Env} {c:Call} {a:AOp} (h:cCall E c=some a):a.isCall=true:=by
 unfold cCall at h
 split at h <;> grind [Option.map_eq_some_iff,AOp.isCall,cBuiltin_isCall]
/-! ### Values taken apart and put together -/
def allPV:List AV→Option (List PV)
 | []=>some []
 | .pv p :: r=>match allPV r with
  | some l=>some (p :: l)
  | none=>none
 | _=>none
def mkAgg (cs:List AV):AV:=match allPV cs with
 | some ps=>.pv (.agg ps)
 | none=>.agg cs
def pvs:List PV→List AV
 | []=>[]
 | p :: r=>.pv p :: pvs r
theorem pvs_iff {V:View}:∀ {ps:List PV} {vs:List Value},VAs V (pvs ps) vs↔VPs V.E V.w V.ok ps vs
 | [],vs=>by simp [pvs,VAs,VPs]
 | p :: r,vs=>by
  simp only [pvs,VAs,VPs,VA]
  constructor
  · rintro ⟨u,us,h1,h2,h3⟩; exact ⟨u,us,h1,h2,pvs_iff.1 h3⟩
  · rintro ⟨u,us,h1,h2,h3⟩; exact ⟨u,us,h1,h2,pvs_iff.2 h3⟩
theorem allPV_ok {V:View}:∀ {cs:List AV} {ps:List PV} {vs:List Value},allPV cs=some ps→VAs V cs vs→VPs V.E V.w V.ok ps vs
 | [],ps,vs,h,hv=>by simp [allPV] at h; subst h; simpa [VAs,VPs] using hv
 | c :: r,ps,vs,h,hv=>by
  cases c <;> simp only [allPV] at h
  case pv p =>
   split at h
   · rename_i l hl
     simp at h
     subst h
     simp only [VAs,VPs,VA] at hv ⊢
     obtain ⟨u,us,h1,h2,h3⟩:=hv
     exact ⟨u,us,h1,h2,allPV_ok hl h3⟩
   · simp at h
  all_goals simp at h
theorem mkAgg_ok {V:View} {cs:List AV} {vs:List Value} (h:VAs V cs vs):VA V (mkAgg cs) (.agg vs.toArray):=by
 unfold mkAgg
 split
 · rename_i ps hps
   simp only [VA,VP]
   exact ⟨vs,rfl,allPV_ok hps h⟩
 · simp only [VA]
   exact ⟨vs,rfl,h⟩
def cellsOf:AV→Option (List AV)
 | .pv (.agg ps)=>some (pvs ps)
 | .agg cs=>some cs
 | .bot=>none
 | .pv (.tuple _)=>none
 | .tuple _=>none
 | v=>some [v]
theorem VP_scalar {E:Env} {w:World} {ok:Nat→Prop} {p:PV} {v:Value} (h:VP E w ok p v) (h1:∀ ps,p ≠ .agg ps) (h2:∀ ps,p ≠ .tuple ps):v.cells = #[v]∧(∀ c,v ≠ .agg c)∧(∀ c,v ≠ .tuple c):=by
 cases p <;> simp only [VP] at h
 case agg ps=>exact absurd rfl (h1 ps)
 case tuple ps=>exact absurd rfl (h2 ps)
 case cptr=>obtain ⟨b,o,rfl,_⟩:=h; simp [Value.cells]
 case slice=>obtain ⟨b,o,c,rfl,_⟩:=h; simp [Value.cells]
 case map=>obtain ⟨b,o,c,rfl,_⟩:=h; simp [Value.cells]
 case func=>obtain ⟨b,o,rfl,_⟩:=h; simp [Value.cells]
 case iface=>obtain ⟨b,rfl,_⟩:=h; simp [Value.cells]
 all_goals (subst h; simp [Value.cells])
def scal:AV→Bool
 | .pv (.agg _) | .pv (.tuple _) | .agg _ | .tuple _ | .bot=>false
 | _=>true
def scals:List AV→Bool
 | []=>true
 | c :: r=>scal c && scals r
theorem Scalar.cells {v:Value} (h:Scalar v):v.cells = #[v]:=by
 cases v <;> simp only [Value.cells]
 exact absurd rfl (h.1 _)
theorem scal_ok {V:View} {c:AV} {v:Value} (hc:scal c=true) (h:VA V c v):Scalar v:=by
 cases c with
 | pv p =>
  have:=VP_scalar (show VP V.E V.w V.ok p v by simpa only [VA] using h) (fun ps he=>by subst he; simp [scal] at hc) (fun ps he=>by subst he; simp [scal] at hc)
  exact ⟨this.2.1,this.2.2⟩
 | nils=>simp only [VA] at h; subst h; exact ⟨by simp,by simp⟩
 | bot=>simp [scal] at hc
 | ptr=>simp only [VA] at h; exact h.2.1
 | ms=>simp only [VA] at h; exact h.2.1
 | msub=>simp only [VA] at h; exact h.2.1
 | asub=>simp only [VA] at h; exact h.2.1
 | map=>simp only [VA] at h; exact h.2.1
 | func=>simp only [VA] at h; obtain ⟨vs,us,rfl,_⟩:=h; exact ⟨by simp,by simp⟩
 | iface=>simp only [VA] at h; obtain ⟨u,rfl,_⟩:=h; exact ⟨by simp,by simp⟩
 | agg=>simp [scal] at hc
 | tuple=>simp [scal] at hc
theorem scals_ok {V:View}:∀ {cs:List AV} {vs:List Value},scals cs=true→VAs V cs vs→∀ v ∈ vs,Scalar v
 | [],vs,h,hv,v,hm=>by simp [VAs] at hv; subst hv; simp at hm
 | c :: r,vs,h,hv,v,hm=>by
  simp only [VAs] at hv
  obtain ⟨u,us,rfl,h1,h2⟩:=hv
  simp only [scals,Bool.and_eq_true] at h
  rcases List.mem_cons.1 hm with rfl | hm
  · exact scal_ok h.1 h1
  · exact scals_ok h.2 h2 v hm
theorem cellsOf_ok {V:View} {c:AV} {cs:List AV} {v:Value} (hc:cellsOf c=some cs) (h:VA V c v):VAs V cs v.cells.toList:=by
 have hs:scal c=true→cellsOf c=some [c]→VAs V cs v.cells.toList:=fun h1 h2=>by
  rw [h2] at hc
  simp at hc
  subst hc
  rw [(scal_ok h1 h).cells]
  simp only [VAs]
  exact ⟨v,[],rfl,h,rfl⟩
 cases c with
 | pv p =>
  cases p with
  | agg ps =>
   simp [cellsOf] at hc
   subst hc
   simp only [VA,VP] at h
   obtain ⟨vs,rfl,h⟩:=h
   simpa [Value.cells] using pvs_iff.2 h
  | tuple ps=>simp [cellsOf] at hc
  | _=>exact hs rfl rfl
 | agg ps =>
  simp [cellsOf] at hc
  subst hc
  simp only [VA] at h
  obtain ⟨vs,rfl,h⟩:=h
  simpa [Value.cells] using h
 | tuple ps=>simp [cellsOf] at hc
 | bot=>simp [cellsOf] at hc
 | _=>exact hs rfl rfl
theorem cV_scal {v:Value} {a:AV} (h:cV v=some a):Scalar v:=by
 unfold cV at h
 split at h <;> simp at h <;> exact ⟨by simp,by simp⟩
theorem cVs_scal:∀ {vs:List Value} {as:List AV},cVs vs=some as→∀ v ∈ vs,Scalar v
 | [],as,h,v,hv=>by simp at hv
 | u :: r,as,h,v,hv=>by
  simp only [cVs] at h
  split at h
  · rename_i a l h1 h2
    rcases List.mem_cons.1 hv with rfl | hv
    · exact cV_scal h1
    · exact cVs_scal h2 v hv
  · simp at h
def AOp.isStore:AOp→Bool
 | .store _ _ _=>true
 | _=>false
end
section
section
variable {E:Env} {o:Oper}
theorem inv_mv {x:AO} (h:cOp E o=some (.mv x)):∃ y,(o.op=.move y∨o.op=.assign y)∧cO E y=some x:=by
 unfold cOp at h
 split at h <;> first | exact absurd (cCall_isCall h) (by simp [AOp.isCall]) | grind [Option.map_eq_some_iff]
theorem inv_pick {c a b:AO} (h:cOp E o=some (.pick c a b)):∃ c' a' b',o.op=.pick c' a' b'∧cO E c'=some c∧cO E a'=some a∧cO E b'=some b:=by
 unfold cOp at h
 split at h <;> first | exact absurd (cCall_isCall h) (by simp [AOp.isCall]) | grind [Option.map_eq_some_iff]
theorem inv_alloc {cs:List AV} (h:cOp E o=some (.alloc cs)):∃ e i z,o.op=.alloc e∧E.P.info? e=some i∧i.zero=some z∧cVs z.cells.toList=some cs:=by
 unfold cOp at h
 split at h <;> first | exact absurd (cCall_isCall h) (by simp [AOp.isCall]) | grind [Option.map_eq_some_iff,Option.bind_eq_some_iff]
theorem inv_box {x:AO} (h:cOp E o=some (.box x)):∃ e y,o.op=.box e y∧cO E y=some x:=by
 unfold cOp at h
 split at h <;> first | exact absurd (cCall_isCall h) (by simp [AOp.isCall]) | grind [Option.map_eq_some_iff]
theorem inv_load {agg:Bool} {n:Nat} {x:AO} (h:cOp E o=some (.load agg n x)) :
    ∃ t y d i,o.op=.load t y∧cO E y=some x∧E.P.underlying t=some d∧E.P.info? t=some i∧agg=isAggD d∧n=i.size∧(agg=false→n=1):=by
 unfold cOp at h
 split at h <;> first | exact absurd (cCall_isCall h) (by simp [AOp.isCall]) | grind [Option.map_eq_some_iff]
theorem inv_store {n:Nat} {x y:AO} (h:cOp E o=some (.store n x y)) :
    ∃ t x' y' i,o.op=.store t x' y'∧cO E x'=some x∧cO E y'=some y∧E.P.info? t=some i∧n=i.size:=by
 unfold cOp at h
 split at h <;> first | exact absurd (cCall_isCall h) (by simp [AOp.isCall]) | grind [Option.map_eq_some_iff]
theorem inv_nilchk {x:AO} (h:cOp E o=some (.nilchk x)):∃ y,o.op=.nilCheck y∧cO E y=some x:=by
 unfold cOp at h
 split at h <;> first | exact absurd (cCall_isCall h) (by simp [AOp.isCall]) | grind [Option.map_eq_some_iff]
theorem inv_bin {op:BinOp} {k:Option EqK} {x y:AO} (h:cOp E o=some (.bin op k x y)) :
    ∃ t x' y' u,o.op=.binOp op t x' y' u∧cO E x'=some x∧cO E y'=some y∧k=eqK E t:=by
 unfold cOp at h
 split at h <;> first | exact absurd (cCall_isCall h) (by simp [AOp.isCall]) | grind [Option.map_eq_some_iff]
theorem inv_not {x:AO} (h:cOp E o=some (.not x)):∃ t y,o.op=.unOp .not t y∧cO E y=some x:=by
 unfold cOp at h
 split at h <;> first | exact absurd (cCall_isCall h) (by simp [AOp.isCall]) | grind [Option.map_eq_some_iff]
theorem inv_neg {x:AO} (h:cOp E o=some (.neg x)):∃ t y,o.op=.unOp .neg t y∧cO E y=some x:=by
 unfold cOp at h
 split at h <;> first | exact absurd (cCall_isCall h) (by simp [AOp.isCall]) | grind [Option.map_eq_some_iff]
theorem inv_conv {k:IntKind} {x:AO} (h:cOp E o=some (.conv k x)):∃ s d y j,o.op=.convert s d y∧cO E y=some x∧E.P.underlying s=some (.int j)∧E.P.underlying d=some (.int k):=by
 unfold cOp at h
 split at h <;> first | exact absurd (cCall_isCall h) (by simp [AOp.isCall]) | grind [Option.map_eq_some_iff]
theorem inv_b2s {x:AO} (h:cOp E o=some (.b2s x)):∃ s d y e,o.op=.convert s d y∧cO E y=some x∧E.P.underlying s=some (.slice e)∧E.P.underlying d=some .string∧E.P.underlying e=some (.int .u8):=by
 unfold cOp at h
 split at h <;> first | exact absurd (cCall_isCall h) (by simp [AOp.isCall]) | grind [Option.map_eq_some_iff]
theorem inv_mkI {n:Nat} {x:AO} (h:cOp E o=some (.mkI n x)):∃ t y d,o.op=.makeInterface t y∧cO E y=some x∧E.P.underlying t=some d∧(∀ m,d ≠ .interface m)∧E.tau t=some n:=by
 unfold cOp at h
 split at h <;> first | exact absurd (cCall_isCall h) (by simp [AOp.isCall]) | grind [Option.map_eq_some_iff]
theorem inv_mkF {n:Nat} {f c:List AO} (h:cOp E o=some (.mkF n f c)):∃ g f' c',o.op=.makeFunc (.func g) f' c'∧E.rho g=some n∧cOs E f'.toList=some f∧cOs E c'.toList=some c:=by
 unfold cOp at h
 split at h <;> first | exact absurd (cCall_isCall h) (by simp [AOp.isCall]) | grind [Option.map_eq_some_iff]
theorem inv_fieldAddr {off:Nat} {x:AO} (h:cOp E o=some (.fieldAddr off x)) :
    ∃ s y f fs fd i,o.op=.fieldAddr s y f∧cO E y=some x∧E.P.underlying s=some (.struct fs)∧fs[f]? = some fd∧E.P.info? fd.type=some i∧i.size ≠ 0∧off=fd.offset:=by
 unfold cOp at h
 split at h <;> first | exact absurd (cCall_isCall h) (by simp [AOp.isCall]) | grind [Option.map_eq_some_iff]
theorem inv_fieldV {agg:Bool} {off n:Nat} {x:AO} (h:cOp E o=some (.fieldV agg off n x)) :
    ∃ s y f fs fd i d,o.op=.field s y f∧cO E y=some x∧E.P.underlying s=some (.struct fs)∧fs[f]? = some fd∧E.P.info? fd.type=some i∧E.P.underlying fd.type=some d∧agg=isAggD d∧off=fd.offset∧n=if isAggD d then i.size else 1:=by
 unfold cOp at h
 split at h <;> first | exact absurd (cCall_isCall h) (by simp [AOp.isCall]) | grind [Option.map_eq_some_iff]
theorem inv_idxAddr {sz:Nat} {x i:AO} (h:cOp E o=some (.idxAddr sz x i)) :
    ∃ t x' i' e n,o.op=.indexAddr t x' i'∧cO E x'=some x∧cO E i'=some i∧E.P.underlying t=some (.slice e)∧E.P.info? e=some n∧sz=n.size:=by
 unfold cOp at h
 split at h <;> first | exact absurd (cCall_isCall h) (by simp [AOp.isCall]) | grind [Option.map_eq_some_iff]
theorem inv_idxArr {len sz:Nat} {x i:AO} (h:cOp E o=some (.idxArr len sz x i)) :
    ∃ t x' i' e n,o.op=.indexAddr t x' i'∧cO E x'=some x∧cO E i'=some i∧E.P.underlying t=some (.array len e)∧E.P.info? e=some n∧sz=n.size:=by
 unfold cOp at h
 split at h <;> first | exact absurd (cCall_isCall h) (by simp [AOp.isCall]) | grind [Option.map_eq_some_iff]
theorem inv_idxV {agg:Bool} {len n:Nat} {x i:AO} (h:cOp E o=some (.idxV agg len n x i)) :
    ∃ t x' i' e m d,o.op=.index t x' i'∧cO E x'=some x∧cO E i'=some i∧E.P.underlying t=some (.array len e)∧E.P.info? e=some m∧E.P.underlying e=some d∧agg=isAggD d∧n=m.size∧(n=if isAggD d then m.size else 1):=by
 unfold cOp at h
 split at h <;> first | exact absurd (cCall_isCall h) (by simp [AOp.isCall]) | grind [Option.map_eq_some_iff]
theorem inv_extract {x:AO} {i:Nat} (h:cOp E o=some (.extract x i)):∃ y,o.op=.extract y i∧cO E y=some x:=by
 unfold cOp at h
 split at h <;> first | exact absurd (cCall_isCall h) (by simp [AOp.isCall]) | grind [Option.map_eq_some_iff]
theorem inv_isCall {a:AOp} (h:cOp E o=some a) (ha:a.isCall=true):∃ c,o.op=.call c∧cCall E c=some a:=by
 unfold cOp at h
 split at h <;> grind [Option.map_eq_some_iff,AOp.isCall]
theorem inv_call {n:Nat} {l:List AO} (h:cOp E o=some (.call n l)):∃ c f,o.op=.call c∧c.callee=.value (.func f)∧E.rho f=some n∧cOs E c.args.toList=some l:=by
 obtain ⟨c,h1,h⟩:=inv_isCall h rfl
 unfold cCall at h
 split at h <;> first | exact absurd (cBuiltin_isBi h) (by simp [AOp.isBi]) | grind [Option.map_eq_some_iff]
theorem inv_callv {x:AO} {l:List AO} (h:cOp E o=some (.callv x l)):∃ c t,o.op=.call c∧c.callee=.value (.tmp t)∧x=.t t∧cOs E c.args.toList=some l:=by
 obtain ⟨c,h1,h⟩:=inv_isCall h rfl
 unfold cCall at h
 split at h <;> first | exact absurd (cBuiltin_isBi h) (by simp [AOp.isBi]) | grind [Option.map_eq_some_iff]
theorem inv_bi {a:AOp} (hb:a.isBi=true) (h:cOp E o=some a):∃ c b,o.op=.call c∧c.callee=.builtin b∧cBuiltin E b c.argTypes.toList c.args.toList=some a:=by
 obtain ⟨c,h1,h⟩:=inv_isCall h (by cases a <;> simp [AOp.isBi] at hb <;> rfl)
 unfold cCall at h
 split at h <;> grind [Option.map_eq_some_iff,AOp.isBi]
theorem inv_len {x:AO} (h:cOp E o=some (.len x)):∃ c t y,o.op=.call c∧c.callee=.builtin .len∧c.argTypes.toList=[t]∧c.args.toList=[y]∧cO E y=some x∧∃ e,E.P.underlying t=some (.slice e):=by
 obtain ⟨c,b,h1,h2,h3⟩:=inv_bi rfl h
 unfold cBuiltin at h3
 split at h3 <;> grind [Option.map_eq_some_iff]
theorem inv_lenS {x:AO} (h:cOp E o=some (.lenS x)):∃ c t y,o.op=.call c∧c.callee=.builtin .len∧c.argTypes.toList=[t]∧c.args.toList=[y]∧cO E y=some x∧E.P.underlying t=some .string:=by
 obtain ⟨c,b,h1,h2,h3⟩:=inv_bi rfl h
 unfold cBuiltin at h3
 split at h3 <;> grind [Option.map_eq_some_iff]
theorem inv_lenC {n:Nat} (h:cOp E o=some (.lenC n)):∃ c t y e,o.op=.call c∧c.callee=.builtin .len∧c.argTypes.toList=[t]∧c.args.toList=[y]∧E.P.underlying t=some (.array n e):=by
 obtain ⟨c,b,h1,h2,h3⟩:=inv_bi rfl h
 unfold cBuiltin at h3
 split at h3 <;> grind [Option.map_eq_some_iff]
theorem inv_append {sz bytes:Nat} {s x:AO} (h:cOp E o=some (.append sz bytes s x)) :
    ∃ elem c t u e' i z s' x',o.op=.call c∧c.callee=.builtin .append∧c.argTypes.toList=[t,u]∧c.args.toList=[s',x']∧E.P.underlying t=some (.slice elem)∧E.P.underlying u=some (.slice e') ∧
     cO E s'=some s∧cO E x'=some x∧E.P.info? elem=some i∧i.zero=some z∧z.cells.size=i.size∧sz=i.size∧bytes=i.bytes∧i.bytes≤4096∧0<i.bytes:=by
 obtain ⟨c,b,h1,h2,h3⟩:=inv_bi rfl h
 unfold cBuiltin at h3
 split at h3 <;> grind [Option.map_eq_some_iff]
theorem inv_bmax {xs:List AO} (h:cOp E o=some (.bmax xs)):∃ c,o.op=.call c∧c.callee=.builtin .max∧cOs E c.args.toList=some xs:=by
 obtain ⟨c,b,h1,h2,h3⟩:=inv_bi rfl h
 unfold cBuiltin at h3
 split at h3 <;> grind [Option.map_eq_some_iff]
theorem inv_bmin {xs:List AO} (h:cOp E o=some (.bmin xs)):∃ c,o.op=.call c∧c.callee=.builtin .min∧cOs E c.args.toList=some xs:=by
 obtain ⟨c,b,h1,h2,h3⟩:=inv_bi rfl h
 unfold cBuiltin at h3
 split at h3 <;> grind [Option.map_eq_some_iff]
theorem inv_slice {sz:Nat} {x:AO} {lo hi:Option AO} (h:cOp E o=some (.slice sz x lo hi)) :
    ∃ t y l u e n l' u',o.op=.slice t y l u none∧cO E y=some x∧E.P.underlying t=some (.slice e)∧E.P.info? e=some n∧sz=n.size∧cOs E l.toList=some l'∧cOs E u.toList=some u'∧lo=l'.head? ∧ hi=u'.head? := by
 unfold cOp at h
 split at h <;> first | exact absurd (cCall_isCall h) (by simp [AOp.isCall]) | grind [Option.map_eq_some_iff]
theorem inv_sliceArr {len sz:Nat} {x:AO} {lo hi:Option AO} (h:cOp E o=some (.sliceArr len sz x lo hi)) :
    ∃ t y l u e n l' u',o.op=.slice t y l u none∧cO E y=some x∧E.P.underlying t=some (.array len e)∧E.P.info? e=some n∧sz=n.size∧cOs E l.toList=some l'∧cOs E u.toList=some u'∧lo=l'.head? ∧ hi=u'.head? := by
 unfold cOp at h
 split at h <;> first | exact absurd (cCall_isCall h) (by simp [AOp.isCall]) | grind [Option.map_eq_some_iff]
theorem inv_bslice {sz len:Nat} {zs:List AV} {ps:List (Nat × Nat × AO)} (h:cOp E o=some (.bslice sz len zs ps)) :
    ∃ t qs e i z zs',o.op=.buildSlice t len qs∧E.P.underlying t=some (.slice e)∧E.P.info? e=some i∧i.zero=some z∧cVs z.cells.toList=some zs'∧zs=(List.replicate len zs').flatten ∧
     cParts E (fun j=>some (j * i.size,i.size)) qs.toList=some ps∧z.cells.size=i.size∧len * i.size≤2 ^ 24∧0<i.size∧sz=i.size:=by
 unfold cOp at h
 split at h <;> first | exact absurd (cCall_isCall h) (by simp [AOp.isCall]) | grind [Option.map_eq_some_iff]
theorem inv_build {zs:List AV} {ps:List (Nat × Nat × AO)} (h:cOp E o=some (.build zs ps)) :
    ∃ t qs i z,o.op=.build t qs∧E.P.info? t=some i∧i.zero=some z∧cVs z.cells.toList=some zs ∧
     ((∃ fs places,E.P.underlying t=some (.struct fs)∧fs.toList.mapM (fun f=>(E.P.info? f.type).map fun i=>(f.offset,i.size))=some places∧cParts E (fun i=>places[i]?) qs.toList=some ps) ∨
      (∃ len e n,E.P.underlying t=some (.array len e)∧E.P.info? e=some n∧cParts E (fun i=>some (i * n.size,n.size)) qs.toList=some ps)):=by
 unfold cOp at h
 split at h <;> first | exact absurd (cCall_isCall h) (by simp [AOp.isCall]) | grind [Option.map_eq_some_iff,Option.bind_eq_some_iff]
theorem inv_mkMap (h:cOp E o=some .mkMap):∃ t,o.op=.makeMap t none:=by
 unfold cOp at h
 split at h <;> first | exact absurd (cCall_isCall h) (by simp [AOp.isCall]) | grind [Option.map_eq_some_iff,Option.bind_eq_some_iff]
theorem inv_mapGet {s ok:Bool} {z:PV} {m k:AO} (h:cOp E o=some (.mapGet s ok z m k)) :
    ∃ t x i kt et d zi zv,o.op=.lookup t x i ok∧E.P.underlying t=some (.map kt et)∧cO E x=some m∧cO E i=some k∧E.P.underlying kt=some d∧keyD s d=true∧E.P.info? et=some zi∧zi.zero=some zv∧cZ zv=some z:=by
 unfold cOp at h
 split at h <;> first | exact absurd (cCall_isCall h) (by simp [AOp.isCall]) | grind [Option.map_eq_some_iff,Option.bind_eq_some_iff]
theorem inv_rng {m:AO} (h:cOp E o=some (.rng m)):∃ t x kt et,o.op=.range t x∧E.P.underlying t=some (.map kt et)∧cO E x=some m:=by
 unfold cOp at h
 split at h <;> first | exact absurd (cCall_isCall h) (by simp [AOp.isCall]) | grind [Option.map_eq_some_iff,Option.bind_eq_some_iff]
theorem inv_nxt {m:AO} (h:cOp E o=some (.nxt m)):∃ x,o.op=.next x false∧cO E x=some m:=by
 unfold cOp at h
 split at h <;> first | exact absurd (cCall_isCall h) (by simp [AOp.isCall]) | grind [Option.map_eq_some_iff,Option.bind_eq_some_iff]
theorem inv_ent {m:AO} (h:cOp E o=some (.ent m)):∃ x,o.op=.entry x∧cO E x=some m:=by
 unfold cOp at h
 split at h <;> first | exact absurd (cCall_isCall h) (by simp [AOp.isCall]) | grind [Option.map_eq_some_iff,Option.bind_eq_some_iff]
theorem inv_mapPut {s:Bool} {m k v:AO} (h:cOp E o=some (.mapPut s m k v)) :
    ∃ t x i y kt et d,o.op=.mapUpdate t x i y∧o.dst=none∧E.P.underlying t=some (.map kt et)∧cO E x=some m∧cO E i=some k∧cO E y=some v∧E.P.underlying kt=some d∧keyD s d=true:=by
 unfold cOp at h
 split at h <;> first | exact absurd (cCall_isCall h) (by simp [AOp.isCall]) | grind [Option.map_eq_some_iff,Option.bind_eq_some_iff]
end
end
section
/-! ### Runs -/
section
variable {P:Program} {w:World}
theorem r_program {α:Type} (f:Program→Sem α):(program >>= f).run P w=(f P).run P w:=by
 rw [run_bind]; rfl
theorem r_underlying {t:TypeId} {d:TypeDesc} (h:P.underlying t=some d):(underlying t).run P w=.ok d w:=by
 unfold underlying
 rw [r_program,h]; rfl
theorem r_typeInfo {t:TypeId} {i:TypeInfo} (h:P.info? t=some i):(typeInfo t).run P w=.ok i w:=by
 unfold typeInfo
 rw [r_program]
 simp only [h]; rfl
theorem r_sizeOf {t:TypeId} {i:TypeInfo} (h:P.info? t=some i):(sizeOf t).run P w=.ok i.size w:=by
 unfold sizeOf
 rw [run_bind,r_typeInfo h]; rfl
theorem r_zeroValue {t:TypeId} {i:TypeInfo} {z:Value} (h:P.info? t=some i) (hz:i.zero=some z):(zeroValue t).run P w=.ok z w:=by
 unfold zeroValue
 rw [run_bind,r_typeInfo h]
 simp only [hz]; rfl
theorem r_isAgg {t:TypeId} {d:TypeDesc} (h:P.underlying t=some d):(isAgg t).run P w=.ok (isAggD d) w:=by
 unfold isAgg
 rw [run_bind,r_underlying h]
 cases d <;> rfl
theorem r_load {b o:Nat} {v:Value} (h:w.cell? ⟨b,o,none⟩=some v):(load ⟨b,o,none⟩).run P w=.ok v w:=by
 simp [load,Sem.run,h]
theorem add_eq (b o n:Nat):(⟨b,o,none⟩:Addr).add n=⟨b,o + n,none⟩:=by
 unfold Addr.add
 split
 · rename_i h; subst h; rfl
 · rfl
theorem r_loadCellsFrom (b o:Nat):∀ (vs:List Value) (i:Nat) (acc:Array Value),(∀ (j:Nat) v,vs[j]? = some v→w.cell? ⟨b,o + i + j,none⟩=some v) →
    (loadCellsFrom ⟨b,o,none⟩ i vs.length acc).run P w=.ok (acc ++ vs.toArray) w
 | [],i,acc,h=>by simp [loadCellsFrom,run_pure]
 | v :: r,i,acc,h=>by
  simp only [List.length_cons,loadCellsFrom]
  rw [run_bind,add_eq,r_load (v:=v) (by simpa using h 0 v rfl)]
  simp only
  rw [r_loadCellsFrom b o r (i + 1) _ (fun j u hu=>by have:=h (j + 1) u (by simpa using hu); rwa [show o + (i + 1) + j=o + i + (j + 1) by omega])]
  simp
theorem r_loadCells (b o:Nat) (vs:List Value) (n:Nat) (hn:n=vs.length) (h:∀ (j:Nat) v,vs[j]? = some v→w.cell? ⟨b,o + j,none⟩=some v) :
    (loadCells ⟨b,o,none⟩ n).run P w=.ok vs.toArray w:=by
 subst hn
 unfold loadCells
 rw [r_loadCellsFrom b o vs 0 #[] (by simpa using h)]
 simp
theorem r_storeCells (b o:Nat) (t:TypeId):∀ (vs:List Value) (i:Nat) (c:Array Value) (w:World),w.heap[b]? = some (.cells c t (0,0))→o + i + vs.length≤c.size→(∀ v ∈ vs,Scalar v) →
    (storeCells ⟨b,o,none⟩ vs i).run P w=.ok () (setB w b (.cells (patch c (o + i) vs) t (0,0)))
 | [],i,c,w,h,hl,hs=>by simp [storeCells,run_pure,patch,setB_self h]
 | v :: r,i,c,w,h,hl,hs=>by
  simp only [storeCells,List.length_cons] at hl ⊢
  have hv:=hs v (by simp)
  have hc:w.cell? ⟨b,o + i,none⟩=some (c[o + i]'(by omega)):=by rw [cell_of_heap h]; simp
  have hf:w.frozen? ⟨b,o + i,none⟩=false:=by simp [World.frozen?,h]
  have h1:(store ⟨b,o + i,none⟩ v).run P w=.ok () (w.setCell ⟨b,o + i,none⟩ v):=by
   unfold store
   cases v with
   | agg cs=>exact absurd rfl (hv.1 cs)
   | tuple cs=>exact absurd rfl (hv.2 cs)
   | _=>simp only [Sem.run,hc,hf]; rfl
  rw [run_bind,add_eq,h1]
  simp only
  rw [setCell_eq h]
  have hb:b<w.heap.size:=(Array.getElem?_eq_some_iff.1 h).1
  rw [r_storeCells b o t r (i + 1) _ _ (setB_same _ hb) (by simp; omega) (fun u hu=>hs u (by simp [hu])),setB_setB]
  rfl
end
/-! ### Rows that are read -/
section
variable {V:View}
theorem ARun_values:∀ {cs:List AV} {b o:Nat},ARun V cs b o→∃ vs,VAs V cs vs∧(∀ v ∈ vs,Scalar v)∧∀ (j:Nat) v,vs[j]? = some v→V.w.cell? ⟨b,o + j,none⟩=some v
 | [],b,o,h=>⟨[],by simp [VAs],by simp,fun j v h=>by simp at h⟩
 | c :: r,b,o,h=>by
  simp only [ARun] at h
  obtain ⟨⟨u,h1,hs,h2⟩,h3⟩:=h
  obtain ⟨vs,h4,hss,h5⟩:=ARun_values h3
  refine ⟨u :: vs,by simp only [VAs]; exact ⟨u,vs,rfl,h2,h4⟩,fun v hv=>?_,fun j v hv=>?_⟩
  · rcases List.mem_cons.1 hv with rfl | hv
    · exact hs
    · exact hss v hv
  cases j with
  | zero=>simp at hv; subst hv; exact h1
  | succ j=>have:=h5 j v (by simpa using hv); rwa [show o + 1 + j=o + (j + 1) by omega] at this
theorem VRun_values {E:Env} {w:World} {ok:Nat→Prop}:∀ {cs:List PV} {b o:Nat},VRun E w ok cs b o→∃ vs,VPs E w ok cs vs∧(∀ v ∈ vs,Scalar v)∧∀ (j:Nat) v,vs[j]? = some v→w.cell? ⟨b,o + j,none⟩=some v
 | [],b,o,h=>⟨[],by simp [VPs],by simp,fun j v h=>by simp at h⟩
 | c :: r,b,o,h=>by
  simp only [VRun] at h
  obtain ⟨⟨u,h1,hs,h2⟩,h3⟩:=h
  obtain ⟨vs,h4,hss,h5⟩:=VRun_values h3
  refine ⟨u :: vs,by simp only [VPs]; exact ⟨u,vs,rfl,h2,h4⟩,fun v hv=>?_,fun j v hv=>?_⟩
  · rcases List.mem_cons.1 hv with rfl | hv
    · exact hs
    · exact hss v hv
  cases j with
  | zero=>simp at hv; subst hv; exact h1
  | succ j=>have:=h5 j v (by simpa using hv); rwa [show o + 1 + j=o + (j + 1) by omega] at this
theorem ARun_sub {cs:List AV} {b o:Nat} (h:ARun V cs b o) (off n:Nat):ARun V ((cs.drop off).take n) b (o + off):=by
 rw [ARun_iff] at h ⊢
 intro j p hp
 rw [List.getElem?_take] at hp
 split at hp
 · rw [List.getElem?_drop] at hp
   have:=h (off + j) p hp
   rwa [← Nat.add_assoc] at this
 · simp at hp
theorem VRun_sub {E:Env} {w:World} {ok:Nat→Prop} {cs:List PV} {b o:Nat} (h:VRun E w ok cs b o) (off n:Nat):VRun E w ok ((cs.drop off).take n) b (o + off):=by
 rw [VRun_iff] at h ⊢
 intro j p hp
 rw [List.getElem?_take] at hp
 split at hp
 · rw [List.getElem?_drop] at hp
   have:=h (off + j) p hp
   rwa [← Nat.add_assoc] at this
 · simp at hp
theorem VAs_length:∀ {cs:List AV} {vs:List Value},VAs V cs vs→vs.length=cs.length:=fun h=>((VAs_iff _ _).1 h).1
theorem VPs_length {E:Env} {w:World} {ok:Nat→Prop} {cs:List PV} {vs:List Value} (h:VPs E w ok cs vs):vs.length=cs.length:=((VPs_iff _ _).1 h).1
end
def cellsAt (H:Hp):AV→Option (List AV)
 | .ptr id i off=>match H id with
  | .var cs=>some (cs.drop off)
  | .row _ es=>match es[i]? with
   | some e=>some (pvs (e.drop off))
   | none=>none
  | _=>none
 | .pv (.cptr cs off)=>some (pvs (cs.drop off))
 | _=>none
theorem pvs_length:∀ (ps:List PV),(pvs ps).length=ps.length
 | []=>rfl
 | p :: r=>by simp [pvs,pvs_length r]
theorem pvs_get:∀ (ps:List PV) (j:Nat),(pvs ps)[j]? = (ps[j]?).map .pv
 | [],j=>by simp [pvs]
 | p :: r,0=>by simp [pvs]
 | p :: r,j + 1=>by simp [pvs,pvs_get r j]
theorem pvs_run {V:View} {ps:List PV} {b o:Nat} (h:VRun V.E V.w V.ok ps b o):ARun V (pvs ps) b o:=by
 rw [VRun_iff] at h
 rw [ARun_iff]
 intro j p hp
 rw [pvs_get] at hp
 simp at hp
 obtain ⟨q,h1,rfl⟩:=hp
 obtain ⟨u,h2,hs,h3⟩:=h j q h1
 exact ⟨u,h2,hs,by simpa only [VA] using h3⟩
section
variable {X:Ctx} {M:Nat→Nat} {F:Fr} {H:Hp} {U:Nat→Prop} {a:Act} {w:World}
theorem cellsAt_ok (R:Rel X M F H U a w) {p:AV} {cs:List AV} {v:Value} (hc:cellsAt H p=some cs) (hv:VA (viewOf X w U M H) p v) :
    ∃ b o,v=.pointer (some ⟨b,o,none⟩)∧ARun (viewOf X w U M H) cs b o:=by
 unfold cellsAt at hc
 split at hc
 · rename_i id i off
   simp only [VA] at hv
   have hb:=R.blk id
   split at hc
   · rename_i cs' hid
     simp at hc
     subst hc
     rw [hid] at hb
     obtain ⟨c,t,h1,h2,h3⟩:=hb
     have:=hv.2.2 (0,0) (by simp [viewOf,hid,Blk.info])
     refine ⟨M id,off,by simpa [viewOf] using this,?_⟩
     have h4:=ARun_sub h3 off (cs'.drop off).length
     rw [List.take_length,Nat.zero_add] at h4
     exact h4
   · rename_i sz es hid
     split at hc
     · rename_i e he
       simp at hc
       subst hc
       rw [hid] at hb
       obtain ⟨c,t,h1,h2,h3⟩:=hb
       have:=hv.2.2 (sz,es.length) (by simp [viewOf,hid,Blk.info])
       refine ⟨M id,i * sz + off,by simpa [viewOf] using this,?_⟩
       have h4:=((VElems_iff es 0).1 h3 i e he).2
       have h5:=VRun_sub h4 off (e.drop off).length
       rw [List.take_length,Nat.zero_add] at h5
       exact pvs_run h5
     · simp at hc
   · simp at hc
 · rename_i ps off
   simp at hc
   subst hc
   simp only [VA,VP] at hv
   obtain ⟨b,o,h1,h2,h3⟩:=hv
   refine ⟨b,o + off,h1,?_⟩
   have h5:=VRun_sub h3 off (ps.drop off).length
   rw [List.take_length] at h5
   exact pvs_run h5
 · simp at hc
end
theorem r_loadVar_agg {P:Program} {w:World} {t:TypeId} {d:TypeDesc} {i:TypeInfo} (hu:P.underlying t=some d) (hi:P.info? t=some i) (ha:isAggD d=true) {b o:Nat} {vs:List Value} (hn:i.size=vs.length)
    (h:∀ (j:Nat) v,vs[j]? = some v→w.cell? ⟨b,o + j,none⟩=some v):(loadVar t ⟨b,o,none⟩).run P w=.ok (.agg vs.toArray) w:=by
 unfold loadVar
 rw [run_bind,r_isAgg hu]
 simp only [ha,if_true]
 rw [run_bind,r_sizeOf hi]
 simp only
 rw [run_bind,r_loadCells b o vs i.size hn h]
 rfl
theorem r_loadVar_one {P:Program} {w:World} {t:TypeId} {d:TypeDesc} (hu:P.underlying t=some d) (ha:isAggD d=false) {b o:Nat} {v:Value}
    (h:w.cell? ⟨b,o,none⟩=some v):(loadVar t ⟨b,o,none⟩).run P w=.ok v w:=by
 unfold loadVar
 rw [run_bind,r_isAgg hu]
 simp only [ha,Bool.false_eq_true,if_false]
 exact r_load h
theorem r_value {P:Program} {w w':World} {s:Sem Value} {v:Value} (h:s.run P w=.ok v w'):(do pure (Next.value (← s)):Sem Next).run P w=.ok (.value v) w':=by
 rw [run_bind,h]; rfl
def loadV (agg:Bool) (n:Nat) (cs:List AV):Option AV :=
 match Nat.beq (cs.take n).length n with
 | true=>match agg with
  | true=>some (mkAgg (cs.take n))
  | false=>match cs with
   | c :: _=>some c
   | []=>none
 | false=>none
theorem load_does {E:Env} (hE:E.OK) {N:Nat} {o:Oper} {F:Fr} {H:Hp} {U:Nat→Prop} {agg:Bool} {n:Nat} {x:AO} {cs:List AV} {v:AV}
    (hc:cOp E o=some (.load agg n x)) (hd:∀ k,o.dst=some k→k<N) (h1:cellsAt H (evO F x)=some cs) (h2:loadV agg n cs=some v):Does E N o F H U v [] U:=by
 obtain ⟨t,y,d,i,ho,hy,hu,hi,rfl,rfl,hn⟩:=inv_load hc
 refine Does.value hd fun X M a w hX R=>?_
 subst hX
 obtain ⟨b,off,h3,h4⟩:=cellsAt_ok R h1 (cO_ok hE R hy)
 have hex:execOp a.eval o=(do pure (Next.value (← loadVar t ⟨b,off,none⟩)):Sem Next):=by
  unfold execOp
  rw [ho]
  simp only [h3]
  rfl
 rw [hex]
 unfold loadV at h2
 split at h2
 · rename_i hl
   have hl:=Nat.eq_of_beq_eq_true hl
   have h5:=ARun_sub h4 0 i.size
   simp only [List.drop_zero,Nat.add_zero] at h5
   obtain ⟨vs,h6,_,h7⟩:=ARun_values h5
   have hlen:i.size=vs.length:=by rw [VAs_length h6,hl]
   split at h2
   · rename_i hagg
     simp at h2
     subst h2
     exact ⟨_,r_value (r_loadVar_agg hu hi hagg hlen h7),mkAgg_ok h6⟩
   · rename_i hagg
     split at h2
     · rename_i c r
       simp at h2
       subst h2
       rw [hn hagg] at h6 hlen
       simp only [List.take_succ_cons,List.take_zero,VAs] at h6
       obtain ⟨u,us,rfl,h8,rfl⟩:=h6
       have:=h7 0 u rfl
       simp only [Nat.add_zero] at this
       exact ⟨_,r_value (r_loadVar_one hu hagg this),h8⟩
     · simp at h2
 · simp at h2
end
section
section
variable {E:Env} {N:Nat} {o:Oper} {F:Fr} {H:Hp} {U:Nat→Prop}
theorem mv_does (hE:E.OK) {x:AO} (hc:cOp E o=some (.mv x)) (hd:∀ k,o.dst=some k→k<N):Does E N o F H U (evO F x) [] U:=by
 obtain ⟨y,ho,hy⟩:=inv_mv hc
 refine Does.value hd fun X M a w hX R=>?_
 subst hX
 refine ⟨a.eval y,?_,cO_ok hE R hy⟩
 unfold execOp
 rcases ho with ho | ho <;> rw [ho] <;> rfl
def pickV (t:Bool) (x y:AV):AV:=match x,y with
 | .pv (.bool p),.pv (.bool q)=>.pv (.bool (cond t p q))
 | x,y=>cond t x y
theorem pickV_ok {V:View} {t:Bool} {x y:AV} {u v:Value} (h1:VA V x u) (h2:VA V y v):VA V (pickV t x y) (if t then u else v):=by
 unfold pickV
 split
 · simp only [VA,VP] at h1 h2 ⊢
   subst h1; subst h2
   cases t <;> rfl
 · cases t
   · exact h2
   · exact h1
theorem pick_does (hE:E.OK) {c x y:AO} {t:Bool} (hc:cOp E o=some (.pick c x y)) (hd:∀ k,o.dst=some k→k<N) (h1:evO F c=.pv (.bool t)) :
    Does E N o F H U (pickV t (evO F x) (evO F y)) [] U:=by
 obtain ⟨c',x',y',ho,hc',hx,hy⟩:=inv_pick hc
 refine Does.value hd fun X M a w hX R=>?_
 subst hX
 have h2:=cO_ok hE R hc'
 rw [h1] at h2
 simp only [VA,VP] at h2
 refine ⟨if t then a.eval x' else a.eval y',?_,pickV_ok (cO_ok hE R hx) (cO_ok hE R hy)⟩
 unfold execOp
 rw [ho]
 simp only [h2]
 rfl
def nonNil (H:Hp):AV→Bool
 | .ptr id _ _=>match H id with
  | .dead=>false
  | _=>true
 | .pv (.cptr _ _)=>true
 | .pv (.func _ _ _)=>true
 | .func _ _ _=>true
 | .pv (.iface _ _)=>true
 | .iface _ _=>true
 | _=>false
theorem nilchk_does (hE:E.OK) {x:AO} (hc:cOp E o=some (.nilchk x)) (hd:∀ k,o.dst=some k→k<N) (h1:nonNil H (evO F x)=true):Does E N o F H U (evO F x) [] U:=by
 obtain ⟨y,ho,hy⟩:=inv_nilchk hc
 refine Does.value hd fun X M a w hX R=>?_
 subst hX
 have h2:=cO_ok hE R hy
 refine ⟨a.eval y,?_,h2⟩
 have hrun:(∀ u,a.eval y=.pointer (some u)→(execOp a.eval o).run X.E.P w=.ok (.value (a.eval y)) w) ∧
     (∀ f p q,a.eval y=.func (.func f) p q→(execOp a.eval o).run X.E.P w=.ok (.value (a.eval y)) w) ∧
     (∀ t u,a.eval y=.iface t u→(execOp a.eval o).run X.E.P w=.ok (.value (a.eval y)) w):=by
  refine ⟨fun u hu=>?_,fun f p q hu=>?_,fun t u hu=>?_⟩ <;> (unfold execOp; rw [ho]; simp only [hu]; rfl)
 generalize evO F x=v at h1 h2
 cases v <;> try (simp [nonNil] at h1; done)
 case pv p =>
  cases p <;> try (simp [nonNil] at h1; done)
  case cptr=>simp only [VA,VP] at h2; obtain ⟨b,o,h3,_⟩:=h2; exact hrun.1 _ h3
  case func=>simp only [VA,VP] at h2; obtain ⟨b,o,h3,_⟩:=h2; exact hrun.2.1 _ _ _ h3
  case iface=>simp only [VA,VP] at h2; obtain ⟨b,h3,_⟩:=h2; exact hrun.2.2 _ _ h3
 case ptr id i off =>
  simp only [VA] at h2
  have:∃ s,(H id).info=some s:=by
   simp only [nonNil] at h1
   cases hH:H id <;> simp [hH] at h1 <;> simp [Blk.info]
  obtain ⟨s,hs⟩:=this
  exact hrun.1 _ (h2.2.2 s hs)
 case func=>simp only [VA] at h2; obtain ⟨b,o,h3,_⟩:=h2; exact hrun.2.1 _ _ _ h3
 case iface=>simp only [VA] at h2; obtain ⟨b,h3,_⟩:=h2; exact hrun.2.2 _ _ h3
def intBin (op:BinOp) (k:IntKind) (a b:Int):Option PV :=
 match op with
 | .add=>some (.int k (k.wrap (a + b)))
 | .sub=>some (.int k (k.wrap (a - b)))
 | .mul=>some (.int k (k.wrap (a * b)))
 | .and=>some (.int k (k.wrap (BitVec.ofInt k.bits a &&& BitVec.ofInt k.bits b).toNat))
 | .or=>some (.int k (k.wrap (BitVec.ofInt k.bits a ||| BitVec.ofInt k.bits b).toNat))
 | .andNot=>some (.int k (k.wrap (BitVec.ofInt k.bits a &&& ~~~ BitVec.ofInt k.bits b).toNat))
 | .eql=>some (.bool (a == b))
 | .neq=>some (.bool (a != b))
 | .lss=>some (.bool (decide (a<b)))
 | .leq=>some (.bool (decide (a≤b)))
 | .gtr=>some (.bool (decide (a > b)))
 | .geq=>some (.bool (decide (a ≥ b)))
 | _=>none
theorem r_intBin {P:Program} {w:World} {op:BinOp} {t:TypeId} {k:IntKind} {a b:Int} {p:PV} {E:Env} {ok:Nat→Prop} (h:intBin op k a b=some p) :
    ∃ u,(binOp op t (.int k a) (.int k b)).run P w=.ok u w∧VP E w ok p u:=by
 unfold intBin at h
 cases op <;> simp at h <;> subst h <;> simp [binOp,Op.intArith,Op.intBits,Op.intCmp,run_pure,VP,bne]
theorem r_shift {P:Program} {w:World} {t:TypeId} {k j:IntKind} {a b:Int} (hb:0≤b) :
    (binOp .shl t (.int k a) (.int j b)).run P w=.ok (.int k (k.wrap (a * 2 ^ (min b.toNat k.bits)))) w ∧
    (binOp .shr t (.int k a) (.int j b)).run P w=.ok (.int k (a.fdiv (2 ^ (min b.toNat k.bits)))) w:=by
 have:¬ b<0:=by omega
 constructor <;> simp [binOp,Op.shift,this,run_pure]
theorem r_div {P:Program} {w:World} {t:TypeId} {k:IntKind} {a b:Int} (hb:b ≠ 0) :
    (binOp .quo t (.int k a) (.int k b)).run P w=.ok (.int k (k.wrap (a.tdiv b))) w ∧
    (binOp .rem t (.int k a) (.int k b)).run P w=.ok (.int k (a.tmod b)) w:=by
 constructor <;> simp [binOp,Op.intDiv,hb,run_pure]
theorem r_eqGuard_ints {P:Program} {w:World} {op:BinOp} {t:TypeId} {x y:Operand} {k j:IntKind} {a b:Int}:(eqGuard op t x y (.int k a) (.int j b)).run P w=.ok () w:=by
 unfold eqGuard
 cases op <;> rfl
def binV (op:BinOp) (x y:AV):Option AV :=
 match x,y with
 | .pv (.int k a),.pv (.int j b) =>
  match op with
  | .shl=>match b with
   | .ofNat n=>some (.pv (.int k (k.wrap (a * 2 ^ (min n k.bits)))))
   | _=>none
  | .shr=>match b with
   | .ofNat n=>some (.pv (.int k (a.fdiv (2 ^ (min n k.bits)))))
   | _=>none
  | .quo=>match b with
   | .ofNat (n + 1)=>if k=j then some (.pv (.int k (k.wrap (a.tdiv (.ofNat (n + 1)))))) else none
   | _=>none
  | .rem=>match b with
   | .ofNat (n + 1)=>if k=j then some (.pv (.int k (a.tmod (.ofNat (n + 1))))) else none
   | _=>none
  | op=>if k=j then match intBin op k a b with
   | some p=>some (.pv p)
   | none=>none
   else none
 | _,_=>none
theorem bin_does (hE:E.OK) {op:BinOp} {k:Option EqK} {x y:AO} {v:AV} (hc:cOp E o=some (.bin op k x y)) (hd:∀ k,o.dst=some k→k<N) (h1:binV op (evO F x) (evO F y)=some v) :
    Does E N o F H U v [] U:=by
 obtain ⟨t,x',y',u,ho,hx,hy,hk⟩:=inv_bin hc
 refine Does.value hd fun X M a w hX R=>?_
 subst hX
 have h2:=cO_ok hE R hx
 have h3:=cO_ok hE R hy
 unfold binV at h1
 split at h1
 · rename_i k1 a1 j1 b1 e1 e2
   rw [e1] at h2
   rw [e2] at h3
   simp only [VA,VP] at h2 h3
   have hex:execOp a.eval o=(do pure (Next.value (← (do eqGuard op t x' y' (.int k1 a1) (.int j1 b1); binOp op t (.int k1 a1) (.int j1 b1)))):Sem Next):=by
    unfold execOp
    rw [ho]
    simp only [h2,h3]
   have hg:∀ u,(binOp op t (.int k1 a1) (.int j1 b1)).run X.E.P w=.ok u w→(execOp a.eval o).run X.E.P w=.ok (.value u) w:=fun u hu=>by
    rw [hex]
    refine r_value ?_
    rw [run_bind,r_eqGuard_ints]
    exact hu
   split at h1
   · split at h1
     · rename_i n
       simp at h1
       subst h1
       exact ⟨_,hg _ ((r_shift (b:=.ofNat n) (by simp)).1),by simp [VA,VP]⟩
     · simp at h1
   · split at h1
     · rename_i n
       simp at h1
       subst h1
       exact ⟨_,hg _ ((r_shift (b:=.ofNat n) (by simp)).2),by simp [VA,VP]⟩
     · simp at h1
   · split at h1
     · rename_i n
       split at h1
       · rename_i hkj
         subst hkj
         simp at h1
         subst h1
         exact ⟨_,hg _ ((r_div (b:=.ofNat (n + 1)) (by simp; omega)).1),by simp [VA,VP]⟩
       · simp at h1
     · simp at h1
   · split at h1
     · rename_i n
       split at h1
       · rename_i hkj
         subst hkj
         simp at h1
         subst h1
         exact ⟨_,hg _ ((r_div (b:=.ofNat (n + 1)) (by simp; omega)).2),by simp [VA,VP]⟩
       · simp at h1
     · simp at h1
   · split at h1
     · rename_i hkj
       subst hkj
       split at h1
       · rename_i p hp
         simp at h1
         subst h1
         obtain ⟨u,h4,h5⟩:=r_intBin (P:=X.E.P) (w:=w) (t:=t) (E:=X.E) (ok:=okOf X w M H) hp
         exact ⟨u,hg u h4,by simp only [VA]; exact h5⟩
       · simp at h1
     · simp at h1
 · simp at h1
theorem not_does (hE:E.OK) {x:AO} {b:Bool} (hc:cOp E o=some (.not x)) (hd:∀ k,o.dst=some k→k<N) (h1:evO F x=.pv (.bool b)):Does E N o F H U (.pv (.bool (!b))) [] U:=by
 obtain ⟨t,y,ho,hy⟩:=inv_not hc
 refine Does.value hd fun X M a w hX R=>?_
 subst hX
 have h2:=cO_ok hE R hy
 rw [h1] at h2
 simp only [VA,VP] at h2
 refine ⟨.bool (!b),?_,by simp [VA,VP]⟩
 unfold execOp
 rw [ho]
 simp only [h2]
 rfl
theorem neg_does (hE:E.OK) {x:AO} {k:IntKind} {n:Int} (hc:cOp E o=some (.neg x)) (hd:∀ k,o.dst=some k→k<N) (h1:evO F x=.pv (.int k n)):Does E N o F H U (.pv (.int k (k.wrap (0 - n)))) [] U:=by
 obtain ⟨t,y,ho,hy⟩:=inv_neg hc
 refine Does.value hd fun X M a w hX R=>?_
 subst hX
 have h2:=cO_ok hE R hy
 rw [h1] at h2
 simp only [VA,VP] at h2
 refine ⟨.int k (k.wrap (0 - n)),?_,by simp [VA,VP]⟩
 unfold execOp
 rw [ho]
 simp only [h2]
 rfl
theorem conv_does (hE:E.OK) {x:AO} {k j:IntKind} {n:Int} (hc:cOp E o=some (.conv k x)) (hd:∀ k,o.dst=some k→k<N) (h1:evO F x=.pv (.int j n)):Does E N o F H U (.pv (.int k (k.wrap n))) [] U:=by
 obtain ⟨s,d,y,i,ho,hy,hs,hd'⟩:=inv_conv hc
 refine Does.value hd fun X M a w hX R=>?_
 subst hX
 have h2:=cO_ok hE R hy
 rw [h1] at h2
 simp only [VA,VP] at h2
 refine ⟨.int k (k.wrap n),?_,by simp [VA,VP]⟩
 unfold execOp
 rw [ho]
 refine r_value ?_
 unfold convert
 rw [run_bind,r_underlying hs]
 simp only
 rw [run_bind,r_underlying hd',h2]
 rfl
theorem mkI_does (hE:E.OK) {x:AO} {n:Nat} (hc:cOp E o=some (.mkI n x)) (hd:∀ k,o.dst=some k→k<N) :
    Does E N o F H U (match evO F x with | .pv p=>.pv (.iface n p) | v=>.iface n v) [] U:=by
 obtain ⟨t,y,d,ho,hy,hu,hn,ht⟩:=inv_mkI hc
 refine Does.value hd fun X M a w hX R=>?_
 subst hX
 have h2:=cO_ok hE R hy
 refine ⟨.iface t (a.eval y),?_,?_⟩
 · unfold execOp
   rw [ho]
   refine r_value ?_
   unfold Instr.makeInterface
   rw [run_bind,r_underlying hu]
   cases d <;> first | rfl | exact absurd rfl (hn _)
 · have e:=(hE.tau t n ht).1
   generalize evO F x=v at h2
   cases v <;> simp only [VA,VP] at h2 ⊢ <;> exact ⟨_,by rw [← e]; rfl,h2⟩
def allPVs (a b:List AV):Option (List PV × List PV):=match allPV a,allPV b with
 | some x,some y=>some (x,y)
 | _,_=>none
def mkFun (n:Nat) (f c:List AV):AV:=match allPVs f c with
 | some (x,y)=>.pv (.func n x y)
 | none=>.func n f c
theorem amap {α β:Type} (f:α→β) (xs:Array α):xs.map f=(xs.toList.map f).toArray:=by
 apply Array.toList_inj.1
 simp
theorem mkF_does (hE:E.OK) {n:Nat} {f c:List AO} (hc:cOp E o=some (.mkF n f c)) (hd:∀ k,o.dst=some k→k<N):Does E N o F H U (mkFun n (evOs F f) (evOs F c)) [] U:=by
 obtain ⟨g,f',c',ho,hg,hf,hcc⟩:=inv_mkF hc
 refine Does.value hd fun X M a w hX R=>?_
 subst hX
 have h1:=cOs_ok hE R hf
 have h2:=cOs_ok hE R hcc
 refine ⟨.func (.func g) (f'.map a.eval) (c'.map a.eval),?_,?_⟩
 · unfold execOp
   rw [ho]
   rfl
 · have e:=hE.rho g n hg
   unfold mkFun allPVs
   split
   · rename_i x y h3
     split at h3
     · rename_i ps qs h4 h5
       simp at h3
       obtain ⟨rfl,rfl⟩:=h3
       simp only [VA,VP]
       exact ⟨_,_,by rw [show (viewOf X w U M H).E=X.E from rfl,e,amap,amap],allPV_ok h4 h1,allPV_ok h5 h2⟩
     · simp at h3
   · simp only [VA]
     exact ⟨_,_,by rw [show (viewOf X w U M H).E=X.E from rfl,e,amap,amap],h1,h2⟩
def fieldA (off:Nat):AV→Option AV
 | .ptr id i o=>some (.ptr id i (o + off))
 | .pv (.cptr cs o)=>some (.pv (.cptr cs (o + off)))
 | _=>none
theorem r_fieldAt {P:Program} {w:World} {s:TypeId} {fs:Array Field} {f:Nat} {fd:Field} {i:TypeInfo} {b q:Nat} (hu:P.underlying s=some (.struct fs)) (hf:fs[f]? = some fd)
    (hi:P.info? fd.type=some i) (hn:i.size ≠ 0):(Instr.fieldAt s (.pointer (some ⟨b,q,none⟩)) f).run P w=.ok (.pointer (some ⟨b,q + fd.offset,none⟩)) w:=by
 have h1:(fieldPlace ⟨b,q,none⟩ fd).run P w=.ok ⟨b,q + fd.offset,none⟩ w:=by
  unfold fieldPlace
  rw [run_bind,r_sizeOf hi]
  simp only [hn,if_false]
  rw [run_pure,add_eq]
 unfold Instr.fieldAt
 rw [run_bind,r_underlying hu]
 simp only [hf,Instr.sureAddr]
 rw [run_bind,run_pure]
 simp only
 rw [run_bind,h1]
 rfl
theorem fieldAddr_does (hE:E.OK) {x:AO} {off:Nat} {v:AV} (hc:cOp E o=some (.fieldAddr off x)) (hd:∀ k,o.dst=some k→k<N) (h1:fieldA off (evO F x)=some v) (h0:nonNil H (evO F x)=true) :
    Does E N o F H U v [] U:=by
 obtain ⟨s,y,f,fs,fd,i,ho,hy,hu,hf,hi,hn,rfl⟩:=inv_fieldAddr hc
 refine Does.value hd fun X M a w hX R=>?_
 subst hX
 have h2:=cO_ok hE R hy
 have hrun:∀ b q,a.eval y=.pointer (some ⟨b,q,none⟩)→(execOp a.eval o).run X.E.P w=.ok (.value (.pointer (some ⟨b,q + fd.offset,none⟩))) w:=fun b q hq=>by
  unfold execOp
  rw [ho]
  refine r_value ?_
  rw [hq]
  exact r_fieldAt hu hf hi hn
 unfold fieldA at h1
 split at h1
 · rename_i id j q e
   simp at h1
   subst h1
   rw [e] at h2 h0
   simp only [VA] at h2
   have:∃ s,(H id).info=some s:=by
    simp only [nonNil] at h0
    cases hH:H id <;> simp [hH] at h0 <;> simp [Blk.info]
   obtain ⟨s',hs⟩:=this
   have h3:=h2.2.2 s' hs
   refine ⟨_,hrun _ _ h3,?_⟩
   simp only [VA]
   refine ⟨h2.1,⟨by simp,by simp⟩,fun s hs2=>?_⟩
   have:s=s':=by
    have:some s=some s':=by rw [← hs2]; exact hs
    simpa using this
   subst this
   rw [Nat.add_assoc]
 · rename_i cs q e
   simp at h1
   subst h1
   rw [e] at h2
   simp only [VA,VP] at h2
   obtain ⟨b,q',h3,h4,h5⟩:=h2
   refine ⟨_,hrun _ _ h3,?_⟩
   simp only [VA,VP]
   exact ⟨b,q',by rw [Nat.add_assoc],h4,h5⟩
 · simp at h1
def extractV (i:Nat):AV→Option AV
 | .pv (.tuple ps)=>match ps[i]? with
  | some p=>some (.pv p)
  | none=>none
 | .tuple vs=>vs[i]?
 | _=>none
theorem extract_does (hE:E.OK) {x:AO} {i:Nat} {v:AV} (hc:cOp E o=some (.extract x i)) (hd:∀ k,o.dst=some k→k<N) (h1:extractV i (evO F x)=some v):Does E N o F H U v [] U:=by
 obtain ⟨y,ho,hy⟩:=inv_extract hc
 refine Does.value hd fun X M a w hX R=>?_
 subst hX
 have h2:=cO_ok hE R hy
 have hrun:∀ (vs:List Value) u,a.eval y=.tuple vs.toArray→vs[i]? = some u→(execOp a.eval o).run X.E.P w=.ok (.value u) w:=fun vs u h3 h4=>by
  unfold execOp
  rw [ho]
  refine r_value ?_
  unfold Instr.extract
  simp only [h3,List.getElem?_toArray,h4]
  rfl
 unfold extractV at h1
 split at h1
 · rename_i ps e
   rw [e] at h2
   simp only [VA,VP] at h2
   obtain ⟨vs,h3,h4⟩:=h2
   split at h1
   · rename_i p hp
     simp at h1
     subst h1
     obtain ⟨h5,h6⟩:=(VPs_iff _ _).1 h4
     have hlt:i<vs.length:=by rw [h5]; exact (List.getElem?_eq_some_iff.1 hp).1
     exact ⟨_,hrun vs vs[i] h3 (by simp [hlt]),by simpa only [VA] using h6 i p _ hp (by simp [hlt])⟩
   · simp at h1
 · rename_i vs' e
   rw [e] at h2
   simp only [VA] at h2
   obtain ⟨vs,h3,h4⟩:=h2
   obtain ⟨h5,h6⟩:=(VAs_iff _ _).1 h4
   have hlt:i<vs.length:=by rw [h5]; exact (List.getElem?_eq_some_iff.1 h1).1
   exact ⟨_,hrun vs vs[i] h3 (by simp [hlt]),h6 i v _ h1 (by simp [hlt])⟩
 · simp at h1
def lenV (H:Hp):AV→Option Nat
 | .pv (.slice es)=>some es.length
 | .nils=>some 0
 | .ms id=>match H id with
  | .row _ es=>some es.length
  | _=>none
 | .msub id _ len=>match H id with
  | .row _ _=>some len
  | _=>none
 | _=>none
theorem lenV_ok {X:Ctx} {M:Nat→Nat} {w:World} {v:AV} {n:Nat} {u:Value} (h:lenV H v=some n) (hv:VA (viewOf X w U M H) v u):∃ A cap,u=.slice A n cap:=by
 unfold lenV at h
 split at h
 · rename_i es
   simp at h
   subst h
   simp only [VA,VP] at hv
   obtain ⟨A,len,cap,h1,h2,_⟩:=hv
   exact ⟨A,cap,by rw [h1,h2]⟩
 · simp at h
   subst h
   simp only [VA] at hv
   exact ⟨_,_,hv⟩
 · rename_i id
   split at h
   · rename_i sz es hid
     simp at h
     subst h
     simp only [VA] at hv
     obtain ⟨cap,t,tot,h1,_⟩:=hv.2.2 (sz,es.length) (by simp [viewOf,hid,Blk.info])
     exact ⟨_,_,h1⟩
   · simp at h
 · rename_i id off len
   split at h
   · rename_i sz es hid
     simp at h
     subst h
     simp only [VA] at hv
     obtain ⟨A,cap,t,tot,h1,_⟩:=hv.2.2 (sz,es.length) (by simp [viewOf,hid,Blk.info])
     exact ⟨_,_,h1⟩
   · simp at h
 · simp at h
theorem r_call_builtin {P:Program} {o:Oper} {c:Call} {b:Builtin} {ev:Operand→Value} (ho:o.op=.call c) (hb:c.callee=.builtin b) :
    execOp ev o=builtin b c.argTypes o.type (c.args.map fun | .const _=>true | _=>false) (c.args.map ev):=by
 unfold execOp
 rw [ho]
 simp only [resolve,hb]
 rfl
theorem len_does (hE:E.OK) {x:AO} {n:Nat} (hc:cOp E o=some (.len x)) (hd:∀ k,o.dst=some k→k<N) (h1:lenV H (evO F x)=some n):Does E N o F H U (.pv (.int .i64 n)) [] U:=by
 obtain ⟨c,t,y,ho,hb,ht,ha,hy,e,hu⟩:=inv_len hc
 refine Does.value hd fun X M a w hX R=>?_
 subst hX
 obtain ⟨A,cap,h2⟩:=lenV_ok h1 (cO_ok hE R hy)
 refine ⟨.int .i64 n,?_,by simp [VA,VP]⟩
 rw [r_call_builtin (P:=X.E.P) ho hb]
 have ht':c.argTypes[0]? = some t:=by rw [← Array.getElem?_toList,ht]; rfl
 have ha':(c.args.map a.eval)[0]? = some (a.eval y):=by rw [Array.getElem?_map,← Array.getElem?_toList,ha]; rfl
 refine r_value ?_
 unfold Builtin.len_
 rw [ht',ha']
 simp only
 rw [run_bind,r_underlying hu,h2]
 rfl
theorem lenS_does (hE:E.OK) {x:AO} {s:ByteArray} (hc:cOp E o=some (.lenS x)) (hd:∀ k,o.dst=some k→k<N) (h1:evO F x=.pv (.str s)):Does E N o F H U (.pv (.int .i64 s.size)) [] U:=by
 obtain ⟨c,t,y,ho,hb,ht,ha,hy,hu⟩:=inv_lenS hc
 refine Does.value hd fun X M a w hX R=>?_
 subst hX
 have h2:=cO_ok hE R hy
 rw [h1] at h2
 simp only [VA,VP] at h2
 refine ⟨.int .i64 s.size,?_,by simp [VA,VP]⟩
 rw [r_call_builtin (P:=X.E.P) ho hb]
 have ht':c.argTypes[0]? = some t:=by rw [← Array.getElem?_toList,ht]; rfl
 have ha':(c.args.map a.eval)[0]? = some (a.eval y):=by rw [Array.getElem?_map,← Array.getElem?_toList,ha]; rfl
 refine r_value ?_
 unfold Builtin.len_
 rw [ht',ha']
 simp only
 rw [run_bind,r_underlying hu,h2]
 rfl
theorem lenC_does (hE:E.OK) {n:Nat} (hc:cOp E o=some (.lenC n)) (hd:∀ k,o.dst=some k→k<N):Does E N o F H U (.pv (.int .i64 n)) [] U:=by
 obtain ⟨c,t,y,e,ho,hb,ht,ha,hu⟩:=inv_lenC hc
 refine Does.value hd fun X M a w hX R=>?_
 subst hX
 refine ⟨.int .i64 n,?_,by simp [VA,VP]⟩
 rw [r_call_builtin (P:=X.E.P) ho hb]
 have ht':c.argTypes[0]? = some t:=by rw [← Array.getElem?_toList,ht]; rfl
 have ha':(c.args.map a.eval)[0]? = some (a.eval y):=by rw [Array.getElem?_map,← Array.getElem?_toList,ha]; rfl
 refine r_value ?_
 unfold Builtin.len_
 rw [ht',ha']
 simp only
 rw [run_bind,r_underlying hu]
 rfl
end
/-! ### Values without owned memory -/
mutual
def pureV:AV→Option PV
 | .pv p=>some p
 | .nils=>some (.slice [])
 | .func f fs cs=>match pureVs fs,pureVs cs with
  | some a,some b=>some (.func f a b)
  | _,_=>none
 | .iface t v=>match pureV v with
  | some p=>some (.iface t p)
  | none=>none
 | .agg cs=>match pureVs cs with
  | some l=>some (.agg l)
  | none=>none
 | .tuple cs=>match pureVs cs with
  | some l=>some (.tuple l)
  | none=>none
 | _=>none
def pureVs:List AV→Option (List PV)
 | []=>some []
 | c :: r=>match pureV c,pureVs r with
  | some p,some l=>some (p :: l)
  | _,_=>none
end
mutual
theorem pureV_ok {V:View}:(c:AV)→(p:PV)→(v:Value)→pureV c=some p→VA V c v→VP V.E V.w V.ok p v
 | .pv q,p,v,h,hv=>by simp [pureV] at h; subst h; simpa only [VA] using hv
 | .nils,p,v,h,hv=>by
  simp [pureV] at h; subst h
  simp only [VA] at hv
  subst hv
  simp only [VP]
  exact ⟨none,0,0,rfl,rfl,Nat.le_refl _,fun h=>by simp at h⟩
 | .bot,p,v,h,hv=>by simp [pureV] at h
 | .ptr _ _ _,p,v,h,hv=>by simp [pureV] at h
 | .ms _,p,v,h,hv=>by simp [pureV] at h
 | .msub _ _ _,p,v,h,hv=>by simp [pureV] at h
 | .map _,p,v,h,hv=>by simp [pureV] at h
 | .func f fs cs,p,v,h,hv=>by
  simp only [pureV] at h
  split at h
  · rename_i x y h1 h2
    simp at h
    subst h
    simp only [VA,VP] at hv ⊢
    obtain ⟨vs,us,g1,g2,g3⟩:=hv
    exact ⟨vs,us,g1,pureVs_ok fs x vs h1 g2,pureVs_ok cs y us h2 g3⟩
  · simp at h
 | .iface t u,p,v,h,hv=>by
  simp only [pureV] at h
  split at h
  · rename_i x h1
    simp at h
    subst h
    simp only [VA,VP] at hv ⊢
    obtain ⟨y,g1,g2⟩:=hv
    exact ⟨y,g1,pureV_ok u x y h1 g2⟩
  · simp at h
 | .agg cs,p,v,h,hv=>by
  simp only [pureV] at h
  split at h
  · rename_i x h1
    simp at h
    subst h
    simp only [VA,VP] at hv ⊢
    obtain ⟨vs,g1,g2⟩:=hv
    exact ⟨vs,g1,pureVs_ok cs x vs h1 g2⟩
  · simp at h
 | .tuple cs,p,v,h,hv=>by
  simp only [pureV] at h
  split at h
  · rename_i x h1
    simp at h
    subst h
    simp only [VA,VP] at hv ⊢
    obtain ⟨vs,g1,g2⟩:=hv
    exact ⟨vs,g1,pureVs_ok cs x vs h1 g2⟩
  · simp at h
theorem pureVs_ok {V:View}:(cs:List AV)→(ps:List PV)→(vs:List Value)→pureVs cs=some ps→VAs V cs vs→VPs V.E V.w V.ok ps vs
 | [],ps,vs,h,hv=>by simp [pureVs] at h; subst h; simpa [VAs,VPs] using hv
 | c :: r,ps,vs,h,hv=>by
  simp only [pureVs] at h
  split at h
  · rename_i p l h1 h2
    simp at h
    subst h
    simp only [VAs,VPs] at hv ⊢
    obtain ⟨u,us,g1,g2,g3⟩:=hv
    exact ⟨u,us,g1,pureV_ok c p u h1 g2,pureVs_ok r l us h2 g3⟩
  · simp at h
end
end
section
/-! ### Values filled in -/
theorem patch_foldl:∀ (vs:List Value) (c:Array Value) (off j:Nat),(vs.zipIdx j).foldl (fun cs (x:Value × Nat)=>cs.setIfInBounds (off + x.2) x.1) c=patch c (off + j) vs
 | [],c,off,j=>rfl
 | v :: r,c,off,j=>by
  simp only [List.zipIdx_cons,List.foldl_cons,patch]
  rw [patch_foldl r _ off (j + 1)]
  rfl
def fillA (F:Fr) (zs:List AV):List (Nat × Nat × AO)→Option (List AV)
 | []=>some zs
 | (off,n,x) :: r=>match cellsOf (evO F x) with
  | some cs=>match Nat.beq cs.length n,Nat.ble (off + n) zs.length with
   | true,true=>fillA F (patchL zs off cs) r
   | _,_=>none
  | none=>none
theorem VAs_patch {V:View} {zs cs:List AV} {c:Array Value} {vs:List Value} {off:Nat} (h1:VAs V zs c.toList) (h2:VAs V cs vs) (hl:off + cs.length≤zs.length):VAs V (patchL zs off cs) (patch c off vs).toList:=by
 have l1:=VAs_length h1
 have l2:=VAs_length h2
 have hc:c.size=zs.length:=by simpa using l1
 rw [VAs_iff]
 refine ⟨by rw [patchL_length]; simp [patch_size,hc],fun j p v hp hv=>?_⟩
 rw [patchL_get _ _ _ _ hl] at hp
 rw [Array.getElem?_toList,patch_get _ _ _ _ (by rw [l2,hc]; exact hl),l2] at hv
 split at hp
 · rename_i hj
   rw [if_pos hj] at hv
   exact ((VAs_iff _ _).1 h2).2 _ p v hp hv
 · rename_i hj
   rw [if_neg hj] at hv
   exact ((VAs_iff _ _).1 h1).2 j p v hp (by simpa using hv)
theorem patch_scalar {c:Array Value} {off:Nat} {vs:List Value} (h1:∀ v ∈ c.toList,Scalar v) (h2:∀ v ∈ vs,Scalar v):∀ v ∈ (patch c off vs).toList,Scalar v:=by
 induction vs generalizing c off with
 | nil=>exact h1
 | cons u r ih =>
  simp only [patch]
  refine ih (fun v hv=>?_) (fun v hv=>h2 v (by simp [hv]))
  simp only [Array.toList_setIfInBounds] at hv
  rcases List.mem_or_eq_of_mem_set hv with h | h
  · exact h1 v h
  · rw [h]; exact h2 u (by simp)
section
variable {X:Ctx} {M:Nat→Nat} {F:Fr} {H:Hp} {U:Nat→Prop} {a:Act} {w:World}
theorem fill_ok (hE:X.E.OK) (R:Rel X M F H U a w) {place:Nat→Option (Nat × Nat)}:∀ {qs:List (Nat × Operand)} {ps:List (Nat × Nat × AO)} {zs cs:List AV} {c:Array Value},
    cParts X.E place qs=some ps→fillA F zs ps=some cs→VAs (viewOf X w U M H) zs c.toList →
    ∃ c',Instr.fill place c (qs.map fun (i,x)=>(i,a.eval x))=some c'∧VAs (viewOf X w U M H) cs c'.toList
 | [],ps,zs,cs,c,h1,h2,h3=>by
  simp [cParts] at h1; subst h1
  simp [fillA] at h2; subst h2
  exact ⟨c,rfl,h3⟩
 | (i,x) :: r,ps,zs,cs,c,h1,h2,h3=>by
  simp only [cParts] at h1
  split at h1
  · rename_i off n y l e1 e2 e3
    simp at h1
    subst h1
    simp only [fillA] at h2
    split at h2
    · rename_i cs' e4
      split at h2
      · rename_i e5 e6
        have e5:=Nat.eq_of_beq_eq_true e5
        have e6:=Nat.le_of_ble_eq_true e6
        have h4:=cellsOf_ok e4 (cO_ok hE R e2)
        have l4:=VAs_length h4
        have l3:=VAs_length h3
        obtain ⟨c',h5,h6⟩:=fill_ok hE R e3 h2 (VAs_patch (off:=off) h3 h4 (by rw [e5]; exact e6))
        refine ⟨c',?_,h6⟩
        simp only [List.map_cons,Instr.fill,e1]
        rw [if_neg]
        · rw [← Array.foldl_toList,Array.toList_zipIdx,patch_foldl]
          exact h5
        · simp only [Array.length_toList] at l3 l4
          simp only [Bool.or_eq_true,decide_eq_true_eq,not_or]
          constructor
          · simp only [ne_eq,Decidable.not_not]; omega
          · omega
      · simp at h2
    · simp at h2
  · simp at h1
end
section
variable {E:Env} {N:Nat} {o:Oper} {F:Fr} {H:Hp} {U:Nat→Prop}
theorem build_does (hE:E.OK) {zs cs:List AV} {ps:List (Nat × Nat × AO)} (hc:cOp E o=some (.build zs ps)) (hd:∀ k,o.dst=some k→k<N) (h1:fillA F zs ps=some cs):Does E N o F H U (mkAgg cs) [] U:=by
 obtain ⟨t,qs,i,z,ho,hi,hz,hzs,hh⟩:=inv_build hc
 refine Does.value hd fun X M a w hX R=>?_
 subst hX
 have hex:execOp a.eval o=(do pure (Next.value (← Instr.build t (qs.map fun (i,x)=>(i,a.eval x)))):Sem Next):=by
  unfold execOp
  rw [ho]
 have hl:(qs.map fun (i,x)=>(i,a.eval x)).toList=qs.toList.map fun (i,x)=>(i,a.eval x):=by simp
 rcases hh with ⟨fs,places,hu,hp,hq⟩ | ⟨len,e,n,hu,hn,hq⟩
 · obtain ⟨c',h2,h3⟩:=fill_ok hE R hq h1 (cVs_ok (V:=viewOf X w U M H) hzs)
   refine ⟨.agg c',?_,?_⟩
   · rw [hex]
     refine r_value (run_build w t _ c' ?_)
     unfold Program.built
     rw [hi,hu]
     simp only [hz,hp]
     rw [hl]
     simpa using h2
   · have:=mkAgg_ok h3
     simpa using this
 · obtain ⟨c',h2,h3⟩:=fill_ok hE R hq h1 (cVs_ok (V:=viewOf X w U M H) hzs)
   refine ⟨.agg c',?_,?_⟩
   · rw [hex]
     refine r_value (run_build w t _ c' ?_)
     unfold Program.built
     rw [hi,hu]
     simp only [hz,hn]
     rw [hl]
     exact h2
   · have:=mkAgg_ok h3
     simpa using this
/-! ### A new block -/
theorem Rel.new_turn {X:Ctx} {M:Nat→Nat} {a:Act} {w:World} (R:Rel X M F H U a w) (o:Obj) (B:Blk) (k:Nat) (hk:¬ U k) :
    Turns (viewOf X w U M H) (viewOf X { w with heap:=w.heap.push o } (fun i=>U i∨i=k) (upM M k w.heap.size) (wr H [(k,B)])):=by
 have hH:∀ i,k ≠ i→wr H [(k,B)] i=H i:=fun i h=>by rw [wr_other H B [] h]; rfl
 refine R.turn (by simp) (fun b hb _=>heap_push w o b hb) (fun i hi=>?_) (fun i h=>.inl h) (fun i s hu hs=>?_)
 · by_cases h:k=i
   · subst h; exact .inr (by rw [upM_same]; exact Nat.le_refl _)
   · rw [hH i h] at hi; exact .inl ⟨i,hi,upM_other h⟩
 · by_cases h:k=i
   · subst h; exact absurd hu hk
   · rw [hH i h] at hs
     refine ⟨hs,upM_other h,shape_of_heap (heap_push w o _ (R.own i ?_).1)⟩
     intro h'
     rw [h'] at hs
     simp [Blk.info] at hs
theorem Does.newBlk {v:AV} {B:Blk} {k:Nat} (hk:¬ U k) (hd:∀ k,o.dst=some k→k<N) (hB:B ≠ .dead)
    (h:∀ X M a w,X.E=E→Rel X M F H U a w→∃ ob u,(execOp a.eval o).run E.P w=.ok (.value u) { w with heap:=w.heap.push ob } ∧
     BlkOK (viewOf X { w with heap:=w.heap.push ob } (fun i=>U i∨i=k) (upM M k w.heap.size) (wr H [(k,B)])) w.heap.size B ∧
     VA (viewOf X { w with heap:=w.heap.push ob } (fun i=>U i∨i=k) (upM M k w.heap.size) (wr H [(k,B)])) v u) :
    Does E N o F H U v [(k,B)] (fun i=>U i∨i=k):=by
 intro X M a w Q hE hN R
 obtain ⟨ob,u,h1,h2,h3⟩:=h X M a w hE R
 rw [Oper.wp,h1,Oper.upon_value]
 exact ⟨_,(R.new ob B k hk hB h2).put h3 (fun k hk=>by rw [hN]; exact hd k hk)⟩
theorem ARun_of_values {V:View} {cs:List AV} {vs:List Value} {b o:Nat} (h:VAs V cs vs) (hs:∀ v ∈ vs,Scalar v) (hc:∀ (j:Nat) v,vs[j]? = some v→V.w.cell? ⟨b,o + j,none⟩=some v):ARun V cs b o:=by
 obtain ⟨h1,h2⟩:=(VAs_iff _ _).1 h
 rw [ARun_iff]
 intro j p hp
 have hlt:j<vs.length:=by rw [h1]; exact (List.getElem?_eq_some_iff.1 hp).1
 exact ⟨vs[j],hc j _ (by simp [hlt]),hs _ (List.getElem_mem _),h2 j p _ hp (by simp [hlt])⟩
theorem newVar_facts {X:Ctx} {M:Nat→Nat} {a:Act} {w:World} (R:Rel X M F H U a w) {k:Nat} (hk:¬ U k) {cs:List AV} {c:Array Value} {t:TypeId} (h:VAs (viewOf X w U M H) cs c.toList) (hs:∀ v ∈ c.toList,Scalar v) :
    BlkOK (viewOf X { w with heap:=w.heap.push (.cells c t (0,0)) } (fun i=>U i∨i=k) (upM M k w.heap.size) (wr H [(k,.var cs)])) w.heap.size (.var cs) ∧
    VA (viewOf X { w with heap:=w.heap.push (.cells c t (0,0)) } (fun i=>U i∨i=k) (upM M k w.heap.size) (wr H [(k,.var cs)])) (.ptr k 0 0) (.pointer (some ⟨w.heap.size,0,none⟩)):=by
 have T:=R.new_turn (.cells c t (0,0)) (.var cs) k hk
 constructor
 · refine ⟨c,t,heap_push_new _ _,by have:=VAs_length h; simpa using this,ARun_of_values (VAs_turns T _ _ h) hs fun j v hv=>?_⟩
   have:(viewOf X { w with heap:=w.heap.push (.cells c t (0,0)) } (fun i=>U i∨i=k) (upM M k w.heap.size) (wr H [(k,.var cs)])).w.heap[w.heap.size]? = some (.cells c t (0,0)):=heap_push_new _ _
   rw [cell_of_heap this]
   simpa using hv
 · simp only [VA]
   refine ⟨.inr rfl,⟨by simp,by simp⟩,fun s hs=>?_⟩
   have:some (0,0)=some s:=by rw [← hs]; simp [viewOf,wr_same,Blk.info]
   simp at this
   subst this
   simp [viewOf,upM_same]
theorem alloc_does (hE:E.OK) {cs:List AV} {k:Nat} (hc:cOp E o=some (.alloc cs)) (hd:∀ k,o.dst=some k→k<N) (hk:¬ U k):Does E N o F H U (.ptr k 0 0) [(k,.var cs)] (fun i=>U i∨i=k):=by
 obtain ⟨e,i,z,ho,hi,hz,hcs⟩:=inv_alloc hc
 refine Does.newBlk hk hd (by simp) fun X M a w hX R=>?_
 subst hX
 refine ⟨.cells z.cells e (0,0),.pointer (some ⟨w.heap.size,0,none⟩),?_,newVar_facts R hk (cVs_ok hcs) (cVs_scal hcs)⟩
 unfold execOp
 rw [ho]
 refine r_value ?_
 unfold Instr.alloc
 rw [run_bind,r_zeroValue hi hz]
 rfl
theorem box_does (hE:E.OK) {x:AO} {cs:List AV} {k:Nat} (hc:cOp E o=some (.box x)) (hd:∀ k,o.dst=some k→k<N) (hk:¬ U k) (h1:cellsOf (evO F x)=some cs) (hs:scals cs=true) :
    Does E N o F H U (.ptr k 0 0) [(k,.var cs)] (fun i=>U i∨i=k):=by
 obtain ⟨e,y,ho,hy⟩:=inv_box hc
 refine Does.newBlk hk hd (by simp) fun X M a w hX R=>?_
 subst hX
 refine ⟨.cells (a.eval y).cells e (0,0),.pointer (some ⟨w.heap.size,0,none⟩),?_,newVar_facts R hk (cellsOf_ok h1 (cO_ok hE R hy)) (scals_ok hs (cellsOf_ok h1 (cO_ok hE R hy)))⟩
 unfold execOp
 rw [ho]
 rfl
/-! ### A store -/
def storeB (H:Hp) (p:AV) (cs:List AV):Option (Nat × Blk) :=
 match p with
 | .ptr id i off=>match H id with
  | .var old=>match Nat.ble (off + cs.length) old.length with
   | true=>some (id,.var (patchL old off cs))
   | false=>none
  | .row sz es=>match es[i]?,pureVs cs with
   | some e,some ps=>match Nat.ble (off + cs.length) e.length with
    | true=>some (id,.row sz (es.set i (patchL e off ps)))
    | false=>none
   | _,_=>none
  | _=>none
 | _=>none
theorem Does.write {N:Nat} {id:Nat} {B:Blk} (hd:o.dst=none)
    (h:∀ X M a w,X.E=E→Rel X M F H U a w→∃ ob,(execOp a.eval o).run E.P w=.ok .skip (setB w (M id) ob)∧H id ≠ .dead∧B ≠ .dead∧B.info=(H id).info ∧
     (setB w (M id) ob).shape? (M id)=w.shape? (M id)∧BlkOK (viewOf X (setB w (M id) ob) U M (wr H [(id,B)])) (M id) B) :
    Does E N o F H U .bot [(id,B)] U:=by
 intro X M a w Q hE hN R
 obtain ⟨ob,h1,h2,h3,h4,h5,h6⟩:=h X M a w hE R
 rw [Oper.wp,h1,Oper.upon_skip]
 refine ⟨M,?_⟩
 rw [hd]
 exact R.write ob B id h2 h3 h4 h5 h6
theorem store_does (hE:E.OK) {n:Nat} {x y:AO} {cs:List AV} {id:Nat} {B:Blk} (hc:cOp E o=some (.store n x y)) (hd:o.dst=none) (h1:cellsOf (evO F y)=some cs) (h2:Nat.beq cs.length n=true)
    (h3:scals cs=true) (h4:storeB H (evO F x) cs=some (id,B)):Does E N o F H U .bot [(id,B)] U:=by
 obtain ⟨t,x',y',i,ho,hx,hy,hi,rfl⟩:=inv_store hc
 have h2:=Nat.eq_of_beq_eq_true h2
 refine Does.write hd fun X M a w hX R=>?_
 subst hX
 have hvx:=cO_ok hE R hx
 have hvs:=cellsOf_ok h1 (cO_ok hE R hy)
 have hlen:=VAs_length hvs
 have hscal:=scals_ok h3 hvs
 have hrun:∀ b off c t',a.eval x'=.pointer (some ⟨b,off,none⟩)→w.heap[b]? = some (.cells c t' (0,0))→off + cs.length≤c.size →
     (execOp a.eval o).run X.E.P w=.ok .skip (setB w b (.cells (patch c off (a.eval y').cells.toList) t' (0,0))):=fun b off c t' e1 e2 e3=>by
  have h5:(Instr.storeAt t (a.eval x') (a.eval y')).run X.E.P w=.ok () (setB w b (.cells (patch c off (a.eval y').cells.toList) t' (0,0))):=by
   rw [e1]
   unfold Instr.storeAt
   rw [run_bind]
   simp only [Instr.sureAddr]
   rw [run_pure]
   simp only
   unfold storeVar
   rw [run_bind,r_sizeOf hi]
   simp only
   rw [if_neg (by simp at hlen; simp; omega)]
   exact r_storeCells b off t' _ 0 c w e2 (by rw [hlen]; simpa using e3) hscal
  have hex:execOp a.eval o=(do Instr.storeAt t (a.eval x') (a.eval y'); pure Next.skip:Sem Next):=by
   unfold execOp
   rw [ho]
  rw [hex,run_bind,h5]
  rfl
 unfold storeB at h4
 split at h4
 · rename_i k j off e
   rw [e] at hvx
   simp only [VA] at hvx
   have hb:=R.blk k
   split at h4
   · rename_i old hk
     split at h4
     · rename_i hle
       have hle:=Nat.le_of_ble_eq_true hle
       simp at h4
       obtain ⟨rfl,rfl⟩:=h4
       have h6:=hvx.2.2 (0,0) (by simp [viewOf,hk,Blk.info])
       rw [hk] at hb
       obtain ⟨c,t',g1,g2,g3⟩:=hb
       have h7:a.eval x'=.pointer (some ⟨M k,off,none⟩):=by simpa [viewOf] using h6
       have hMk:M k<w.heap.size:=(Array.getElem?_eq_some_iff.1 g1).1
       refine ⟨_,hrun _ _ _ _ h7 g1 (by rw [g2]; exact hle),by simp [hk],by simp,by simp [hk,Blk.info],?_,?_⟩
       · have g1':w.heap[M k]? = some (.cells c t' (0,0)):=g1
         simp [World.shape?,setB_same _ hMk,g1',patch_size]
       · have T:=R.write_turn (.cells (patch c off (a.eval y').cells.toList) t' (0,0)) (.var (patchL old off cs)) k (by simp [hk]) (by simp [hk,Blk.info])
          (by have g1':w.heap[M k]? = some (.cells c t' (0,0)):=g1
              simp [World.shape?,setB_same _ hMk,g1',patch_size])
         obtain ⟨us,g4,gs,g5⟩:=ARun_values g3
         have l5:=VAs_length g4
         have g4':=VAs_turns T _ _ g4
         have hvs':=VAs_turns T _ _ hvs
         refine ⟨patch c off (a.eval y').cells.toList,t',setB_same _ hMk,by rw [patch_size,patchL_length,g2],?_⟩
         have hus:us=c.toList:=by
          apply List.ext_getElem?
          intro j
          by_cases hj:j<us.length
          · have g6:=g5 j us[j] (by simp [hj])
            rw [cell_of_heap g1] at g6
            simp only [Nat.zero_add] at g6
            have g7:c.toList[j]? = some us[j]:=by rw [Array.getElem?_toList]; exact g6
            rw [g7]
            simp [hj]
          · rw [List.getElem?_eq_none (by omega),List.getElem?_eq_none (by simp; omega)]
         subst hus
         refine ARun_of_values (VAs_patch (off:=off) g4' hvs' hle) (patch_scalar gs hscal) fun j v hv=>?_
         have:(viewOf X (setB w (M k) (.cells (patch c off (a.eval y').cells.toList) t' (0,0))) U M (wr H [(k,.var (patchL old off cs))])).w.heap[M k]? = some (.cells (patch c off (a.eval y').cells.toList) t' (0,0)):=setB_same _ hMk
         rw [cell_of_heap this]
         simpa using hv
     · simp at h4
   · rename_i sz es hk
     split at h4
     · rename_i e' ps he hps
       split at h4
       · rename_i hle
         have hle:=Nat.le_of_ble_eq_true hle
         simp at h4
         obtain ⟨rfl,rfl⟩:=h4
         have h6:=hvx.2.2 (sz,es.length) (by simp [viewOf,hk,Blk.info])
         rw [hk] at hb
         obtain ⟨c,t',g1,g2,g3⟩:=hb
         have h7:a.eval x'=.pointer (some ⟨M k,j * sz + off,none⟩):=by simpa [viewOf] using h6
         have hMk:M k<w.heap.size:=(Array.getElem?_eq_some_iff.1 g1).1
         obtain ⟨g7,g8⟩:=(VElems_iff es 0).1 g3 j e' he
         have hjl:j<es.length:=(List.getElem?_eq_some_iff.1 he).1
         have hfit:j * sz + off + cs.length≤c.size:=by
          have:(j + 1) * sz≤es.length * sz:=Nat.mul_le_mul_right _ hjl
          rw [Nat.add_mul] at this
          omega
         have g1':w.heap[M k]? = some (.cells c t' (0,0)):=g1
         refine ⟨_,hrun _ _ _ _ h7 g1 hfit,by simp [hk],by simp,by simp [hk,Blk.info],?_,?_⟩
         · simp [World.shape?,setB_same _ hMk,g1',patch_size]
         · have T:=R.write_turn (.cells (patch c (j * sz + off) (a.eval y').cells.toList) t' (0,0)) (.row sz (es.set j (patchL e' off ps))) k (by simp [hk]) (by simp [hk,Blk.info])
            (by simp [World.shape?,setB_same _ hMk,g1',patch_size])
           have hvs':=VAs_turns T _ _ hvs
           have hps':=pureVs_ok _ _ _ hps hvs'
           have lps:ps.length=cs.length:=by have:=VPs_length hps'; rw [← this]; exact hlen
           refine ⟨patch c (j * sz + off) (a.eval y').cells.toList,t',setB_same _ hMk,by rw [patch_size]; simpa using g2,?_⟩
           rw [VElems_iff]
           intro i q hq
           have hcell:∀ o',(viewOf X (setB w (M k) (.cells (patch c (j * sz + off) (a.eval y').cells.toList) t' (0,0))) U M (wr H [(k,.row sz (es.set j (patchL e' off ps)))])).w.cell? ⟨M k,o',none⟩=(patch c (j * sz + off) (a.eval y').cells.toList)[o']? := fun o'=>cell_of_heap (setB_same _ hMk) o'
           have hil:i<es.length:=by have:=(List.getElem?_eq_some_iff.1 hq).1; simpa using this
           by_cases hij:j=i
           · subst hij
             rw [List.getElem?_set_self hjl] at hq
             simp at hq
             subst hq
             refine ⟨by rw [patchL_length]; exact g7,?_⟩
             rw [VRun_iff]
             intro m p hp
             rw [patchL_get _ _ _ _ (by rw [lps]; exact hle)] at hp
             rw [hcell,Nat.zero_add,patch_get _ _ _ _ (by rw [hlen]; exact hfit),hlen]
             split at hp
             · rename_i hm
               rw [if_pos (by omega)]
               obtain ⟨q1,q2⟩:=(VPs_iff _ _).1 hps'
               have hlt:m - off<(a.eval y').cells.toList.length:=by rw [hlen]; omega
               refine ⟨(a.eval y').cells.toList[m - off],?_,hscal _ (List.getElem_mem _),q2 _ p _ hp (by simp [hlt])⟩
               rw [show j * sz + m - (j * sz + off)=m - off by omega]
               simp [hlt]
             · rename_i hm
               rw [if_neg (by have:=(List.getElem?_eq_some_iff.1 hp).1; omega)]
               obtain ⟨u,q1,qs,q2⟩:=(VRun_iff _ _).1 g8 m p hp
               rw [cell_of_heap g1,Nat.zero_add] at q1
               exact ⟨u,q1,qs,VP_mono T.stays p u q2⟩
           · rw [List.getElem?_set_ne hij] at hq
             obtain ⟨q1,q2⟩:=(VElems_iff es 0).1 g3 i q hq
             refine ⟨q1,?_⟩
             rw [VRun_iff]
             intro m p hp
             obtain ⟨u,q3,qs,q4⟩:=(VRun_iff _ _).1 q2 m p hp
             have hm:m<sz:=by rw [← q1]; exact (List.getElem?_eq_some_iff.1 hp).1
             refine ⟨u,?_,qs,VP_mono T.stays p u q4⟩
             rw [hcell,Nat.zero_add,patch_get _ _ _ _ (by rw [hlen]; exact hfit),hlen,if_neg]
             · rw [cell_of_heap g1,Nat.zero_add] at q3
               exact q3
             · rcases Nat.lt_or_gt_of_ne hij with h | h
               · have:(j + 1) * sz≤i * sz:=Nat.mul_le_mul_right _ h
                 rw [Nat.add_mul] at this
                 omega
               · have:(i + 1) * sz≤j * sz:=Nat.mul_le_mul_right _ h
                 rw [Nat.add_mul] at this
                 omega
       · simp at h4
     · simp at h4
   · simp at h4
 · simp at h4
end
end
section
/-! ### An element's place -/
theorem r_indexAt {P:Program} {w:World} {t e:TypeId} {i:TypeInfo} {b o len cap:Nat} {k:IntKind} {n:Int} (hu:P.underlying t=some (.slice e)) (hi:P.info? e=some i) (h0:0≤n) (hn:n.toNat<len) :
    (Instr.indexAt t (.slice (some ⟨b,o,none⟩) len cap) (.int k n)).run P w=.ok (.pointer (some ⟨b,o + n.toNat * i.size,none⟩)) w:=by
 have hlt:0≤n∧n<(len:Int):=⟨h0,by omega⟩
 unfold Instr.indexAt
 simp only [asIntOf]
 rw [run_bind,run_pure]
 simp only
 rw [run_bind,r_underlying hu]
 simp only
 rw [run_bind,run_pure]
 simp only
 rw [run_bind,r_underlying hu]
 simp only [hlt,and_self,if_true]
 rw [run_bind,r_sizeOf hi]
 simp only [add_eq]
 rfl
section
variable {E:Env} {N:Nat} {o:Oper} {F:Fr} {H:Hp} {U:Nat→Prop}
theorem exec_idx {t:TypeId} {x i:Operand} (ho:o.op=.indexAddr t x i) (ev:Operand→Value):execOp ev o=(do pure (Next.value (← Instr.indexAt t (ev x) (ev i))):Sem Next):=by
 unfold execOp
 rw [ho]
theorem idx_pv_does (hE:E.OK) {sz:Nat} {x i:AO} {es:List (List PV)} {e:List PV} {k:IntKind} {n:Int} (hc:cOp E o=some (.idxAddr sz x i)) (hd:∀ k,o.dst=some k→k<N)
    (h1:evO F x=.pv (.slice es)) (h2:evO F i=.pv (.int k n)) (h0:0≤n) (h3:es[n.toNat]? = some e) (h4:e.length=sz):Does E N o F H U (.pv (.cptr e 0)) [] U:=by
 obtain ⟨t,x',i',el,info,ho,hx,hi,hu,hinfo,rfl⟩:=inv_idxAddr hc
 refine Does.value hd fun X M a w hX R=>?_
 subst hX
 have hvx:=cO_ok hE R hx
 have hvi:=cO_ok hE R hi
 rw [h1] at hvx
 rw [h2] at hvi
 simp only [VA,VP] at hvx hvi
 obtain ⟨A,len,cap,g1,g2,g3,g4⟩:=hvx
 have hlt:n.toNat<es.length:=(List.getElem?_eq_some_iff.1 h3).1
 obtain ⟨b,q,sz',rfl,g5,g6⟩:=g4 (by omega)
 obtain ⟨g7,g8⟩:=(VElems_iff es q).1 g6 _ e h3
 refine ⟨.pointer (some ⟨b,q + n.toNat * info.size,none⟩),?_,?_⟩
 · rw [exec_idx ho,g1,hvi]
   exact r_value (r_indexAt hu hinfo h0 (by omega))
 · simp only [VA,VP]
   exact ⟨b,q + n.toNat * info.size,by simp,g5,by rw [← h4,g7]; exact g8⟩
theorem idx_ms_does (hE:E.OK) {sz:Nat} {x i:AO} {id:Nat} {es:List (List PV)} {k:IntKind} {n:Int} (hc:cOp E o=some (.idxAddr sz x i)) (hd:∀ k,o.dst=some k→k<N)
    (h1:evO F x=.ms id) (hid:H id=.row sz es) (h2:evO F i=.pv (.int k n)) (h0:0≤n) (h3:n.toNat<es.length):Does E N o F H U (.ptr id n.toNat 0) [] U:=by
 obtain ⟨t,x',i',el,info,ho,hx,hi,hu,hinfo,rfl⟩:=inv_idxAddr hc
 refine Does.value hd fun X M a w hX R=>?_
 subst hX
 have hvx:=cO_ok hE R hx
 have hvi:=cO_ok hE R hi
 rw [h1] at hvx
 rw [h2] at hvi
 simp only [VA,VP] at hvx hvi
 obtain ⟨cap,t',tot,g1,g2,g3,g4⟩:=hvx.2.2 (info.size,es.length) (by simp [viewOf,hid,Blk.info])
 refine ⟨.pointer (some ⟨M id,0 + n.toNat * info.size,none⟩),?_,?_⟩
 · rw [exec_idx ho,g1,hvi]
   exact r_value (r_indexAt hu hinfo h0 h3)
 · simp only [VA]
   refine ⟨hvx.1,⟨by simp,by simp⟩,fun s hs=>?_⟩
   have:some (info.size,es.length)=some s:=by rw [← hs]; simp [viewOf,hid,Blk.info]
   simp at this
   subst this
   simp [viewOf]
theorem idx_msub_does (hE:E.OK) {sz:Nat} {x i:AO} {id off len:Nat} {es:List (List PV)} {k:IntKind} {n:Int} (hc:cOp E o=some (.idxAddr sz x i)) (hd:∀ k,o.dst=some k→k<N)
    (h1:evO F x=.msub id off len) (hid:H id=.row sz es) (h2:evO F i=.pv (.int k n)) (h0:0≤n) (h3:n.toNat<len):Does E N o F H U (.ptr id (off + n.toNat) 0) [] U:=by
 obtain ⟨t,x',i',el,info,ho,hx,hi,hu,hinfo,rfl⟩:=inv_idxAddr hc
 refine Does.value hd fun X M a w hX R=>?_
 subst hX
 have hvx:=cO_ok hE R hx
 have hvi:=cO_ok hE R hi
 rw [h1] at hvx
 rw [h2] at hvi
 simp only [VA,VP] at hvx hvi
 obtain ⟨A,cap,t',tot,g1,g2,g3,g4,g5⟩:=hvx.2.2 (info.size,es.length) (by simp [viewOf,hid,Blk.info])
 have g5:=g5 (.inl (by omega))
 refine ⟨.pointer (some ⟨M id,off * info.size + n.toNat * info.size,none⟩),?_,?_⟩
 · rw [exec_idx ho,g1,g5,hvi]
   exact r_value (r_indexAt hu hinfo h0 h3)
 · simp only [VA]
   refine ⟨hvx.1,⟨by simp,by simp⟩,fun s hs=>?_⟩
   have:some (info.size,es.length)=some s:=by rw [← hs]; simp [viewOf,hid,Blk.info]
   simp at this
   subst this
   simp [viewOf,Nat.add_mul]
end
/-! ### What is appended -/
def srcV (H:Hp):AV→Option (List (List PV))
 | .pv (.slice es)=>some es
 | .nils=>some []
 | .ms id=>match H id with
  | .row _ es=>some es
  | _=>none
 | .msub id off len=>match H id with
  | .row _ es=>match Nat.ble (off + len) es.length with
   | true=>some ((es.drop off).take len)
   | false=>none
  | _=>none
 | .asub id off len=>match H id with
  | .var cs=>match Nat.ble (off + len) cs.length,pureVs cs with
   | true,some pl=>some (((pl.drop off).take len).map fun p=>[p])
   | _,_=>none
  | _=>none
 | _=>none
theorem VElems_ones {E:Env} {w:World} {ok:Nat→Prop} {b:Nat}:∀ {ps:List PV} {o:Nat},VRun E w ok ps b o→VElems E w ok (ps.map fun p=>[p]) b o 1
 | [],o,h=>by simp [VElems]
 | p :: r,o,h=>by
  rw [VRun_iff] at h
  simp only [List.map_cons,VElems]
  refine ⟨rfl,?_,VElems_ones ?_⟩
  · rw [VRun_iff]
    intro j q hq
    exact h j q (by cases j with
     | zero=>simpa using hq
     | succ j=>simp at hq)
  · rw [VRun_iff]
    intro j q hq
    have:=h (j + 1) q (by simpa using hq)
    rwa [show o + 1 + j=o + (j + 1) by omega]
theorem VElems_flat {E:Env} {w:World} {ok:Nat→Prop} {sz b:Nat}:∀ {es:List (List PV)} {o:Nat},VElems E w ok es b o sz→VRun E w ok es.flatten b o∧es.flatten.length=es.length * sz
 | [],o,h=>by simp [VRun]
 | e :: es,o,h=>by
  simp only [VElems] at h
  obtain ⟨h1,h2,h3⟩:=h
  obtain ⟨h4,h5⟩:=VElems_flat h3
  simp only [List.flatten_cons,List.length_append,List.length_cons,h5,h1]
  refine ⟨?_,by rw [Nat.add_mul]; omega⟩
  rw [VRun_iff] at h2 h4 ⊢
  intro j p hp
  rw [List.getElem?_append] at hp
  split at hp
  · exact h2 j p hp
  · rename_i hj
    have:=h4 (j - e.length) p hp
    rwa [show o + sz + (j - e.length)=o + j by omega] at this
theorem VElems_of_flat {E:Env} {w:World} {ok:Nat→Prop} {sz b:Nat}:∀ {es:List (List PV)} {o:Nat},(∀ e ∈ es,e.length=sz)→VRun E w ok es.flatten b o→VElems E w ok es b o sz
 | [],o,h,h2=>by simp [VElems]
 | e :: es,o,h,h2=>by
  simp only [VElems]
  have he:=h e (by simp)
  rw [List.flatten_cons] at h2
  refine ⟨he,?_,VElems_of_flat (fun x hx=>h x (by simp [hx])) ?_⟩
  · rw [VRun_iff] at h2 ⊢
    intro j p hp
    exact h2 j p (by rw [List.getElem?_append_left (List.getElem?_eq_some_iff.1 hp).1]; exact hp)
  · rw [VRun_iff] at h2 ⊢
    intro j p hp
    have:=h2 (e.length + j) p (by rw [List.getElem?_append_right (by omega)]; simpa using hp)
    rwa [he,← Nat.add_assoc] at this
theorem flat_length {sz:Nat}:∀ {es:List (List PV)},(∀ e ∈ es,e.length=sz)→es.flatten.length=es.length * sz
 | [],h=>by simp
 | e :: es,h=>by
  rw [List.flatten_cons,List.length_append,h e (by simp),flat_length (fun x hx=>h x (by simp [hx])),List.length_cons,Nat.add_mul]
  omega
section
variable {X:Ctx} {M:Nat→Nat} {F:Fr} {H:Hp} {U:Nat→Prop} {a:Act} {w:World}
theorem VElems_sub {E:Env} {w:World} {ok:Nat→Prop} {sz b o:Nat} {es:List (List PV)} (h:VElems E w ok es b o sz) (off n:Nat):VElems E w ok ((es.drop off).take n) b (o + off * sz) sz:=by
 rw [VElems_iff] at h ⊢
 intro i e he
 rw [List.getElem?_take] at he
 split at he
 · rw [List.getElem?_drop] at he
   have:=h (off + i) e he
   rwa [Nat.add_mul,← Nat.add_assoc] at this
 · simp at he
theorem srcV_ok (R:Rel X M F H U a w) {v:AV} {es:List (List PV)} {u:Value} {sz:Nat} (h:srcV H v=some es) (hv:VA (viewOf X w U M H) v u) (hsz:∀ e ∈ es,e.length=sz) :
    ∃ A cap vals,u=.slice A es.length cap∧(∀ v ∈ vals,Scalar v)∧VPs X.E w (okOf X w M H) es.flatten vals∧∀ d,(Builtin.firstCells sz es.length u).run X.E.P { w with drawn:=d }=.ok vals.toArray { w with drawn:=d }:=by
 have main:∀ A cap b o sz',u=.slice A es.length cap→A=some ⟨b,o,none⟩→VElems X.E w (okOf X w M H) es b o sz'→es ≠ []→∃ A cap vals,u=.slice A es.length cap∧(∀ v ∈ vals,Scalar v)∧VPs X.E w (okOf X w M H) es.flatten vals∧∀ d,(Builtin.firstCells sz es.length u).run X.E.P { w with drawn:=d }=.ok vals.toArray { w with drawn:=d }:=by
  intro A cap b o sz' h1 h2 h3 hne
  obtain ⟨e,r,rfl⟩:∃ e r,es=e :: r:=by cases es with
   | nil=>exact absurd rfl hne
   | cons e r=>exact ⟨e,r,rfl⟩
  have hs:sz'=sz:=by
   have:=((VElems_iff _ _).1 h3 0 e rfl).1
   rw [← this]
   exact hsz e (by simp)
  subst hs
  obtain ⟨h4,h5⟩:=VElems_flat h3
  obtain ⟨vs,h6,hs,h7⟩:=VRun_values h4
  refine ⟨A,cap,vs,h1,hs,h6,?_⟩
  intro d
  rw [h1,h2]
  exact r_loadCells b o vs _ (by rw [VPs_length h6,h5]) h7
 have nil:es=[]→∀ A cap,u=.slice A es.length cap→(A=none∨∃ b o,A=some ⟨b,o,none⟩∨True)→∃ A cap vals,u=.slice A es.length cap∧(∀ v ∈ vals,Scalar v)∧VPs X.E w (okOf X w M H) es.flatten vals∧∀ d,(Builtin.firstCells sz es.length u).run X.E.P { w with drawn:=d }=.ok vals.toArray { w with drawn:=d }:=by
  intro he A cap h1 _
  subst he
  refine ⟨A,cap,[],h1,by simp,by simp [VPs],?_⟩
  intro d
  rw [h1]
  cases A with
  | none=>rfl
  | some ad =>
   simp only [Builtin.firstCells,List.length_nil,Nat.zero_mul]
   rfl
 unfold srcV at h
 split at h
 · rename_i es'
   simp at h
   subst h
   simp only [VA,VP] at hv
   obtain ⟨A,len,cap,h1,h2,h3,h4⟩:=hv
   subst h2
   by_cases he:es'=[]
   · exact nil he A cap h1 (.inr ⟨0,0,.inr trivial⟩)
   · obtain ⟨b,o,sz',h5,h6,h7⟩:=h4 (by cases es' with
      | nil=>exact absurd rfl he
      | cons=>simp)
     exact main A cap b o sz' h1 h5 h7 he
 · simp at h
   subst h
   simp only [VA] at hv
   exact nil rfl _ _ hv (.inl rfl)
 · rename_i id
   split at h
   · rename_i sz' es' hid
     simp at h
     subst h
     simp only [VA] at hv
     obtain ⟨cap,t,tot,h1,h2,h3,h4⟩:=hv.2.2 (sz',es'.length) (by simp [viewOf,hid,Blk.info])
     have hb:=R.blk id
     rw [hid] at hb
     obtain ⟨c,t',g1,g2,g3⟩:=hb
     by_cases he:es'=[]
     · exact nil he _ cap h1 (.inr ⟨0,0,.inr trivial⟩)
     · exact main _ cap (M id) 0 sz' h1 rfl g3 he
   · simp at h
 · rename_i id off len
   split at h
   · rename_i sz' es' hid
     split at h
     · rename_i hle
       have hle:=Nat.le_of_ble_eq_true hle
       simp at h
       subst h
       simp only [VA] at hv
       obtain ⟨A,cap,t,tot,h1,h2,h3,h4,h5⟩:=hv.2.2 (sz',es'.length) (by simp [viewOf,hid,Blk.info])
       have hb:=R.blk id
       rw [hid] at hb
       obtain ⟨c,t',g1,g2,g3⟩:=hb
       have hl:((es'.drop off).take len).length=len:=by simp; omega
       rw [← hl] at h1
       by_cases he:(es'.drop off).take len=[]
       · exact nil he _ cap h1 (.inr ⟨0,0,.inr trivial⟩)
       · have hpos:0<len:=by
          rcases Nat.eq_zero_or_pos len with h0 | h0
          · subst h0; simp at he
          · exact h0
         refine main _ cap (M id) (off * sz') sz' h1 (by rw [h5 (.inl hpos)]; rfl) ?_ he
         have:=VElems_sub g3 off len
         rwa [Nat.zero_add] at this
     · simp at h
   · simp at h
 · rename_i id off len
   split at h
   · rename_i cs hid
     split at h
     · rename_i hle hpl
       rename_i pl
       have hle:=Nat.le_of_ble_eq_true hle
       simp only [Option.some.injEq] at h
       subst h
       simp only [VA] at hv
       have h1:=hv.2.2 (0,0) (by simp [viewOf,hid,Blk.info])
       have hb:=R.blk id
       rw [hid] at hb
       obtain ⟨c,t',g1,g2,g3⟩:=hb
       obtain ⟨vs,k1,k2,k3⟩:=ARun_values g3
       have k4:=pureVs_ok _ _ _ hpl k1
       have hpl':pl.length=cs.length:=(VPs_length k4).symm.trans (VAs_length k1)
       have hr:VRun X.E w (okOf X w M H) pl (M id) 0:=by
        obtain ⟨l1,m1⟩:=(VPs_iff _ _).1 k4
        rw [VRun_iff]
        intro j q hq
        have hlt:j<vs.length:=by rw [l1]; exact (List.getElem?_eq_some_iff.1 hq).1
        exact ⟨vs[j],k3 j _ (by simp [hlt]),k2 _ (List.getElem_mem _),m1 j q _ hq (by simp [hlt])⟩
       have hl:(((pl.drop off).take len).map fun p=>[p]).length=len:=by simp; omega
       rw [← hl] at h1
       by_cases he:((pl.drop off).take len).map (fun p=>[p])=[]
       · exact nil he _ _ h1 (.inr ⟨0,0,.inr trivial⟩)
       · refine main _ _ (M id) off 1 h1 rfl (VElems_ones ?_) he
         have:=VRun_sub hr off len
         rwa [Nat.zero_add] at this
     · simp at h
   · simp at h
 · simp at h
theorem Rel.move_turn (R:Rel X M F H U a w) {w':World} {id k b':Nat} {B:Blk} (hk:¬ U k) (hid:H id ≠ .dead) (hsize:w.heap.size≤w'.heap.size)
    (hsame:∀ b,b<w.heap.size→b ≠ M id→w'.heap[b]? = w.heap[b]?) (hb:b'=M id∨w.heap.size≤b') :
    Turns (viewOf X w U M H) (viewOf X w' (fun i=>U i∨i=k) (upM M k b') (wr H [(id,.dead),(k,B)])):=by
 have hik:id ≠ k:=fun h=>hk (h ▸ R.used id hid)
 have hH:∀ i,id ≠ i→k ≠ i→wr H [(id,.dead),(k,B)] i=H i:=fun i h1 h2=>by rw [wr_other H _ _ h1,wr_other H _ _ h2]; rfl
 have hHk:wr H [(id,.dead),(k,B)] k=B:=by rw [wr_other H _ _ hik,wr_same]
 refine R.turn hsize (fun b hb hn=>hsame b hb (fun h=>hn id hid h.symm)) (fun i hi=>?_) (fun i h=>.inl h) (fun i s hu hs=>?_)
 · by_cases h1:id=i
   · subst h1; rw [wr_same] at hi; exact absurd rfl hi
   · by_cases h2:k=i
     · subst h2
       rw [upM_same]
       rcases hb with h | h
       · exact .inl ⟨id,hid,h⟩
       · exact .inr h
     · rw [hH i h1 h2] at hi
       exact .inl ⟨i,hi,upM_other h2⟩
 · by_cases h1:id=i
   · subst h1; rw [wr_same] at hs; simp [Blk.info] at hs
   · by_cases h2:k=i
     · subst h2; exact absurd hu hk
     · rw [hH i h1 h2] at hs
       have hne:H i ≠ .dead:=fun h'=>by rw [h'] at hs; simp [Blk.info] at hs
       exact ⟨hs,upM_other h2,shape_of_heap (hsame _ (R.own i hne).1 fun h=>h1 (R.inj id i hid hne h.symm))⟩
theorem Rel.move (R:Rel X M F H U a w) {w':World} {id k b':Nat} {B:Blk} (hk:¬ U k) (hid:H id ≠ .dead) (hsize:w.heap.size≤w'.heap.size)
    (hsame:∀ b,b<w.heap.size→b ≠ M id→w'.heap[b]? = w.heap[b]?) (hb:b'=M id∨w.heap.size≤b') (hos:w'.os=w.os) (htape:w'.tape=w.tape) (hout:w'.output=w.output)
    (hB:BlkOK (viewOf X w' (fun i=>U i∨i=k) (upM M k b') (wr H [(id,.dead),(k,B)])) b' B) (hBd:B ≠ .dead) :
    Rel X (upM M k b') F (wr H [(id,.dead),(k,B)]) (fun i=>U i∨i=k) a w':=by
 have T:=R.move_turn (B:=B) hk hid hsize hsame hb
 have hik:id ≠ k:=fun h=>hk (h ▸ R.used id hid)
 have hH:∀ i,id ≠ i→k ≠ i→wr H [(id,.dead),(k,B)] i=H i:=fun i h1 h2=>by rw [wr_other H _ _ h1,wr_other H _ _ h2]; rfl
 have hHk:wr H [(id,.dead),(k,B)] k=B:=by rw [wr_other H _ _ hik,wr_same]
 have hlive:∀ i,wr H [(id,.dead),(k,B)] i ≠ .dead→id ≠ i∧(k=i∨(k ≠ i∧H i ≠ .dead)):=fun i hi=>by
  by_cases h1:id=i
  · subst h1; rw [wr_same] at hi; exact absurd rfl hi
  · by_cases h2:k=i
    · exact ⟨h1,.inl h2⟩
    · rw [hH i h1 h2] at hi; exact ⟨h1,.inr ⟨h2,hi⟩⟩
 have hbl:=BlkOK_lt hB hBd
 refine { defers:=R.defers,size:=R.size,keeps:=⟨hos.trans R.keeps.os,htape.trans R.keeps.tape,hout.trans R.keeps.output,Nat.le_trans R.keeps.size hsize,fun b hb' hn=>?_⟩,K:=R.K,
          used:=fun i hi=>?_,inj:=fun i j hi hj hij=>?_,own:=fun i hi=>?_,blk:=fun i=>?_,fr:=fun t=>VA_turns T _ _ (R.fr t),gh:=fun v u h=>VA_turns T _ _ (R.gh v u h) }
 · rw [hsame b (Nat.lt_of_lt_of_le hb' R.keeps.size) ?_]
   · exact R.keeps.block b hb' hn
   · intro he
     rcases (R.own id hid).2.2 with h | h
     · rw [← he] at h; exact hn h
     · omega
 · rcases hlive i hi with ⟨_,h | ⟨_,h⟩⟩
   · exact .inr h.symm
   · exact .inl (R.used i h)
 · have key:∀ i,id ≠ i→k ≠ i→H i ≠ .dead→M i ≠ b':=fun i h1 h2 h3 h4=>by
    rcases hb with h | h
    · exact h1 (R.inj id i hid h3 (h.symm.trans h4.symm))
    · have:=(R.own i h3).1
      omega
   rcases hlive i hi with ⟨h1,h2 | ⟨h2,h3⟩⟩ <;> rcases hlive j hj with ⟨h4,h5 | ⟨h5,h6⟩⟩
   · exact h2.symm.trans h5
   · subst h2
     rw [upM_same,upM_other h5] at hij
     exact absurd hij.symm (key j h4 h5 h6)
   · subst h5
     rw [upM_same,upM_other h2] at hij
     exact absurd hij (key i h1 h2 h3)
   · rw [upM_other h2,upM_other h5] at hij
     exact R.inj i j h3 h6 hij
 · rcases hlive i hi with ⟨h1,h2 | ⟨h2,h3⟩⟩
   · subst h2
     rw [upM_same]
     refine ⟨hbl,fun hK=>?_,?_⟩
     · rcases hb with h | h
       · rw [h] at hK; exact (R.own id hid).2.1 hK
       · have h1:=R.K _ hK
         have h2:=R.keeps.size
         omega
     · rcases hb with h | h
       · rw [h]; exact (R.own id hid).2.2
       · exact .inr (Nat.le_trans R.keeps.size h)
   · rw [upM_other h2]
     obtain ⟨h4,h5,h6⟩:=R.own i h3
     exact ⟨Nat.lt_of_lt_of_le h4 hsize,h5,h6⟩
 · by_cases h1:id=i
   · subst h1; rw [wr_same]; trivial
   · by_cases h2:k=i
     · subst h2; rw [upM_same,hHk]; exact hB
     · rw [hH i h1 h2,upM_other h2]
       exact BlkOK_turns T _ (fun hne=>hsame _ (R.own i hne).1 fun h=>h1 (R.inj id i hid hne h.symm)) (R.blk i)
end
end
section
theorem growBy_le (n:Nat):∀ (r c:Nat),Builtin.growBy n r c≤c∨Builtin.growBy n r c≤2 * n + 192
 | 0,c=>.inl (Nat.le_refl _)
 | r + 1,c=>by
  unfold Builtin.growBy
  split
  · exact .inl (Nat.le_refl _)
  · rename_i h
    rcases growBy_le n r (c + (c + 768) / 4) with h1 | h1
    · right; omega
    · right; exact h1
theorem nextcap_le {need cap:Nat} (h:cap<need):Builtin.nextslicecap need cap≤2 * need + 768:=by
 unfold Builtin.nextslicecap
 split
 · omega
 · split
   · omega
   · rcases growBy_le need 4 cap with h1 | h1 <;> omega
section
variable {P:Program} {w:World}
theorem rb {α β:Type} {s:Sem α} {f:α→Sem β} {w':World} {a:α} (h:s.run P w=.ok a w'):(s >>= f).run P w=(f a).run P w':=by
 rw [run_bind,h]
theorem r_append_in {ts:Array TypeId} {ty:TypeId} {t u e e':TypeId} {info:TypeInfo} {b l cap n:Nat} {xv:Value} {A:Option Addr} {cx:Nat} {new:Array Value} {c:Array Value} {t':TypeId}
    (ht:ts[0]? = some t) (hu:ts[1]? = some u) (h1:P.underlying t=some (.slice e)) (h2:P.underlying u=some (.slice e')) (hi:P.info? e=some info)
    (hx:xv=.slice A n cx) (hnew:(Builtin.firstCells info.size n xv).run P w=.ok new w) (hfit:l + n≤cap) (hc:w.heap[b]? = some (.cells c t' (0,0))) (hroom:l * info.size + new.size≤c.size) (hs:∀ v ∈ new.toList,Scalar v) :
    (Builtin.append_ ts ty #[.slice (some ⟨b,0,none⟩) l cap,xv]).run P w=.ok (.slice (some ⟨b,0,none⟩) (l + n) cap) (setB w b (.cells (patch c (l * info.size) new.toList) t' (0,0))):=by
 have hl:(Builtin.lenOf xv).run P w=.ok n w:=by rw [hx]; rfl
 unfold Builtin.append_
 rw [ht]
 simp only [List.getElem?_toArray,List.getElem?_cons_zero,List.getElem?_cons_succ,hu]
 rw [rb (r_underlying h1)]
 simp only
 rw [rb (r_sizeOf hi)]
 rw [rb (r_underlying h2)]
 rw [rb (run_pure _ _ _)]
 simp only [Bool.false_eq_true,if_false]
 rw [rb hl]
 simp only [hfit,if_true,Bool.not_false]
 rw [rb hnew]
 simp only [add_eq,Nat.zero_add]
 rw [rb (r_storeCells b (l * info.size) t' new.toList 0 c w hc (by simpa using hroom) hs)]
 rfl
theorem r_append_new {ts:Array TypeId} {ty:TypeId} {t u e e':TypeId} {info:TypeInfo} {base:Option Addr} {l cap n:Nat} {xv z:Value} {A:Option Addr} {cx:Nat} {old new:Array Value}
    (ht:ts[0]? = some t) (hu:ts[1]? = some u) (h1:P.underlying t=some (.slice e)) (h2:P.underlying u=some (.slice e')) (hi:P.info? e=some info) (hz:info.zero=some z)
    (hx:xv=.slice A n cx) (hfit:cap<l + n) (hbytes:info.bytes≤4096) (hb0:0<info.bytes) (hlim:l + n≤2 ^ 30)
    (hold:∀ d,(Builtin.firstCells info.size l (.slice base l cap)).run P { w with drawn:=d }=.ok old { w with drawn:=d }) (hnew:∀ d,(Builtin.firstCells info.size n xv).run P { w with drawn:=d }=.ok new { w with drawn:=d }) :
    ∃ newCap rest d,l + n≤newCap∧rest=Builtin.zeroCells z.cells (newCap - (l + n)) ∧
     (Builtin.append_ ts ty #[.slice base l cap,xv]).run P w=.ok (.slice (some ⟨w.heap.size,0,none⟩) (l + n) newCap) { ({ w with drawn:=d }:World) with heap:=w.heap.push (.cells (old ++ new ++ rest) e (0,0)) }:=by
 have hl:(Builtin.lenOf xv).run P w=.ok n w:=by rw [hx]; rfl
 refine ⟨(Question.appendCap (l + n) cap e).cut (w.tape w.drawn (.appendCap (l + n) cap e)),_,w.drawn + 1,by simp only [Question.cut]; omega,rfl,?_⟩
 unfold Builtin.append_
 rw [ht]
 simp only [List.getElem?_toArray,List.getElem?_cons_zero,List.getElem?_cons_succ,hu]
 rw [rb (r_underlying h1)]
 simp only
 rw [rb (r_sizeOf hi)]
 rw [rb (r_underlying h2)]
 rw [rb (run_pure _ _ _)]
 simp only [Bool.false_eq_true,if_false]
 rw [rb hl]
 have hnfit:¬ l + n≤cap:=by omega
 simp only [hnfit,if_false,Bool.not_false,if_true]
 rw [rb (r_typeInfo hi)]
 have hb0':¬ info.bytes=0:=by omega
 simp only [false_or,hb0',and_false,if_false]
 rw [rb (r_typeInfo hi)]
 have hcap:¬ Builtin.nextslicecap (l + n) cap * info.bytes > 2 ^ 48:=by
  have h3:=nextcap_le hfit
  have h4:Builtin.nextslicecap (l + n) cap * info.bytes≤(2 * (l + n) + 768) * 4096:=Nat.mul_le_mul h3 hbytes
  have h5:(2 * (l + n) + 768) * 4096≤(2 * 2 ^ 30 + 768) * 4096:=Nat.mul_le_mul_right _ (by omega)
  omega
 simp only [hcap,if_false]
 have hch:(choose (.appendCap (l + n) cap e)).run P w=.ok ((Question.appendCap (l + n) cap e).cut (w.tape w.drawn (.appendCap (l + n) cap e))) { w with drawn:=w.drawn + 1 }:=by
  simp [choose,Sem.run,Question.forced]
 rw [rb hch,rb (r_typeInfo hi)]
 have hroom:∀ (k:Nat) (w:World),(askRoom k).run P w=.ok () w:=fun k w=>by
  unfold askRoom
  split <;> rfl
 rw [rb (hroom _ _),rb (hold _),rb (hnew _),rb (r_zeroValue hi hz)]
 rfl
end
end
section
section
variable {X:Ctx} {M:Nat→Nat} {F:Fr} {H:Hp} {U:Nat→Prop} {a:Act} {w:World}
def baseV (H:Hp) (sz:Nat):AV→Option (Nat × List (List PV))
 | .ms id=>match H id with
  | .row sz' es=>match Nat.beq sz' sz with
   | true=>some (id,es)
   | false=>none
  | _=>none
 | .msub id 0 len=>match H id with
  | .row sz' es=>match Nat.beq sz' sz,Nat.ble len es.length with
   | true,true=>some (id,es.take len)
   | _,_=>none
  | _=>none
 | _=>none
theorem baseV_ok (R:Rel X M F H U a w) {sz id:Nat} {v:AV} {es:List (List PV)} {u:Value} (h:baseV H sz v=some (id,es)) (hv:VA (viewOf X w U M H) v u) :
    H id ≠ .dead∧∃ cap c t,u=.slice (some ⟨M id,0,none⟩) es.length cap∧es.length≤cap∧w.heap[M id]? = some (.cells c t (0,0))∧cap * sz≤c.size∧VElems X.E w (okOf X w M H) es (M id) 0 sz:=by
 unfold baseV at h
 split at h
 · rename_i k
   split at h
   · rename_i sz' es' hid
     split at h
     · rename_i hsz
       have hsz:=Nat.eq_of_beq_eq_true hsz
       subst hsz
       simp at h
       obtain ⟨rfl,rfl⟩:=h
       simp only [VA] at hv
       obtain ⟨cap,t,tot,h1,h2,h3,h4⟩:=hv.2.2 (sz',es'.length) (by simp [viewOf,hid,Blk.info])
       have hb:=R.blk k
       rw [hid] at hb
       obtain ⟨c,t',g1,g2,g3⟩:=hb
       have g1':w.heap[M k]? = some (.cells c t' (0,0)):=g1
       have hs:w.shape? (M k)=some (t',c.size):=by simp [World.shape?,g1']
       have:(t',c.size)=(t,tot):=by
        have:some (t',c.size)=some (t,tot):=by rw [← hs,← h3]; rfl
        simpa using this
       obtain ⟨rfl,rfl⟩:=Prod.mk.inj this
       exact ⟨by simp [hid],cap,c,t',h1,h2,g1',h4,g3⟩
     · simp at h
   · simp at h
 · rename_i k len
   split at h
   · rename_i sz' es' hid
     split at h
     · rename_i hsz hle
       have hsz:=Nat.eq_of_beq_eq_true hsz
       have hle:=Nat.le_of_ble_eq_true hle
       subst hsz
       simp at h
       obtain ⟨rfl,rfl⟩:=h
       simp only [VA] at hv
       obtain ⟨A,cap,t,tot,h1,h2,h3,h4,h5⟩:=hv.2.2 (sz',es'.length) (by simp [viewOf,hid,Blk.info])
       have h5:=h5 (.inr trivial)
       have hb:=R.blk k
       rw [hid] at hb
       obtain ⟨c,t',g1,g2,g3⟩:=hb
       have g1':w.heap[M k]? = some (.cells c t' (0,0)):=g1
       have hs:w.shape? (M k)=some (t',c.size):=by simp [World.shape?,g1']
       have:(t',c.size)=(t,tot):=by
        have:some (t',c.size)=some (t,tot):=by rw [← hs,← h3]; rfl
        simpa using this
       obtain ⟨rfl,rfl⟩:=Prod.mk.inj this
       have hl:(es'.take len).length=len:=by simp; omega
       refine ⟨by simp [hid],cap,c,t',?_,by omega,g1',?_,?_⟩
       · rw [h1,h5,hl]; simp [viewOf]
       · simpa using h4
       · have:=VElems_sub g3 0 len
         simp only [Nat.zero_mul,List.drop_zero,Nat.zero_add] at this
         exact this
     · simp at h
   · simp at h
 · simp at h
theorem VElems_append {E:Env} {w:World} {ok:Nat→Prop} {b sz:Nat} {c:Array Value} {es es':List (List PV)} {t:TypeId} {vs vs':List Value} {fz:Nat × Nat} (hw:w.heap[b]? = some (.cells c t fz)) (hsz:∀ e ∈ es,e.length=sz) (hsz':∀ e ∈ es',e.length=sz)
    (h1:VPs E w ok es.flatten vs) (h2:VPs E w ok es'.flatten vs') (s1:∀ v ∈ vs,Scalar v) (s2:∀ v ∈ vs',Scalar v) (hc:∀ j,j<vs.length + vs'.length→c[j]? = (vs ++ vs')[j]?):VElems E w ok (es ++ es') b 0 sz:=by
 refine VElems_of_flat (fun e he=>?_) ?_
 · rcases List.mem_append.1 he with h | h
   · exact hsz e h
   · exact hsz' e h
 · rw [List.flatten_append,VRun_iff]
   obtain ⟨l1,m1⟩:=(VPs_iff _ _).1 h1
   obtain ⟨l2,m2⟩:=(VPs_iff _ _).1 h2
   intro j p hp
   have hj:j<vs.length + vs'.length:=by
    have:=(List.getElem?_eq_some_iff.1 hp).1
    rw [List.length_append] at this
    omega
   rw [cell_of_heap hw,Nat.zero_add,hc j hj]
   rw [List.getElem?_append] at hp
   rw [List.getElem?_append]
   split at hp
   · rename_i h
     rw [if_pos (by omega)]
     have hlt:j<vs.length:=by omega
     exact ⟨vs[j],by simp [hlt],s1 _ (List.getElem_mem _),m1 j p _ hp (by simp [hlt])⟩
   · rename_i h
     rw [if_neg (by omega),l1]
     have hlt:j - es.flatten.length<vs'.length:=by omega
     exact ⟨vs'[j - es.flatten.length],by simp [hlt],s2 _ (List.getElem_mem _),m2 _ p _ hp (by simp [hlt])⟩
end
section
variable {E:Env} {N:Nat} {o:Oper} {F:Fr} {H:Hp} {U:Nat→Prop}
theorem exec_append {c:Call} (ho:o.op=.call c) (hb:c.callee=.builtin .append) (ev:Operand→Value) {s x:Operand} (ha:c.args.toList=[s,x]) :
    execOp ev o=(do pure (Next.value (← Builtin.append_ c.argTypes o.type #[ev s,ev x])):Sem Next):=by
 rw [r_call_builtin (P:=default) ho hb]
 have:c.args.map ev = #[ev s,ev x]:=by rw [amap,ha]; rfl
 rw [this]
 rfl
theorem append_does (hE:E.OK) {sz bytes:Nat} {s x:AO} {id k:Nat} {es es':List (List PV)} (hc:cOp E o=some (.append sz bytes s x)) (hd:∀ k,o.dst=some k→k<N)
    (h1:baseV H sz (evO F s)=some (id,es)) (h2:srcV H (evO F x)=some es') (hsz:∀ e ∈ es',e.length=sz) (hlim:es.length + es'.length≤2 ^ 30) (hk:¬ U k) :
    Does E N o F H U (.ms k) [(id,.dead),(k,.row sz (es ++ es'))] (fun i=>U i∨i=k):=by
 obtain ⟨elem,c,t,u,e',i,z,s',x',ho,hb,ht,ha,hu,hu',hs,hx,hi,hz,hzs,rfl,rfl,hby,hb0⟩:=inv_append hc
 intro X M a w Q hX hN R
 subst hX
 obtain ⟨hid,cap,cb,t',g1,g2,g3,g4,g5⟩:=baseV_ok R h1 (cO_ok hE R hs)
 obtain ⟨A,cx,new,f1,f2,f3,f4⟩:=srcV_ok (sz:=i.size) R h2 (cO_ok hE R hx) hsz
 have ht0:c.argTypes[0]? = some t:=by rw [← Array.getElem?_toList,ht]; rfl
 have ht1:c.argTypes[1]? = some u:=by rw [← Array.getElem?_toList,ht]; rfl
 have hbs:∀ e ∈ es,e.length=i.size:=fun e he=>by
  obtain ⟨j,hj⟩:=List.getElem?_of_mem he
  exact ((VElems_iff es 0).1 g5 j e hj).1
 obtain ⟨p1,p2⟩:=VElems_flat g5
 obtain ⟨old,q1,q2,q3⟩:=VRun_values p1
 have lold:old.length=es.length * i.size:=by rw [VPs_length q1,p2]
 have lnew:new.length=es'.length * i.size:=by rw [VPs_length f3,flat_length hsz]
 have hMk:M id<w.heap.size:=(R.own id hid).1
 have hcold:∀ j,j<old.length→cb[j]? = old[j]? := fun j hj=>by
  have:=q3 j old[j] (by simp [hj])
  rw [cell_of_heap g3,Nat.zero_add] at this
  rw [this]; simp [hj]
 rw [Oper.wp,exec_append ho hb a.eval ha]
 by_cases hfit:es.length + es'.length≤cap
 · have hrun:=r_append_in (P:=X.E.P) (w:=w) (ty:=o.type) ht0 ht1 hu hu' hi f1 (f4 w.drawn) hfit g3 (by
    have:(es.length + es'.length) * i.size≤cap * i.size:=Nat.mul_le_mul_right _ hfit
    rw [Nat.add_mul] at this
    simp only [List.size_toArray]
    omega) (by simpa using f2)
   rw [g1,r_value hrun,Oper.upon_value]
   have hnew:∀ b,b<w.heap.size→b ≠ M id→(setB w (M id) (.cells (patch cb (es.length * i.size) new.toArray.toList) t' (0,0))).heap[b]? = w.heap[b]? := fun b _ hb=>setB_other _ (Ne.symm hb)
   have T:=R.move_turn (B:=.row i.size (es ++ es')) hk hid (w':=setB w (M id) (.cells (patch cb (es.length * i.size) new.toArray.toList) t' (0,0))) (by rw [setB_size]; exact Nat.le_refl _) hnew (.inl rfl)
   have hheap:(setB w (M id) (.cells (patch cb (es.length * i.size) new.toArray.toList) t' (0,0))).heap[M id]? = some (.cells (patch cb (es.length * i.size) new.toArray.toList) t' (0,0)):=setB_same _ hMk
   have hroom:(es.length + es'.length) * i.size≤cb.size:=Nat.le_trans (Nat.mul_le_mul_right _ hfit) g4
   have R':=R.move (B:=.row i.size (es ++ es')) hk hid (w':=setB w (M id) (.cells (patch cb (es.length * i.size) new.toArray.toList) t' (0,0))) (by rw [setB_size]; exact Nat.le_refl _) hnew (.inl rfl) rfl rfl rfl (by
    refine ⟨_,t',hheap,by rw [patch_size,List.length_append]; exact hroom,?_⟩
    refine VElems_append (vs:=old) (vs':=new) hheap hbs hsz (VPs_mono T.stays _ _ q1) (VPs_mono T.stays _ _ f3) q2 f2 fun j hj=>?_
    rw [Nat.add_mul] at hroom
    rw [patch_get _ _ _ _ (by simp only [List.size_toArray,List.length]; omega),List.getElem?_append]
    simp only
    by_cases hjo:j<old.length
    · rw [if_neg (by omega),if_pos hjo]
      exact hcold j hjo
    · rw [if_pos (by omega),if_neg hjo,lold]) (by simp)
   refine ⟨_,R'.put ?_ (fun k hk=>by rw [hN]; exact hd k hk)⟩
   simp only [VA]
   refine ⟨.inr rfl,⟨by simp,by simp⟩,fun s hs=>?_⟩
   have hik:id ≠ k:=fun h=>hk (h ▸ R.used id hid)
   have:some (i.size,(es ++ es').length)=some s:=by rw [← hs]; simp only [viewOf]; rw [wr_other H _ _ hik,wr_same]; rfl
   simp only [Option.some.injEq] at this
   subst this
   refine ⟨cap,t',cb.size,by simp [viewOf,upM_same],by simpa using hfit,?_,g4⟩
   simp only [viewOf,upM_same]
   simp [World.shape?,hheap,patch_size]
 · have hold:∀ d,(Builtin.firstCells i.size es.length (.slice (some ⟨M id,0,none⟩) es.length cap)).run X.E.P { w with drawn:=d }=.ok old.toArray { w with drawn:=d }:=fun d =>
    r_loadCells (M id) 0 old _ lold.symm q3
   obtain ⟨newCap,rest,d,k1,k2,k3⟩:=r_append_new (P:=X.E.P) (w:=w) (ty:=o.type) ht0 ht1 hu hu' hi hz f1 (Nat.lt_of_not_le hfit) hby hb0 hlim hold f4
   rw [g1,r_value k3,Oper.upon_value]
   have hheap:({ ({ w with drawn:=d }:World) with heap:=w.heap.push (.cells (old.toArray ++ new.toArray ++ rest) elem (0,0)) }:World).heap[w.heap.size]? = some (.cells (old.toArray ++ new.toArray ++ rest) elem (0,0)):=by simp
   have hnew:∀ b,b<w.heap.size→b ≠ M id→({ ({ w with drawn:=d }:World) with heap:=w.heap.push (.cells (old.toArray ++ new.toArray ++ rest) elem (0,0)) }:World).heap[b]? = w.heap[b]? := fun b hb _=>heap_push w _ b hb
   have T:=R.move_turn (B:=.row i.size (es ++ es')) hk hid (w':={ ({ w with drawn:=d }:World) with heap:=w.heap.push (.cells (old.toArray ++ new.toArray ++ rest) elem (0,0)) }) (by simp) hnew (.inr (Nat.le_refl _))
   have hsize:(old.toArray ++ new.toArray ++ rest).size=newCap * i.size:=by
    rw [k2]
    simp only [Array.size_append,List.size_toArray,lold,lnew,Builtin.zeroCells,Array.size_map,Array.size_range,hzs]
    rw [← Nat.add_mul,← Nat.add_mul]
    congr 1
    omega
   have R':=R.move (B:=.row i.size (es ++ es')) hk hid (w':={ ({ w with drawn:=d }:World) with heap:=w.heap.push (.cells (old.toArray ++ new.toArray ++ rest) elem (0,0)) }) (by simp) hnew (.inr (Nat.le_refl _)) rfl rfl rfl (by
    refine ⟨_,elem,hheap,by rw [hsize,List.length_append]; exact Nat.mul_le_mul_right _ k1,?_⟩
    refine VElems_append (vs:=old) (vs':=new) hheap hbs hsz (VPs_mono T.stays _ _ q1) (VPs_mono T.stays _ _ f3) q2 f2 fun j hj=>?_
    rw [Array.getElem?_append,if_pos (by simpa using hj),Array.getElem?_append,List.getElem?_append]
    simp) (by simp)
   refine ⟨_,R'.put ?_ (fun k hk=>by rw [hN]; exact hd k hk)⟩
   simp only [VA]
   refine ⟨.inr rfl,⟨by simp,by simp⟩,fun s hs=>?_⟩
   have hik:id ≠ k:=fun h=>hk (h ▸ R.used id hid)
   have:some (i.size,(es ++ es').length)=some s:=by rw [← hs]; simp only [viewOf]; rw [wr_other H _ _ hik,wr_same]; rfl
   simp only [Option.some.injEq] at this
   subst this
   refine ⟨newCap,elem,newCap * i.size,by simp [viewOf,upM_same],by simpa using k1,?_,Nat.le_refl _⟩
   simp only [viewOf,upM_same]
   simp only [World.shape?,hheap,hsize]
theorem append_nil_does (hE:E.OK) {sz bytes:Nat} {s x:AO} {k:Nat} {es':List (List PV)} (hc:cOp E o=some (.append sz bytes s x)) (hd:∀ k,o.dst=some k→k<N)
    (h1:evO F s=.nils) (h2:srcV H (evO F x)=some es') (hsz:∀ e ∈ es',e.length=sz) (hne:0<es'.length) (hlim:es'.length≤2 ^ 30) (hk:¬ U k) :
    Does E N o F H U (.ms k) [(k,.row sz es')] (fun i=>U i∨i=k):=by
 obtain ⟨elem,c,t,u,e',i,z,s',x',ho,hb,ht,ha,hu,hu',hs,hx,hi,hz,hzs,rfl,rfl,hby,hb0⟩:=inv_append hc
 intro X M a w Q hX hN R
 subst hX
 have g1:=cO_ok hE R hs
 rw [h1] at g1
 simp only [VA] at g1
 obtain ⟨A,cx,new,f1,f2,f3,f4⟩:=srcV_ok (sz:=i.size) R h2 (cO_ok hE R hx) hsz
 have ht0:c.argTypes[0]? = some t:=by rw [← Array.getElem?_toList,ht]; rfl
 have ht1:c.argTypes[1]? = some u:=by rw [← Array.getElem?_toList,ht]; rfl
 have lnew:new.length=es'.length * i.size:=by rw [VPs_length f3,flat_length hsz]
 rw [Oper.wp,exec_append ho hb a.eval ha]
 have hold:∀ d,(Builtin.firstCells i.size 0 (.slice none 0 0)).run X.E.P { w with drawn:=d }=.ok #[] { w with drawn:=d }:=fun d=>rfl
 obtain ⟨newCap,rest,d,k1,k2,k3⟩:=r_append_new (P:=X.E.P) (w:=w) (ty:=o.type) ht0 ht1 hu hu' hi hz f1 (by omega) hby hb0 (by omega) hold f4
 rw [g1,r_value k3,Oper.upon_value]
 simp only [Nat.zero_add] at k1 k2 k3 ⊢
 have hsize:(#[] ++ new.toArray ++ rest).size=newCap * i.size:=by
  rw [k2]
  simp only [Array.size_append,List.size_toArray,lnew,Builtin.zeroCells,Array.size_map,Array.size_range,hzs,List.length_nil,Nat.zero_add]
  rw [← Nat.add_mul]
  congr 1
  omega
 have R1:=R.drew d
 have T:=R1.new_turn (.cells (#[] ++ new.toArray ++ rest) elem (0,0)) (.row i.size es') k hk
 have hheap:({ ({ w with drawn:=d }:World) with heap:=w.heap.push (.cells (#[] ++ new.toArray ++ rest) elem (0,0)) }:World).heap[w.heap.size]? = some (.cells (#[] ++ new.toArray ++ rest) elem (0,0)):=by simp
 have R':=R1.new (.cells (#[] ++ new.toArray ++ rest) elem (0,0)) (.row i.size es') k hk (by simp) (by
  refine ⟨_,elem,hheap,by rw [hsize]; exact Nat.mul_le_mul_right _ k1,?_⟩
  have f3':VPs X.E { w with drawn:=d } (okOf X { w with drawn:=d } M H) es'.flatten new:=VPs_mono (w:=w) (w':={ w with drawn:=d }) (ok:=okOf X w M H) (ok':=okOf X { w with drawn:=d } M H) ⟨fun _ h=>h,fun _ _=>rfl⟩ _ _ f3
  have:=VElems_append (es:=[]) (es':=es') (sz:=i.size) (vs:=[]) (vs':=new) hheap (by simp) hsz (by simp [VPs]) (VPs_mono T.stays _ _ f3') (by simp) f2 (fun j hj=>by
   rw [Array.getElem?_append,if_pos (by simpa using hj)]
   simp)
  rw [List.nil_append] at this
  exact this)
 refine ⟨_,R'.put ?_ (fun k hk=>by rw [hN]; exact hd k hk)⟩
 simp only [VA]
 refine ⟨.inr rfl,⟨by simp,by simp⟩,fun s hs=>?_⟩
 have:some (i.size,es'.length)=some s:=by rw [← hs]; simp only [viewOf]; rw [wr_same]; rfl
 simp only [Option.some.injEq] at this
 subst this
 refine ⟨newCap,elem,newCap * i.size,by simp [viewOf,upM_same],by simpa using k1,?_,Nat.le_refl _⟩
 simp only [viewOf,upM_same]
 simp only [World.shape?,hheap,hsize]
theorem append_none_does (hE:E.OK) {sz bytes:Nat} {s x:AO} (hc:cOp E o=some (.append sz bytes s x)) (hd:∀ k,o.dst=some k→k<N)
    (h1:evO F s=.nils) (h2:srcV H (evO F x)=some []):Does E N o F H U .nils [] U:=by
 obtain ⟨elem,c,t,u,e',i,z,s',x',ho,hb,ht,ha,hu,hu',hs,hx,hi,hz,hzs,rfl,rfl,hby,hb0⟩:=inv_append hc
 refine Does.value hd fun X M a w hX R=>?_
 subst hX
 have g1:=cO_ok hE R hs
 rw [h1] at g1
 simp only [VA] at g1
 obtain ⟨A,cx,new,f1,f2,f3,f4⟩:=srcV_ok (sz:=i.size) R h2 (cO_ok hE R hx) (by simp)
 have ht0:c.argTypes[0]? = some t:=by rw [← Array.getElem?_toList,ht]; rfl
 have ht1:c.argTypes[1]? = some u:=by rw [← Array.getElem?_toList,ht]; rfl
 refine ⟨.slice none 0 0,?_,by simp [VA]⟩
 rw [exec_append ho hb a.eval ha,g1]
 refine r_value ?_
 have hl:(Builtin.lenOf (a.eval x')).run X.E.P w=.ok 0 w:=by rw [f1]; rfl
 unfold Builtin.append_
 rw [ht0]
 simp only [List.getElem?_toArray,List.getElem?_cons_zero,List.getElem?_cons_succ,ht1]
 rw [rb (r_underlying hu)]
 simp only
 rw [rb (r_sizeOf hi)]
 rw [rb (r_underlying hu')]
 simp only
 rw [rb (run_pure _ _ _)]
 simp only [Bool.false_eq_true,if_false]
 rw [rb hl]
 simp only [Nat.add_zero,Nat.le_refl,if_true,Bool.not_false]
 have f4':(Builtin.firstCells i.size 0 (a.eval x')).run X.E.P w=.ok new.toArray w:=f4 w.drawn
 rw [rb f4']
 rfl
end
end
section
def okK (K:Nat→Prop) (w:World) (b:Nat):Prop:=b<w.heap.size∧¬ K b
def Ent (E : Env) (n : Nat) : Prop := ∃ fn, E.P.funcs[E.ρ n]? = some fn ∧ (fn.name == "runtime.NumGoroutine") = false ∧ fn.body.isNone = false
def Pure (E:Env) (n:Nat) (args:List PV) (r:PV):Prop :=
 Ent E n∧∀ (K:Nat→Prop) w vs,E.inv w→(∀ b,K b→b<w.heap.size)→VPs E w (okK K w) args vs →
  Calls E.P (E.ρ n) vs.toArray w fun e w'=>∃ v,e=.returned v∧VP E w' (okK K w') r v∧Keeps (fun _=>False) w w'
theorem r_callFunc {E:Env} {n:Nat} {args:Array Value} {w:World} (h:Ent E n):(callFunc (E.ρ n) args).run E.P w=.ok (.enter (E.ρ n) args) w:=by
 obtain ⟨fn,h1,h2,h3⟩:=h
 unfold callFunc
 rw [r_program,h1]
 simp only [h2,h3,Bool.false_eq_true,if_false]
 rfl
section
variable {X:Ctx} {M:Nat→Nat} {F:Fr} {H:Hp} {U:Nat→Prop} {a:Act} {w:World}
theorem Rel.keeps_turn (R:Rel X M F H U a w) {w':World} (h:Keeps (fun _=>False) w w'):Turns (viewOf X w U M H) (viewOf X w' U M H) :=
 R.turn h.size (fun b hb _=>h.block b hb (fun h=>h)) (fun i hi=>.inl ⟨i,hi,rfl⟩) (fun i h=>h) (fun i s hu hs=>⟨hs,rfl,shape_of_heap (h.block _ (R.own i fun h'=>by rw [h'] at hs; simp [Blk.info] at hs).1 (fun h=>h))⟩)
theorem Rel.grown (R:Rel X M F H U a w) {w':World} (h:Keeps (fun _=>False) w w'):Rel X M F H U a w':=by
 have T:=R.keeps_turn h
 exact { defers:=R.defers,size:=R.size,keeps:=R.keeps.trans h (fun _ _ h=>h.elim),K:=R.K,used:=R.used,inj:=R.inj,
         own:=fun i hi=>by obtain ⟨h1,h2,h3⟩:=R.own i hi; exact ⟨Nat.lt_of_lt_of_le h1 h.size,h2,h3⟩,
         blk:=fun i=>BlkOK_turns T _ (fun hne=>h.block _ (R.own i hne).1 (fun h=>h)) (R.blk i),fr:=fun t=>VA_turns T _ _ (R.fr t),gh:=fun v u h=>VA_turns T _ _ (R.gh v u h) }
end
section
variable {E:Env} {N:Nat} {o:Oper} {F:Fr} {H:Hp} {U:Nat→Prop}
theorem exec_call {c:Call} {f:FuncId} (ho:o.op=.call c) (hb:c.callee=.value (.func f)) (a:Act):execOp a.eval o=callFunc f (#[] ++ c.args.map a.eval ++ #[]):=by
 unfold execOp
 rw [ho]
 simp only [resolve,hb]
 rfl
theorem call_does (hE:E.OK) {n:Nat} {l:List AO} {ps:List PV} {r:PV} (hc:cOp E o=some (.call n l)) (hd:∀ k,o.dst=some k→k<N) (h1:pureVs (evOs F l)=some ps) (h2:Pure E n ps r) :
    Does E N o F H U (.pv r) [] U:=by
 obtain ⟨c,f,ho,hb,hf,hl⟩:=inv_call hc
 intro X M a w Q hX hN R
 subst hX
 have e:=hE.rho f n hf
 subst e
 rw [Oper.wp,exec_call ho hb,r_callFunc h2.1,Oper.upon_enter]
 have h3:=pureVs_ok _ _ _ h1 (cOs_ok hE R hl)
 have h4:=h2.2 (fun b=>X.K b∨∃ i,H i ≠ .dead∧M i=b) w _ R.inv (fun b hb=>by
  rcases hb with hb | ⟨i,hi,rfl⟩
  · exact Nat.lt_of_lt_of_le (R.K b hb) R.keeps.size
  · exact (R.own i hi).1) (VPs_mono ⟨fun b hb=>⟨hb.1,fun h=>by
    rcases h with h | ⟨i,hi,h⟩
    · exact hb.2.1 h
    · exact hb.2.2 i hi h⟩,fun _ _=>rfl⟩ _ _ h3)
 have hargs:(#[] ++ c.args.map a.eval ++ #[]:Array Value)=(List.map a.eval c.args.toList).toArray:=by rw [amap]; simp
 rw [hargs]
 refine h4.mono fun e w' hh=>?_
 obtain ⟨v,rfl,g1,g2⟩:=hh
 have R':=R.grown g2
 refine ⟨M,R'.put ?_ (fun k hk=>by rw [hN]; exact hd k hk)⟩
 simp only [VA]
 refine VP_mono ⟨fun b hb=>⟨hb.1,fun h=>hb.2 (.inl h),fun i hi h=>hb.2 (.inr ⟨i,hi,h⟩)⟩,fun _ _=>rfl⟩ _ _ g1
end
end
section
structure AOper where
 dst:Option Nat
 op:AOp
 guard:Option (Nat × Bool)
 deps:List Nat
 deriving Inhabited
inductive ACode where
 | skip
 | ops (l:List AOper)
 | draw (l:List AOper)
 | drawT (l:List AOper) (x:AOper)
 | drawH (l:List AOper)
 | seq (a b:ACode)
 | cond (c:AO) (a b:ACode)
 | block (id:Nat) (b:ACode)
 | loop (b:ACode)
 | exit (id:Nat)
 | ret
 | rangeM (pre:List AOper) (m:AO) (it nx more pair:Nat) (bl:List AOper)
 deriving Inhabited
section
variable (E:Env) (N:Nat)
def cGuard (ops:Array Oper):Option (Nat × Bool)→Option (Option (Nat × Bool))
 | none=>some none
 | some (j,b)=>match (ops[j]?).bind (·.dst) with
  | some t=>if t<N then some (some (t,b)) else none
  | none=>none
def dstOK:Option Nat→Bool
 | some d=>decide (d<N)
 | none=>true
def cOper (ops:Array Oper) (o:Oper):Option AOper :=
 match cOp E o,cGuard N ops o.guard with
 | some op,some g=>if dstOK N o.dst=true then
     some ⟨o.dst,op,g,(o.after.toList.filter (Region.binds .any)).map (·.on)⟩ else none
 | _,_=>none
def cOpers (ops:Array Oper):List Oper→Option (List AOper)
 | []=>some []
 | o :: r=>match cOper E N ops o,cOpers ops r with
  | some a,some l=>some (a :: l)
  | _,_=>none
def tailOp:AOp→Bool
 | .call n _=>Nat.beq n 22
 | _=>false
def splitT:List AOper→Option (List AOper × AOper)
 | []=>none
 | x :: r=>match r with
  | []=>cond (tailOp x.op) (some ([],x)) none
  | _=>match splitT r with
   | some (l,z)=>some (x :: l,z)
   | none=>none
def heavyN (n:Nat):Bool:=Nat.blt n 16 || (Nat.ble 24 n && Nat.ble n 66)
def hasH:List AOper→Bool
 | []=>false
 | x :: r=>match x.op with
  | .call n _=>cond (heavyN n) true (hasH r)
  | _=>hasH r
def drawC (l:List AOper):ACode:=match splitT l with
 | some (l',x)=>.drawT l' x
 | none=>match hasH l with
  | true=>.drawH l
  | false=>.draw l
theorem splitT_ok:∀ {l l':List AOper} {x:AOper},splitT l=some (l',x)→l=l' ++ [x]
 | [],l',x,h=>by simp [splitT] at h
 | y :: r,l',x,h=>by
  unfold splitT at h
  split at h
  · cases ht:tailOp y.op with
    | true =>
     rw [ht] at h
     simp only [cond_true,Option.some.injEq,Prod.mk.injEq] at h
     obtain ⟨rfl,rfl⟩:=h
     rfl
    | false =>
     rw [ht] at h
     simp at h
  · split at h
    · rename_i l z hz
      simp only [Option.some.injEq,Prod.mk.injEq] at h
      obtain ⟨rfl,rfl⟩:=h
      rw [splitT_ok hz]
      rfl
    · simp at h
/-! Ranging over a map. -/
def flat1:ACode→Option (List AOper)
 | .skip=>some []
 | .ops l=>some l
 | .seq a b=>match flat1 a,flat1 b with
  | some x,some y=>some (x ++ y)
  | _,_=>none
 | _=>none
def lastL:List AOper→Option (List AOper × AOper)
 | []=>none
 | x :: r=>match r with
  | []=>some ([],x)
  | _=>match lastL r with
   | some (l,z)=>some (x :: l,z)
   | none=>none
theorem lastL_ok:∀ {l l':List AOper} {x:AOper},lastL l=some (l',x)→l=l' ++ [x]
 | [],l',x,h=>by simp [lastL] at h
 | y :: r,l',x,h=>by
  unfold lastL at h
  split at h
  · simp only [Option.some.injEq,Prod.mk.injEq] at h
    obtain ⟨rfl,rfl⟩:=h
    rfl
  · split at h
    · rename_i l z hz
      simp only [Option.some.injEq,Prod.mk.injEq] at h
      obtain ⟨rfl,rfl⟩:=h
      rw [lastL_ok hz]
      rfl
    · simp at h
structure RngH where
 out:Nat
 nid:Nat
 it:Nat
 nx:Nat
 more:Nat
 pair:Nat
 d1:List Nat
 d2:List Nat
 d3:List Nat
 bl1:List AOper
 b2:ACode
def RngH.code (h:RngH):ACode:=.block h.out (.loop (.seq (.ops [⟨some h.nx,.nxt (.t h.it),none,h.d1⟩,⟨some h.more,.extract (.t h.nx) 0,none,h.d2⟩]) (.seq (.cond (.t h.more) .skip (.exit h.out)) (.block h.nid (.seq (.ops (⟨some h.pair,.ent (.t h.it),none,h.d3⟩ :: h.bl1)) h.b2)))))
def dstsL:List AOper→List Nat
 | []=>[]
 | x :: r=>match x.dst with
  | some d=>d :: dstsL r
  | none=>dstsL r
def rngH:ACode→Option RngH
 | .block out (.loop (.seq (.ops [⟨some nx,.nxt (.t it),none,d1⟩,⟨some more,.extract (.t nx') 0,none,d2⟩]) (.seq (.cond (.t more') .skip (.exit out')) (.block nid (.seq (.ops (⟨some pair,.ent (.t it'),none,d3⟩ :: bl1)) b2))))) =>
  if nx=nx'∧more=more'∧out=out'∧it=it' then some ⟨out,nid,it,nx,more,pair,d1,d2,d3,bl1,b2⟩ else none
 | _=>none
theorem rngH_ok {y:ACode} {h:RngH} (e:rngH y=some h):y=h.code:=by
 unfold rngH at e
 split at e
 · split at e
   · rename_i hh
     obtain ⟨rfl,rfl,rfl,rfl⟩:=hh
     simp only [Option.some.injEq] at e
     subst e
     rfl
   · simp at e
 · simp at e
def rngC (x y:ACode):Option ACode:=match x,rngH y with
 | .ops l,some h=>match lastL l,flat1 h.b2 with
  | some (pre,⟨some it,.rng m,none,_⟩),some bl2=>if it=h.it∧it ≠ h.nx∧it ≠ h.more∧it ≠ h.pair∧¬ it ∈ dstsL (h.bl1 ++ bl2) then some (.rangeM pre m it h.nx h.more h.pair (h.bl1 ++ bl2)) else none
  | _,_=>none
 | _,_=>none
def seqR (x y:ACode):ACode:=match rngC x y with
 | some r=>r
 | none=>.seq x y
theorem rngC_ok {x y r:ACode} (e:rngC x y=some r):∃ (pre:List AOper) (m:AO) (it:Nat) (d:List Nat) (h:RngH) (bl2:List AOper),r=.rangeM pre m it h.nx h.more h.pair (h.bl1 ++ bl2)∧x=.ops (pre ++ [⟨some it,.rng m,none,d⟩])∧y=h.code∧flat1 h.b2=some bl2∧it=h.it∧it ≠ h.nx∧it ≠ h.more∧it ≠ h.pair∧¬ it ∈ dstsL (h.bl1 ++ bl2):=by
 unfold rngC at e
 split at e
 · rename_i l h hh
   split at e
   · rename_i pre it m d bl2 h1 h2
     split at e
     · rename_i hc
       simp only [Option.some.injEq] at e
       exact ⟨pre,m,it,d,h,bl2,e.symm,by rw [lastL_ok h1],rngH_ok hh,h2,hc⟩
     · simp at e
   · simp at e
 · simp at e
theorem seqR_sh (x y:ACode):seqR x y=.seq x y∨∃ (pre:List AOper) (m:AO) (it nx more pair:Nat) (bl:List AOper),seqR x y=.rangeM pre m it nx more pair bl:=by
 unfold seqR
 split
 · rename_i r h
   obtain ⟨pre,m,it,d,h,bl2,h1,_⟩:=rngC_ok h
   exact .inr ⟨_,_,_,_,_,_,_,h1⟩
 · exact .inl rfl
theorem seqR_cases (x y:ACode):seqR x y=.seq x y∨∃ r,rngC x y=some r∧seqR x y=r:=by
 unfold seqR
 split
 · rename_i r h
   exact .inr ⟨r,h,rfl⟩
 · exact .inl rfl
def cCode:Code→Option ACode
 | .skip=>some .skip
 | .region _ ops draw=>match cOpers E N ops ops.toList with
  | some l=>some (if draw then drawC l else .ops l)
  | none=>none
 | .seq a b=>match cCode a,cCode b with
  | some x,some y=>some (seqR x y)
  | _,_=>none
 | .cond c a b=>match cO E c,cCode a,cCode b with
  | some c,some x,some y=>some (.cond c x y)
  | _,_,_=>none
 | .block id b=>match cCode b with
  | some x=>some (.block id x)
  | none=>none
 | .loop b=>match cCode b with
  | some x=>some (.loop x)
  | none=>none
 | .exit id=>some (.exit id)
 | .ret=>some .ret
 | _=>none
end
structure St where
 fr:List (Nat × AV)
 hp:List (Nat × Blk)
 nx:Nat
 deriving Inhabited
def Rl (X:Ctx) (M:Nat→Nat) (st:St) (a:Act) (w:World):Prop:=Rel X M (look st.fr) (blkAt st.hp) (fun i=>i<st.nx) a w
theorem blkAt_wr (H:List (Nat × Blk)):∀ (W:List (Nat × Blk)),blkAt (W ++ H)=wr (blkAt H) W
 | []=>rfl
 | (k,B) :: r=>by
  funext t
  simp only [List.cons_append,blkAt,wr,blkAt_wr H r]
def putS (st:St) (d:Option Nat) (v:AV):List (Nat × AV):=match d with
 | some k=>(k,v) :: st.fr
 | none=>st.fr
theorem look_put (st:St) (d:Option Nat) (v:AV):look (putS st d v)=put (look st.fr) d v:=by
 cases d <;> rfl
theorem Rel.used_mono {X:Ctx} {M:Nat→Nat} {F:Fr} {H:Hp} {U U':Nat→Prop} {a:Act} {w:World} (R:Rel X M F H U a w) (h:∀ i,U i→U' i):Rel X M F H U' a w:=by
 have T:Turns (viewOf X w U M H) (viewOf X w U' M H):=⟨rfl,⟨fun _ h=>h,fun _ _=>rfl⟩,h,fun i s hu hs=>⟨hs,rfl,rfl⟩⟩
 exact { defers:=R.defers,size:=R.size,keeps:=R.keeps,K:=R.K,used:=fun i hi=>h i (R.used i hi),inj:=R.inj,own:=R.own,
         blk:=fun i=>BlkOK_turns T _ (fun _=>rfl) (R.blk i),fr:=fun t=>VA_turns T _ _ (R.fr t),gh:=fun v u h=>VA_turns T _ _ (R.gh v u h) }
def ADoes (E:Env) (N:Nat) (x:AOper) (st:St) (v:AV) (W:List (Nat × Blk)) (n:Nat):Prop :=
 ∀ o,cOp E o=some x.op→o.dst=x.dst→(∀ k,o.dst=some k→k<N) →
  Does E N o (look st.fr) (blkAt st.hp) (fun i=>i<st.nx) v W (fun i=>i<st.nx + n)
def next (st:St) (x:AOper) (v:AV) (W:List (Nat × Blk)) (n:Nat):St:=⟨putS st x.dst v,W ++ st.hp,st.nx + n⟩
def WPo (E:Env) (N:Nat) (l:List AOper) (Q:St→Prop) (st:St):Prop :=
 ∀ (ops:Array Oper) (k:Nat),k + l.length≤ops.size→(∀ (j:Nat) x,l[j]? = some x→∃ o,ops[k + j]? = some o∧cOper E N ops o=some x) →
  ∀ X M a w (Q':Exit→Act→World→Prop),X.E=E→X.N=N→Rl X M st a w→(∀ M' st' a' w',Q st'→Rl X M' st' a' w'→Q' .normal a' w')→wpOps E.P ops Q' (List.range' k l.length) a w
theorem WPo.nil {E:Env} {N:Nat} {Q:St→Prop} {st:St} (h:Q st):WPo E N [] Q st:=by
 intro ops k hk hl X M a w Q' hE hN R hq
 exact hq M st a w h R
def guardV (F:Fr):Option (Nat × Bool)→Option Bool
 | none=>some true
 | some (t,b)=>match F t with
  | .pv (.bool c)=>some (c == b)
  | .pv (.tuple [])=>some false
  | _=>none
theorem cOper_spec {E:Env} {N:Nat} {ops:Array Oper} {o:Oper} {x:AOper} (h:cOper E N ops o=some x) :
    cOp E o=some x.op∧o.dst=x.dst∧(∀ k,o.dst=some k→k<N)∧cGuard N ops o.guard=some x.guard:=by
 unfold cOper at h
 split at h
 · rename_i op g h1 h2
   split at h
   · rename_i h3
     simp at h
     subst h
     refine ⟨h1,rfl,fun k hk=>?_,h2⟩
     rw [hk] at h3
     simpa [dstOK] using h3
   · simp at h
 · simp at h
theorem guard_ok {X:Ctx} {M:Nat→Nat} {st:St} {a:Act} {w:World} {ops:Array Oper} {o:Oper} {g:Option (Nat × Bool)} {b:Bool} (R:Rl X M st a w) (hc:cGuard X.N ops o.guard=some g) (hg:guardV (look st.fr) g=some b) :
    Region.wanted o (yielded ops a.tmps)=b:=by
 unfold Region.wanted
 unfold cGuard at hc
 split at hc
 · rename_i h
   simp at hc
   subst hc
   simp [guardV] at hg
   rw [h]
   simp [hg]
 · rename_i j want h
   rw [h]
   simp only
   split at hc
   · rename_i t ht
     split at hc
     · rename_i hlt
       simp at hc
       subst hc
       simp only [guardV] at hg
       have hv:=R.fr t
       have hsz:t<a.tmps.size:=by rw [R.size]; exact hlt
       have hget:a.tmps[t]? = some (a.tmps.getD t undef):=by simp [hsz]
       split at hg
       · rename_i c hF
         rw [hF] at hv
         simp only [VA,VP] at hv
         simp at hg
         subst hg
         unfold yielded
         rw [ht,Option.bind_some,hget,hv]
         simp
       · rename_i hF
         rw [hF] at hv
         simp only [VA,VP,VPs] at hv
         obtain ⟨vs,h1,rfl⟩:=hv
         simp at hg
         subst hg
         unfold yielded
         rw [ht,Option.bind_some,hget,h1]
         simp
       · simp at hg
     · simp at hc
   · simp at hc
theorem WPo.cons {E:Env} {N:Nat} {x:AOper} {l:List AOper} {Q:St→Prop} {st:St} {v:AV} {W:List (Nat × Blk)} {n:Nat} (hg:guardV (look st.fr) x.guard=some true) (hd:ADoes E N x st v W n)
    (h:WPo E N l Q (next st x v W n)):WPo E N (x :: l) Q st:=by
 intro ops k hk hl X M a w Q' hE hN R hq
 obtain ⟨o,ho,hc⟩:=hl 0 x rfl
 obtain ⟨h1,h2,h3,h4⟩:=cOper_spec hc
 simp only [List.length_cons,List.range'_succ]
 rw [wpOps_cons]
 unfold wpOp
 rw [show ops[k]? = some o from ho]
 simp only
 have hw:=guard_ok (X:=X) (o:=o) R (by rw [hN]; exact h4) hg
 rw [if_pos hw]
 left
 refine Oper.wp_mono ?_ (hd o h1 h2 h3 X M a w Q' hE hN R)
 rintro a' w' ⟨M',R'⟩
 refine h ops (k + 1) (by simp at hk; omega) (fun j y hy=>?_) X M' a' w' Q' hE hN ?_ hq
 · have:=hl (j + 1) y (by simpa using hy)
   rwa [← Nat.add_assoc,Nat.add_right_comm] at this
 · unfold Rl next
   simp only
   rw [look_put,blkAt_wr,← h2]
   exact R'
theorem WPo.skip {E:Env} {N:Nat} {x:AOper} {l:List AOper} {Q:St→Prop} {st:St} (hg:guardV (look st.fr) x.guard=some false)
    (h:WPo E N l Q (next st x (.pv (.tuple [])) [] 0)):WPo E N (x :: l) Q st:=by
 intro ops k hk hl X M a w Q' hE hN R hq
 obtain ⟨o,ho,hc⟩:=hl 0 x rfl
 obtain ⟨h1,h2,h3,h4⟩:=cOper_spec hc
 simp only [List.length_cons,List.range'_succ]
 rw [wpOps_cons]
 unfold wpOp
 rw [show ops[k]? = some o from ho]
 simp only
 have hw:=guard_ok (X:=X) (o:=o) R (by rw [hN]; exact h4) hg
 rw [if_neg (by rw [hw]; simp)]
 refine h ops (k + 1) (by simp at hk; omega) (fun j y hy=>?_) X M (a.put o.dst undef) w Q' hE hN ?_ hq
 · have:=hl (j + 1) y (by simpa using hy)
   rwa [← Nat.add_assoc,Nat.add_right_comm] at this
 · unfold Rl next
   simp only
   rw [look_put,← h2,Nat.add_zero]
   exact Rel.put R (by simp only [VA,VP,VPs]; exact ⟨[],rfl,rfl⟩) (fun k hk=>by rw [hN]; exact h3 k hk)
/-! ### Code -/
def WP (E:Env) (N:Nat) (c:ACode) (Q:Exit→St→Prop) (st:St):Prop :=
 ∀ code,cCode E N code=some c→∀ X M a w (Q':Exit→Act→World→Prop),X.E=E→X.N=N→Rl X M st a w→(∀ e M' st' a' w',Q e st'→Rl X M' st' a' w'→Q' e a' w')→code.wp E.P Q' a w
theorem cOpers_get {E:Env} {N:Nat} {ops:Array Oper}:∀ {os:List Oper} {l:List AOper},cOpers E N ops os=some l→l.length=os.length∧∀ (j:Nat) x,l[j]? = some x→∃ o,os[j]? = some o∧cOper E N ops o=some x
 | [],l,h=>by simp [cOpers] at h; subst h; simp
 | o :: r,l,h=>by
  simp only [cOpers] at h
  split at h
  · rename_i a l' h1 h2
    simp at h
    subst h
    obtain ⟨h3,h4⟩:=cOpers_get h2
    refine ⟨by simp [h3],fun j x hx=>?_⟩
    cases j with
    | zero=>simp at hx; subst hx; exact ⟨o,rfl,h1⟩
    | succ j=>exact h4 j x (by simpa using hx)
  · simp at h
section
variable {E:Env} {N:Nat} {code:Code}
theorem inv_c_skip (h:cCode E N code=some .skip):code=.skip:=by
 cases code <;> grind [cCode,drawC,seqR_sh]
theorem inv_c_ops {l:List AOper} (h:cCode E N code=some (.ops l)):∃ id ops,code=.region id ops false∧cOpers E N ops ops.toList=some l:=by
 cases code <;> grind [cCode,drawC,seqR_sh]
theorem drawC_draw {l l':List AOper} (h:drawC l=.draw l'):l=l':=by
 unfold drawC at h
 split at h
 · simp at h
 · split at h
   · simp at h
   · simpa using h
theorem drawC_drawH {l l':List AOper} (h:drawC l=.drawH l'):l=l':=by
 unfold drawC at h
 split at h
 · simp at h
 · split at h
   · simpa using h
   · simp at h
theorem drawC_drawT {l l':List AOper} {x:AOper} (h:drawC l=.drawT l' x):l=l' ++ [x]:=by
 unfold drawC at h
 split at h
 · rename_i l1 y hs
   simp only [ACode.drawT.injEq] at h
   obtain ⟨rfl,rfl⟩:=h
   exact splitT_ok hs
 · split at h <;> simp at h
theorem inv_c_region {c:ACode} (h:cCode E N code=some c) (id:Nat) (ops:Array Oper) (draw:Bool) (hc:code=.region id ops draw):∃ l,cOpers E N ops ops.toList=some l∧c=if draw then drawC l else .ops l:=by
 subst hc
 simp only [cCode] at h
 split at h
 · rename_i l hl
   exact ⟨l,hl,(Option.some.inj h).symm⟩
 · simp at h
theorem inv_c_draw {l:List AOper} (h:cCode E N code=some (.draw l)):∃ id ops,code=.region id ops true∧cOpers E N ops ops.toList=some l:=by
 cases code with
 | region id ops draw =>
  obtain ⟨l',h1,h2⟩:=inv_c_region h id ops draw rfl
  cases draw with
  | true=>exact ⟨id,ops,rfl,by rw [h1,drawC_draw h2.symm]⟩
  | false=>simp at h2
 | _=>grind [cCode,seqR_sh]
theorem inv_c_drawH {l:List AOper} (h:cCode E N code=some (.drawH l)):∃ id ops,code=.region id ops true∧cOpers E N ops ops.toList=some l:=by
 cases code with
 | region id ops draw =>
  obtain ⟨l',h1,h2⟩:=inv_c_region h id ops draw rfl
  cases draw with
  | true=>exact ⟨id,ops,rfl,by rw [h1,drawC_drawH h2.symm]⟩
  | false=>simp at h2
 | _=>grind [cCode,seqR_sh]
theorem inv_c_drawT {l:List AOper} {x:AOper} (h:cCode E N code=some (.drawT l x)):∃ id ops,code=.region id ops true∧cOpers E N ops ops.toList=some (l ++ [x]):=by
 cases code with
 | region id ops draw =>
  obtain ⟨l',h1,h2⟩:=inv_c_region h id ops draw rfl
  cases draw with
  | true=>exact ⟨id,ops,rfl,by rw [h1,drawC_drawT h2.symm]⟩
  | false=>simp at h2
 | _=>grind [cCode,seqR_sh]
theorem inv_c_seq {x y:ACode} (h:cCode E N code=some (.seq x y)):∃ a b,code=.seq a b∧cCode E N a=some x∧cCode E N b=some y:=by
 cases code <;> grind [cCode,drawC,seqR_sh]
theorem inv_c_range {pre:List AOper} {m:AO} {it nx more pair:Nat} {bl:List AOper} (h:cCode E N code=some (.rangeM pre m it nx more pair bl)) :
    ∃ a b x y,code=.seq a b∧cCode E N a=some x∧cCode E N b=some y∧rngC x y=some (.rangeM pre m it nx more pair bl):=by
 cases code with
 | seq a b =>
  simp only [cCode] at h
  split at h
  · rename_i x y h1 h2
    simp only [Option.some.injEq] at h
    refine ⟨a,b,x,y,rfl,h1,h2,?_⟩
    rcases seqR_cases x y with e | ⟨r,e1,e2⟩
    · rw [e] at h; simp at h
    · rw [e1,← e2,h]
  · simp at h
 | _=>grind [cCode,drawC,seqR_sh]
theorem inv_c_cond {c:AO} {x y:ACode} (h:cCode E N code=some (.cond c x y)):∃ c' a b,code=.cond c' a b∧cO E c'=some c∧cCode E N a=some x∧cCode E N b=some y:=by
 cases code <;> grind [cCode,drawC,seqR_sh]
theorem inv_c_block {id:Nat} {x:ACode} (h:cCode E N code=some (.block id x)):∃ a,code=.block id a∧cCode E N a=some x:=by
 cases code <;> grind [cCode,drawC,seqR_sh]
theorem inv_c_loop {x:ACode} (h:cCode E N code=some (.loop x)):∃ a,code=.loop a∧cCode E N a=some x:=by
 cases code <;> grind [cCode,drawC,seqR_sh]
theorem inv_c_exit {id:Nat} (h:cCode E N code=some (.exit id)):code=.exit id:=by
 cases code <;> grind [cCode,drawC,seqR_sh]
theorem inv_c_ret (h:cCode E N code=some .ret):code=.ret:=by
 cases code <;> grind [cCode,drawC,seqR_sh]
end
section
variable {E:Env} {N:Nat} {Q:Exit→St→Prop} {st:St}
theorem WP.skip (h:Q .normal st):WP E N .skip Q st:=by
 intro code hc X M a w Q' hE hN R hq
 rw [inv_c_skip hc]
 exact wp_skip (hq _ M st a w h R)
theorem WP.exit {id:Nat} (h:Q (.exit id) st):WP E N (.exit id) Q st:=by
 intro code hc X M a w Q' hE hN R hq
 rw [inv_c_exit hc]
 exact wp_exit (hq _ M st a w h R)
theorem WP.ret (h:Q .ret st):WP E N .ret Q st:=by
 intro code hc X M a w Q' hE hN R hq
 rw [inv_c_ret hc]
 exact wp_ret (hq _ M st a w h R)
def thenQ (K:St→Prop) (Q:Exit→St→Prop):Exit→St→Prop
 | .normal,st=>K st
 | e,st=>Q e st
theorem WP.seq {x y:ACode} (h:WP E N x (thenQ (WP E N y Q) Q) st):WP E N (.seq x y) Q st:=by
 intro code hc X M a w Q' hE hN R hq
 obtain ⟨c1,c2,rfl,h1,h2⟩:=inv_c_seq hc
 refine wp_seq (h c1 h1 X M a w _ hE hN R fun e M' st' a' w' hQ R'=>?_)
 cases e with
 | normal=>exact hQ c2 h2 X M' a' w' Q' hE hN R' hq
 | _=>exact hq _ M' st' a' w' hQ R'
theorem WP.mono {x:ACode} {Q₂:Exit→St→Prop} (h:WP E N x Q₂ st) (hh:∀ e st,Q₂ e st→Q e st):WP E N x Q st:=by
 intro code hc X M a w Q' hE hN R hq
 exact h code hc X M a w Q' hE hN R fun e M' st' a' w' hQ R'=>hq e M' st' a' w' (hh e st' hQ) R'
theorem WP.ops (hE':E.OK) {l:List AOper} (h:WPo E N l (Q .normal) st):WP E N (.ops l) Q st:=by
 intro code hc X M a w Q' hE hN R hq
 obtain ⟨id,ops,rfl,h1⟩:=inv_c_ops hc
 obtain ⟨h2,h3⟩:=cOpers_get h1
 refine wp_region ?_
 have:=h ops 0 (by rw [Nat.zero_add,h2]; simp) (fun j x hx=>by
  obtain ⟨o,h4,h5⟩:=h3 j x hx
  exact ⟨o,by rw [Nat.zero_add,← Array.getElem?_toList]; exact h4,h5⟩) X M a w Q' hE hN R (fun M' st' a' w' hQ R'=>hq _ M' st' a' w' hQ R')
 rw [h2,← List.range_eq_range',Array.length_toList] at this
 exact this
theorem WP.cond (hE':E.OK) {c:AO} {x y:ACode} {b:Bool} (hc:evO (look st.fr) c=.pv (.bool b)) (h1:b=true→WP E N x Q st) (h2:b=false→WP E N y Q st):WP E N (.cond c x y) Q st:=by
 intro code hcc X M a w Q' hE hN R hq
 subst hE
 obtain ⟨c',c1,c2,rfl,g0,g1,g2⟩:=inv_c_cond hcc
 have hv:=cO_ok hE' R g0
 rw [hc] at hv
 simp only [VA,VP] at hv
 refine wp_cond (t:=b) hv ?_
 cases b with
 | true=>exact h1 rfl c1 g1 X M a w Q' rfl hN R hq
 | false=>exact h2 rfl c2 g2 X M a w Q' rfl hN R hq
def blockQ (id:Nat) (Q:Exit→St→Prop):Exit→St→Prop
 | .exit i,st=>cond (Nat.beq i id) (Q .normal st) (Q (.exit i) st)
 | e,st=>Q e st
theorem WP.block {id:Nat} {x:ACode} (h:WP E N x (blockQ id Q) st):WP E N (.block id x) Q st:=by
 intro code hc X M a w Q' hE hN R hq
 obtain ⟨c1,rfl,h1⟩:=inv_c_block hc
 refine wp_block (h c1 h1 X M a w _ hE hN R fun e M' st' a' w' hQ R'=>?_)
 cases e with
 | exit i =>
  simp only [blockQ] at hQ
  simp only [Exit.inBlock]
  by_cases hi:i=id
  · subst hi
    rw [beq_self] at hQ
    rw [if_pos rfl]
    exact hq _ M' st' a' w' hQ R'
  · rw [beq_ne hi] at hQ
    rw [if_neg hi]
    exact hq _ M' st' a' w' hQ R'
 | _=>exact hq _ M' st' a' w' hQ R'
theorem WP.loop {x:ACode} (I:Nat→St→Prop) (n:Nat) (h0:I n st) (round:∀ n st,I n st→WP E N x (thenQ (fun st'=>∃ m,m<n∧I m st') Q) st):WP E N (.loop x) Q st:=by
 intro code hc X M a w Q' hE hN R hq
 obtain ⟨c1,rfl,h1⟩:=inv_c_loop hc
 refine wp_loop_ghost (fun n a w=>∃ M st,I n st∧Rl X M st a w) n ⟨M,st,h0,R⟩ ?_
 rintro n a w ⟨M,st,hI,R⟩
 refine round n st hI c1 h1 X M a w _ hE hN R fun e M' st' a' w' hQ R'=>?_
 cases e with
 | normal=>obtain ⟨m,h2,h3⟩:=hQ; exact ⟨m,h2,M',st',h3,R'⟩
 | _=>exact hq _ M' st' a' w' hQ R'
end
end
section
/-! ### Owned memory that is handed over -/
mutual
def snapR (H:Hp):AV→Option PV
 | .pv p=>some p
 | .nils=>some (.slice [])
 | .ms id=>match H id with
  | .row _ es=>some (.slice es)
  | _=>none
 | .msub id off len=>match H id with
  | .row _ es=>match Nat.ble (off + len) es.length with
   | true=>some (.slice ((es.drop off).take len))
   | false=>none
  | _=>none
 | .func f fs cs=>match snapRs H fs,snapRs H cs with
  | some a,some b=>some (.func f a b)
  | _,_=>none
 | .iface t v=>match snapR H v with
  | some p=>some (.iface t p)
  | none=>none
 | .agg cs=>match snapRs H cs with
  | some l=>some (.agg l)
  | none=>none
 | .tuple cs=>match snapRs H cs with
  | some l=>some (.tuple l)
  | none=>none
 | _=>none
def snapRs (H:Hp):List AV→Option (List PV)
 | []=>some []
 | c :: r=>match snapR H c,snapRs H r with
  | some p,some l=>some (p :: l)
  | _,_=>none
end
mutual
def snapV (H:Hp):AV→Option PV
 | .ptr id i off=>match H id with
  | .var cs=>match snapRs H cs with
   | some ps=>some (.cptr ps off)
   | none=>none
  | .row _ es=>match es[i]? with
   | some e=>some (.cptr e off)
   | none=>none
  | _=>none
 | .func f fs cs=>match snapVs H fs,snapVs H cs with
  | some a,some b=>some (.func f a b)
  | _,_=>none
 | .iface t v=>match snapV H v with
  | some p=>some (.iface t p)
  | none=>none
 | .agg cs=>match snapVs H cs with
  | some l=>some (.agg l)
  | none=>none
 | .tuple cs=>match snapVs H cs with
  | some l=>some (.tuple l)
  | none=>none
 | v=>snapR H v
def snapVs (H:Hp):List AV→Option (List PV)
 | []=>some []
 | c :: r=>match snapV H c,snapVs H r with
  | some p,some l=>some (p :: l)
  | _,_=>none
end
section
variable {X:Ctx} {M:Nat→Nat} {F:Fr} {H:Hp} {U:Nat→Prop} {a:Act} {w:World} {ok:Nat→Prop}
mutual
theorem snapR_ok (R:Rel X M F H U a w) (h1:∀ b,okOf X w M H b→ok b) (h2:∀ i,H i ≠ .dead→ok (M i)):(c:AV)→(p:PV)→(v:Value)→snapR H c=some p→VA (viewOf X w U M H) c v→VP X.E w ok p v
 | .pv q,p,v,h,hv=>by
  simp [snapR] at h; subst h
  simp only [VA] at hv
  exact VP_mono ⟨h1,fun _ _=>rfl⟩ _ _ hv
 | .nils,p,v,h,hv=>by
  simp [snapR] at h; subst h
  simp only [VA] at hv
  subst hv
  simp only [VP]
  exact ⟨none,0,0,rfl,rfl,Nat.le_refl _,fun h=>by simp at h⟩
 | .bot,p,v,h,hv=>by simp [snapR] at h
 | .ptr _ _ _,p,v,h,hv=>by simp [snapR] at h
 | .map _,p,v,h,hv=>by simp [snapR] at h
 | .ms id,p,v,h,hv=>by
  simp only [snapR] at h
  split at h
  · rename_i sz es hid
    simp at h
    subst h
    simp only [VA] at hv
    obtain ⟨cap,t,tot,g1,g2,g3,g4⟩:=hv.2.2 (sz,es.length) (by simp [viewOf,hid,Blk.info])
    have hb:=R.blk id
    rw [hid] at hb
    obtain ⟨c,t',q1,q2,q3⟩:=hb
    simp only [VP]
    exact ⟨_,es.length,cap,g1,rfl,g2,fun _=>⟨M id,0,sz,rfl,h2 id (by simp [hid]),VElems_mono ⟨h1,fun _ _=>rfl⟩ _ _ _ _ (fun _=>rfl) q3⟩⟩
  · simp at h
 | .asub id off len,p,v,h,hv=>by simp [snapR] at h
 | .msub id off len,p,v,h,hv=>by
  simp only [snapR] at h
  split at h
  · rename_i sz es hid
    split at h
    · rename_i hle
      have hle:=Nat.le_of_ble_eq_true hle
      simp at h
      subst h
      simp only [VA] at hv
      obtain ⟨A,cap,t,tot,g1,g2,g3,g4,g5⟩:=hv.2.2 (sz,es.length) (by simp [viewOf,hid,Blk.info])
      have hb:=R.blk id
      rw [hid] at hb
      obtain ⟨c,t',q1,q2,q3⟩:=hb
      have hl:((es.drop off).take len).length=len:=by simp; omega
      simp only [VP]
      refine ⟨A,len,cap,g1,hl.symm,g2,fun hp=>⟨M id,off * sz,sz,g5 (.inl (by omega)),h2 id (by simp [hid]),?_⟩⟩
      have:=VElems_sub q3 off len
      rw [Nat.zero_add] at this
      exact VElems_mono ⟨h1,fun _ _=>rfl⟩ _ _ _ _ (fun _=>rfl) this
    · simp at h
  · simp at h
 | .func f fs cs,p,v,h,hv=>by
  simp only [snapR] at h
  split at h
  · rename_i x y e1 e2
    simp at h
    subst h
    simp only [VA,VP] at hv ⊢
    obtain ⟨vs,us,g1,g2,g3⟩:=hv
    exact ⟨vs,us,g1,snapRs_ok R h1 h2 fs x vs e1 g2,snapRs_ok R h1 h2 cs y us e2 g3⟩
  · simp at h
 | .iface t u,p,v,h,hv=>by
  simp only [snapR] at h
  split at h
  · rename_i x e1
    simp at h
    subst h
    simp only [VA,VP] at hv ⊢
    obtain ⟨y,g1,g2⟩:=hv
    exact ⟨y,g1,snapR_ok R h1 h2 u x y e1 g2⟩
  · simp at h
 | .agg cs,p,v,h,hv=>by
  simp only [snapR] at h
  split at h
  · rename_i x e1
    simp at h
    subst h
    simp only [VA,VP] at hv ⊢
    obtain ⟨vs,g1,g2⟩:=hv
    exact ⟨vs,g1,snapRs_ok R h1 h2 cs x vs e1 g2⟩
  · simp at h
 | .tuple cs,p,v,h,hv=>by
  simp only [snapR] at h
  split at h
  · rename_i x e1
    simp at h
    subst h
    simp only [VA,VP] at hv ⊢
    obtain ⟨vs,g1,g2⟩:=hv
    exact ⟨vs,g1,snapRs_ok R h1 h2 cs x vs e1 g2⟩
  · simp at h
theorem snapRs_ok (R:Rel X M F H U a w) (h1:∀ b,okOf X w M H b→ok b) (h2:∀ i,H i ≠ .dead→ok (M i)):(cs:List AV)→(ps:List PV)→(vs:List Value)→snapRs H cs=some ps→VAs (viewOf X w U M H) cs vs→VPs X.E w ok ps vs
 | [],ps,vs,h,hv=>by simp [snapRs] at h; subst h; simpa [VAs,VPs] using hv
 | c :: r,ps,vs,h,hv=>by
  simp only [snapRs] at h
  split at h
  · rename_i p l e1 e2
    simp at h
    subst h
    simp only [VAs,VPs] at hv ⊢
    obtain ⟨u,us,g1,g2,g3⟩:=hv
    exact ⟨u,us,g1,snapR_ok R h1 h2 c p u e1 g2,snapRs_ok R h1 h2 r l us e2 g3⟩
  · simp at h
end
mutual
theorem snapV_ok (R:Rel X M F H U a w) (h1:∀ b,okOf X w M H b→ok b) (h2:∀ i,H i ≠ .dead→ok (M i)):(c:AV)→(p:PV)→(v:Value)→snapV H c=some p→VA (viewOf X w U M H) c v→VP X.E w ok p v
 | .pv q,p,v,h,hv=>snapR_ok R h1 h2 _ p v (by simpa only [snapV] using h) hv
 | .nils,p,v,h,hv=>snapR_ok R h1 h2 _ p v (by simpa only [snapV] using h) hv
 | .bot,p,v,h,hv=>snapR_ok R h1 h2 _ p v (by simpa only [snapV] using h) hv
 | .map _,p,v,h,hv=>snapR_ok R h1 h2 _ p v (by simpa only [snapV] using h) hv
 | .ms _,p,v,h,hv=>snapR_ok R h1 h2 _ p v (by simpa only [snapV] using h) hv
 | .asub _ _ _,p,v,h,hv=>snapR_ok R h1 h2 _ p v (by simpa only [snapV] using h) hv
 | .msub _ _ _,p,v,h,hv=>snapR_ok R h1 h2 _ p v (by simpa only [snapV] using h) hv
 | .ptr id i off,p,v,h,hv=>by
  simp only [snapV] at h
  have hb:=R.blk id
  simp only [VA] at hv
  split at h
  · rename_i cs hid
    split at h
    · rename_i ps e1
      simp at h
      subst h
      rw [hid] at hb
      obtain ⟨c,t,q1,q2,q3⟩:=hb
      have:=hv.2.2 (0,0) (by simp [viewOf,hid,Blk.info])
      simp only [VP]
      refine ⟨M id,0,by simpa [viewOf] using this,h2 id (by simp [hid]),?_⟩
      obtain ⟨vs,g1,gs,g2⟩:=ARun_values q3
      obtain ⟨l1,m1⟩:=(VPs_iff _ _).1 (snapRs_ok R h1 h2 cs ps vs e1 g1)
      rw [VRun_iff]
      intro j q hq
      have hlt:j<vs.length:=by rw [l1]; exact (List.getElem?_eq_some_iff.1 hq).1
      exact ⟨vs[j],g2 j _ (by simp [hlt]),gs _ (List.getElem_mem _),m1 j q _ hq (by simp [hlt])⟩
    · simp at h
  · rename_i sz es hid
    split at h
    · rename_i e he
      simp at h
      subst h
      rw [hid] at hb
      obtain ⟨c,t,q1,q2,q3⟩:=hb
      have:=hv.2.2 (sz,es.length) (by simp [viewOf,hid,Blk.info])
      simp only [VP]
      refine ⟨M id,i * sz,by simpa [viewOf] using this,h2 id (by simp [hid]),?_⟩
      have g:=((VElems_iff es 0).1 q3 i e he).2
      rw [Nat.zero_add] at g
      exact VRun_mono ⟨h1,fun _ _=>rfl⟩ _ _ _ (fun _=>rfl) g
    · simp at h
  · simp at h
 | .func f fs cs,p,v,h,hv=>by
  simp only [snapV] at h
  split at h
  · rename_i x y e1 e2
    simp at h
    subst h
    simp only [VA,VP] at hv ⊢
    obtain ⟨vs,us,g1,g2,g3⟩:=hv
    exact ⟨vs,us,g1,snapVs_ok R h1 h2 fs x vs e1 g2,snapVs_ok R h1 h2 cs y us e2 g3⟩
  · simp at h
 | .iface t u,p,v,h,hv=>by
  simp only [snapV] at h
  split at h
  · rename_i x e1
    simp at h
    subst h
    simp only [VA,VP] at hv ⊢
    obtain ⟨y,g1,g2⟩:=hv
    exact ⟨y,g1,snapV_ok R h1 h2 u x y e1 g2⟩
  · simp at h
 | .agg cs,p,v,h,hv=>by
  simp only [snapV] at h
  split at h
  · rename_i x e1
    simp at h
    subst h
    simp only [VA,VP] at hv ⊢
    obtain ⟨vs,g1,g2⟩:=hv
    exact ⟨vs,g1,snapVs_ok R h1 h2 cs x vs e1 g2⟩
  · simp at h
 | .tuple cs,p,v,h,hv=>by
  simp only [snapV] at h
  split at h
  · rename_i x e1
    simp at h
    subst h
    simp only [VA,VP] at hv ⊢
    obtain ⟨vs,g1,g2⟩:=hv
    exact ⟨vs,g1,snapVs_ok R h1 h2 cs x vs e1 g2⟩
  · simp at h
theorem snapVs_ok (R:Rel X M F H U a w) (h1:∀ b,okOf X w M H b→ok b) (h2:∀ i,H i ≠ .dead→ok (M i)):(cs:List AV)→(ps:List PV)→(vs:List Value)→snapVs H cs=some ps→VAs (viewOf X w U M H) cs vs→VPs X.E w ok ps vs
 | [],ps,vs,h,hv=>by simp [snapVs] at h; subst h; simpa [VAs,VPs] using hv
 | c :: r,ps,vs,h,hv=>by
  simp only [snapVs] at h
  split at h
  · rename_i p l e1 e2
    simp at h
    subst h
    simp only [VAs,VPs] at hv ⊢
    obtain ⟨u,us,g1,g2,g3⟩:=hv
    exact ⟨u,us,g1,snapV_ok R h1 h2 c p u e1 g2,snapVs_ok R h1 h2 r l us e2 g3⟩
  · simp at h
end
end
end
inductive ARes where
 | t (n:Nat)
 | cell (n:Nat) (agg:Bool) (sz:Nat)
 deriving Inhabited
structure AFunc where
 N:Nat
 res:List ARes
 body:ACode
 deriving Inhabited
def cRes (E:Env):List ResultVar→Option (List ARes)
 | []=>some []
 | .tmp t :: r=>match cRes E r with
  | some l=>some (.t t :: l)
  | none=>none
 | .cell a t :: r=>match E.P.underlying t,E.P.info? t,cRes E r with
  | some d,some i,some l=>if isAggD d then some (.cell a true i.size :: l) else if i.size=1 then some (.cell a false 1 :: l) else none
  | _,_,_=>none
def cFunc (E:Env) (n:Nat):Option AFunc :=
 match E.P.funcs[E.ρ n]? with
 | some fn => if (fn.name == "runtime.NumGoroutine") then none else
  match fn.body with
  | some c=>match cCode E fn.ntmps c,cRes E fn.results.toList with
   | some b,some l=>some ⟨fn.ntmps,l,b⟩
   | _,_=>none
  | none=>none
 | none=>none
def resV (F:Fr) (H:Hp):List ARes→Option (List AV)
 | []=>some []
 | .t n :: r=>match resV F H r with
  | some l=>some (F n :: l)
  | none=>none
 | .cell n agg sz :: r=>match cellsAt H (F n) with
  | some cs=>match loadV agg sz cs,resV F H r with
   | some v,some l=>some (v :: l)
   | _,_=>none
  | none=>none
def resOne:List AV→AV
 | [v]=>v
 | vs=>.tuple vs
theorem r_mapM {α β:Type} {P:Program} {w:World} {f:α→Sem β}:∀ {l:List α} {vs:List β},vs.length=l.length→(∀ (i:Nat) a v,l[i]? = some a→vs[i]? = some v→(f a).run P w=.ok v w)→(l.mapM f).run P w=.ok vs w
 | [],vs,h,_=>by
  have:vs=[]:=List.eq_nil_of_length_eq_zero (by simpa using h)
  subst this
  rfl
 | a :: l,vs,h,hf=>by
  cases vs with
  | nil=>simp at h
  | cons v vs =>
   rw [List.mapM_cons,rb (hf 0 a v rfl rfl),rb (r_mapM (by simpa using h) fun i a v h1 h2=>hf (i + 1) a v (by simpa using h1) (by simpa using h2))]
   rfl
theorem r_loadAt {X:Ctx} {M:Nat→Nat} {F:Fr} {H:Hp} {U:Nat→Prop} {a:Act} {w:World} (R:Rel X M F H U a w) {t:TypeId} {d:TypeDesc} {i:TypeInfo} {p:AV} {cs:List AV} {u:Value} {v:AV} {n:Nat} {agg:Bool}
    (hu:X.E.P.underlying t=some d) (hi:X.E.P.info? t=some i) (hagg:agg=isAggD d) (hn:n=i.size) (hone:agg=false→n=1) (h1:cellsAt H p=some cs) (hv:VA (viewOf X w U M H) p u) (h2:loadV agg n cs=some v) :
    ∃ b o,u=.pointer (some ⟨b,o,none⟩)∧∃ x,(loadVar t ⟨b,o,none⟩).run X.E.P w=.ok x w∧VA (viewOf X w U M H) v x:=by
 subst hagg hn
 obtain ⟨b,off,h3,h4⟩:=cellsAt_ok R h1 hv
 refine ⟨b,off,h3,?_⟩
 unfold loadV at h2
 split at h2
 · rename_i hl
   have hl:=Nat.eq_of_beq_eq_true hl
   have h5:=ARun_sub h4 0 i.size
   simp only [List.drop_zero,Nat.add_zero] at h5
   obtain ⟨vs,h6,_,h7⟩:=ARun_values h5
   have hlen:i.size=vs.length:=by rw [VAs_length h6,hl]
   split at h2
   · rename_i hagg
     simp at h2
     subst h2
     exact ⟨_,r_loadVar_agg hu hi hagg hlen h7,mkAgg_ok h6⟩
   · rename_i hagg
     split at h2
     · rename_i c r
       simp at h2
       subst h2
       rw [hone hagg] at h6 hlen
       simp only [List.take_succ_cons,List.take_zero,VAs] at h6
       obtain ⟨u,us,rfl,h8,rfl⟩:=h6
       have:=h7 0 u rfl
       simp only [Nat.add_zero] at this
       exact ⟨_,r_loadVar_one hu hagg this,h8⟩
     · simp at h2
 · simp at h2
theorem resV_ok {X:Ctx} {M:Nat→Nat} {F:Fr} {H:Hp} {U:Nat→Prop} {a:Act} {w:World} (R:Rel X M F H U a w):∀ {rs:List ResultVar} {l:List ARes} {vs:List AV},cRes X.E rs=some l→resV F H l=some vs →
    ∃ us:List Value,us.length=rs.length∧VAs (viewOf X w U M H) vs us∧∀ (i:Nat) r u,rs[i]? = some r→us[i]? = some u→(match r with | .tmp t=>pure (a.tmps.getD t undef) | .cell p t=>do loadVar t (← asAddr (a.tmps.getD p undef)):Sem Value).run X.E.P w=.ok u w
 | [],l,vs,h1,h2=>by
  simp [cRes] at h1; subst h1
  simp [resV] at h2; subst h2
  exact ⟨[],rfl,by simp [VAs],fun i r u h=>by simp at h⟩
 | .tmp t :: r,l,vs,h1,h2=>by
  simp only [cRes] at h1
  split at h1
  · rename_i l' e1
    simp at h1
    subst h1
    simp only [resV] at h2
    split at h2
    · rename_i vs' e2
      simp at h2
      subst h2
      obtain ⟨us,g1,g2,g3⟩:=resV_ok R e1 e2
      refine ⟨a.tmps.getD t undef :: us,by simp [g1],by simp only [VAs]; exact ⟨_,_,rfl,R.fr t,g2⟩,fun i r u hr hu=>?_⟩
      cases i with
      | zero =>
       simp only [List.getElem?_cons_zero,Option.some.injEq] at hr hu
       subst hr; subst hu
       rfl
      | succ i=>exact g3 i r u (by simpa using hr) (by simpa using hu)
    · simp at h2
  · simp at h1
 | .cell p t :: r,l,vs,h1,h2=>by
  simp only [cRes] at h1
  have main:∀ agg n l' d i,cRes X.E r=some l'→X.E.P.underlying t=some d→X.E.P.info? t=some i→agg=isAggD d→n=i.size→(agg=false→n=1)→l=.cell p agg n :: l' →
      ∃ us:List Value,us.length=(ResultVar.cell p t :: r).length∧VAs (viewOf X w U M H) vs us∧∀ (i:Nat) r' u,(ResultVar.cell p t :: r)[i]? = some r'→us[i]? = some u→(match r' with | .tmp t=>pure (a.tmps.getD t undef) | .cell p t=>do loadVar t (← asAddr (a.tmps.getD p undef)):Sem Value).run X.E.P w=.ok u w:=by
   intro agg n l' d i e1 hu hi hagg hn hone hl
   subst hl
   simp only [resV] at h2
   split at h2
   · rename_i cs e3
     split at h2
     · rename_i v vs' e4 e5
       simp at h2
       subst h2
       obtain ⟨us,g1,g2,g3⟩:=resV_ok R e1 e5
       obtain ⟨b,o,k1,x,k2,k3⟩:=r_loadAt R hu hi hagg hn hone e3 (R.fr p) e4
       refine ⟨x :: us,by simp [g1],by simp only [VAs]; exact ⟨_,_,rfl,k3,g2⟩,fun i r u hr hu'=>?_⟩
       cases i with
       | zero =>
        simp only [List.getElem?_cons_zero,Option.some.injEq] at hr hu'
        subst hr; subst hu'
        simp only
        have:(asAddr (a.tmps.getD p undef)).run X.E.P w=.ok ⟨b,o,none⟩ w:=by rw [k1]; rfl
        rw [rb this]
        exact k2
       | succ i=>exact g3 i r u (by simpa using hr) (by simpa using hu')
     · simp at h2
   · simp at h2
  split at h1
  · rename_i d i l' hu hi e1
    split at h1
    · rename_i hagg
      simp at h1
      exact main true i.size l' d i e1 hu hi hagg.symm rfl (by simp) h1.symm
    · rename_i hagg
      split at h1
      · rename_i hsz
        simp at h1
        exact main false 1 l' d i e1 hu hi (by simpa using hagg) hsz.symm (fun _=>rfl) h1.symm
      · simp at h1
  · simp at h1
section
def eqCells:List Bool→List PV→List PV→Option Bool
 | [],[],[]=>some true
 | false :: bs,.int k a :: r,.int j b :: s=>if k=j then (match eqCells bs r s with
     | some c=>some (a == b && c)
     | none=>none) else none
 | true :: bs,.bool a :: r,.bool b :: s=>match eqCells bs r s with
     | some c=>some (a == b && c)
     | none=>none
 | _,_,_=>none
theorem eqCells_length:∀ {bs:List Bool} {xs ys:List PV} {c:Bool},eqCells bs xs ys=some c→xs.length=bs.length∧ys.length=bs.length
 | [],[],[],c,h=>by simp
 | false :: bs,.int k a :: r,.int j b :: s,c,h=>by
  simp only [eqCells] at h
  split at h
  · split at h
    · rename_i c' h'
      have:=eqCells_length h'
      simp [this.1,this.2]
    · simp at h
  · simp at h
 | true :: bs,.bool a :: r,.bool b :: s,c,h=>by
  simp only [eqCells] at h
  split at h
  · rename_i c' h'
    have:=eqCells_length h'
    simp [this.1,this.2]
  · simp at h
 | [],[],_ :: _,c,h=>by simp [eqCells] at h
 | [],_ :: _,_,c,h=>by simp [eqCells] at h
 | b :: bs,[],ys,c,h=>by cases b <;> simp [eqCells] at h
 | b :: bs,x :: xs,[],c,h=>by cases b <;> cases x <;> simp [eqCells] at h
 | false :: bs,x :: xs,y :: ys,c,h=>by
  cases x <;> cases y <;> simp only [eqCells] at h <;> try (simp at h; done)
  split at h
  · split at h
    · rename_i c' h'
      have:=eqCells_length h'
      simp [this.1,this.2]
    · simp at h
  · simp at h
 | true :: bs,x :: xs,y :: ys,c,h=>by
  cases x <;> cases y <;> simp only [eqCells] at h <;> try (simp at h; done)
  split at h
  · rename_i c' h'
    have:=eqCells_length h'
    simp [this.1,this.2]
  · simp at h
theorem eqCells_app:∀ {as bs:List Bool} {xs ys:List PV} {c:Bool},eqCells (as ++ bs) xs ys=some c →
    ∃ a b,eqCells as (xs.take as.length) (ys.take as.length)=some a∧eqCells bs (xs.drop as.length) (ys.drop as.length)=some b∧c=(a && b)
 | [],bs,xs,ys,c,h=>⟨true,c,by simp [eqCells],by simpa using h,by simp⟩
 | b :: as,bs,xs,ys,c,h=>by
  have hl:=eqCells_length h
  cases xs with
  | nil=>simp at hl
  | cons x xs =>
   cases ys with
   | nil=>simp at hl
   | cons y ys =>
    cases b <;> cases x <;> cases y <;> simp only [List.cons_append,eqCells] at h <;> try (simp at h; done)
    · rename_i k1 n1 k2 n2
      split at h
      · rename_i hk
        split at h
        · rename_i c' h'
          obtain ⟨a',b',g1,g2,g3⟩:=eqCells_app h'
          simp at h
          refine ⟨n1 == n2 && a',b',?_,by simpa using g2,?_⟩
          · simp only [List.length_cons,List.take_succ_cons,eqCells,hk,if_true,g1]
          · rw [← h,g3,Bool.and_assoc]
        · simp at h
      · simp at h
    · rename_i n1 n2
      split at h
      · rename_i c' h'
        obtain ⟨a',b',g1,g2,g3⟩:=eqCells_app h'
        simp at h
        refine ⟨n1 == n2 && a',b',?_,by simpa using g2,?_⟩
        · simp only [List.length_cons,List.take_succ_cons,eqCells,g1]
        · rw [← h,g3,Bool.and_assoc]
      · simp at h
section
variable {P:Program} {E:Env} {w:World} {ok:Nat→Prop}
def pack (d:TypeDesc) (us:List Value):Option Value:=if isAggD d then some (.agg us.toArray) else match us with
 | [u]=>some u
 | _=>none
def EqP (P:Program) (E:Env) (ok:Nat→Prop) (D:Nat) (t:TypeId) (bs:List Bool):Prop :=
 ∀ (w:World) (d:TypeDesc) (xs ys:List PV) (us vs:List Value) (x y:Value) (c:Bool),P.underlying t=some d→VPs E w ok xs us→VPs E w ok ys vs→eqCells bs xs ys=some c →
  pack d us=some x→pack d vs=some y→(Op.equalIn D t x y).run P w=.ok c w
theorem VPs_take {xs:List PV} {us:List Value} (h:VPs E w ok xs us) (n:Nat):VPs E w ok (xs.take n) (us.take n):=by
 obtain ⟨l,m⟩:=(VPs_iff _ _).1 h
 refine (VPs_iff _ _).2 ⟨by simp [l],fun i p v hp hv=>?_⟩
 simp only [List.getElem?_take] at hp hv
 split at hp
 · rename_i hi
   rw [if_pos hi] at hv
   exact m i p v hp hv
 · simp at hp
theorem VPs_drop {xs:List PV} {us:List Value} (h:VPs E w ok xs us) (n:Nat):VPs E w ok (xs.drop n) (us.drop n):=by
 obtain ⟨l,m⟩:=(VPs_iff _ _).1 h
 refine (VPs_iff _ _).2 ⟨by simp [l],fun i p v hp hv=>?_⟩
 simp only [List.getElem?_drop] at hp hv
 exact m _ p v hp hv
theorem run_part {t:TypeId} {d:TypeDesc} {i:TypeInfo} {us:Array Value} {o n:Nat} (hd:P.underlying t=some d) (hi:P.info? t=some i) (hn:i.size=n) (h1:isAggD d=false→n=1) (hl:isAggD d=false→o<us.size) :
    ∃ x,(part t us o).run P w=.ok x w∧pack d ((us.toList.drop o).take n)=some x:=by
 unfold part pack
 rw [rb (r_isAgg hd)]
 by_cases ha:isAggD d=true
 · rw [if_pos ha,if_pos ha]
   refine ⟨_,?_,rfl⟩
   rw [rb (r_sizeOf hi),hn]
   have:us.extract o (o + n)=(List.take n (List.drop o us.toList)).toArray:=by
    apply Array.toList_inj.1
    rw [Array.toList_extract]
    simp [List.extract]
   rw [this]
   rfl
 · rw [if_neg ha,if_neg ha]
   have:=h1 (by simpa using ha)
   subst this
   have hlt:o<us.size:=hl (by simpa using ha)
   refine ⟨us[o],by simp [hlt,run_pure],?_⟩
   have:us.toList.drop o=us[o] :: us.toList.drop (o + 1):=by
    rw [List.drop_eq_getElem_cons (by simpa using hlt)]
    simp
   rw [this]
   simp
theorem eqFields_plain {D:Nat} {T:TypeId→Option (List Bool)} (IH:∀ t bs,T t=some bs→EqP P E ok D t bs):∀ {fs:List Field} {o:Nat} {bs:List Bool} {xs ys:List PV} {us vs:Array Value} {c:Bool} {w:World},plainF P T fs o=some bs →
    VPs E w ok xs (us.toList.drop o)→VPs E w ok ys (vs.toList.drop o)→eqCells bs xs ys=some c→(Op.eqFields D us vs fs).run P w=.ok c w
 | [],o,bs,xs,ys,us,vs,c,w,h,hx,hy,he=>by
  simp [plainF] at h
  subst h
  have:=eqCells_length he
  obtain rfl:=List.eq_nil_of_length_eq_zero this.1
  obtain rfl:=List.eq_nil_of_length_eq_zero this.2
  simp [eqCells] at he
  subst he
  simp [Op.eqFields,run_pure]
 | f :: r,o,bs,xs,ys,us,vs,c,w,h,hx,hy,he=>by
  simp only [plainF] at h
  split at h
  · rename_i l i dd h1 h2 h3
    split at h
    · rename_i hc
      obtain ⟨ho,hs,hn,hone⟩:=hc
      split at h
      · rename_i l' h4
        simp at h
        subst h
        have hlen:=eqCells_length he
        obtain ⟨a,b,e1,e2,rfl⟩:=eqCells_app he
        have lx:=VPs_length hx
        have ly:=VPs_length hy
        simp at lx ly hlen
        obtain ⟨x,px,kx⟩:=run_part (w:=w) (us:=us) (o:=o) (n:=l.length) h3 h2 hs hone (fun ha=>by have:=hone ha; omega)
        obtain ⟨y,py,ky⟩:=run_part (w:=w) (us:=vs) (o:=o) (n:=l.length) h3 h2 hs hone (fun ha=>by have:=hone ha; omega)
        have hr:=IH _ _ h1 w dd _ _ _ _ x y a h3 (VPs_take hx l.length) (VPs_take hy l.length) e1 kx ky
        simp only [Op.eqFields,hn,ne_eq,not_false_eq_true,if_true,ho]
        rw [rb px,rb py,rb hr]
        cases a
        · simp [run_pure]
        · have hrec:=eqFields_plain IH (us:=us) (vs:=vs) (w:=w) h4 (xs:=xs.drop l.length) (ys:=ys.drop l.length) (c:=b)
           (by have:=VPs_drop hx l.length; rwa [List.drop_drop] at this) (by have:=VPs_drop hy l.length; rwa [List.drop_drop] at this) e2
          simpa using hrec
      · simp at h
    · simp at h
  · simp at h
theorem eqItems_plain {D:Nat} {e:TypeId} {l:List Bool} {i:TypeInfo} {dd:TypeDesc} (IH:EqP P E ok D e l) (h2:P.info? e=some i) (h3:P.underlying e=some dd) (hs:i.size=l.length) (hone:isAggD dd=false→l.length=1) :
    ∀ {n k:Nat} {xs ys:List PV} {us vs:Array Value} {c:Bool} {w:World},VPs E w ok xs (us.toList.drop (k * l.length))→VPs E w ok ys (vs.toList.drop (k * l.length))→eqCells (List.replicate n l).flatten xs ys=some c →
    (Op.eqItems D e (P.cellsOf e) us vs (List.range' k n)).run P w=.ok c w
 | 0,k,xs,ys,us,vs,c,w,hx,hy,he=>by
  simp at he
  have:=eqCells_length he
  obtain rfl:=List.eq_nil_of_length_eq_zero this.1
  obtain rfl:=List.eq_nil_of_length_eq_zero this.2
  simp [eqCells] at he
  subst he
  simp [Op.eqItems,run_pure]
 | n + 1,k,xs,ys,us,vs,c,w,hx,hy,he=>by
  rw [List.replicate_succ,List.flatten_cons] at he
  have hlen:=eqCells_length he
  obtain ⟨a,b,e1,e2,rfl⟩:=eqCells_app he
  have lx:=VPs_length hx
  have ly:=VPs_length hy
  simp at lx ly hlen
  have hco:P.cellsOf e=l.length:=by simp [Program.cellsOf,h2,hs]
  obtain ⟨x,px,kx⟩:=run_part (w:=w) (us:=us) (o:=k * l.length) (n:=l.length) h3 h2 hs hone (fun ha=>by have:=hone ha; omega)
  obtain ⟨y,py,ky⟩:=run_part (w:=w) (us:=vs) (o:=k * l.length) (n:=l.length) h3 h2 hs hone (fun ha=>by have:=hone ha; omega)
  have hr:=IH w dd _ _ _ _ x y a h3 (VPs_take hx l.length) (VPs_take hy l.length) e1 kx ky
  rw [List.range'_succ]
  simp only [Op.eqItems,hco]
  rw [rb px,rb py,rb hr]
  cases a
  · simp [run_pure]
  · have hrec:=eqItems_plain IH h2 h3 hs hone (n:=n) (k:=k + 1) (us:=us) (vs:=vs) (w:=w) (xs:=xs.drop l.length) (ys:=ys.drop l.length) (c:=b)
     (by have:=VPs_drop hx l.length; rwa [List.drop_drop,show k * l.length + l.length=(k + 1) * l.length by rw [Nat.add_mul]; omega] at this)
     (by have:=VPs_drop hy l.length; rwa [List.drop_drop,show k * l.length + l.length=(k + 1) * l.length by rw [Nat.add_mul]; omega] at this) e2
    rw [hco] at hrec
    simpa using hrec
theorem plain_eq:∀ (m D:Nat) (t:TypeId) (bs:List Bool),plainT P m t=some bs→EqP P E ok (m + D) t bs
 | 0,D,t,bs,h=>by simp [plainT] at h
 | m + 1,D,t,bs,h=>by
  intro w d xs ys us vs x y c hd hx hy he kx ky
  rw [show m + 1 + D=(m + D) + 1 by omega]
  unfold plainT at h
  rw [hd] at h
  have lx:=VPs_length hx
  have ly:=VPs_length hy
  have hlen:=eqCells_length he
  split at h
  · rename_i k hk
    simp at hk
    simp at h
    subst h hk
    obtain ⟨x0,rfl⟩:=List.length_eq_one_iff.1 hlen.1
    obtain ⟨y0,rfl⟩:=List.length_eq_one_iff.1 hlen.2
    cases x0 <;> cases y0 <;> simp only [eqCells] at he <;> try (simp at he; done)
    split at he
    · rename_i hk
      simp at he
      subst he hk
      simp only [VPs,VP] at hx hy
      obtain ⟨_,_,rfl,rfl,rfl⟩:=hx
      obtain ⟨_,_,rfl,rfl,rfl⟩:=hy
      simp [pack,isAggD] at kx ky
      subst kx ky
      simp [run_equalIn_int w _ t _ _ _ _ hd]
    · simp at he
  · rename_i hk
    simp at hk
    simp at h
    subst h hk
    obtain ⟨x0,rfl⟩:=List.length_eq_one_iff.1 hlen.1
    obtain ⟨y0,rfl⟩:=List.length_eq_one_iff.1 hlen.2
    cases x0 <;> cases y0 <;> simp only [eqCells] at he <;> try (simp at he; done)
    simp at he
    subst he
    simp only [VPs,VP] at hx hy
    obtain ⟨_,_,rfl,rfl,rfl⟩:=hx
    obtain ⟨_,_,rfl,rfl,rfl⟩:=hy
    simp [pack,isAggD] at kx ky
    subst kx ky
    simp [run_equalIn_bool w _ t _ _ hd]
  · rename_i fs hk
    simp at hk
    subst hk
    split at h
    · simp at h
    · rename_i hst
      simp [pack,isAggD] at kx ky
      subst kx ky
      rw [run_equalIn_struct w (m + D) t _ _ (by simp [Program.fieldsOf,hd]) (by simpa using hst)]
      have:P.fieldsOf t=fs:=by simp [Program.fieldsOf,hd]
      rw [this]
      exact eqFields_plain (fun t bs ht=>plain_eq m D t bs ht) h (by simpa using hx) (by simpa using hy) he
  · rename_i len e hk
    simp at hk
    subst hk
    split at h
    · rename_i l i dd h1 h2 h3
      split at h
      · rename_i hc
        simp at h
        subst h
        simp [pack,isAggD] at kx ky
        subst kx ky
        rw [run_equalIn_array w (m + D) _ _ hd h2,List.range_eq_range']
        exact eqItems_plain (plain_eq m D e l h1) h2 h3 hc.1 hc.2 (n:=len) (k:=0) (by simpa using hx) (by simpa using hy) he
      · simp at h
    · simp at h
  · simp at h
end
end
section
def AO.isC:AO→Bool
 | .c _=>true
 | _=>false
def eqV (H:Hp) (k:EqK) (c:Bool) (x y:AV):Option Bool :=
 match k,x,y with
 | .bool,.pv (.bool a),.pv (.bool b)=>some (a == b)
 | .str,.pv (.str a),.pv (.str b)=>some (a.toList == b.toList)
 | .plain bs,.pv (.agg xs),.pv (.agg ys)=>eqCells bs xs ys
 | .iface _,.pv .nili,.pv .nili=>if c=true then some true else none
 | .iface _,.pv .nili,.pv (.iface _ _)=>some false
 | .iface _,.pv (.iface _ _),.pv .nili=>some false
 | .iface _,.pv .nili,.iface _ _=>some false
 | .iface _,.iface _ _,.pv .nili=>some false
 | .iface true,.pv (.iface 0 (.int k a)),.pv (.iface 0 (.int j b))=>if k=j then some (a == b) else none
 | .ptr,.pv .nilp,.pv .nilp=>some true
 | .ptr,.pv .nilp,.pv (.cptr _ _)=>some false
 | .ptr,.pv (.cptr _ _),.pv .nilp=>some false
 | .ptr,.pv .nilp,.ptr id _ _=>match (H id).info with
  | some _=>some false
  | none=>none
 | .ptr,.ptr id _ _,.pv .nilp=>match (H id).info with
  | some _=>some false
  | none=>none
 | .ptr,.ptr id i a,.ptr jd j b=>if id=jd then (match (H id).info with
  | some s=>some (decide (i * s.1 + a=j * s.1 + b))
  | none=>none) else none
 | .slice,.nils,.nils=>some true
 | .slice,.nils,.pv (.slice (_ :: _))=>some false
 | .slice,.pv (.slice (_ :: _)),.nils=>some false
 | .slice,.nils,.ms id=>match (H id).info with
  | some _=>some false
  | none=>none
 | .slice,.ms id,.nils=>match (H id).info with
  | some _=>some false
  | none=>none
 | .func,.pv .nilf,.pv .nilf=>some true
 | .func,.pv .nilf,.pv (.func _ _ _)=>some false
 | .func,.pv (.func _ _ _),.pv .nilf=>some false
 | _,_,_=>none
def eqB (op:BinOp) (b:Bool):Option Bool:=match op with
 | .eql=>some b
 | .neq=>some (!b)
 | _=>none
section
variable {E:Env} {N:Nat} {o:Oper} {F:Fr} {H:Hp} {U:Nat→Prop}
theorem eqK_spec {t:TypeId} {k:EqK} (h:eqK E t=some k):∃ d,E.P.underlying t=some d∧match k with
    | .bool=>d=.bool
    | .str=>d=.string
    | .ptr=>(∃ e,d=.pointer e)∧∃ e i,d=.pointer e∧E.P.info? e=some i∧i.size ≠ 0
    | .iface c=>(∃ ms,d=.interface ms)∧(c=true→codeT E=true)
    | .slice=>∃ e,d=.slice e
    | .func=>∃ a b c,d=.func a b c
    | .plain bs=>isAggD d=true∧E.P.eqGuardType E.P.depth t=false∧plainT E.P 20 t=some bs:=by
 unfold eqK at h
 split at h <;> rename_i hd
 · simp at h; subst h; exact ⟨_,hd,rfl⟩
 · simp at h; subst h; exact ⟨_,hd,rfl⟩
 · split at h
   · rename_i i hi
     split at h
     · simp at h
     · rename_i hz
       simp at h; subst h; exact ⟨_,hd,⟨_,rfl⟩,_,i,rfl,hi,hz⟩
   · simp at h
 · simp at h; subst h; exact ⟨_,hd,⟨_,rfl⟩,id⟩
 · simp at h; subst h; exact ⟨_,hd,_,rfl⟩
 · simp at h; subst h; exact ⟨_,hd,_,_,_,rfl⟩
 · split at h
   · simp at h
   · rename_i hg
     simp at h
     obtain ⟨bs,h1,rfl⟩:=h
     exact ⟨_,hd,rfl,by simpa using hg,h1⟩
 · split at h
   · simp at h
   · rename_i hg
     simp at h
     obtain ⟨bs,h1,rfl⟩:=h
     exact ⟨_,hd,rfl,by simpa using hg,h1⟩
 · simp at h
theorem codeT_spec (h:codeT E=true):∃ k i,E.P.underlying (E.τ 0)=some (.int k)∧E.P.info? (E.τ 0)=some i∧i.comparable=true:=by
 unfold codeT at h
 split at h
 · exact ⟨_,_,by assumption,by assumption,h⟩
 · simp at h
section
variable {P:Program} {w:World} {t:TypeId}
theorem qi_nn (d:Nat) {ms} (h:P.underlying t=some (.interface ms)):(Op.equalIn (d + 1) t .nilIface .nilIface).run P w=.ok true w:=by simp [Op.equalIn,run_underlying h]
theorem qi_ni (d:Nat) {ms u v} (h:P.underlying t=some (.interface ms)):(Op.equalIn (d + 1) t .nilIface (.iface u v)).run P w=.ok false w:=by simp [Op.equalIn,run_underlying h]
theorem qi_in (d:Nat) {ms u v} (h:P.underlying t=some (.interface ms)):(Op.equalIn (d + 1) t (.iface u v) .nilIface).run P w=.ok false w:=by simp [Op.equalIn,run_underlying h]
theorem qi_ii (d:Nat) {ms u x y i} (h:P.underlying t=some (.interface ms)) (hi:P.info? u=some i) (hc:i.comparable=true):(Op.equalIn (d + 1) t (.iface u x) (.iface u y)).run P w=(Op.equalIn d u x y).run P w:=by
 simp only [Op.equalIn]
 rw [rb (r_underlying h)]
 simp only [ne_eq,not_true_eq_false,if_false]
 rw [rb (r_typeInfo hi),hc]
 simp only [Bool.not_true,Bool.false_eq_true,if_false]
theorem qp_nn (d:Nat) {e} (h:P.underlying t=some (.pointer e)):(Op.equalIn (d + 1) t (.pointer none) (.pointer none)).run P w=.ok true w:=by simp [Op.equalIn,run_underlying h]
theorem qp_np (d:Nat) {e a} (h:P.underlying t=some (.pointer e)):(Op.equalIn (d + 1) t (.pointer none) (.pointer (some a))).run P w=.ok false w:=by simp [Op.equalIn,run_underlying h]
theorem qp_pn (d:Nat) {e a} (h:P.underlying t=some (.pointer e)):(Op.equalIn (d + 1) t (.pointer (some a)) (.pointer none)).run P w=.ok false w:=by simp [Op.equalIn,run_underlying h]
theorem qp_pp (d:Nat) {e i} {a b:Addr} (h:P.underlying t=some (.pointer e)) (hi:P.info? e=some i) (hs:i.size ≠ 0) (hb:a.block=b.block):(Op.equalIn (d + 1) t (.pointer (some a)) (.pointer (some b))).run P w=.ok (a == b) w:=by
 simp [Op.equalIn,run_underlying h,sizeOf,typeInfo,hi,hs,sameAddr,hb]
theorem qs_nn (d:Nat) {e} (h:P.underlying t=some (.slice e)):(Op.equalIn (d + 1) t (.slice none 0 0) (.slice none 0 0)).run P w=.ok true w:=by simp [Op.equalIn,run_underlying h]
theorem qs_np (d:Nat) {e a n m} (h:P.underlying t=some (.slice e)):(Op.equalIn (d + 1) t (.slice none 0 0) (.slice (some a) n m)).run P w=.ok false w:=by simp [Op.equalIn,run_underlying h]
theorem qs_pn (d:Nat) {e a n m} (h:P.underlying t=some (.slice e)):(Op.equalIn (d + 1) t (.slice (some a) n m) (.slice none 0 0)).run P w=.ok false w:=by simp [Op.equalIn,run_underlying h]
theorem qf_nn (d:Nat) {e f g} (h:P.underlying t=some (.func e f g)):(Op.equalIn (d + 1) t .nilFunc .nilFunc).run P w=.ok true w:=by simp [Op.equalIn,run_underlying h]
theorem qf_np (d:Nat) {e f g a b c} (h:P.underlying t=some (.func e f g)):(Op.equalIn (d + 1) t .nilFunc (.func a b c)).run P w=.ok false w:=by simp [Op.equalIn,run_underlying h]
theorem qf_pn (d:Nat) {e f g a b c} (h:P.underlying t=some (.func e f g)):(Op.equalIn (d + 1) t (.func a b c) .nilFunc).run P w=.ok false w:=by simp [Op.equalIn,run_underlying h]
end
theorem r_eqV {X:Ctx} {M:Nat→Nat} {w:World} {t:TypeId} {k:EqK} {x' y':Operand} {x y:AO} {b:Bool} {u v:Value}
    (hk:eqK X.E t=some k) (hx:cO X.E x'=some x) (hy:cO X.E y'=some y) (h:eqV H k (x.isC || y.isC) (evO F x) (evO F y)=some b)
    (hu:VA (viewOf X w U M H) (evO F x) u) (hv:VA (viewOf X w U M H) (evO F y) v) :
    (∀ op,(eqGuard op t x' y' u v).run X.E.P w=.ok () w)∧((binOp .eql t u v).run X.E.P w=.ok (.bool b) w∧(binOp .neq t u v).run X.E.P w=.ok (.bool (!b)) w):=by
 obtain ⟨d,hd,hkd⟩:=eqK_spec hk
 have eqD:∀ {u v:Value},(Op.equal t u v).run X.E.P w=.ok b w→(∀ k n,u ≠ .int k n)→(∀ s,u ≠ .string s)→(∀ k n,u ≠ .float k n)→(∀ k n m,u ≠ .complex k n m) →
     (binOp .eql t u v).run X.E.P w=.ok (.bool b) w∧(binOp .neq t u v).run X.E.P w=.ok (.bool (!b)) w:=by
  intro u v h1 h2 h3 h4 h5
  cases u <;> first | exact absurd rfl (h2 _ _) | exact absurd rfl (h3 _) | exact absurd rfl (h4 _ _) | exact absurd rfl (h5 _ _ _) |
   (constructor
    · simp only [binOp]; rw [rb h1]; rfl
    · simp only [binOp]; rw [rb h1]; rfl)
 have hg:∀ {u v:Value},(∀ c,u ≠ .agg c)→u ≠ .nilIface∨v ≠ .nilIface→∀ op,(eqGuard op t x' y' u v).run X.E.P w=.ok () w:=by
  intro u v h1 h2 op
  have key:∀ op,(op=.eql∨op=.neq)→(eqGuard op t x' y' u v).run X.E.P w=.ok () w:=by
   intro op ho
   unfold eqGuard
   rcases ho with rfl | rfl <;> simp only [Bool.not_true,Bool.false_eq_true,if_false]
   all_goals
    split
    · rcases h2 with h2 | h2 <;> exact absurd rfl h2
    · exact absurd rfl (h1 _)
    · rfl
  cases op <;> first | exact key _ (.inl rfl) | exact key _ (.inr rfl) | rfl
 have fin:∀ {u v:Value},(∀ c,u ≠ .agg c)→u ≠ .nilIface∨v ≠ .nilIface→(Op.equal t u v).run X.E.P w=.ok b w→(∀ k n,u ≠ .int k n)→(∀ s,u ≠ .string s)→(∀ k n,u ≠ .float k n)→(∀ k n m,u ≠ .complex k n m) →
     (∀ op,(eqGuard op t x' y' u v).run X.E.P w=.ok () w)∧((binOp .eql t u v).run X.E.P w=.ok (.bool b) w∧(binOp .neq t u v).run X.E.P w=.ok (.bool (!b)) w) :=
  fun h1 h2 h3 h4 h5 h6 h7=>⟨hg h1 h2,eqD h3 h4 h5 h6 h7⟩
 have eqs:∀ {u v:Value},(Op.equalIn 10000 t u v).run X.E.P w=.ok b w→(Op.equal t u v).run X.E.P w=.ok b w:=fun h=>h
 unfold eqV at h
 split at h <;> (try rename_i e1 e2) <;> (try (rw [e1] at hu; rw [e2] at hv)) <;> (try simp only [VA,VP] at hu hv) <;> (try simp only at hkd)
 case h_1 =>
  subst hu hv
  simp at h; subst h; subst hkd
  exact fin (by simp) (by simp) (run_equal_bool w t _ _ hd) (by simp) (by simp) (by simp) (by simp)
 case h_2 =>
  subst hu hv
  simp at h; subst h; subst hkd
  exact ⟨hg (by simp) (by simp),rfl,rfl⟩
 case h_3 =>
  obtain ⟨us,rfl,h1⟩:=hu
  obtain ⟨vs,rfl,h2⟩:=hv
  obtain ⟨hagg,hg1,hg2⟩:=hkd
  refine ⟨fun op=>run_eqGuard_agg w op t _ _ _ _ hg1,eqD (eqs ?_) (by simp) (by simp) (by simp) (by simp)⟩
  exact plain_eq 20 9980 t _ hg2 w d _ _ us vs _ _ _ hd h1 h2 h (by simp [pack,hagg]) (by simp [pack,hagg])
 case h_4 =>
  subst hu hv
  obtain ⟨⟨ms,rfl⟩,_⟩:=hkd
  split at h
  · rename_i hc
    simp at h; subst h
    have hcc:(∃ v,x'=.const v)∨∃ v,y'=.const v:=by
     cases x with
     | c v=>cases x' <;> simp [cO] at hx <;> simp
     | _=>cases y with
      | c v=>cases y' <;> simp [cO] at hy <;> simp
      | _=>simp [AO.isC] at hc
    refine ⟨fun op=>?_,eqD (eqs ?_) (by simp) (by simp) (by simp) (by simp)⟩
    · cases op <;> first | rfl | (simp only [eqGuard,Bool.not_true,Bool.false_eq_true,if_false]; rcases hcc with ⟨v,rfl⟩ | ⟨v,rfl⟩ <;> simp [run_pure])
    · exact qi_nn _ hd
  · simp at h
 case h_5 =>
  obtain ⟨v,rfl,_⟩:=hv
  subst hu
  obtain ⟨⟨ms,rfl⟩,_⟩:=hkd
  simp at h; subst h
  exact fin (by simp) (by simp) (eqs (qi_ni _ hd)) (by simp) (by simp) (by simp) (by simp)
 case h_6 =>
  obtain ⟨u,rfl,_⟩:=hu
  subst hv
  obtain ⟨⟨ms,rfl⟩,_⟩:=hkd
  simp at h; subst h
  exact fin (by simp) (by simp) (eqs (qi_in _ hd)) (by simp) (by simp) (by simp) (by simp)
 case h_7 =>
  obtain ⟨v,rfl,_⟩:=hv
  subst hu
  obtain ⟨⟨ms,rfl⟩,_⟩:=hkd
  simp at h; subst h
  exact fin (by simp) (by simp) (eqs (qi_ni _ hd)) (by simp) (by simp) (by simp) (by simp)
 case h_8 =>
  obtain ⟨u,rfl,_⟩:=hu
  subst hv
  obtain ⟨⟨ms,rfl⟩,_⟩:=hkd
  simp at h; subst h
  exact fin (by simp) (by simp) (eqs (qi_in _ hd)) (by simp) (by simp) (by simp) (by simp)
 case h_9 =>
  obtain ⟨u,rfl,rfl⟩:=hu
  obtain ⟨v,rfl,rfl⟩:=hv
  obtain ⟨⟨ms,rfl⟩,hc⟩:=hkd
  split at h
  · rename_i hkj
    subst hkj
    simp at h; subst h
    obtain ⟨k0,i,g1,g2,g3⟩:=codeT_spec (by simpa using hc)
    refine fin (by simp) (by simp) (eqs ?_) (by simp) (by simp) (by simp) (by simp)
    exact (qi_ii 9999 hd g2 g3).trans (run_equalIn_int w 9998 _ _ _ _ _ g1)
  · simp at h
 case h_10 =>
  subst hu hv
  obtain ⟨⟨e,rfl⟩,_⟩:=hkd
  simp at h; subst h
  exact fin (by simp) (by simp) (eqs (qp_nn _ hd)) (by simp) (by simp) (by simp) (by simp)
 case h_11 =>
  obtain ⟨b,o,rfl,_⟩:=hv
  subst hu
  obtain ⟨⟨e,rfl⟩,_⟩:=hkd
  simp at h; subst h
  exact fin (by simp) (by simp) (eqs (qp_np _ hd)) (by simp) (by simp) (by simp) (by simp)
 case h_12 =>
  obtain ⟨b,o,rfl,_⟩:=hu
  subst hv
  obtain ⟨⟨e,rfl⟩,_⟩:=hkd
  simp at h; subst h
  exact fin (by simp) (by simp) (eqs (qp_pn _ hd)) (by simp) (by simp) (by simp) (by simp)
 case h_13 =>
  subst hu
  obtain ⟨⟨e,rfl⟩,_⟩:=hkd
  split at h
  · rename_i s hs
    simp at h; subst h
    have:=hv.2.2 s hs
    subst this
    exact fin (by simp) (by simp) (eqs (qp_np _ hd)) (by simp) (by simp) (by simp) (by simp)
  · simp at h
 case h_14 =>
  subst hv
  obtain ⟨⟨e,rfl⟩,_⟩:=hkd
  split at h
  · rename_i s hs
    simp at h; subst h
    have:=hu.2.2 s hs
    subst this
    exact fin (by simp) (by simp) (eqs (qp_pn _ hd)) (by simp) (by simp) (by simp) (by simp)
  · simp at h
 case h_15 =>
  obtain ⟨_,e,i,rfl,g1,g2⟩:=hkd
  split at h
  · rename_i he
    subst he
    split at h
    · rename_i s hs
      simp only [Option.some.injEq] at h
      subst h
      have a1:=hu.2.2 s hs
      have a2:=hv.2.2 s hs
      subst a1 a2
      refine fin (by simp) (by simp) (eqs ?_) (by simp) (by simp) (by simp) (by simp)
      refine (qp_pp 9999 hd g1 g2 (by rfl)).trans (congrArg (fun z=>Result.ok z w) ?_)
      rw [Bool.eq_iff_iff]
      simp
    · simp at h
  · simp at h
 case h_16 =>
  subst hu hv
  obtain ⟨e,rfl⟩:=hkd
  simp at h; subst h
  exact fin (by simp) (by simp) (eqs (qs_nn _ hd)) (by simp) (by simp) (by simp) (by simp)
 case h_17 =>
  obtain ⟨a,l,c,rfl,h1,h2,h3⟩:=hv
  obtain ⟨b,o,sz,rfl,_⟩:=h3 (by simp)
  subst hu
  obtain ⟨e,rfl⟩:=hkd
  simp at h; subst h
  exact fin (by simp) (by simp) (eqs (qs_np _ hd)) (by simp) (by simp) (by simp) (by simp)
 case h_18 =>
  obtain ⟨a,l,c,rfl,h1,h2,h3⟩:=hu
  obtain ⟨b,o,sz,rfl,_⟩:=h3 (by simp)
  subst hv
  obtain ⟨e,rfl⟩:=hkd
  simp at h; subst h
  exact fin (by simp) (by simp) (eqs (qs_pn _ hd)) (by simp) (by simp) (by simp) (by simp)
 case h_19 =>
  subst hu
  obtain ⟨e,rfl⟩:=hkd
  split at h
  · rename_i s hs
    simp at h; subst h
    obtain ⟨_,_,_,rfl,_⟩:=hv.2.2 s hs
    exact fin (by simp) (by simp) (eqs (qs_np _ hd)) (by simp) (by simp) (by simp) (by simp)
  · simp at h
 case h_20 =>
  subst hv
  obtain ⟨e,rfl⟩:=hkd
  split at h
  · rename_i s hs
    simp at h; subst h
    obtain ⟨_,_,_,rfl,_⟩:=hu.2.2 s hs
    exact fin (by simp) (by simp) (eqs (qs_pn _ hd)) (by simp) (by simp) (by simp) (by simp)
  · simp at h
 case h_21 =>
  subst hu hv
  obtain ⟨a,b,c,rfl⟩:=hkd
  simp at h; subst h
  exact fin (by simp) (by simp) (eqs (qf_nn _ hd)) (by simp) (by simp) (by simp) (by simp)
 case h_22 =>
  obtain ⟨_,_,rfl,_⟩:=hv
  subst hu
  obtain ⟨a,b,c,rfl⟩:=hkd
  simp at h; subst h
  exact fin (by simp) (by simp) (eqs (qf_np _ hd)) (by simp) (by simp) (by simp) (by simp)
 case h_23 =>
  obtain ⟨_,_,rfl,_⟩:=hu
  subst hv
  obtain ⟨a,b,c,rfl⟩:=hkd
  simp at h; subst h
  exact fin (by simp) (by simp) (eqs (qf_pn _ hd)) (by simp) (by simp) (by simp) (by simp)
 case h_24=>simp at h
theorem eq_does (hE:E.OK) {op:BinOp} {k:EqK} {x y:AO} {b c:Bool} (hc:cOp E o=some (.bin op (some k) x y)) (hd:∀ k,o.dst=some k→k<N) (h1:eqV H k (x.isC || y.isC) (evO F x) (evO F y)=some b) (h2:eqB op b=some c) :
    Does E N o F H U (.pv (.bool c)) [] U:=by
 obtain ⟨t,x',y',u,ho,hx,hy,hk⟩:=inv_bin hc
 refine Does.value hd fun X M a w hX R=>?_
 subst hX
 obtain ⟨g1,g2,g3⟩:=r_eqV hk.symm hx hy h1 (cO_ok hE R hx) (cO_ok hE R hy)
 have hex:execOp a.eval o=(do pure (Next.value (← (do eqGuard op t x' y' (a.eval x') (a.eval y'); binOp op t (a.eval x') (a.eval y')))):Sem Next):=by
  unfold execOp
  rw [ho]
 cases op <;> simp only [eqB,Option.some.injEq,reduceCtorEq] at h2
 · rw [← h2]
   refine ⟨.bool b,?_,by simp [VA,VP]⟩
   rw [hex]
   exact r_value (by rw [rb (g1 _)]; exact g2)
 · rw [← h2]
   refine ⟨.bool (!b),?_,by simp [VA,VP]⟩
   rw [hex]
   exact r_value (by rw [rb (g1 _)]; exact g3)
end
end
section
def chunk (sz:Nat):Nat→List PV→List (List PV)
 | 0,_=>[]
 | n + 1,l=>l.take sz :: chunk sz n (l.drop sz)
theorem chunk_length {sz:Nat}:∀ {n:Nat} {l:List PV},(chunk sz n l).length=n
 | 0,l=>rfl
 | n + 1,l=>by simp [chunk,chunk_length]
theorem chunk_sz {sz:Nat}:∀ {n:Nat} {l:List PV},l.length=n * sz→∀ e ∈ chunk sz n l,e.length=sz
 | 0,l,h,e,he=>by simp [chunk] at he
 | n + 1,l,h,e,he=>by
  rw [Nat.add_mul] at h
  simp only [chunk,List.mem_cons] at he
  rcases he with rfl | he
  · simp; omega
  · exact chunk_sz (by simp; omega) e he
theorem chunk_flat {sz:Nat}:∀ {n:Nat} {l:List PV},l.length=n * sz→(chunk sz n l).flatten=l
 | 0,l,h=>by simp at h; subst h; rfl
 | n + 1,l,h=>by
  rw [Nat.add_mul] at h
  simp only [chunk,List.flatten_cons]
  rw [chunk_flat (by simp; omega),List.take_append_drop]
theorem flat_rep {α:Type} {zs:List α}:∀ {n j:Nat},j<n * zs.length→(List.replicate n zs).flatten[j]? = zs[j % zs.length]?
 | 0,j,h=>by simp at h
 | n + 1,j,h=>by
  rw [List.replicate_succ,List.flatten_cons]
  rw [Nat.add_mul] at h
  by_cases hj:j<zs.length
  · rw [List.getElem?_append_left hj,Nat.mod_eq_of_lt hj]
  · rw [List.getElem?_append_right (by omega),flat_rep (by omega),← Nat.mod_eq_sub_mod (by omega)]
theorem VAs_rep {V:View} {zs:List AV} {z:Array Value} {n s:Nat} (h:VAs V zs z.toList) (hs:z.size=s) (h0:0<s) :
    VAs V (List.replicate n zs).flatten ((Array.range (n * s)).map (fun j=>z[j % z.size]!)).toList:=by
 obtain ⟨l,m⟩:=(VAs_iff _ _).1 h
 simp at l
 have hl:zs.length=s:=by omega
 refine (VAs_iff _ _).2 ⟨by simp [hl],fun i p v hp hv=>?_⟩
 have hlt:i<n * s:=by
  have:=(List.getElem?_eq_some_iff.1 hv).1
  simpa using this
 rw [flat_rep (by rw [hl]; exact hlt),hl] at hp
 have hm:i % s<z.size:=by rw [hs]; exact Nat.mod_lt _ h0
 refine m (i % s) p v hp ?_
 simp [hlt] at hv
 rw [hs] at hv
 rw [← hv]
 simp [hm]
section
variable {X:Ctx} {M:Nat→Nat} {F:Fr} {H:Hp} {U:Nat→Prop} {a:Act} {w:World}
theorem fill_scalar {place:Nat→Option (Nat × Nat)}:∀ {qs:List (Nat × Value)} {c c':Array Value},Instr.fill place c qs=some c'→(∀ v ∈ c.toList,Scalar v)→(∀ q ∈ qs,∀ v ∈ q.2.cells.toList,Scalar v)→∀ v ∈ c'.toList,Scalar v
 | [],c,c',h,h1,h2=>by simp [Instr.fill] at h; subst h; exact h1
 | (i,x) :: r,c,c',h,h1,h2=>by
  simp only [Instr.fill] at h
  split at h
  · simp at h
  · split at h
    · simp at h
    · rw [← Array.foldl_toList,Array.toList_zipIdx,patch_foldl] at h
      exact fill_scalar h (patch_scalar h1 (h2 (i,x) (by simp))) (fun q hq=>h2 q (by simp [hq]))
def partsScal (F:Fr):List (Nat × Nat × AO)→Bool
 | []=>true
 | (_,_,x) :: r=>match cellsOf (evO F x) with
  | some cs=>scals cs && partsScal F r
  | none=>false
theorem parts_scalar (hE:X.E.OK) (R:Rel X M F H U a w) {place:Nat→Option (Nat × Nat)}:∀ {qs:List (Nat × Operand)} {ps:List (Nat × Nat × AO)},cParts X.E place qs=some ps→partsScal F ps=true →
    ∀ q ∈ qs.map (fun (i,x)=>(i,a.eval x)),∀ v ∈ q.2.cells.toList,Scalar v
 | [],ps,h1,h2=>by simp
 | (i,x) :: r,ps,h1,h2=>by
  simp only [cParts] at h1
  split at h1
  · rename_i off n y l e1 e2 e3
    simp at h1
    subst h1
    simp only [partsScal] at h2
    split at h2
    · rename_i cs hcs
      simp only [Bool.and_eq_true] at h2
      intro q hq
      simp only [List.map_cons,List.mem_cons] at hq
      rcases hq with rfl | hq
      · exact scals_ok h2.1 (cellsOf_ok hcs (cO_ok hE R e2))
      · exact parts_scalar hE R e3 h2.2 q hq
    · simp at h2
  · simp at h1
end
section
variable {E:Env} {N:Nat} {o:Oper} {F:Fr} {H:Hp} {U:Nat→Prop}
theorem bslice_does (hE:E.OK) {sz len k:Nat} {zs cs:List AV} {pl:List PV} {ps:List (Nat × Nat × AO)} (hc:cOp E o=some (.bslice sz len zs ps)) (hd:∀ k,o.dst=some k→k<N) (hk:¬ U k) (h1:fillA F zs ps=some cs)
    (h2:partsScal F ps=true) (h3:pureVs cs=some pl):Does E N o F H U (.ms k) [(k,.row sz (chunk sz len pl))] (fun i=>U i∨i=k):=by
 obtain ⟨t,qs,e,i,z,zs',ho,hu,hi,hz,hzs,rfl,hp,hzz,hlim,h0,rfl⟩:=inv_bslice hc
 refine Does.newBlk hk hd (by simp) fun X M a w hX R=>?_
 subst hX
 have hzero:VAs (viewOf X w U M H) (List.replicate len zs').flatten ((Array.range (len * i.size)).map (fun j=>z.cells[j % z.cells.size]!)).toList:=VAs_rep (cVs_ok hzs) hzz h0
 obtain ⟨c',g1,g2⟩:=fill_ok hE R hp h1 hzero
 have hzsc:∀ v ∈ ((Array.range (len * i.size)).map (fun j=>z.cells[j % z.cells.size]!)).toList,Scalar v:=by
  intro v hv
  simp at hv
  obtain ⟨j,hj,rfl⟩:=hv
  have hm:j % z.cells.size<z.cells.size:=Nat.mod_lt _ (by omega)
  rw [getElem!_pos z.cells (j % z.cells.size) hm]
  exact cVs_scal hzs _ (by simp)
 have hsc:=fill_scalar g1 hzsc (parts_scalar hE R hp h2)
 have hpl:=pureVs_ok _ _ _ h3 g2
 have hlen:pl.length=len * i.size:=by
  have l1:=VPs_length hpl
  have l2:c'.size=len * i.size:=by
   have l3:=VAs_length g2
   have l4:=VAs_length hzero
   have:∀ {ps:List (Nat × Nat × AO)} {zs cs:List AV},fillA F zs ps=some cs→cs.length=zs.length:=by
    intro ps
    induction ps with
    | nil=>intro zs cs h; simp [fillA] at h; rw [h]
    | cons q r ih =>
     intro zs cs h
     obtain ⟨off,n,x⟩:=q
     simp only [fillA] at h
     split at h
     · split at h
       · rw [ih h,patchL_length]
       · simp at h
     · simp at h
   have l5:=this h1
   simp at l3 l4 l5
   omega
  simp at l1
  omega
 refine ⟨.cells c' e (0,0),.slice (some ⟨w.heap.size,0,none⟩) len len,?_,?_,?_⟩
 · unfold execOp
   rw [ho]
   simp only
   refine r_value ?_
   unfold Instr.buildSlice
   rw [rb (r_underlying hu)]
   simp only
   rw [rb (r_sizeOf hi),if_neg (by omega)]
   have hl:(qs.map fun (i,x)=>(i,a.eval x)).toList=qs.toList.map fun (i,x)=>(i,a.eval x):=by simp
   by_cases hz0:len * i.size=0
   · rw [if_pos hz0,rb (show (pure #[]:Sem (Array Value)).run X.E.P w=.ok #[] w from rfl)]
     have e0:∀ f:Nat→Value,(Array.range (len * i.size)).map f = #[]:=fun f=>by simp [hz0]
     rw [e0] at g1 ⊢
     rw [hl,g1]
     rfl
   · rw [if_neg hz0,rb (r_zeroValue hi hz),rb (show (pure z.cells:Sem (Array Value)).run X.E.P w=.ok z.cells w from rfl),hl,g1]
     rfl
 · refine ⟨c',e,heap_push_new _ _,?_,?_⟩
   · rw [chunk_length]
     have:=VPs_length hpl
     simp at this
     omega
   · have hgrow:Stays (viewOf X w U M H).ok (viewOf X { w with heap:=w.heap.push (.cells c' e (0,0)) } (fun i=>U i∨i=k) (upM M k w.heap.size) (wr H [(k,.row i.size (chunk i.size len pl))])).ok w { w with heap:=w.heap.push (.cells c' e (0,0)) } :=
      (R.new_turn (.cells c' e (0,0)) (.row i.size (chunk i.size len pl)) k hk).stays
     refine VElems_of_flat (chunk_sz hlen) ?_
     rw [chunk_flat hlen,VRun_iff]
     intro j p hp'
     have hpl':=VPs_mono hgrow _ _ hpl
     obtain ⟨l1,m1⟩:=(VPs_iff _ _).1 hpl'
     have hlt:j<c'.toList.length:=by rw [l1]; exact (List.getElem?_eq_some_iff.1 hp').1
     refine ⟨c'.toList[j],?_,hsc _ (List.getElem_mem _),m1 j p _ hp' (by simp [hlt])⟩
     have:(viewOf X { w with heap:=w.heap.push (.cells c' e (0,0)) } (fun i=>U i∨i=k) (upM M k w.heap.size) (wr H [(k,.row i.size (chunk i.size len pl))])).w.heap[w.heap.size]? = some (.cells c' e (0,0)):=heap_push_new _ _
     rw [cell_of_heap this]
     simp at hlt
     simp [hlt]
 · simp only [VA]
   refine ⟨.inr rfl,⟨by simp,by simp⟩,fun s hs=>?_⟩
   have:some (i.size,len)=some s:=by rw [← hs]; simp [viewOf,wr_same,Blk.info,chunk_length]
   simp at this
   subst this
   refine ⟨len,e,c'.size,by simp [viewOf,upM_same],Nat.le_refl _,?_,?_⟩
   · simp only [viewOf,upM_same]
     simp only [World.shape?,Array.getElem?_push_size]
   · have:=VPs_length hpl
     rw [← hlen]
     exact Nat.le_of_eq (by simpa using this.symm)
end
end
end Go.Proofs.YtebfpcfbmhkiiaaGreatDoor.Ab
