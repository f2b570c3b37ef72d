/- The layer, part 1: Ab23, Ab24, Ab25, Ab16, Ab30, Ab31, Ab32, Ab33, Ab34, Ab36, Ab37, Ab38, Ab39, Ab35, Ab40, Ab41. -/
import Derived.Test.YtebfpcfbmhkiiaaGreatDoorA0
set_option linter.unusedVariables false
set_option linter.unusedSimpArgs false
namespace Go.Proofs.YtebfpcfbmhkiiaaGreatDoor.Ab
open Go
section
def allLen (sz:Nat) (es:List (List PV)):Bool:=es.all fun e=>Nat.beq e.length sz
theorem allLen_ok {sz:Nat} {es:List (List PV)} (h:allLen sz es=true):∀ e ∈ es,e.length=sz:=fun e he=>Nat.eq_of_beq_eq_true (List.all_eq_true.1 h e he)
def subV (H:Hp) (sz l:Nat) (h:Option Nat):AV→Option AV
 | .pv (.slice es)=>if allLen sz es=true∧l≤h.getD es.length∧h.getD es.length≤es.length then some (.pv (.slice ((es.drop l).take (h.getD es.length - l)))) else none
 | .nils=>if l=0∧h.getD 0=0 then some .nils else none
 | .ms id=>match H id with
  | .row s es=>if s=sz∧l≤h.getD es.length∧h.getD es.length≤es.length then some (.msub id l (h.getD es.length - l)) else none
  | _=>none
 | .msub id off len=>match H id with
  | .row s es=>if s=sz∧l≤h.getD len∧h.getD len≤len then some (.msub id (off + l) (h.getD len - l)) else none
  | _=>none
 | _=>none
def bndO (F:Fr):Option AO→Option (Option Nat)
 | none=>some none
 | some x=>match evO F x with
  | .pv (.int _ n)=>if 0≤n then some (some n.toNat) else none
  | _=>none
section
variable {P:Program} {w:World}
def bval (f:Value→Option Nat):Option Value→Option (Option Nat)
 | none=>some none
 | some v=>(f v).map some
def intN:Value→Option Nat
 | .int _ n=>if 0≤n then some n.toNat else none
 | _=>none
theorem r_sliceBound {v:Value} {n y:Nat} {code:BoundsCode} (h:intN v=some n) (hy:n≤y):(Instr.sliceBound v y code).run P w=.ok n w:=by
 cases v <;> simp only [intN] at h <;> try (simp at h; done)
 split at h
 · rename_i k i h0
   simp at h
   subst h
   unfold Instr.sliceBound
   simp only [asIntOf]
   rw [rb (show (pure (k,i):Sem (IntKind × Int)).run P w=.ok (k,i) w from rfl)]
   simp only
   rw [if_pos ⟨h0,by omega⟩]
   rfl
 · simp at h
theorem r_sliceBounds {isSlice:Bool} {len cap:Nat} {lo hi:Option Value} {l:Nat} {h:Option Nat} (h1:bval intN lo=some (some l)∨lo=none∧l=0) (h2:bval intN hi=some h) (hl:l≤h.getD len) (hh:h.getD len≤cap) :
    (Instr.sliceBounds isSlice len cap lo hi none).run P w=.ok (l,h.getD len,cap) w:=by
 unfold Instr.sliceBounds
 rw [rb (show (pure cap:Sem Nat).run P w=.ok cap w from rfl)]
 have hH:(match hi,(none:Option Value) with
  | some v,some _=>Instr.sliceBound v cap .slice3B
  | some v,none=>Instr.sliceBound v cap (if isSlice then .sliceAcap else .sliceAlen)
  | none,none=>pure len
  | none, some _ => stuck "Slice: max without high").run P w = .ok (h.getD len) w := by
  cases hi with
  | none=>simp [bval] at h2; subst h2; rfl
  | some v =>
   simp [bval] at h2
   obtain ⟨n,h3,rfl⟩:=h2
   exact r_sliceBound h3 hh
 have hL:(match lo with
  | some v=>Instr.sliceBound v (h.getD len) (if (none:Option Value).isSome then .slice3C else .sliceB)
  | none=>pure 0).run P w=.ok l w:=by
  rcases h1 with h1 | ⟨rfl,rfl⟩
  · cases lo with
    | none=>simp [bval] at h1
    | some v =>
     simp [bval] at h1
     exact r_sliceBound h1 hl
  · rfl
 cases hi with
 | none =>
  simp only at hH ⊢
  rw [rb hH]
  cases lo with
  | none=>simp only at hL ⊢; rw [rb hL]; rfl
  | some v=>simp only at hL ⊢; rw [rb hL]; rfl
 | some v' =>
  simp only at hH ⊢
  rw [rb hH]
  cases lo with
  | none=>simp only at hL ⊢; rw [rb hL]; rfl
  | some v=>simp only at hL ⊢; rw [rb hL]; rfl
theorem r_slice {t e:TypeId} {i:TypeInfo} {a:Option Addr} {len cap:Nat} {lo hi:Option Value} {l:Nat} {h:Option Nat} (hu:P.underlying t=some (.slice e)) (hi':P.info? e=some i)
    (h1:bval intN lo=some (some l)∨lo=none∧l=0) (h2:bval intN hi=some h) (hl:l≤h.getD len) (hh:h.getD len≤cap) :
    (Instr.sliceAt t (.slice a len cap) lo hi none).run P w=.ok (.slice (if cap=l then a else a.map (·.add (l * i.size))) (h.getD len - l) (cap - l)) w:=by
 unfold Instr.sliceAt
 rw [rb (r_underlying hu)]
 simp only
 unfold Instr.slice
 rw [rb (r_underlying hu)]
 simp only
 rw [rb (r_sliceBounds h1 h2 hl hh)]
 simp only
 rw [rb (r_sizeOf hi')]
 rfl
end
section
variable {E:Env} {N:Nat} {o:Oper} {F:Fr} {H:Hp} {U:Nat→Prop}
theorem bndO_ok {X:Ctx} {M:Nat→Nat} {a:Act} {w:World} (hE:X.E.OK) (R:Rel X M F H U a w) {l:Option Operand} {l':List AO} {n:Option Nat} (h1:cOs X.E l.toList=some l') (h2:bndO F l'.head? = some n) :
    bval intN (l.map a.eval)=some n:=by
 cases l with
 | none =>
  simp [cOs] at h1; subst h1
  simp [bndO] at h2
  subst h2
  rfl
 | some x =>
  simp only [Option.toList_some,cOs] at h1
  split at h1
  · rename_i y l'' e1 e2
    simp at e2 h1
    subst e2 h1
    simp only [List.head?_cons,bndO] at h2
    have hx:=cO_ok hE R e1
    split at h2
    · rename_i k m e3
      rw [e3] at hx
      simp only [VA,VP] at hx
      split at h2
      · rename_i h0
        simp at h2
        subst h2
        simp [bval,hx,intN,h0]
      · simp at h2
    · simp at h2
  · simp at h1
theorem slice_does (hE:E.OK) {sz:Nat} {x:AO} {lo hi:Option AO} {l h:Option Nat} {v:AV} (hc:cOp E o=some (.slice sz x lo hi)) (hd:∀ k,o.dst=some k→k<N)
    (h1:bndO F lo=some l) (h2:bndO F hi=some h) (h3:subV H sz (l.getD 0) h (evO F x)=some v):Does E N o F H U v [] U:=by
 obtain ⟨t,y,lq,uq,e,i,l',u',ho,hy,hu,hi',rfl,e1,e2,rfl,rfl⟩:=inv_slice hc
 refine Does.value hd fun X M a w hX R=>?_
 subst hX
 have hvx:=cO_ok hE R hy
 have b1:=bndO_ok hE R e1 h1
 have b2:=bndO_ok hE R e2 h2
 have b1':bval intN (lq.map a.eval)=some (some (l.getD 0))∨lq.map a.eval=none∧l.getD 0=0:=by
  cases l with
  | some n=>exact .inl b1
  | none =>
   cases lq with
   | none=>exact .inr ⟨rfl,rfl⟩
   | some q=>simp [bval] at b1
 have hex:execOp a.eval o=(do pure (Next.value (← Instr.sliceAt t (a.eval y) (lq.map a.eval) (uq.map a.eval) none)):Sem Next):=by
  unfold execOp
  rw [ho]
  rfl
 rw [hex]
 unfold subV at h3
 split at h3
 · rename_i es ex
   rw [ex] at hvx
   simp only [VA,VP] at hvx
   obtain ⟨A,len,cap,g1,g2,g3,g4⟩:=hvx
   split at h3
   · rename_i hb
     obtain ⟨ha,hb⟩:=hb
     have ha:=allLen_ok ha
     simp at h3
     subst h3 g2
     refine ⟨_,r_value (by rw [g1]; exact r_slice hu hi' b1' b2 hb.1 (Nat.le_trans hb.2 g3)),?_⟩
     simp only [VA,VP]
     refine ⟨_,_,_,rfl,by simp; omega,by omega,fun hp=>?_⟩
     simp at hp
     obtain ⟨b,q,sz,rfl,g5,g6⟩:=g4 (by omega)
     have hne:cap ≠ l.getD 0:=by omega
     have hsz:sz=i.size:=by
      cases es with
      | nil=>simp at hp
      | cons e0 r =>
       simp only [VElems] at g6
       rw [← g6.1]
       exact ha e0 (by simp)
     subst hsz
     refine ⟨b,q + l.getD 0 * i.size,i.size,?_,g5,VElems_sub g6 _ _⟩
     rw [if_neg hne]
     simp [add_eq]
   · simp at h3
 · rename_i ex
   rw [ex] at hvx
   simp only [VA] at hvx
   split at h3
   · rename_i hb
     simp at h3
     subst h3
     refine ⟨_,r_value (by rw [hvx]; exact r_slice hu hi' b1' b2 (by omega) (by omega)),?_⟩
     simp only [VA,hb.1,hb.2]
     simp
   · simp at h3
 · rename_i id ex
   rw [ex] at hvx
   simp only [VA] at hvx
   split at h3
   · rename_i s es hid
     split at h3
     · rename_i hb
       obtain ⟨rfl,hb⟩:=hb
       simp at h3
       subst h3
       obtain ⟨cap,t',tot,g1,g2,g3,g4⟩:=hvx.2.2 (i.size,es.length) (by simp [viewOf,hid,Blk.info])
       simp only at g1 g2 g4
       refine ⟨_,r_value (by rw [g1]; exact r_slice hu hi' b1' b2 hb.1 (Nat.le_trans hb.2 g2)),?_⟩
       simp only [VA]
       refine ⟨hvx.1,⟨by simp,by simp⟩,fun s hs=>?_⟩
       have:some (i.size,es.length)=some s:=by rw [← hs]; simp [viewOf,hid,Blk.info]
       simp at this
       subst this
       refine ⟨_,_,t',tot,rfl,by omega,g3,?_,fun hp=>?_⟩
       · simp only
         rw [show l.getD 0 + (cap - l.getD 0)=cap by omega]
         exact g4
       · by_cases hm:cap=l.getD 0
         · rw [if_pos hm]
           have:l.getD 0=0:=by omega
           simp [this]
         · rw [if_neg hm]
           simp [add_eq]
     · simp at h3
   · simp at h3
 · rename_i id off len ex
   rw [ex] at hvx
   simp only [VA] at hvx
   split at h3
   · rename_i s es hid
     split at h3
     · rename_i hb
       obtain ⟨rfl,hb⟩:=hb
       simp at h3
       subst h3
       obtain ⟨A,cap,t',tot,g1,g2,g3,g4,g5⟩:=hvx.2.2 (i.size,es.length) (by simp [viewOf,hid,Blk.info])
       simp only at g4 g5
       refine ⟨_,r_value (by rw [g1]; exact r_slice hu hi' b1' b2 hb.1 (Nat.le_trans hb.2 g2)),?_⟩
       simp only [VA]
       refine ⟨hvx.1,⟨by simp,by simp⟩,fun s hs=>?_⟩
       have:some (i.size,es.length)=some s:=by rw [← hs]; simp [viewOf,hid,Blk.info]
       simp at this
       subst this
       refine ⟨_,_,t',tot,rfl,by omega,g3,?_,fun hp=>?_⟩
       · simp only
         rw [show off + l.getD 0 + (cap - l.getD 0)=off + cap by omega]
         exact g4
       · have g5:=g5 (by omega)
         subst g5
         by_cases hm:cap=l.getD 0
         · rw [if_pos hm]
           have:l.getD 0=0:=by omega
           simp [this]
         · rw [if_neg hm]
           simp [add_eq,Nat.add_mul]
     · simp at h3
   · simp at h3
 · simp at h3
theorem Rel.kill {X:Ctx} {M:Nat→Nat} {a:Act} {w:World} (R:Rel X M F H U a w) (id:Nat):Rel X M F (wr H [(id,.dead)]) U a w:=by
 have hH:∀ i,id ≠ i→wr H [(id,.dead)] i=H i:=fun i h=>by rw [wr_other H .dead [] h]; rfl
 have hlive:∀ i,wr H [(id,.dead)] i ≠ .dead→id ≠ i∧H i ≠ .dead:=fun i h=>by
  by_cases h':id=i
  · subst h'; rw [wr_same] at h; exact absurd rfl h
  · rw [hH i h'] at h; exact ⟨h',h⟩
 have T:Turns (viewOf X w U M H) (viewOf X w U M (wr H [(id,.dead)])):=by
  refine ⟨rfl,⟨fun b hb=>⟨hb.1,hb.2.1,fun i hi=>hb.2.2 i (hlive i hi).2⟩,fun _ _=>rfl⟩,fun i h=>h,fun i s hu hs=>?_⟩
  by_cases h':id=i
  · subst h'
    simp only [viewOf] at hs
    rw [wr_same] at hs
    simp [Blk.info] at hs
  · simp only [viewOf] at hs ⊢
    rw [hH i h'] at hs
    exact ⟨hs,trivial,trivial⟩
 refine { defers:=R.defers,size:=R.size,keeps:=R.keeps,K:=R.K,used:=fun i hi=>R.used i (hlive i hi).2,inj:=fun i j hi hj=>R.inj i j (hlive i hi).2 (hlive j hj).2,own:=fun i hi=>R.own i (hlive i hi).2,
          blk:=fun i=>?_,fr:=fun t=>VA_turns T _ _ (R.fr t),gh:=fun v u h=>VA_turns T _ _ (R.gh v u h) }
 by_cases h':id=i
 · subst h'; rw [wr_same]; trivial
 · rw [hH i h']; exact BlkOK_turns T _ (fun _=>rfl) (R.blk i)
end
end
section
section
variable {E:Env} {N:Nat} {o:Oper} {F:Fr} {H:Hp} {U:Nat→Prop}
def stepA (d:Nat):AV→Option AV
 | .pv (.cptr cs off)=>some (.pv (.cptr cs (off + d)))
 | .ptr id i off=>some (.ptr id i (off + d))
 | _=>none
theorem nonNil_ptr {X:Ctx} {M:Nat→Nat} {w:World} {p:AV} {v:Value} (h:nonNil H p=true) (hs:stepA 0 p ≠ none) (hv:VA (viewOf X w U M H) p v):∃ b o,v=.pointer (some ⟨b,o,none⟩) ∧
    ∀ d q,stepA d p=some q→VA (viewOf X w U M H) q (.pointer (some ⟨b,o + d,none⟩)):=by
 cases p with
 | pv q =>
  cases q with
  | cptr cs off =>
   simp only [VA,VP] at hv
   obtain ⟨b,o,h1,h2,h3⟩:=hv
   refine ⟨b,o + off,h1,fun d q hq=>?_⟩
   simp [stepA] at hq
   subst hq
   simp only [VA,VP]
   exact ⟨b,o,by rw [Nat.add_assoc],h2,h3⟩
  | _=>simp [stepA] at hs
 | ptr id i off =>
  simp only [VA] at hv
  have:∃ s,(H id).info=some s:=by
   simp only [nonNil] at h
   cases hH:H id <;> simp [hH] at h <;> simp [Blk.info]
  obtain ⟨s,hs'⟩:=this
  refine ⟨M id,i * s.1 + off,hv.2.2 s hs',fun d q hq=>?_⟩
  simp [stepA] at hq
  subst hq
  simp only [VA]
  refine ⟨hv.1,⟨by simp,by simp⟩,fun s2 hs2=>?_⟩
  have:some s=some s2:=by rw [← hs2,← hs']; rfl
  simp at this
  subst this
  simp [viewOf,Nat.add_assoc]
 | _=>simp [stepA] at hs
theorem idxArr_does (hE:E.OK) {len sz:Nat} {x i:AO} {k:IntKind} {n:Int} {v:AV} (hc:cOp E o=some (.idxArr len sz x i)) (hd:∀ k,o.dst=some k→k<N) (h1:nonNil H (evO F x)=true)
    (h2:evO F i=.pv (.int k n)) (h0:0≤n) (h3:n.toNat<len) (h4:stepA (n.toNat * sz) (evO F x)=some v):Does E N o F H U v [] U:=by
 obtain ⟨t,x',i',e,info,ho,hx,hi,hu,hinfo,rfl⟩:=inv_idxArr hc
 refine Does.value hd fun X M a w hX R=>?_
 subst hX
 have hvx:=cO_ok hE R hx
 have hvi:=cO_ok hE R hi
 rw [h2] at hvi
 simp only [VA,VP] at hvi
 obtain ⟨b,q,g1,g2⟩:=nonNil_ptr h1 (fun hn=>by
  cases hp:evO F x <;> rw [hp] at hn h4 <;> simp [stepA] at hn h4
  rename_i p
  cases p <;> simp [stepA] at hn h4) hvx
 refine ⟨.pointer (some ⟨b,q + n.toNat * info.size,none⟩),?_,g2 _ _ h4⟩
 rw [exec_idx ho,g1,hvi]
 refine r_value ?_
 unfold Instr.indexAt
 simp only [asIntOf]
 rw [rb (show (pure (k,n):Sem (IntKind × Int)).run X.E.P w=.ok (k,n) w from rfl)]
 simp only
 rw [rb (r_underlying hu)]
 simp only
 rw [rb (show (Instr.sureAddr (.pointer (some ⟨b,q,none⟩))).run X.E.P w=.ok ⟨b,q,none⟩ w from rfl),rb (show (pure (some ⟨b,q,none⟩,len,e):Sem (Option Addr × Nat × TypeId)).run X.E.P w=.ok (some ⟨b,q,none⟩,len,e) w from rfl)]
 simp only
 rw [rb (r_underlying hu)]
 simp only
 rw [if_pos (by omega),rb (r_sizeOf hinfo)]
 simp only [add_eq]
 rfl
theorem VRun_chunk {V:View} {sz b:Nat}:∀ {n:Nat} {ps:List PV} {o:Nat},n * sz≤ps.length→VRun V.E V.w V.ok ps b o→VElems V.E V.w V.ok (chunk sz n ps) b o sz
 | 0,ps,o,h,hr=>by simp [chunk,VElems]
 | n + 1,ps,o,h,hr=>by
  rw [Nat.add_mul] at h
  simp only [chunk,VElems]
  have h1:=VRun_sub hr 0 sz
  have h2:=VRun_sub hr sz ps.length
  simp only [List.drop_zero,Nat.add_zero] at h1
  refine ⟨by simp; omega,h1,?_⟩
  rw [List.take_of_length_le (by simp)] at h2
  exact VRun_chunk (by simp; omega) h2
def arrA (H:Hp) (len sz:Nat):AV→Option AV
 | .ptr id i off=>match H id with
  | .var cs=>match Nat.beq sz 1,Nat.ble (off + len) cs.length with
   | true,true=>some (.asub id off len)
   | _,_=>none
  | _=>none
 | _=>none
theorem arrA_ok {H:Hp} {len sz:Nat} {x v:AV} (h:arrA H len sz x=some v):∃ id i off cs,x=.ptr id i off∧H id=.var cs∧v=.asub id off len:=by
 unfold arrA at h
 split at h
 · rename_i id i off
   split at h
   · rename_i cs hid
     split at h
     · simp only [Option.some.injEq] at h
       exact ⟨id,i,off,cs,rfl,hid,h.symm⟩
     · simp at h
   · simp at h
 · simp at h
theorem arrA_does (hE:E.OK) {len sz:Nat} {x:AO} {v:AV} (hc:cOp E o=some (.sliceArr len sz x none none)) (hd:∀ k,o.dst=some k→k<N) (h1:arrA H len sz (evO F x)=some v):Does E N o F H U v [] U:=by
 obtain ⟨t,y,lq,uq,e,i,l',u',ho,hy,hu,hi',rfl,e1,e2,e3,e4⟩:=inv_sliceArr hc
 obtain ⟨id,i0,off,cs,hx,hid,rfl⟩:=arrA_ok h1
 refine Does.value hd fun X M a w hX R=>?_
 subst hX
 have hvx:=cO_ok hE R hy
 rw [hx] at hvx
 simp only [VA] at hvx
 have hp:=hvx.2.2 (0,0) (by simp [viewOf,hid,Blk.info])
 have hl:lq=none:=by
  cases lq with
  | none=>rfl
  | some q=>simp only [Option.toList_some,cOs] at e1; split at e1 <;> simp at e1; subst e1; simp at e3
 have hh:uq=none:=by
  cases uq with
  | none=>rfl
  | some q=>simp only [Option.toList_some,cOs] at e2; split at e2 <;> simp at e2; subst e2; simp at e4
 subst hl hh
 refine ⟨.slice (some ⟨M id,off,none⟩) len len,?_,?_⟩
 · unfold execOp
   rw [ho]
   simp only [Option.map_none]
   refine r_value ?_
   rw [hp]
   unfold Instr.sliceAt
   rw [rb (r_underlying hu)]
   simp only
   rw [rb (show (Instr.sureAddr (.pointer (some ⟨(viewOf X w U M H).M id,i0 * (0,0).1 + off,none⟩))).run X.E.P w=.ok ⟨M id,off,none⟩ w by simp [Instr.sureAddr,viewOf,run_pure])]
   rw [rb (r_sliceBounds (isSlice:=false) (len:=len) (cap:=len) (lo:=none) (hi:=none) (l:=0) (h:=none) (.inr ⟨rfl,rfl⟩) rfl (Nat.zero_le _) (Nat.le_refl _))]
   simp only
   rw [rb (r_sizeOf hi')]
   simp [run_pure,add_eq]
 · simp only [VA]
   exact ⟨hvx.1,⟨by simp,by simp⟩,fun s hs=>rfl⟩
theorem sliceArr_does (hE:E.OK) {len sz id:Nat} {x:AO} {cs:List AV} {pl:List PV} (hc:cOp E o=some (.sliceArr len sz x none none)) (hd:∀ k,o.dst=some k→k<N)
    (h1:evO F x=.ptr id 0 0) (h2:H id=.var cs) (h3:pureVs cs=some pl) (h4:len * sz≤pl.length) :
    Does E N o F H U (.pv (.slice (chunk sz len pl))) [(id,.dead)] U:=by
 obtain ⟨t,y,lq,uq,e,i,l',u',ho,hy,hu,hi',rfl,e1,e2,e3,e4⟩:=inv_sliceArr hc
 intro X M a w Q hX hN R
 subst hX
 have hvx:=cO_ok hE R hy
 rw [h1] at hvx
 simp only [VA] at hvx
 have hp:=hvx.2.2 (0,0) (by simp [viewOf,h2,Blk.info])
 have hl:lq=none:=by
  cases lq with
  | none=>rfl
  | some q=>simp only [Option.toList_some,cOs] at e1; split at e1 <;> simp at e1; subst e1; simp at e3
 have hh:uq=none:=by
  cases uq with
  | none=>rfl
  | some q=>simp only [Option.toList_some,cOs] at e2; split at e2 <;> simp at e2; subst e2; simp at e4
 subst hl hh
 have hex:(execOp a.eval o).run X.E.P w=.ok (.value (.slice (some ⟨M id,0,none⟩) len len)) w:=by
  unfold execOp
  rw [ho]
  simp only [Option.map_none]
  refine r_value ?_
  rw [hp]
  unfold Instr.sliceAt
  rw [rb (r_underlying hu)]
  simp only
  rw [rb (show (Instr.sureAddr (.pointer (some ⟨(viewOf X w U M H).M id,0 * (0,0).1 + 0,none⟩))).run X.E.P w=.ok ⟨M id,0,none⟩ w by simp [Instr.sureAddr,viewOf,run_pure])]
  rw [rb (r_sliceBounds (isSlice:=false) (len:=len) (cap:=len) (lo:=none) (hi:=none) (l:=0) (h:=none) (.inr ⟨rfl,rfl⟩) rfl (Nat.zero_le _) (Nat.le_refl _))]
  simp only
  rw [rb (r_sizeOf hi')]
  simp [run_pure,add_eq]
 rw [Oper.wp,hex,Oper.upon_value]
 refine ⟨M,(R.kill id).put ?_ (fun k hk=>by rw [hN]; exact hd k hk)⟩
 simp only [VA,VP]
 refine ⟨_,len,len,rfl,by rw [chunk_length],Nat.le_refl _,fun hpos=>⟨M id,0,i.size,rfl,?_,?_⟩⟩
 · have:=R.own id (by rw [h2]; simp)
   refine ⟨this.1,this.2.1,fun j hj he=>?_⟩
   by_cases hij:id=j
   · subst hij; rw [wr_same] at hj; exact hj rfl
   · rw [wr_other H .dead [] hij] at hj
     exact hij (R.inj id j (by rw [h2]; simp) hj he.symm)
 · have hb:=R.blk id
   rw [h2] at hb
   obtain ⟨c,t',g1,g2,g3⟩:=hb
   obtain ⟨vs,k1,k2,k3⟩:=ARun_values g3
   have k4:=pureVs_ok _ _ _ h3 k1
   have T:=(R.kill id)
   have hmono:Stays (viewOf X w U M H).ok (okOf X w M (wr H [(id,.dead)])) w w:=⟨fun b hb=>⟨hb.1,hb.2.1,fun j hj=>hb.2.2 j (fun hd=>by
    by_cases hij:id=j
    · subst hij; rw [wr_same] at hj; exact hj rfl
    · rw [wr_other H .dead [] hij] at hj; exact hj hd)⟩,fun _ _=>rfl⟩
   have k5:=VPs_mono hmono _ _ k4
   have hrun:VRun X.E w (okOf X w M (wr H [(id,.dead)])) pl (M id) 0:=by
    rw [VRun_iff]
    intro j p hj
    obtain ⟨l1,m1⟩:=(VPs_iff _ _).1 k5
    have hlt:j<vs.length:=by rw [l1]; exact (List.getElem?_eq_some_iff.1 hj).1
    exact ⟨vs[j],k3 j _ (by simp [hlt]),k2 _ (List.getElem_mem _),m1 j p _ hj (by simp [hlt])⟩
   exact VRun_chunk (V:=viewOf X w U M (wr H [(id,.dead)])) h4 hrun
/-! ### Parts of values -/
theorem r_part {P:Program} {w:World} {V:View} {t:TypeId} {d:TypeDesc} {i:TypeInfo} {c:Array Value} {off n:Nat} {cs:List AV} {v:AV} (hu:P.underlying t=some d) (hi:P.info? t=some i) (hn:n=if isAggD d then i.size else 1)
    (hcs:VAs V cs c.toList) (h:loadV (isAggD d) n (cs.drop off)=some v):∃ u,(part t c off).run P w=.ok u w∧VA V v u:=by
 unfold loadV at h
 split at h
 · rename_i hl
   have hl:=Nat.eq_of_beq_eq_true hl
   obtain ⟨l1,m1⟩:=(VAs_iff _ _).1 hcs
   have hsub:VAs V ((cs.drop off).take n) ((c.toList.drop off).take n):=by
    refine (VAs_iff _ _).2 ⟨by simp at l1; simp [l1],fun j p u hp hu=>?_⟩
    simp only [List.getElem?_take,List.getElem?_drop] at hp hu
    split at hp
    · rename_i hj
      rw [if_pos hj] at hu
      exact m1 _ p u hp hu
    · simp at hp
   unfold part
   rw [rb (r_isAgg hu)]
   split at h
   · rename_i ha
     simp at h
     subst h
     rw [if_pos ha,rb (r_sizeOf hi)]
     have hn:n=i.size:=by rw [hn,if_pos ha]
     refine ⟨.agg (((c.toList.drop off).take n).toArray),?_,mkAgg_ok hsub⟩
     have:c.extract off (off + i.size)=((c.toList.drop off).take n).toArray:=by
      apply Array.toList_inj.1
      rw [Array.toList_extract,hn]
      simp [List.extract]
     rw [this]
     rfl
   · rename_i ha
     split at h
     · rename_i q r hq
       simp at h
       subst h
       rw [if_neg (by simp [ha])]
       have hlt:off<cs.length:=by
        rcases Nat.lt_or_ge off cs.length with h | h
        · exact h
        · rw [List.drop_eq_nil_of_le h] at hq; simp at hq
       have hc:off<c.size:=by simp at l1; omega
       refine ⟨c[off],by simp [hc,run_pure],m1 off _ _ ?_ (by simp [hc])⟩
       have:(cs.drop off)[0]? = some q:=by rw [hq]; rfl
       simpa using this
     · simp at h
 · simp at h
def aggV:AV→Option (List AV)
 | .pv (.agg ps)=>some (pvs ps)
 | .agg cs=>some cs
 | _=>none
theorem aggV_ok {V:View} {x:AV} {cs:List AV} {v:Value} (h:aggV x=some cs) (hv:VA V x v):∃ c,v=.agg c∧VAs V cs c.toList:=by
 unfold aggV at h
 split at h
 · simp at h; subst h
   simp only [VA,VP] at hv
   obtain ⟨vs,rfl,h1⟩:=hv
   exact ⟨_,rfl,by simpa using pvs_iff.2 h1⟩
 · simp at h; subst h
   simp only [VA] at hv
   obtain ⟨vs,rfl,h1⟩:=hv
   exact ⟨_,rfl,by simpa using h1⟩
 · simp at h
theorem fieldV_does (hE:E.OK) {agg:Bool} {off n:Nat} {x:AO} {cs:List AV} {v:AV} (hc:cOp E o=some (.fieldV agg off n x)) (hd:∀ k,o.dst=some k→k<N) (h1:aggV (evO F x)=some cs) (h2:loadV agg n (cs.drop off)=some v) :
    Does E N o F H U v [] U:=by
 obtain ⟨s,y,f,fs,fd,i,d,ho,hy,hu,hf,hi,hdd,rfl,rfl,hn⟩:=inv_fieldV hc
 refine Does.value hd fun X M a w hX R=>?_
 subst hX
 obtain ⟨c,g1,g2⟩:=aggV_ok h1 (cO_ok hE R hy)
 obtain ⟨u,g3,g4⟩:=r_part (w:=w) hdd hi hn g2 h2
 refine ⟨u,?_,g4⟩
 unfold execOp
 rw [ho]
 simp only
 refine r_value ?_
 unfold Instr.field
 rw [rb (r_underlying hu)]
 simp only [hf,g1]
 exact (rb (show (asAgg (.agg c)).run X.E.P w=.ok c w from rfl)).trans g3
theorem idxV_does (hE:E.OK) {agg:Bool} {len sz:Nat} {x i:AO} {k:IntKind} {n:Int} {cs:List AV} {v:AV} (hc:cOp E o=some (.idxV agg len sz x i)) (hd:∀ k,o.dst=some k→k<N) (h1:aggV (evO F x)=some cs)
    (h2:evO F i=.pv (.int k n)) (h0:0≤n) (h3:n.toNat<len) (h4:loadV agg sz (cs.drop (n.toNat * sz))=some v):Does E N o F H U v [] U:=by
 obtain ⟨t,x',i',e,m,d,ho,hx,hi,hu,hm,hdd,rfl,hsz,hn⟩:=inv_idxV hc
 refine Does.value hd fun X M a w hX R=>?_
 subst hX
 have hvi:=cO_ok hE R hi
 rw [h2] at hvi
 simp only [VA,VP] at hvi
 obtain ⟨c,g1,g2⟩:=aggV_ok h1 (cO_ok hE R hx)
 obtain ⟨u,g3,g4⟩:=r_part (w:=w) hdd hm hn g2 h4
 refine ⟨u,?_,g4⟩
 unfold execOp
 rw [ho]
 simp only [g1,hvi]
 refine r_value ?_
 unfold Instr.index
 simp only [asIntOf]
 rw [rb (show (pure (k,n):Sem (IntKind × Int)).run X.E.P w=.ok (k,n) w from rfl)]
 simp only
 rw [rb (r_underlying hu)]
 simp only
 rw [if_pos (by omega),rb (r_sizeOf hm),← hsz]
 exact g3
/-! ### The greatest and the least -/
def maxL (f:Int→Int→Int) (k:IntKind) (acc:Int):List AV→Option Int
 | []=>some acc
 | .pv (.int j n) :: r=>if j=k then maxL f k (f acc n) r else none
 | _=>none
def iMax (x y:Int):Int:=if y > x then y else x
def iMin (x y:Int):Int:=if y<x then y else x
theorem r_maxL {X:Ctx} {M:Nat→Nat} {w:World} {P:Program}:∀ {vs:List AV} {us:List Value} {k:IntKind} {acc r:Int},maxL iMax k acc vs=some r→VAs (viewOf X w U M H) vs us →
    (us.foldlM Builtin.max2 (.int k acc)).run P w=.ok (.int k r) w
 | [],us,k,acc,r,h,hv=>by
  simp [maxL] at h; subst h
  simp only [VAs] at hv; subst hv
  rfl
 | a :: l,us,k,acc,r,h,hv=>by
  simp only [VAs] at hv
  obtain ⟨u,us',rfl,h1,h2⟩:=hv
  cases a with
  | pv p=>cases p with
   | int j n =>
    simp only [maxL] at h
    split at h
    · rename_i hj
      subst hj
      simp only [VA,VP] at h1
      subst h1
      simp only [List.foldlM_cons]
      rw [rb (show (Builtin.max2 (.int j acc) (.int j n)).run P w=.ok (.int j (iMax acc n)) w from rfl)]
      exact r_maxL h h2
    · simp at h
   | _=>simp [maxL] at h
  | _=>simp [maxL] at h
theorem r_minL {X:Ctx} {M:Nat→Nat} {w:World} {P:Program}:∀ {vs:List AV} {us:List Value} {k:IntKind} {acc r:Int},maxL iMin k acc vs=some r→VAs (viewOf X w U M H) vs us →
    (us.foldlM Builtin.min2 (.int k acc)).run P w=.ok (.int k r) w
 | [],us,k,acc,r,h,hv=>by
  simp [maxL] at h; subst h
  simp only [VAs] at hv; subst hv
  rfl
 | a :: l,us,k,acc,r,h,hv=>by
  simp only [VAs] at hv
  obtain ⟨u,us',rfl,h1,h2⟩:=hv
  cases a with
  | pv p=>cases p with
   | int j n =>
    simp only [maxL] at h
    split at h
    · rename_i hj
      subst hj
      simp only [VA,VP] at h1
      subst h1
      simp only [List.foldlM_cons]
      rw [rb (show (Builtin.min2 (.int j acc) (.int j n)).run P w=.ok (.int j (iMin acc n)) w from rfl)]
      exact r_minL h h2
    · simp at h
   | _=>simp [maxL] at h
  | _=>simp [maxL] at h
def maxA (f:Int→Int→Int):List AV→Option AV
 | .pv (.int k n) :: r=>match maxL f k n r with
  | some m=>some (.pv (.int k m))
  | none=>none
 | _=>none
theorem max_does (hE:E.OK) {xs:List AO} {v:AV} (hc:cOp E o=some (.bmax xs)) (hd:∀ k,o.dst=some k→k<N) (h1:maxA iMax (evOs F xs)=some v):Does E N o F H U v [] U:=by
 obtain ⟨c,ho,hb,hxs⟩:=inv_bmax hc
 refine Does.value hd fun X M a w hX R=>?_
 subst hX
 have hv:=cOs_ok hE R hxs
 unfold maxA at h1
 split at h1
 · rename_i k n r hx
   rw [hx] at hv
   simp only [VAs] at hv
   obtain ⟨u,us,g1,g2,g3⟩:=hv
   split at h1
   · rename_i m hm
     simp at h1
     subst h1
     simp only [VA,VP] at g2
     subst g2
     refine ⟨.int k m,?_,by simp [VA,VP]⟩
     rw [r_call_builtin (P:=X.E.P) ho hb]
     refine r_value ?_
     show (Builtin.max_ _ _ _).run X.E.P w=_
     unfold Builtin.max_
     have:(c.args.map a.eval).toList=.int k n :: us:=by simpa using g1
     rw [this]
     exact r_maxL hm g3
   · simp at h1
 · simp at h1
theorem min_does (hE:E.OK) {xs:List AO} {v:AV} (hc:cOp E o=some (.bmin xs)) (hd:∀ k,o.dst=some k→k<N) (h1:maxA iMin (evOs F xs)=some v):Does E N o F H U v [] U:=by
 obtain ⟨c,ho,hb,hxs⟩:=inv_bmin hc
 refine Does.value hd fun X M a w hX R=>?_
 subst hX
 have hv:=cOs_ok hE R hxs
 unfold maxA at h1
 split at h1
 · rename_i k n r hx
   rw [hx] at hv
   simp only [VAs] at hv
   obtain ⟨u,us,g1,g2,g3⟩:=hv
   split at h1
   · rename_i m hm
     simp at h1
     subst h1
     simp only [VA,VP] at g2
     subst g2
     refine ⟨.int k m,?_,by simp [VA,VP]⟩
     rw [r_call_builtin (P:=X.E.P) ho hb]
     refine r_value ?_
     show (Builtin.min_ _ _ _).run X.E.P w=_
     unfold Builtin.min_
     have:(c.args.map a.eval).toList=.int k n :: us:=by simpa using g1
     rw [this]
     exact r_minL hm g3
   · simp at h1
 · simp at h1
end
end
section
open Go.Instr (sameNow findNow findKey checkKey keyThatStays sameBits)
def keq:Bool→PV→PV→Option Bool
 | false,.int k a,.int j b=>if k=j then some (a == b) else none
 | true,.str a,.str b=>some (a == b)
 | _,_,_=>none
def mapFind (s:Bool) (x:PV):List (PV × PV)→Option (Option PV)
 | []=>some none
 | (k,v) :: r=>match keq s x k with
  | some true=>some (some v)
  | some false=>mapFind s x r
  | none=>none
def mapSet (s:Bool) (x v:PV):List (PV × PV)→Option (List (PV × PV))
 | []=>some [(x,v)]
 | (k,u) :: r=>match keq s x k with
  | some true=>some ((x,v) :: r)
  | some false=>match mapSet s x v r with
   | some l=>some ((k,u) :: l)
   | none=>none
  | none=>none
def getV (ok:Bool) (z:PV) (o:Option PV):PV:=match ok with
 | true=>.tuple [o.getD z,.bool o.isSome]
 | false=>o.getD z
section
variable {E:Env} {w:World} {ok:Nat→Prop}
theorem ba_beq (a b:ByteArray):(a == b)=decide (a=b):=by
 cases a with | mk x=>cases b with | mk y =>
 rw [show ((ByteArray.mk x == ByteArray.mk y)=(x == y)) from rfl]
 by_cases h:x=y
 · subst h; simp
 · have h2:¬ ByteArray.mk x=ByteArray.mk y:=fun e=>h (ByteArray.mk.inj e)
   rw [decide_eq_false h2]
   simpa using h
theorem same_ok {s:Bool} {d:TypeDesc} (hd:keyD s d=true) {x y:PV} {u v:Value} {b:Bool} (hx:VP E w ok x u) (hy:VP E w ok y v) (h:keq s x y=some b):sameNow d u v=some b∧(b=true→sameBits 10000 v u=true):=by
 unfold keq at h
 split at h
 · simp only [VP] at hx hy
   subst hx; subst hy
   split at h
   · rename_i hk
     subst hk
     simp at h
     subst h
     cases d <;> simp [keyD] at hd
     refine ⟨by simp [sameNow],fun hb=>?_⟩
     simp at hb
     simp [sameBits,hb]
   · simp at h
 · simp only [VP] at hx hy
   subst hx; subst hy
   simp only [Option.some.injEq] at h
   subst h
   cases d <;> simp [keyD] at hd
   refine ⟨by simp [sameNow],fun hb=>?_⟩
   rw [ba_beq,decide_eq_true_eq] at hb
   subst hb
   simp [sameBits,ba_beq]
 · simp at h
theorem find_ok {s:Bool} {d:TypeDesc} (hd:keyD s d=true) {x:PV} {u:Value} (hx:VP E w ok x u):∀ {es:List (PV × PV)} {ms:List MapEntry} {r:Option PV} (i:Nat),VEnt2 E w ok es ms→mapFind s x es=some r →
    (r=none→findNow d u ms i=some none)∧∀ p,r=some p→∃ j m,findNow d u ms i=some (some (i + j,m.val))∧ms[j]? = some m∧VP E w ok p m.val∧sameBits 10000 m.key u=true
 | [],ms,r,i,h,hf=>by
  simp only [VEnt2] at h
  subst h
  simp only [mapFind,Option.some.injEq] at hf
  subst hf
  exact ⟨fun _=>rfl,fun p hp=>by simp at hp⟩
 | (k,v) :: es,ms,r,i,h,hf=>by
  simp only [VEnt2] at h
  obtain ⟨m,rest,rfl,h1,h2,h3⟩:=h
  simp only [mapFind] at hf
  split at hf
  · rename_i hq
    obtain ⟨g1,g2⟩:=same_ok hd hx h1 hq
    simp only [Option.some.injEq] at hf
    subst hf
    refine ⟨fun h=>by simp at h,fun p hp=>?_⟩
    simp only [Option.some.injEq] at hp
    subst hp
    exact ⟨0,m,by simp [findNow,g1],by simp,h2,g2 rfl⟩
  · rename_i hq
    obtain ⟨g1,_⟩:=same_ok hd hx h1 hq
    obtain ⟨q1,q2⟩:=find_ok hd hx (i + 1) h3 hf
    refine ⟨fun h=>by simp [findNow,g1,q1 h],fun p hp=>?_⟩
    obtain ⟨j,m',e1,e2,e3,e4⟩:=q2 p hp
    exact ⟨j + 1,m',by simp only [findNow,g1]; rw [e1,show i + 1 + j=i + (j + 1) by omega],by simpa using e2,e3,e4⟩
  · simp at hf
theorem VEnt2_snoc {x v:PV} {u y:Value} {n:Nat} (hx:VP E w ok x u) (hv:VP E w ok v y):∀ {es:List (PV × PV)} {ms:List MapEntry},VEnt2 E w ok es ms→VEnt2 E w ok (es ++ [(x,v)]) (ms ++ [{ key:=u,val:=y,born:=n }])
 | [],ms,h=>by
  simp only [VEnt2] at h
  subst h
  exact ⟨_,[],rfl,hx,hv,rfl⟩
 | (k,z) :: es,ms,h=>by
  simp only [VEnt2] at h
  obtain ⟨m,rest,rfl,h1,h2,h3⟩:=h
  exact ⟨m,_,rfl,h1,h2,VEnt2_snoc hx hv h3⟩
theorem set_ok {s:Bool} {d:TypeDesc} (hd:keyD s d=true) {x v:PV} {u y:Value} (hx:VP E w ok x u) (hv:VP E w ok v y):∀ {es es':List (PV × PV)} {ms:List MapEntry} (i:Nat),VEnt2 E w ok es ms→mapSet s x v es=some es' →
    (findNow d u ms i=some none∧es'=es ++ [(x,v)]) ∨
     ∃ j m,findNow d u ms i=some (some (i + j,m.val))∧ms[j]? = some m∧sameBits 10000 m.key u=true∧VEnt2 E w ok es' (ms.modify j fun e=>{ e with key:=u,val:=y })
 | [],es',ms,i,h,hf=>by
  simp only [VEnt2] at h
  subst h
  simp only [mapSet,Option.some.injEq] at hf
  subst hf
  exact .inl ⟨rfl,rfl⟩
 | (k,z) :: es,es',ms,i,h,hf=>by
  simp only [VEnt2] at h
  obtain ⟨m,rest,rfl,h1,h2,h3⟩:=h
  simp only [mapSet] at hf
  split at hf
  · rename_i hq
    obtain ⟨g1,g2⟩:=same_ok hd hx h1 hq
    simp only [Option.some.injEq] at hf
    subst hf
    exact .inr ⟨0,m,by simp [findNow,g1],by simp,g2 rfl,⟨{ m with key:=u,val:=y },rest,by simp,hx,hv,h3⟩⟩
  · rename_i hq
    obtain ⟨g1,_⟩:=same_ok hd hx h1 hq
    split at hf
    · rename_i l hl
      simp only [Option.some.injEq] at hf
      subst hf
      rcases set_ok hd hx hv (i + 1) h3 hl with ⟨q1,rfl⟩ | ⟨j,m',q1,q2,q3,q4⟩
      · exact .inl ⟨by simp [findNow,g1,q1],rfl⟩
      · exact .inr ⟨j + 1,m',by simp only [findNow,g1]; rw [q1,show i + 1 + j=i + (j + 1) by omega],by simpa using q2,q3,⟨m,_,by simp,h1,h2,q4⟩⟩
    · simp at hf
  · simp at hf
end
section
variable {E:Env} {N:Nat} {o:Oper} {F:Fr} {H:Hp} {U:Nat→Prop}
theorem mkMap_does (hE:E.OK) {k:Nat} (hc:cOp E o=some .mkMap) (hd:∀ k,o.dst=some k→k<N) (hk:¬ U k):Does E N o F H U (.map k) [(k,.map [])] (fun i=>U i∨i=k):=by
 obtain ⟨t,ho⟩:=inv_mkMap hc
 refine Does.newBlk hk hd (by simp) fun X M a w hX R=>?_
 subst hX
 refine ⟨.map #[] 0,.map (some w.heap.size),?_,⟨#[],0,heap_push_new _ _,by simp [VEnt2],by simp,by simp⟩,?_⟩
 · unfold execOp
   rw [ho]
   rfl
 · simp only [VA]
   refine ⟨.inr rfl,⟨by simp,by simp⟩,fun s hs=>?_⟩
   simp [viewOf,upM_same]
theorem checkKey_ok {P:Program} {w:World} {s:Bool} {kt:TypeId} {d:TypeDesc} (hd:keyD s d=true) (hu:P.underlying kt=some d) (b:Bool) (u:Value):(checkKey b 10000 kt u).run P w=.ok () w:=by
 unfold checkKey
 rw [rb (r_underlying hu)]
 cases d <;> simp [keyD] at hd <;> rfl
theorem findKey_ok {P:Program} {w:World} {kt:TypeId} {d:TypeDesc} {u:Value} {ms:List MapEntry} {r:Option (Nat × Value)} (hu:P.underlying kt=some d) (h:findNow d u ms 0=some r):(findKey kt u ms).run P w=.ok r w:=by
 unfold findKey
 rw [rb (r_underlying hu),h]
 rfl
theorem r_getObj {P:Program} {w:World} {r:Nat} {ms:Array MapEntry} {clk:Nat} (h:w.heap[r]? = some (.map ms clk)):(getObj r).run P w=.ok (.map ms clk) w:=by
 simp [getObj,Sem.run,h]
theorem mapGet_does (hE:E.OK) {s ok:Bool} {z x:PV} {m k:AO} {id:Nat} {es:List (PV × PV)} {r:Option PV} (hc:cOp E o=some (.mapGet s ok z m k)) (hd:∀ k,o.dst=some k→k<N)
    (h1:evO F m=.map id) (h2:H id=.map es) (h3:evO F k=.pv x) (h4:mapFind s x es=some r):Does E N o F H U (.pv (getV ok z r)) [] U:=by
 obtain ⟨t,x',i',kt,et,d,zi,zv,ho,hu,hx,hi,hk,hkd,hzi,hzv,hz⟩:=inv_mapGet hc
 refine Does.value hd fun X M a w hX R=>?_
 subst hX
 have hvm:=cO_ok hE R hx
 have hvk:=cO_ok hE R hi
 rw [h1] at hvm
 rw [h3] at hvk
 simp only [VA] at hvm hvk
 have hb:=R.blk id
 rw [h2] at hb
 obtain ⟨ms,clk,g1,g2,g3,g4⟩:=hb
 have h5:a.eval x'=.map (some (M id)):=by simpa [viewOf] using hvm.2.2 (0,0) (by simp [viewOf,h2,Blk.info])
 have g1':w.heap[M id]? = some (.map ms clk):=g1
 obtain ⟨q1,q2⟩:=find_ok hkd hvk 0 g2 h4
 have hex:execOp a.eval o=(do pure (Next.value (← Instr.lookup t (a.eval x') (a.eval i') ok)):Sem Next):=by
  unfold execOp
  rw [ho]
 have hrun:∃ v,(Instr.lookup t (a.eval x') (a.eval i') ok).run X.E.P w=.ok v w∧VP X.E w (okOf X w M H) (getV ok z r) v:=by
  rw [h5]
  unfold Instr.lookup
  rw [rb (r_underlying hu)]
  simp only
  rw [rb (r_getObj g1')]
  simp only
  rw [rb (show (pure ms:Sem (Array MapEntry)).run X.E.P w=.ok ms w from rfl),rb (checkKey_ok hkd hk _ _)]
  cases r with
  | none =>
   rw [rb (findKey_ok hk (q1 rfl))]
   simp only
   rw [rb (r_zeroValue hzi hzv)]
   refine ⟨_,rfl,?_⟩
   have hz':VP X.E w (okOf X w M H) z zv:=cZ_ok hz
   cases ok with
   | false=>simpa [getV] using hz'
   | true=>simp only [getV,VP]; exact ⟨[zv,.bool false],rfl,zv,[.bool false],rfl,by simpa using hz',_,[],rfl,by simp [VP],rfl⟩
  | some p =>
   obtain ⟨j,m',e1,e2,e3,e4⟩:=q2 p rfl
   rw [rb (findKey_ok hk e1)]
   simp only
   refine ⟨_,rfl,?_⟩
   have e3':VP X.E w (okOf X w M H) p m'.val:=e3
   cases ok with
   | false=>simpa [getV] using e3'
   | true=>simp only [getV,VP]; exact ⟨[m'.val,.bool true],rfl,m'.val,[.bool true],rfl,by simpa using e3',_,[],rfl,by simp [VP],rfl⟩
 obtain ⟨v,hv1,hv2⟩:=hrun
 refine ⟨v,?_,by simp only [VA]; exact hv2⟩
 rw [hex]
 exact r_value hv1
theorem r_setObj {P:Program} {w:World} {r:Nat} {ms:Array MapEntry} {clk:Nat} {o2:Obj} (h:w.heap[r]? = some (.map ms clk)):(setObj r o2).run P w=.ok () (setB w r o2):=by
 have hr:=(Array.getElem?_eq_some_iff.1 h).1
 simp only [setObj,Sem.run,h,setB]
theorem mapPut_does (hE:E.OK) {s:Bool} {x p:PV} {m k v:AO} {id:Nat} {es es':List (PV × PV)} (hc:cOp E o=some (.mapPut s m k v))
    (h1:evO F m=.map id) (h2:H id=.map es) (h3:evO F k=.pv x) (h4:evO F v=.pv p) (h5:mapSet s x p es=some es'):Does E N o F H U .bot [(id,.map es')] U:=by
 obtain ⟨t,x',i',y',kt,et,d,ho,hdst,hu,hx,hi,hy,hk,hkd⟩:=inv_mapPut hc
 refine Does.write hdst fun X M a w hX R=>?_
 subst hX
 have hvm:=cO_ok hE R hx
 have hvk:=cO_ok hE R hi
 have hvv:=cO_ok hE R hy
 rw [h1] at hvm
 rw [h3] at hvk
 rw [h4] at hvv
 simp only [VA] at hvm hvk hvv
 have hb:=R.blk id
 rw [h2] at hb
 obtain ⟨ms,clk,g1,g2,g3,g4⟩:=hb
 have h6:a.eval x'=.map (some (M id)):=by simpa [viewOf] using hvm.2.2 (0,0) (by simp [viewOf,h2,Blk.info])
 have g1':w.heap[M id]? = some (.map ms clk):=g1
 have hMk:M id<w.heap.size:=(Array.getElem?_eq_some_iff.1 g1').1
 have hex:execOp a.eval o=(do Instr.mapUpdate t (a.eval x') (a.eval i') (a.eval y'); pure Next.skip:Sem Next):=by
  unfold execOp
  rw [ho]
 have hrun:∀ ob,(Instr.mapUpdate t (a.eval x') (a.eval i') (a.eval y')).run X.E.P w=.ok () (setB w (M id) ob)→(execOp a.eval o).run X.E.P w=.ok .skip (setB w (M id) ob):=fun ob h=>by
  rw [hex,run_bind,h]
  rfl
 have hsh:∀ ms' clk',(setB w (M id) (.map ms' clk')).shape? (M id)=w.shape? (M id):=fun ms' clk'=>by
  simp [World.shape?,setB_same _ hMk,g1']
 have hturn:∀ ms' clk',Turns (viewOf X w U M H) (viewOf X (setB w (M id) (.map ms' clk')) U M (wr H [(id,.map es')])):=fun ms' clk' =>
  R.write_turn (.map ms' clk') (.map es') id (by simp [h2]) (by simp [h2,Blk.info]) (hsh _ _)
 rcases set_ok hkd hvk hvv 0 g2 h5 with ⟨q1,rfl⟩ | ⟨j,m',q1,q2,q3,q4⟩
 · refine ⟨.map (ms.push { key:=a.eval i',val:=a.eval y',born:=clk }) (clk + 1),hrun _ ?_,by simp [h2],by simp,by simp [h2,Blk.info],hsh _ _,?_⟩
   · rw [h6]
     unfold Instr.mapUpdate
     rw [rb (r_underlying hu)]
     simp only
     rw [rb (r_getObj g1')]
     simp only
     rw [rb (checkKey_ok hkd hk _ _),rb (findKey_ok hk q1)]
     simp only
     exact r_setObj g1'
   · refine ⟨_,_,setB_same _ hMk,?_,?_,?_⟩
     · rw [Array.toList_push]
       exact VEnt2_mono (hturn _ _).stays _ _ (VEnt2_snoc hvk hvv g2)
     · intro e he
       simp only [Array.toList_push,List.mem_append,List.mem_singleton] at he
       rcases he with he | rfl
       · have:=g3 e he; omega
       · exact Nat.lt_succ_self _
     · rw [Array.toList_push,List.pairwise_append]
       refine ⟨g4,by simp,fun a1 ha b1 hb1=>?_⟩
       simp only [List.mem_singleton] at hb1
       subst hb1
       have:=g3 a1 ha
       simp only [ne_eq]
       omega
 · have hj:j<ms.size:=by have:=(List.getElem?_eq_some_iff.1 q2).1; simpa using this
   have q2':ms[j]? = some m':=by rw [← Array.getElem?_toList]; exact q2
   refine ⟨.map (ms.modify j fun e=>{ e with key:=a.eval i',val:=a.eval y' }) clk,hrun _ ?_,by simp [h2],by simp,by simp [h2,Blk.info],hsh _ _,?_⟩
   · rw [h6]
     unfold Instr.mapUpdate
     rw [rb (r_underlying hu)]
     simp only
     rw [rb (r_getObj g1')]
     simp only
     rw [rb (checkKey_ok hkd hk _ _),rb (findKey_ok hk q1)]
     simp only [Nat.zero_add]
     rw [rb (show (keyThatStays (((ms[j]?).map (·.key)).getD (a.eval i')) (a.eval i')).run X.E.P w=.ok (a.eval i') w by
      rw [q2']
      simp only [Option.map_some,Option.getD_some]
      unfold keyThatStays
      rw [if_pos q3]
      rfl)]
     exact r_setObj g1'
   · refine ⟨_,_,setB_same _ hMk,?_,?_,?_⟩
     · rw [Array.toList_modify]
       exact VEnt2_mono (hturn _ _).stays _ _ q4
     · intro e he
       rw [Array.toList_modify] at he
       obtain ⟨n,hn1,hn2⟩:=List.getElem_of_mem he
       rw [List.getElem_modify] at hn2
       have hl:n<ms.toList.length:=by simpa using hn1
       have h0:=g3 _ (List.getElem_mem hl)
       split at hn2
       · subst hn2
         exact h0
       · subst hn2
         exact h0
     · rw [Array.toList_modify,List.pairwise_iff_getElem]
       rw [List.pairwise_iff_getElem] at g4
       intro i1 j1 hi1 hj1 hlt
       rw [List.getElem_modify,List.getElem_modify]
       have:=g4 i1 j1 (by simpa using hi1) (by simpa using hj1) hlt
       split <;> split <;> exact this
end
end
section
def byteS (ns:List Int):ByteArray:=ns.foldl (fun r n=>r.push (UInt8.ofNat n.toNat)) ByteArray.empty
def bytesV:List (List PV)→Option (List Int)
 | []=>some []
 | e :: r=>match e,bytesV r with
  | [.int .u8 n],some l=>some (n :: l)
  | _,_=>none
theorem bytesV_flat:∀ {es:List (List PV)} {ns:List Int},bytesV es=some ns→es.flatten=ns.map (PV.int .u8)∧(∀ e ∈ es,e.length=1)∧es.length=ns.length
 | [],ns,h=>by simp [bytesV] at h; subst h; simp
 | e :: r,ns,h=>by
  simp only [bytesV] at h
  split at h
  · rename_i n l hl
    simp only [Option.some.injEq] at h
    subst h
    obtain ⟨h1,h2,h3⟩:=bytesV_flat hl
    refine ⟨by simp [h1],fun e he=>?_,by simp [h3]⟩
    rcases List.mem_cons.1 he with rfl | he
    · rfl
    · exact h2 e he
  · simp at h
theorem VPs_u8 {E:Env} {w:World} {ok:Nat→Prop}:∀ {ns:List Int} {vals:List Value},VPs E w ok (ns.map (PV.int .u8)) vals→vals=ns.map (Value.int .u8)
 | [],vals,h=>by simpa [VPs] using h
 | n :: r,vals,h=>by
  simp only [List.map_cons,VPs,VP] at h
  obtain ⟨_,us,rfl,rfl,h3⟩:=h
  rw [VPs_u8 h3]
  rfl
section
variable {E:Env} {N:Nat} {o:Oper} {F:Fr} {H:Hp} {U:Nat→Prop}
theorem b2s_does (hE:E.OK) {x:AO} {es:List (List PV)} {ns:List Int} (hc:cOp E o=some (.b2s x)) (hd:∀ k,o.dst=some k→k<N) (h1:srcV H (evO F x)=some es) (h2:bytesV es=some ns):Does E N o F H U (.pv (.str (byteS ns))) [] U:=by
 obtain ⟨s,d,y,e,ho,hy,hs,hd',he⟩:=inv_b2s hc
 refine Does.value hd fun X M a w hX R=>?_
 subst hX
 obtain ⟨f1,f2,f3⟩:=bytesV_flat h2
 obtain ⟨A,cap,vals,q1,q2,q3,q4⟩:=srcV_ok (sz:=1) R h1 (cO_ok hE R hy) f2
 rw [f1] at q3
 have hv:=VPs_u8 q3
 have q4':(Builtin.firstCells 1 es.length (a.eval y)).run X.E.P w=.ok vals.toArray w:=q4 w.drawn
 refine ⟨.string (byteS ns),?_,by simp [VA,VP]⟩
 unfold execOp
 rw [ho]
 refine r_value ?_
 rw [q1] at q4' ⊢
 rw [run_convert_bytes_string w s d e A es.length cap hs he hd']
 cases A with
 | none =>
  have h0:(#[]:Array Value)=vals.toArray:=by
   have:Result.ok (#[]:Array Value) w=Result.ok vals.toArray w:=q4'
   injection this
  have hv0:vals=[]:=by simpa using h0.symm
  rw [hv0] at hv
  have hn:ns=[]:=by simpa using hv.symm
  subst hn
  rfl
 | some ad =>
  rw [hv] at q4'
  refine run_bytesToString w ad es.length cap ns ?_
  have:(loadCells ad (es.length * 1)).run X.E.P w=.ok (ns.map (Value.int .u8)).toArray w:=q4'
  rwa [Nat.mul_one] at this
end
end
section
section
variable {E:Env} {N:Nat} {o:Oper} {F:Fr} {H:Hp} {U:Nat→Prop}
def idxA (H:Hp) (sz:Nat) (n:Int):AV→Option AV
 | .pv (.slice es)=>if 0≤n then match es[n.toNat]? with
     | some e=>if Nat.beq e.length sz=true then some (.pv (.cptr e 0)) else none
     | none=>none
  else none
 | .ms id=>match H id with
  | .row s es=>if s=sz∧0≤n∧n.toNat<es.length then some (.ptr id n.toNat 0) else none
  | _=>none
 | .msub id off len=>match H id with
  | .row s es=>if s=sz∧0≤n∧n.toNat<len then some (.ptr id (off + n.toNat) 0) else none
  | _=>none
 | _=>none
def intV:AV→Option Int
 | .pv (.int _ n)=>some n
 | _=>none
def ownId:AV→Option Nat
 | .ptr id 0 0=>some id
 | _=>none
def appV (H:Hp) (nx sz:Nat) (s:AV) (es':List (List PV)):Option (AV × List (Nat × Blk) × Nat) :=
 match s with
 | .nils=>match es' with
  | []=>some (.nils,[],0)
  | e :: r=>if (e :: r).length≤2 ^ 30 then some (.ms nx,[(nx,.row sz (e :: r))],1) else none
 | v=>match baseV H sz v with
  | some (id,es)=>if es.length + es'.length≤2 ^ 30 then some (.ms nx,[(id,.dead),(nx,.row sz (es ++ es'))],1) else none
  | none=>none
def mapOf (H:Hp):AV→Option (Nat × List (PV × PV))
 | .map id=>match H id with
  | .map es=>some (id,es)
  | _=>none
 | _=>none
def pvOnly:AV→Option PV
 | .pv p=>some p
 | _=>none
theorem mapOf_ok {H:Hp} {v:AV} {id:Nat} {es:List (PV × PV)} (h:mapOf H v=some (id,es)):v=.map id∧H id=.map es:=by
 unfold mapOf at h
 split at h
 · split at h
   · rename_i he
     simp at h
     obtain ⟨rfl,rfl⟩:=h
     exact ⟨rfl,he⟩
   · simp at h
 · simp at h
theorem pvOnly_ok {v:AV} {p:PV} (h:pvOnly v=some p):v=.pv p:=by
 unfold pvOnly at h
 split at h
 · simp at h; subst h; rfl
 · simp at h
def evOp (F:Fr) (H:Hp) (nx:Nat):AOp→Option (AV × List (Nat × Blk) × Nat)
 | .mv x=>some (evO F x,[],0)
 | .pick c x y=>match evO F c with
  | .pv (.bool t)=>some (pickV t (evO F x) (evO F y),[],0)
  | _=>none
 | .alloc cs=>some (.ptr nx 0 0,[(nx,.var cs)],1)
 | .box x=>match cellsOf (evO F x) with
  | some cs=>if scals cs=true then some (.ptr nx 0 0,[(nx,.var cs)],1) else none
  | none=>none
 | .build zs ps=>match fillA F zs ps with
  | some cs=>some (mkAgg cs,[],0)
  | none=>none
 | .bslice sz len zs ps=>match fillA F zs ps with
  | some cs=>match pureVs cs with
   | some pl=>if partsScal F ps=true then some (.ms nx,[(nx,.row sz (chunk sz len pl))],1) else none
   | none=>none
  | none=>none
 | .load agg n x=>match cellsAt H (evO F x) with
  | some cs=>match loadV agg n cs with
   | some v=>some (v,[],0)
   | none=>none
  | none=>none
 | .store m x y=>match cellsOf (evO F y) with
  | some cs=>match storeB H (evO F x) cs with
   | some (id,B)=>if Nat.beq cs.length m=true∧scals cs=true then some (.bot,[(id,B)],0) else none
   | none=>none
  | none=>none
 | .nilchk x=>if nonNil H (evO F x)=true then some (evO F x,[],0) else none
 | .bin op none x y=>match binV op (evO F x) (evO F y) with
  | some v=>some (v,[],0)
  | none=>none
 | .bin op (some k) x y=>match eqV H k (x.isC || y.isC) (evO F x) (evO F y) with
  | some b=>match eqB op b with
   | some c=>some (.pv (.bool c),[],0)
   | none=>none
  | none=>none
 | .not x=>match evO F x with
  | .pv (.bool b)=>some (.pv (.bool (!b)),[],0)
  | _=>none
 | .neg x=>match evO F x with
  | .pv (.int k n)=>some (.pv (.int k (k.wrap (0 - n))),[],0)
  | _=>none
 | .conv k x=>match evO F x with
  | .pv (.int _ n)=>some (.pv (.int k (k.wrap n)),[],0)
  | _=>none
 | .mkI n x=>some ((match evO F x with | .pv p=>.pv (.iface n p) | v=>.iface n v),[],0)
 | .mkF n f c=>some (mkFun n (evOs F f) (evOs F c),[],0)
 | .fieldAddr off x=>match fieldA off (evO F x) with
  | some v=>if nonNil H (evO F x)=true then some (v,[],0) else none
  | none=>none
 | .fieldV agg off n x=>match aggV (evO F x) with
  | some cs=>match loadV agg n (cs.drop off) with
   | some v=>some (v,[],0)
   | none=>none
  | none=>none
 | .idxAddr sz x i=>match intV (evO F i) with
  | some n=>match idxA H sz n (evO F x) with
   | some v=>some (v,[],0)
   | none=>none
  | none=>none
 | .idxV agg len sz x i=>match intV (evO F i) with
  | some n=>match aggV (evO F x) with
   | some cs=>if 0≤n∧n.toNat<len then (match loadV agg sz (cs.drop (n.toNat * sz)) with
    | some v=>some (v,[],0)
    | none=>none) else none
   | none=>none
  | none=>none
 | .idxArr len sz x i=>match intV (evO F i) with
  | some n=>match stepA (n.toNat * sz) (evO F x) with
   | some v=>if nonNil H (evO F x)=true∧0≤n∧n.toNat<len then some (v,[],0) else none
   | none=>none
  | none=>none
 | .slice sz x lo hi=>match bndO F lo,bndO F hi with
  | some l,some h=>match subV H sz (l.getD 0) h (evO F x) with
   | some v=>some (v,[],0)
   | none=>none
  | _,_=>none
 | .sliceArr len sz x none none=>match ownId (evO F x) with
  | some id=>match H id with
   | .var cs=>match pureVs cs with
    | some pl=>if len * sz≤pl.length then some (.pv (.slice (chunk sz len pl)),[(id,.dead)],0) else none
    | none=>none
   | _=>none
  | none=>match arrA H len sz (evO F x) with
   | some v=>some (v,[],0)
   | none=>none
 | .append sz bytes s x=>match srcV H (evO F x) with
  | some es'=>if allLen sz es'=true then appV H nx sz (evO F s) es' else none
  | none=>none
 | .len x=>match lenV H (evO F x) with
  | some n=>some (.pv (.int .i64 n),[],0)
  | none=>none
 | .lenS x=>match evO F x with
  | .pv (.str s)=>some (.pv (.int .i64 s.size),[],0)
  | _=>none
 | .b2s x=>match srcV H (evO F x) with
  | some es=>match bytesV es with
   | some ns=>some (.pv (.str (byteS ns)),[],0)
   | none=>none
  | none=>none
 | .lenC n=>some (.pv (.int .i64 n),[],0)
 | .extract x i=>match extractV i (evO F x) with
  | some v=>some (v,[],0)
  | none=>none
 | .bmax xs=>match maxA iMax (evOs F xs) with
  | some v=>some (v,[],0)
  | none=>none
 | .bmin xs=>match maxA iMin (evOs F xs) with
  | some v=>some (v,[],0)
  | none=>none
 | .mkMap=>some (.map nx,[(nx,.map [])],1)
 | .mapGet s ok z m k=>match mapOf H (evO F m),pvOnly (evO F k) with
  | some (_,es),some x=>match mapFind s x es with
   | some r=>some (.pv (getV ok z r),[],0)
   | none=>none
  | _,_=>none
 | .mapPut s m k v=>match mapOf H (evO F m),pvOnly (evO F k),pvOnly (evO F v) with
  | some (id,es),some x,some p=>match mapSet s x p es with
   | some es'=>some (.bot,[(id,.map es')],0)
   | none=>none
  | _,_,_=>none
 | _=>none
theorem Does.used {v:AV} {W:List (Nat × Blk)} {U' U'':Nat→Prop} (h:Does E N o F H U v W U') (hu:∀ i,U' i→U'' i):Does E N o F H U v W U'':=by
 intro X M a w Q hE hN R
 refine Oper.wp_mono ?_ (h X M a w Q hE hN R)
 rintro a' w' ⟨M',R'⟩
 exact ⟨M',R'.used_mono hu⟩
theorem intV_ok {v:AV} {n:Int} (h:intV v=some n):∃ k,v=.pv (.int k n):=by
 unfold intV at h
 split at h <;> simp at h
 subst h
 exact ⟨_,rfl⟩
theorem ownId_ok {v:AV} {id:Nat} (h:ownId v=some id):v=.ptr id 0 0:=by
 unfold ownId at h
 split at h <;> simp at h
 subst h
 rfl
theorem idx_does (hE:E.OK) {sz:Nat} {x i:AO} {k:IntKind} {n:Int} {v:AV} (hc:cOp E o=some (.idxAddr sz x i)) (hd:∀ k,o.dst=some k→k<N) (h1:evO F i=.pv (.int k n)) (h2:idxA H sz n (evO F x)=some v):Does E N o F H U v [] U:=by
 unfold idxA at h2
 split at h2
 · rename_i es ex
   split at h2
   · rename_i h0
     split at h2
     · rename_i e he
       split at h2
       · rename_i hl
         simp at h2; subst h2
         exact idx_pv_does hE hc hd ex h1 h0 he (Nat.eq_of_beq_eq_true hl)
       · simp at h2
     · simp at h2
   · simp at h2
 · rename_i id ex
   split at h2
   · rename_i s es hid
     split at h2
     · rename_i hb
       obtain ⟨rfl,h0,hl⟩:=hb
       simp at h2; subst h2
       exact idx_ms_does hE hc hd ex hid h1 h0 hl
     · simp at h2
   · simp at h2
 · rename_i id off len ex
   split at h2
   · rename_i s es hid
     split at h2
     · rename_i hb
       obtain ⟨rfl,h0,hl⟩:=hb
       simp at h2; subst h2
       exact idx_msub_does hE hc hd ex hid h1 h0 hl
     · simp at h2
   · simp at h2
 · simp at h2
theorem app_does (hE:E.OK) {sz bytes nx:Nat} {s x:AO} {es':List (List PV)} {v:AV} {W:List (Nat × Blk)} {n:Nat} (hc:cOp E o=some (.append sz bytes s x)) (hd:∀ k,o.dst=some k→k<N) (h1:srcV H (evO F x)=some es') (h2:allLen sz es'=true)
    (h3:appV H nx sz (evO F s) es'=some (v,W,n)) (hk:0<n→¬ U nx):Does E N o F H U v W (fun i=>U i∨(0<n∧i=nx)):=by
 unfold appV at h3
 split at h3
 · rename_i es
   split at h3
   · simp at h3; obtain ⟨rfl,rfl,rfl⟩:=h3
     exact (append_none_does hE hc hd (by assumption) h1).used fun i h=>.inl h
   · rename_i e r
     split at h3
     · rename_i hl
       simp only [Option.some.injEq,Prod.mk.injEq] at h3; obtain ⟨rfl,rfl,rfl⟩:=h3
       exact (append_nil_does hE hc hd (by assumption) h1 (allLen_ok h2) (by simp) hl (hk (by omega))).used fun i h=>h.imp id fun h=>⟨by omega,h⟩
     · simp at h3
 · split at h3
   · rename_i id es hb
     split at h3
     · rename_i hl
       simp only [Option.some.injEq,Prod.mk.injEq] at h3; obtain ⟨rfl,rfl,rfl⟩:=h3
       exact (append_does hE hc hd hb h1 (allLen_ok h2) hl (hk (by omega))).used fun i h=>h.imp (fun h=>h) fun h=>⟨by omega,h⟩
     · simp at h3
   · simp at h3
set_option maxHeartbeats 4000000 in
theorem ev_does' (hE:E.OK) {op:AOp} {v:AV} {W:List (Nat × Blk)} {n nx:Nat} (h:evOp F H nx op=some (v,W,n)) (hc:cOp E o=some op) (hd:∀ k,o.dst=some k→k<N) (hn:op.isStore=true→o.dst=none) (hk:0<n→¬ U nx) :
    Does E N o F H U v W (fun i=>U i∨(0<n∧i=nx)):=by
 have hnew:∀ i,(U i∨i=nx)→U i∨(0<1∧i=nx):=fun i h=>h.imp id fun h=>⟨by omega,h⟩
 have hold:∀ i,U i→U i∨(0<0∧i=nx):=fun i h=>.inl h
 cases op with
 | mv x=>simp [evOp] at h; obtain ⟨rfl,rfl,rfl⟩:=h; exact (mv_does hE hc hd).used hold
 | pick c a b =>
  simp only [evOp] at h
  split at h
  · simp at h; obtain ⟨rfl,rfl,rfl⟩:=h; exact (pick_does hE hc hd (by assumption)).used hold
  · simp at h
 | alloc cs=>simp [evOp] at h; obtain ⟨rfl,rfl,rfl⟩:=h; exact (alloc_does hE hc hd (hk (by omega))).used hnew
 | box x =>
  simp only [evOp] at h
  split at h
  · split at h
    · simp at h; obtain ⟨rfl,rfl,rfl⟩:=h; exact (box_does hE hc hd (hk (by omega)) (by assumption) (by assumption)).used hnew
    · simp at h
  · simp at h
 | build zs ps =>
  simp only [evOp] at h
  split at h
  · simp at h; obtain ⟨rfl,rfl,rfl⟩:=h; exact (build_does hE hc hd (by assumption)).used hold
  · simp at h
 | bslice sz len zs ps =>
  simp only [evOp] at h
  split at h
  · split at h
    · split at h
      · simp at h; obtain ⟨rfl,rfl,rfl⟩:=h; exact (bslice_does hE hc hd (hk (by omega)) (by assumption) (by assumption) (by assumption)).used hnew
      · simp at h
    · simp at h
  · simp at h
 | load agg n x =>
  simp only [evOp] at h
  split at h
  · split at h
    · simp at h; obtain ⟨rfl,rfl,rfl⟩:=h; exact (load_does hE hc hd (by assumption) (by assumption)).used hold
    · simp at h
  · simp at h
 | store m x y =>
  simp only [evOp] at h
  split at h
  · split at h
    · split at h
      · rename_i hb
        simp at h; obtain ⟨rfl,rfl,rfl⟩:=h; exact (store_does hE hc (hn rfl) (by assumption) hb.1 hb.2 (by assumption)).used hold
      · simp at h
    · simp at h
  · simp at h
 | nilchk x =>
  simp only [evOp] at h
  split at h
  · simp at h; obtain ⟨rfl,rfl,rfl⟩:=h; exact (nilchk_does hE hc hd (by assumption)).used hold
  · simp at h
 | bin op k x y =>
  cases k with
  | none =>
   simp only [evOp] at h
   split at h
   · simp at h; obtain ⟨rfl,rfl,rfl⟩:=h; exact (bin_does hE hc hd (by assumption)).used hold
   · simp at h
  | some k =>
   simp only [evOp] at h
   split at h
   · split at h
     · simp at h; obtain ⟨rfl,rfl,rfl⟩:=h; exact (eq_does hE hc hd (by assumption) (by assumption)).used hold
     · simp at h
   · simp at h
 | not x =>
  simp only [evOp] at h
  split at h
  · simp at h; obtain ⟨rfl,rfl,rfl⟩:=h; exact (not_does hE hc hd (by assumption)).used hold
  · simp at h
 | neg x =>
  simp only [evOp] at h
  split at h
  · simp only [Option.some.injEq,Prod.mk.injEq] at h; obtain ⟨rfl,rfl,rfl⟩:=h; exact (neg_does hE hc hd (by assumption)).used hold
  · simp at h
 | conv k x =>
  simp only [evOp] at h
  split at h
  · simp at h; obtain ⟨rfl,rfl,rfl⟩:=h; exact (conv_does hE hc hd (by assumption)).used hold
  · simp at h
 | mkI n x=>simp [evOp] at h; obtain ⟨rfl,rfl,rfl⟩:=h; exact (mkI_does hE hc hd).used hold
 | mkF n f c=>simp [evOp] at h; obtain ⟨rfl,rfl,rfl⟩:=h; exact (mkF_does hE hc hd).used hold
 | fieldAddr off x =>
  simp only [evOp] at h
  split at h
  · split at h
    · simp at h; obtain ⟨rfl,rfl,rfl⟩:=h; exact (fieldAddr_does hE hc hd (by assumption) (by assumption)).used hold
    · simp at h
  · simp at h
 | fieldV agg off n x =>
  simp only [evOp] at h
  split at h
  · split at h
    · simp at h; obtain ⟨rfl,rfl,rfl⟩:=h; exact (fieldV_does hE hc hd (by assumption) (by assumption)).used hold
    · simp at h
  · simp at h
 | idxAddr sz x i =>
  simp only [evOp] at h
  split at h
  · rename_i n hi
    obtain ⟨k,hi⟩:=intV_ok hi
    split at h
    · simp at h; obtain ⟨rfl,rfl,rfl⟩:=h; exact (idx_does hE hc hd hi (by assumption)).used hold
    · simp at h
  · simp at h
 | idxV agg len sz x i =>
  simp only [evOp] at h
  split at h
  · rename_i n hi
    obtain ⟨k,hi⟩:=intV_ok hi
    split at h
    · split at h
      · rename_i hb
        split at h
        · simp at h; obtain ⟨rfl,rfl,rfl⟩:=h; exact (idxV_does hE hc hd (by assumption) hi hb.1 hb.2 (by assumption)).used hold
        · simp at h
      · simp at h
    · simp at h
  · simp at h
 | idxArr len sz x i =>
  simp only [evOp] at h
  split at h
  · rename_i n hi
    obtain ⟨k,hi⟩:=intV_ok hi
    split at h
    · split at h
      · rename_i hb
        simp at h; obtain ⟨rfl,rfl,rfl⟩:=h; exact (idxArr_does hE hc hd hb.1 hi hb.2.1 hb.2.2 (by assumption)).used hold
      · simp at h
    · simp at h
  · simp at h
 | slice sz x lo hi =>
  simp only [evOp] at h
  split at h
  · split at h
    · simp at h; obtain ⟨rfl,rfl,rfl⟩:=h; exact (slice_does hE hc hd (by assumption) (by assumption) (by assumption)).used hold
    · simp at h
  · simp at h
 | sliceArr len sz x lo hi =>
  cases lo with
  | some _=>simp [evOp] at h
  | none =>
   cases hi with
   | some _=>simp [evOp] at h
   | none =>
    simp only [evOp] at h
    split at h
    · rename_i id hid
      split at h
      · split at h
        · split at h
          · simp at h; obtain ⟨rfl,rfl,rfl⟩:=h; exact (sliceArr_does hE hc hd (ownId_ok hid) (by assumption) (by assumption) (by assumption)).used hold
          · simp at h
        · simp at h
      · simp at h
    · split at h
      · simp at h; obtain ⟨rfl,rfl,rfl⟩:=h; exact (arrA_does hE hc hd (by assumption)).used hold
      · simp at h
 | append sz bytes s x =>
  simp only [evOp] at h
  split at h
  · split at h
    · exact app_does hE hc hd (by assumption) (by assumption) h hk
    · simp at h
  · simp at h
 | len x =>
  simp only [evOp] at h
  split at h
  · simp at h; obtain ⟨rfl,rfl,rfl⟩:=h; exact (len_does hE hc hd (by assumption)).used hold
  · simp at h
 | lenS x =>
  simp only [evOp] at h
  split at h
  · simp at h; obtain ⟨rfl,rfl,rfl⟩:=h; exact (lenS_does hE hc hd (by assumption)).used hold
  · simp at h
 | b2s x =>
  simp only [evOp] at h
  split at h
  · split at h
    · simp at h; obtain ⟨rfl,rfl,rfl⟩:=h; exact (b2s_does hE hc hd (by assumption) (by assumption)).used hold
    · simp at h
  · simp at h
 | lenC n=>simp [evOp] at h; obtain ⟨rfl,rfl,rfl⟩:=h; exact (lenC_does hE hc hd).used hold
 | extract x i =>
  simp only [evOp] at h
  split at h
  · simp at h; obtain ⟨rfl,rfl,rfl⟩:=h; exact (extract_does hE hc hd (by assumption)).used hold
  · simp at h
 | bmax xs =>
  simp only [evOp] at h
  split at h
  · simp at h; obtain ⟨rfl,rfl,rfl⟩:=h; exact (max_does hE hc hd (by assumption)).used hold
  · simp at h
 | bmin xs =>
  simp only [evOp] at h
  split at h
  · simp at h; obtain ⟨rfl,rfl,rfl⟩:=h; exact (min_does hE hc hd (by assumption)).used hold
  · simp at h
 | mkMap=>simp only [evOp,Option.some.injEq,Prod.mk.injEq] at h; obtain ⟨rfl,rfl,rfl⟩:=h; exact (mkMap_does hE hc hd (hk (by omega))).used hnew
 | mapGet s ok z m k =>
  simp only [evOp] at h
  split at h
  · rename_i id es x e1 e2
    obtain ⟨g1,g2⟩:=mapOf_ok e1
    split at h
    · simp only [Option.some.injEq,Prod.mk.injEq] at h; obtain ⟨rfl,rfl,rfl⟩:=h; exact (mapGet_does hE hc hd g1 g2 (pvOnly_ok e2) (by assumption)).used hold
    · simp at h
  · simp at h
 | mapPut s m k v =>
  simp only [evOp] at h
  split at h
  · rename_i id es x p e1 e2 e3
    obtain ⟨g1,g2⟩:=mapOf_ok e1
    split at h
    · simp only [Option.some.injEq,Prod.mk.injEq] at h; obtain ⟨rfl,rfl,rfl⟩:=h; exact (mapPut_does hE hc g1 g2 (pvOnly_ok e2) (pvOnly_ok e3) (by assumption)).used hold
    · simp at h
  · simp at h
 | _=>simp [evOp] at h
end
end
section
def aTmpsL:List AO→List Nat
 | []=>[]
 | x :: r=>x.tmps ++ aTmpsL r
def aTmpsP:List (Nat × Nat × AO)→List Nat
 | []=>[]
 | (_,_,x) :: r=>x.tmps ++ aTmpsP r
def aTmpsO:Option AO→List Nat
 | some x=>x.tmps
 | none=>[]
def aTmps:AOp→List Nat
 | .mv x | .box x | .load _ _ x | .nilchk x | .not x | .neg x | .conv _ x | .s2b x | .b2s x | .mkI _ x | .fieldAddr _ x | .fieldV _ _ _ x | .len x | .lenS x | .extract x _=>x.tmps
 | .pick c a b=>c.tmps ++ (a.tmps ++ b.tmps)
 | .alloc _ | .lenC _ | .mkMap | .rng _ | .nxt _ | .ent _ | .other=>[]
 | .mapGet _ _ _ m k=>m.tmps ++ k.tmps
 | .mapPut _ m k v=>m.tmps ++ (k.tmps ++ v.tmps)
 | .build _ ps=>aTmpsP ps
 | .bslice _ _ _ ps=>aTmpsP ps
 | .store _ x y | .bin _ _ x y | .idxAddr _ x y | .idxArr _ _ x y | .idxV _ _ _ x y | .append _ _ x y=>x.tmps ++ y.tmps
 | .mkF _ f c=>aTmpsL f ++ aTmpsL c
 | .slice _ x lo hi | .sliceArr _ _ x lo hi=>x.tmps ++ (aTmpsO lo ++ aTmpsO hi)
 | .call _ l | .bmax l | .bmin l=>aTmpsL l
 | .callv f l=>f.tmps ++ aTmpsL l
def idOf:AV→List Nat
 | .ptr id _ _=>[id]
 | .ms id=>[id]
 | .msub id _ _=>[id]
 | .asub id _ _=>[id]
 | .map id=>[id]
 | _=>[]
def rdEv (F:Fr):AOp→List Nat
 | .load _ _ x | .nilchk x | .fieldAddr _ x | .len x | .b2s x | .store _ x _ | .idxAddr _ x _ | .idxArr _ _ x _ | .slice _ x _ _ | .sliceArr _ _ x _ _ | .mapGet _ _ _ x _ | .mapPut _ x _ _=>idOf (evO F x)
 | .bin _ (some _) x y | .append _ _ x y=>idOf (evO F x) ++ idOf (evO F y)
 | _=>[]
section
variable {F F':Fr} {H H':Hp}
theorem evO_agree {x:AO} (h:∀ t ∈ x.tmps,F' t=F t):evO F' x=evO F x:=by
 cases x with
 | t n=>exact h n (by simp [AO.tmps])
 | _=>rfl
theorem evOs_agree:∀ {xs:List AO},(∀ t ∈ aTmpsL xs,F' t=F t)→evOs F' xs=evOs F xs
 | [],h=>rfl
 | x :: r,h=>by
  simp only [evOs]
  rw [evO_agree fun t ht=>h t (by simp [aTmpsL,ht]),evOs_agree fun t ht=>h t (by simp [aTmpsL,ht])]
theorem fillA_agree:∀ {ps:List (Nat × Nat × AO)} {zs:List AV},(∀ t ∈ aTmpsP ps,F' t=F t)→fillA F' zs ps=fillA F zs ps
 | [],zs,h=>rfl
 | (off,n,x) :: r,zs,h=>by
  simp only [fillA]
  rw [evO_agree fun t ht=>h t (by simp [aTmpsP,ht])]
  split
  · split
    · exact fillA_agree fun t ht=>h t (by simp [aTmpsP,ht])
    · rfl
  · rfl
theorem partsScal_agree:∀ {ps:List (Nat × Nat × AO)},(∀ t ∈ aTmpsP ps,F' t=F t)→partsScal F' ps=partsScal F ps
 | [],h=>rfl
 | (off,n,x) :: r,h=>by
  simp only [partsScal]
  rw [evO_agree fun t ht=>h t (by simp [aTmpsP,ht]),partsScal_agree fun t ht=>h t (by simp [aTmpsP,ht])]
theorem bndO_agree {x:Option AO} (h:∀ t ∈ aTmpsO x,F' t=F t):bndO F' x=bndO F x:=by
 cases x with
 | none=>rfl
 | some x =>
  simp only [bndO]
  rw [evO_agree (x:=x) h]
theorem cellsAt_agree {v:AV} (h:∀ i ∈ idOf v,H' i=H i):cellsAt H' v=cellsAt H v:=by
 cases v with
 | ptr id i off=>simp only [cellsAt]; rw [h id (by simp [idOf])]
 | pv p=>cases p <;> rfl
 | _=>rfl
theorem nonNil_agree {v:AV} (h:∀ i ∈ idOf v,H' i=H i):nonNil H' v=nonNil H v:=by
 cases v with
 | ptr id i off=>simp only [nonNil]; rw [h id (by simp [idOf])]
 | pv p=>cases p <;> rfl
 | _=>rfl
theorem lenV_agree {v:AV} (h:∀ i ∈ idOf v,H' i=H i):lenV H' v=lenV H v:=by
 cases v with
 | ms id=>simp only [lenV]; rw [h id (by simp [idOf])]
 | msub id off len=>simp only [lenV]; rw [h id (by simp [idOf])]
 | pv p=>cases p <;> rfl
 | _=>rfl
theorem arrA_agree {len sz:Nat} {v:AV} (h:∀ i ∈ idOf v,H' i=H i):arrA H' len sz v=arrA H len sz v:=by
 cases v with
 | ptr id i off=>simp only [arrA]; rw [h id (by simp [idOf])]
 | pv p=>cases p <;> rfl
 | _=>rfl
theorem srcV_agree {v:AV} (h:∀ i ∈ idOf v,H' i=H i):srcV H' v=srcV H v:=by
 cases v with
 | asub id off len=>simp only [srcV]; rw [h id (by simp [idOf])]
 | ms id=>simp only [srcV]; rw [h id (by simp [idOf])]
 | msub id off len=>simp only [srcV]; rw [h id (by simp [idOf])]
 | pv p=>cases p <;> rfl
 | _=>rfl
theorem baseV_agree {sz:Nat} {v:AV} (h:∀ i ∈ idOf v,H' i=H i):baseV H' sz v=baseV H sz v:=by
 cases v with
 | ms id=>simp only [baseV]; rw [h id (by simp [idOf])]
 | msub id off len =>
  cases off with
  | zero=>simp only [baseV]; rw [h id (by simp [idOf])]
  | succ n=>rfl
 | pv p=>cases p <;> rfl
 | _=>rfl
theorem subV_agree {sz l:Nat} {u:Option Nat} {v:AV} (h:∀ i ∈ idOf v,H' i=H i):subV H' sz l u v=subV H sz l u v:=by
 cases v with
 | ms id=>simp only [subV]; rw [h id (by simp [idOf])]
 | msub id off len=>simp only [subV]; rw [h id (by simp [idOf])]
 | pv p=>cases p <;> rfl
 | _=>rfl
theorem idxA_agree {sz:Nat} {n:Int} {v:AV} (h:∀ i ∈ idOf v,H' i=H i):idxA H' sz n v=idxA H sz n v:=by
 cases v with
 | ms id=>simp only [idxA]; rw [h id (by simp [idOf])]
 | msub id off len=>simp only [idxA]; rw [h id (by simp [idOf])]
 | pv p=>cases p <;> rfl
 | _=>rfl
theorem storeB_agree {v:AV} {cs:List AV} (h:∀ i ∈ idOf v,H' i=H i):storeB H' v cs=storeB H v cs:=by
 cases v with
 | ptr id i off=>simp only [storeB]; rw [h id (by simp [idOf])]
 | pv p=>cases p <;> rfl
 | _=>rfl
theorem appV_agree {nx sz:Nat} {v:AV} {es:List (List PV)} (h:∀ i ∈ idOf v,H' i=H i):appV H' nx sz v es=appV H nx sz v es:=by
 cases v <;> simp only [appV] <;> rw [baseV_agree h]
theorem eqV_agree {k:EqK} {c:Bool} {x y:AV} (hx:∀ i ∈ idOf x,H' i=H i) (hy:∀ i ∈ idOf y,H' i=H i):eqV H' k c x y=eqV H k c x y:=by
 have key:∀ {v:AV} {id:Nat},id ∈ idOf v→(∀ i ∈ idOf v,H' i=H i)→(H' id).info=(H id).info:=fun h1 h2=>by rw [h2 _ h1]
 unfold eqV
 split <;> first | rfl | (rename_i id i a jd j b; rw [key (v:=.ptr id i a) (by simp [idOf]) hx]; done) | (rename_i id i off; rw [key (v:=.ptr id i off) (by simp [idOf]) (by first | exact hx | exact hy)]) | (rename_i id; rw [key (v:=.ms id) (by simp [idOf]) (by first | exact hx | exact hy)])
theorem mapOf_agree {v:AV} (h:∀ i ∈ idOf v,H' i=H i):mapOf H' v=mapOf H v:=by
 cases v with
 | map id=>simp only [mapOf]; rw [h id (by simp [idOf])]
 | pv p=>cases p <;> rfl
 | _=>rfl
theorem ownId_in {v:AV} {id:Nat} (h:ownId v=some id):id ∈ idOf v:=by
 rw [ownId_ok h]; simp [idOf]
theorem evOp_agree {op:AOp} {k:Nat} (hF:∀ t ∈ aTmps op,F' t=F t) (hH:∀ i ∈ rdEv F op,H' i=H i):evOp F' H' k op=evOp F H k op:=by
 cases op with
 | mapGet s ok z m kk =>
  simp only [aTmps] at hF
  simp only [evOp]
  rw [evO_agree (x:=m) fun t ht=>hF t (by simp [ht]),evO_agree (x:=kk) fun t ht=>hF t (by simp [ht]),mapOf_agree hH]
 | mapPut s m kk v =>
  simp only [aTmps] at hF
  simp only [evOp]
  rw [evO_agree (x:=m) fun t ht=>hF t (by simp [ht]),evO_agree (x:=kk) fun t ht=>hF t (by simp [ht]),evO_agree (x:=v) fun t ht=>hF t (by simp [ht]),mapOf_agree hH]
 | mv x=>simp only [evOp]; rw [evO_agree hF]
 | pick c a b =>
  simp only [aTmps] at hF
  simp only [evOp]
  rw [evO_agree (x:=c) fun t ht=>hF t (by simp [ht]),evO_agree (x:=a) fun t ht=>hF t (by simp [ht]),evO_agree (x:=b) fun t ht=>hF t (by simp [ht])]
 | box x=>simp only [evOp]; rw [evO_agree hF]
 | build zs ps=>simp only [evOp]; rw [fillA_agree hF]
 | bslice sz len zs ps=>simp only [evOp]; rw [fillA_agree hF,partsScal_agree hF]
 | load agg n x=>simp only [evOp]; rw [evO_agree hF,cellsAt_agree hH]
 | store m x y =>
  simp only [aTmps] at hF
  simp only [evOp]
  rw [evO_agree (x:=x) fun t ht=>hF t (by simp [ht]),evO_agree (x:=y) fun t ht=>hF t (by simp [ht])]
  split
  · rw [storeB_agree hH]
  · rfl
 | nilchk x=>simp only [evOp]; rw [evO_agree hF,nonNil_agree hH]
 | bin op kk x y =>
  simp only [aTmps] at hF
  cases kk with
  | none=>simp only [evOp]; rw [evO_agree (x:=x) fun t ht=>hF t (by simp [ht]),evO_agree (x:=y) fun t ht=>hF t (by simp [ht])]
  | some e =>
   simp only [rdEv] at hH
   simp only [evOp]
   rw [evO_agree (x:=x) fun t ht=>hF t (by simp [ht]),evO_agree (x:=y) fun t ht=>hF t (by simp [ht]),eqV_agree (fun i hi=>hH i (by simp [hi])) (fun i hi=>hH i (by simp [hi]))]
 | not x=>simp only [evOp]; rw [evO_agree hF]
 | neg x=>simp only [evOp]; rw [evO_agree hF]
 | conv kk x=>simp only [evOp]; rw [evO_agree hF]
 | mkI n x=>simp only [evOp]; rw [evO_agree hF]
 | mkF n f c =>
  simp only [aTmps] at hF
  simp only [evOp]
  rw [evOs_agree (xs:=f) fun t ht=>hF t (by simp [ht]),evOs_agree (xs:=c) fun t ht=>hF t (by simp [ht])]
 | fieldAddr off x=>simp only [evOp]; rw [evO_agree hF,nonNil_agree hH]
 | fieldV agg off n x=>simp only [evOp]; rw [evO_agree hF]
 | idxAddr sz x i =>
  simp only [aTmps] at hF
  simp only [evOp]
  rw [evO_agree (x:=x) fun t ht=>hF t (by simp [ht]),evO_agree (x:=i) fun t ht=>hF t (by simp [ht])]
  split
  · rw [idxA_agree hH]
  · rfl
 | idxV agg len sz x i =>
  simp only [aTmps] at hF
  simp only [evOp]
  rw [evO_agree (x:=x) fun t ht=>hF t (by simp [ht]),evO_agree (x:=i) fun t ht=>hF t (by simp [ht])]
 | idxArr len sz x i =>
  simp only [aTmps] at hF
  simp only [evOp]
  rw [evO_agree (x:=x) fun t ht=>hF t (by simp [ht]),evO_agree (x:=i) fun t ht=>hF t (by simp [ht]),nonNil_agree hH]
 | slice sz x lo hi =>
  simp only [aTmps] at hF
  simp only [evOp]
  rw [evO_agree (x:=x) fun t ht=>hF t (by simp [ht]),bndO_agree (x:=lo) fun t ht=>hF t (by simp [ht]),bndO_agree (x:=hi) fun t ht=>hF t (by simp [ht])]
  split
  · rw [subV_agree hH]
  · rfl
 | sliceArr len sz x lo hi =>
  simp only [aTmps] at hF
  cases lo with
  | some _=>rfl
  | none =>
   cases hi with
   | some _=>rfl
   | none =>
    simp only [evOp]
    rw [evO_agree (x:=x) fun t ht=>hF t (by simp [ht])]
    split
    · rename_i id hid
      rw [hH id (ownId_in hid)]
    · rw [arrA_agree hH]
 | append sz bytes s x =>
  simp only [aTmps] at hF
  simp only [rdEv] at hH
  simp only [evOp]
  rw [evO_agree (x:=s) fun t ht=>hF t (by simp [ht]),evO_agree (x:=x) fun t ht=>hF t (by simp [ht]),srcV_agree fun i hi=>hH i (by simp [hi])]
  split
  · rw [appV_agree fun i hi=>hH i (by simp [hi])]
  · rfl
 | len x=>simp only [evOp]; rw [evO_agree hF,lenV_agree hH]
 | lenS x=>simp only [evOp]; rw [evO_agree hF]
 | b2s x=>simp only [evOp]; rw [evO_agree hF,srcV_agree hH]
 | extract x i=>simp only [evOp]; rw [evO_agree hF]
 | bmax xs=>simp only [evOp]; rw [evOs_agree hF]
 | bmin xs=>simp only [evOp]; rw [evOs_agree hF]
 | _=>rfl
theorem rdEv_agree {op:AOp} (hF:∀ t ∈ aTmps op,F' t=F t):rdEv F' op=rdEv F op:=by
 cases op <;> simp only [aTmps] at hF <;> simp only [rdEv]
 case bin op k x y =>
  cases k <;> simp only [rdEv]
  rw [evO_agree (x:=x) fun t ht=>hF t (by simp [ht]),evO_agree (x:=y) fun t ht=>hF t (by simp [ht])]
 case append=>rw [evO_agree fun t ht=>hF t (by simp [ht]),evO_agree fun t ht=>hF t (by simp [ht])]
 all_goals rw [evO_agree fun t ht=>hF t (by simp [ht])]
end
def funV:AV→Option (Nat × List AV × List AV)
 | .pv (.func n fs cs)=>some (n,pvs fs,pvs cs)
 | .func n fs cs=>some (n,fs,cs)
 | _=>none
theorem VAs_append {V:View} {as bs:List AV} {vs us:List Value} (h1:VAs V as vs) (h2:VAs V bs us):VAs V (as ++ bs) (vs ++ us):=by
 induction as generalizing vs with
 | nil=>simp only [VAs] at h1; subst h1; exact h2
 | cons a r ih =>
  simp only [VAs] at h1
  obtain ⟨u,us',rfl,g1,g2⟩:=h1
  simp only [List.cons_append,VAs]
  exact ⟨u,us' ++ us,rfl,g1,ih g2⟩
theorem funV_ok {V:View} {x:AV} {n:Nat} {fs cs:List AV} {v:Value} (h:funV x=some (n,fs,cs)) (hv:VA V x v):∃ vs us:List Value,v=.func (.func (V.E.ρ n)) vs.toArray us.toArray∧VAs V fs vs∧VAs V cs us:=by
 unfold funV at h
 split at h
 · simp at h
   obtain ⟨rfl,rfl,rfl⟩:=h
   simp only [VA,VP] at hv
   obtain ⟨vs,us,h1,h2,h3⟩:=hv
   exact ⟨vs,us,h1,pvs_iff.2 h2,pvs_iff.2 h3⟩
 · simp at h
   obtain ⟨rfl,rfl,rfl⟩:=h
   simpa only [VA] using hv
 · simp at h
def OwnC (E:Env) (n:Nat) (ps:List PV) (sz:Nat) (es:List (List PV)):Prop :=
 Ent E n∧∀ (X:Ctx) (M:Nat→Nat) (F:Fr) (H:Hp) (U:Nat→Prop) (k:Nat) (a:Act) (w:World) (vs:List Value),X.E=E→Rel X M F H U a w→¬ U k→VPs X.E w (okOf X w M H) ps vs →
  Calls E.P (E.ρ n) vs.toArray w fun e w'=>∃ v M',e=.returned v∧Rel X M' F (wr H [(k,.row sz es)]) (fun i=>U i∨i=k) a w'∧VA (viewOf X w' (fun i=>U i∨i=k) M' (wr H [(k,.row sz es)])) (.ms k) v
inductive Ev (E:Env) (F:Fr) (H:Hp) (k:Nat):AOp→AV→List (Nat × Blk)→Nat→List Nat→Prop
 | ev {op v W n}:evOp F H k op=some (v,W,n)→Ev E F H k op v W n (rdEv F op)
 | call {n xs ps r}:pureVs (evOs F xs)=some ps→Pure E n ps r→Ev E F H k (.call n xs) (.pv r) [] 0 []
 | own {n xs ps sz es}:pureVs (evOs F xs)=some ps→OwnC E n ps sz es→Ev E F H k (.call n xs) (.ms k) [(k,.row sz es)] 1 []
 | callv {n f xs fs cs ps r}:funV (evO F f)=some (n,fs,cs)→pureVs (fs ++ (evOs F xs ++ cs))=some ps→Pure E n ps r→Ev E F H k (.callv f xs) (.pv r) [] 0 []
theorem Ev.agree {E:Env} {F F':Fr} {H H':Hp} {k:Nat} {op:AOp} {v:AV} {W:List (Nat × Blk)} {n:Nat} {rd:List Nat} (h:Ev E F H k op v W n rd)
    (hF:∀ t ∈ aTmps op,F' t=F t) (hH:∀ i ∈ rd,H' i=H i):Ev E F' H' k op v W n rd:=by
 cases h with
 | ev h1 =>
  rw [← rdEv_agree hF]
  exact .ev (by rw [evOp_agree hF hH]; exact h1)
 | call h1 h2=>exact .call (by rw [evOs_agree hF]; exact h1) h2
 | own h1 h2=>exact .own (by rw [evOs_agree hF]; exact h1) h2
 | callv h0 h1 h2=>exact .callv (by rw [evO_agree fun t ht=>hF t (by simp [aTmps,ht])]; exact h0) (by rw [evOs_agree fun t ht=>hF t (by simp [aTmps,ht])]; exact h1) h2
theorem own_does {E:Env} {N:Nat} (hE:E.OK) {F:Fr} {H:Hp} {U:Nat→Prop} {o:Oper} {n k sz:Nat} {l:List AO} {ps:List PV} {es:List (List PV)} (hc:cOp E o=some (.call n l)) (hd:∀ k,o.dst=some k→k<N) (h1:pureVs (evOs F l)=some ps) (h2:OwnC E n ps sz es) (hk:¬ U k) :
    Does E N o F H U (.ms k) [(k,.row sz es)] (fun i=>U i∨i=k):=by
 obtain ⟨c,f,ho,hb,hf,hl⟩:=inv_call hc
 intro X M a w Q hX hN R
 subst hX
 have e:=hE.rho f n hf
 subst e
 rw [Oper.wp,exec_call ho hb,r_callFunc h2.1,Oper.upon_enter]
 have h3:=pureVs_ok _ _ _ h1 (cOs_ok hE R hl)
 have hargs:(#[] ++ c.args.map a.eval ++ #[]:Array Value)=(List.map a.eval c.args.toList).toArray:=by rw [amap]; simp
 rw [hargs]
 refine (h2.2 X M F H U k a w _ rfl R hk h3).mono fun e w' hh=>?_
 obtain ⟨v,M',rfl,R',hv⟩:=hh
 exact ⟨M',R'.put hv (fun k hk=>by rw [hN]; exact hd k hk)⟩
theorem callv_does {E:Env} {N:Nat} (hE:E.OK) {F:Fr} {H:Hp} {U:Nat→Prop} {o:Oper} {n:Nat} {f:AO} {l:List AO} {fs cs:List AV} {ps:List PV} {r:PV} (hc:cOp E o=some (.callv f l)) (hd:∀ k,o.dst=some k→k<N) (h0:funV (evO F f)=some (n,fs,cs)) (h1:pureVs (fs ++ (evOs F l ++ cs))=some ps) (h2:Pure E n ps r) :
    Does E N o F H U (.pv r) [] U:=by
 obtain ⟨c,t,ho,hb,rfl,hl⟩:=inv_callv hc
 intro X M a w Q hX hN R
 subst hX
 obtain ⟨vs,us,g1,g2,g3⟩:=funV_ok h0 (R.fr t)
 have hexec:execOp a.eval o=callFunc (X.E.ρ n) (vs.toArray ++ c.args.map a.eval ++ us.toArray):=by
  unfold execOp
  rw [ho]
  simp only [resolve,hb]
  show (Deferred.ofValue (a.tmps.getD t undef) (c.args.map a.eval) >>= fun d=>invoke d.target d.args)=_
  rw [g1]
  rfl
 rw [Oper.wp,hexec,r_callFunc h2.1,Oper.upon_enter]
 have h3:=pureVs_ok _ _ _ h1 (VAs_append g2 (VAs_append (cOs_ok hE R hl) g3))
 have h4:=h2.2 (fun b=>X.K b∨∃ i,H i ≠ .dead∧M i=b) w _ R.inv (fun b hb=>by
  rcases hb with hb | ⟨i,hi,rfl⟩
  · exact Nat.lt_of_lt_of_le (R.K b hb) R.keeps.size
  · exact (R.own i hi).1) (VPs_mono ⟨fun b hb=>⟨hb.1,fun h=>by
    rcases h with h | ⟨i,hi,h⟩
    · exact hb.2.1 h
    · exact hb.2.2 i hi h⟩,fun _ _=>rfl⟩ _ _ h3)
 have hargs:(vs.toArray ++ c.args.map a.eval ++ us.toArray:Array Value)=(vs ++ (List.map a.eval c.args.toList ++ us)).toArray:=by rw [amap]; simp
 rw [hargs]
 refine h4.mono fun e w' hh=>?_
 obtain ⟨v,rfl,g4,g5⟩:=hh
 have R':=R.grown g5
 refine ⟨M,R'.put ?_ (fun k hk=>by rw [hN]; exact hd k hk)⟩
 simp only [VA]
 refine VP_mono ⟨fun b hb=>⟨hb.1,fun h=>hb.2 (.inl h),fun i hi h=>hb.2 (.inr ⟨i,hi,h⟩)⟩,fun _ _=>rfl⟩ _ _ g4
theorem Ev.does {E:Env} {N:Nat} (hE:E.OK) {F:Fr} {H:Hp} {U:Nat→Prop} {k:Nat} {op:AOp} {v:AV} {W:List (Nat × Blk)} {n:Nat} {rd:List Nat} (h:Ev E F H k op v W n rd) {o:Oper}
    (hc:cOp E o=some op) (hd:∀ k,o.dst=some k→k<N) (hn:op.isStore=true→o.dst=none) (hk:0<n→¬ U k):Does E N o F H U v W (fun i=>U i∨(0<n∧i=k)):=by
 cases h with
 | ev h1=>exact ev_does' hE h1 hc hd hn hk
 | call h1 h2=>exact (call_does hE hc hd h1 h2).used fun i h=>.inl h
 | own h1 h2=>exact (own_does hE hc hd h1 h2 (hk (by omega))).used fun i h=>h.imp id fun h=>⟨by omega,h⟩
 | callv h0 h1 h2=>exact (callv_does hE hc hd h0 h1 h2).used fun i h=>.inl h
end
structure En where
 x:AOper
 skip:Bool
 k:Nat
 v:AV
 W:List (Nat × Blk)
 n:Nat
 rd:List Nat
def gTmps:Option (Nat × Bool)→List Nat
 | some (t,_)=>[t]
 | none=>[]
def En.reads (e:En):List Nat:=aTmps e.x.op ++ gTmps e.x.guard
def keys:List (Nat × Blk)→List Nat
 | []=>[]
 | (k,_) :: r=>k :: keys r
structure FS where
 F:Fr
 H:Hp
 U:Nat→Prop
def En.step (e:En) (s:FS):FS:=⟨put s.F e.x.dst e.v,wr s.H e.W,fun i=>s.U i∨(0<e.n∧i=e.k)⟩
def En.ok (E:Env) (e:En) (s:FS):Prop :=
 (e.skip=true∧guardV s.F e.x.guard=some false∧e.v=.pv (.tuple [])∧e.W=[]∧e.n=0) ∨
 (e.skip=false∧guardV s.F e.x.guard=some true∧Ev E s.F s.H e.k e.x.op e.v e.W e.n e.rd∧(0<e.n→¬ s.U e.k))
def Indep (e f:En):Prop :=
 (∀ d,e.x.dst=some d→d ∉ f.reads∧f.x.dst ≠ some d)∧(∀ d,f.x.dst=some d→d ∉ e.reads) ∧
 (∀ i ∈ keys e.W,i ∉ f.rd∧i ∉ keys f.W)∧(∀ i ∈ keys f.W,i ∉ e.rd)∧(0<e.n→0<f.n→e.k ≠ f.k)
theorem wr_keys {H:Hp}:∀ {W:List (Nat × Blk)} {i:Nat},i ∉ keys W→wr H W i=H i
 | [],i,h=>rfl
 | (k,B) :: r,i,h=>by
  simp only [keys,List.mem_cons,not_or] at h
  rw [wr_other H B r (fun he=>h.1 he.symm)]
  exact wr_keys h.2
theorem wr_in {H H':Hp}:∀ {W:List (Nat × Blk)} {i:Nat},i ∈ keys W→wr H W i=wr H' W i
 | [],i,h=>by simp [keys] at h
 | (k,B) :: r,i,h=>by
  by_cases hk:k=i
  · subst hk; rw [wr_same,wr_same]
  · rw [wr_other H B r hk,wr_other H' B r hk]
    simp only [keys,List.mem_cons] at h
    exact wr_in (h.resolve_left fun he=>hk he.symm)
theorem put_other {F:Fr} {d:Option Nat} {v:AV} {t:Nat} (h:d ≠ some t):put F d v t=F t:=by
 cases d with
 | none=>rfl
 | some k=>simp only [put]; rw [beq_ne fun he=>h (by rw [he])]; rfl
theorem put_same {F:Fr} {k:Nat} {v:AV}:put F (some k) v k=v:=by
 simp only [put]; rw [beq_self]; rfl
theorem guardV_agree {F F':Fr} {g:Option (Nat × Bool)} (h:∀ t ∈ gTmps g,F' t=F t):guardV F' g=guardV F g:=by
 cases g with
 | none=>rfl
 | some p =>
  obtain ⟨t,b⟩:=p
  simp only [guardV]
  rw [h t (by simp [gTmps])]
theorem En.ok_agree {E:Env} {e:En} {s s':FS} (h:e.ok E s) (hF:∀ t ∈ e.reads,s'.F t=s.F t) (hH:∀ i ∈ e.rd,s'.H i=s.H i) (hU:0<e.n→¬ s'.U e.k):e.ok E s':=by
 rcases h with ⟨h1,h2,h3⟩ | ⟨h1,h2,h3,h4⟩
 · exact .inl ⟨h1,by rw [guardV_agree fun t ht=>hF t (by simp [En.reads,ht])]; exact h2,h3⟩
 · exact .inr ⟨h1,by rw [guardV_agree fun t ht=>hF t (by simp [En.reads,ht])]; exact h2,h3.agree (fun t ht=>hF t (by simp [En.reads,ht])) hH,hU⟩
theorem step_comm {e f:En} (h:Indep e f) (s:FS):f.step (e.step s)=e.step (f.step s):=by
 obtain ⟨h1,h2,h3,h4,h5⟩:=h
 simp only [En.step,FS.mk.injEq]
 refine ⟨?_,?_,?_⟩
 · funext t
   by_cases hf:f.x.dst=some t
   · have he:e.x.dst ≠ some t:=fun he=>(h1 t he).2 hf
     rw [put_other he,hf,put_same,put_same]
   · rw [put_other hf]
     by_cases he:e.x.dst=some t
     · rw [he,put_same,put_same]
     · rw [put_other he,put_other he,put_other hf]
 · funext i
   by_cases hf:i ∈ keys f.W
   · have he:i ∉ keys e.W:=fun he=>(h3 i he).2 hf
     rw [wr_keys (H:=wr s.H f.W) he]
     exact wr_in hf
   · rw [wr_keys hf]
     by_cases he:i ∈ keys e.W
     · exact wr_in he
     · rw [wr_keys he,wr_keys he,wr_keys hf]
 · funext i
   apply propext
   constructor
   · rintro ((h | h) | h)
     · exact .inl (.inl h)
     · exact .inr h
     · exact .inl (.inr h)
   · rintro ((h | h) | h)
     · exact .inl (.inl h)
     · exact .inr h
     · exact .inl (.inr h)
def RunV (E:Env):List En→FS→Prop
 | [],_=>True
 | e :: r,s=>e.ok E s∧RunV E r (e.step s)
def fin:List En→FS→FS
 | [],s=>s
 | e :: r,s=>fin r (e.step s)
theorem bubble {E:Env} {e:En}:∀ {l1 l2:List En} {s:FS},RunV E (l1 ++ e :: l2) s→(∀ f ∈ l1,Indep f e)→e.ok E s∧RunV E (l1 ++ l2) (e.step s)∧fin (l1 ++ e :: l2) s=fin (l1 ++ l2) (e.step s)
 | [],l2,s,h,hi=>⟨h.1,h.2,rfl⟩
 | f :: l1,l2,s,h,hi=>by
  obtain ⟨hf,hr⟩:=h
  obtain ⟨he,hr',hfin⟩:=bubble hr (fun g hg=>hi g (by simp [hg]))
  have hfe:=hi f (by simp)
  obtain ⟨h1,h2,h3,h4,h5⟩:=hfe
  refine ⟨En.ok_agree he (fun t ht=>?_) (fun i hi'=>?_) (fun hn hu=>?_),⟨?_,?_⟩,?_⟩
  · simp only [En.step]
    rw [put_other fun hd=>(h1 t hd).1 ht]
  · simp only [En.step]
    rw [wr_keys fun hk=>(h3 i hk).1 hi']
  · rcases he with he | he
    · rw [he.2.2.2.2] at hn; exact absurd hn (by omega)
    · exact he.2.2.2 hn (.inl hu)
  · refine En.ok_agree hf (fun t ht=>?_) (fun i hi'=>?_) (fun hn hu=>?_)
    · simp only [En.step]
      rw [put_other fun hd=>h2 t hd ht]
    · simp only [En.step]
      rw [wr_keys fun hk=>h4 i hk hi']
    · rcases hf with hf | hf
      · rw [hf.2.2.2.2] at hn; exact absurd hn (by omega)
      · rcases hu with hu | hu
        · exact hf.2.2.2 hn hu
        · exact h5 hn hu.1 hu.2
  · rw [← step_comm ⟨h1,h2,h3,h4,h5⟩]
    exact hr'
  · simp only [List.cons_append,fin]
    rw [hfin,step_comm ⟨h1,h2,h3,h4,h5⟩]
theorem listed_set {listed:Array Bool} {k i:Nat}:(listed.setIfInBounds k true).getD i true=if k=i then true else listed.getD i true:=by
 by_cases h:k=i
 · subst h
   rw [if_pos rfl]
   by_cases hk:k<listed.size <;> simp [hk]
 · rw [if_neg h]
   simp [Array.getElem?_setIfInBounds_ne h]
inductive Ahead (dp:Nat→List Nat):Nat→Nat→Prop
 | one {i j:Nat}:i ∈ dp j→Ahead dp i j
 | step {i j k:Nat}:Ahead dp i j→j ∈ dp k→Ahead dp i k
theorem Ahead.listed {dp:Nat→List Nat} {L:Nat→Prop} (hcl:∀ i,L i→∀ d ∈ dp i,L d) {i j:Nat} (h:Ahead dp i j):(∀ d ∈ dp j,L d)→L i:=by
 induction h with
 | one h=>exact fun ha=>ha _ h
 | step h1 h2 ih=>exact fun ha=>ih fun d hd=>hcl _ (ha _ h2) d hd
theorem any_order {E:Env} {N:Nat} (hE:E.OK) {ops:Array Oper} {X:Ctx} (hX:X.E=E) (hN:X.N=N) {Q:Exit→Act→World→Prop} {S:FS} (hQ:∀ M a w,Rel X M S.F S.H S.U a w→Q .normal a w) (dp:Nat→List Nat) :
    ∀ (n:Nat) (es:List (Nat × En)) (listed:Array Bool) (s:FS) (M:Nat→Nat) (a:Act) (w:World),es.length=n →
     (∀ p ∈ es,∃ o,ops[p.1]? = some o∧cOper E N ops o=some p.2.x∧(p.2.x.op.isStore=true→p.2.x.dst=none))→(∀ i,listed.getD i true=false↔i ∈ es.map (·.1))→listed.size=ops.size →
     es.Pairwise (fun p q=>p.1<q.1∧(Ahead dp p.1 q.1∨Indep p.2 q.2))→(∀ p ∈ es,∀ d ∈ p.2.x.deps,d<p.1)→(∀ p ∈ es,p.2.x.deps=dp p.1)→(∀ i,listed.getD i true=true→∀ d ∈ dp i,listed.getD d true=true) →
     RunV E (es.map (·.2)) s→fin (es.map (·.2)) s=S→Rel X M s.F s.H s.U a w→wpAny E.P .any ops Q n listed a w
 | 0,es,listed,s,M,a,w,hn,hops,hun,hsz,hpw,hdp,hdd,hcl,hrun,hfin,R=>by
  have:es=[]:=List.eq_nil_of_length_eq_zero hn
  subst this
  refine ⟨?_,hQ M a w (by rw [← hfin]; exact R)⟩
  rw [List.eq_nil_iff_forall_not_mem]
  intro j hj
  have:=(mem_ready.1 hj).1
  rw [hun] at this
  simp at this
 | n + 1,es,listed,s,M,a,w,hn,hops,hun,hsz,hpw,hdp,hdd,hcl,hrun,hfin,R=>by
  constructor
  · intro hnil
    exfalso
    obtain ⟨p,r,rfl⟩:∃ p r,es=p :: r:=by cases es with
     | nil=>simp at hn
     | cons p r=>exact ⟨p,r,rfl⟩
    have hin:p.1 ∈ Region.ready .any ops listed:=by
     rw [mem_ready]
     obtain ⟨o,ho,hc,_⟩:=hops p (by simp)
     refine ⟨(hun p.1).2 (by simp),o,ho,fun e he hb=>?_⟩
     have hd:e.on ∈ p.2.x.deps:=by
      unfold cOper at hc
      split at hc
      · split at hc
        · simp at hc
          rw [← hc]
          simp only [List.mem_map,List.mem_filter]
          exact ⟨e,⟨by simpa using he,hb⟩,rfl⟩
        · simp at hc
      · simp at hc
     have hlt:=hdp p (by simp) _ hd
     have hsize:p.1<ops.size:=(Array.getElem?_eq_some_iff.1 ho).1
     have hnot:¬ listed.getD e.on true=false:=by
      rw [hun]
      intro hm
      simp only [List.map_cons,List.mem_cons,List.mem_map] at hm
      rcases hm with h | ⟨q,hq,h⟩
      · omega
      · have:=(List.rel_of_pairwise_cons hpw hq).1
        omega
     have:e.on<listed.size:=by omega
     simp [this] at hnot ⊢
     exact hnot
    rw [hnil] at hin
    simp at hin
  · intro k hk
    obtain ⟨hku,o,ho,hall⟩:=mem_ready.1 hk
    have hmem:=(hun k).1 hku
    simp only [List.mem_map] at hmem
    obtain ⟨p,hp,rfl⟩:=hmem
    obtain ⟨l1,l2,rfl⟩:=List.append_of_mem hp
    obtain ⟨o',ho',hc,hstore⟩:=hops p hp
    rw [ho] at ho'
    obtain rfl:o=o':=by simpa using ho'
    have hdeps:∀ d ∈ dp p.1,listed.getD d true=true:=fun d hd=>by
     rw [← hdd p hp] at hd
     have:∃ e ∈ o.after,Region.binds .any e=true∧e.on=d:=by
      unfold cOper at hc
      split at hc
      · split at hc
        · simp at hc
          rw [← hc] at hd
          simp only [List.mem_map,List.mem_filter] at hd
          obtain ⟨e,⟨h3,h4⟩,h5⟩:=hd
          exact ⟨e,by simpa using h3,h4,h5⟩
        · simp at hc
      · simp at hc
     obtain ⟨e,h3,h4,h5⟩:=this
     have h6:=hall e h3 h4
     rw [h5] at h6
     by_cases hlt:d<listed.size
     · simp [hlt] at h6 ⊢
       exact h6
     · simp [Array.getElem?_eq_none (Nat.le_of_not_lt hlt)] at h6
    have hind:∀ q ∈ l1,Indep q.2 p.2:=fun q hq=>by
     have h1:=(List.pairwise_append.1 hpw).2.2 q hq p (by simp)
     rcases h1.2 with h2 | h2
     · exfalso
       have hqu:listed.getD q.1 true=false:=(hun q.1).2 (by simp; exact .inl ⟨q.2,hq⟩)
       have:=h2.listed (L:=fun i=>listed.getD i true=true) hcl hdeps
       rw [hqu] at this
       simp at this
     · exact h2
    have hb:=bubble (e:=p.2) (l1:=l1.map (·.2)) (l2:=l2.map (·.2)) (s:=s) (by simpa using hrun) (fun f hf=>by
     simp only [List.mem_map] at hf
     obtain ⟨q,hq,rfl⟩:=hf
     exact hind q hq)
    obtain ⟨hok,hrun',hfin'⟩:=hb
    have ih:=fun M' a' w' (R':Rel X M' (p.2.step s).F (p.2.step s).H (p.2.step s).U a' w')=>any_order hE hX hN hQ dp n (l1 ++ l2) (listed.setIfInBounds p.1 true) (p.2.step s) M' a' w' (by simp at hn ⊢; omega)
     (fun q hq=>hops q (by rcases List.mem_append.1 hq with h | h <;> simp [h]))
     (fun i=>by
      rw [listed_set]
      have hpw':=List.pairwise_append.1 hpw
      constructor
      · intro h
        by_cases hki:p.1=i
        · rw [if_pos hki] at h; simp at h
        · rw [if_neg hki,hun] at h
          simp only [List.map_append,List.map_cons,List.mem_append,List.mem_cons] at h ⊢
          rcases h with h | h | h
          · exact .inl h
          · exact absurd h.symm hki
          · exact .inr h
      · intro h
        have hne:p.1 ≠ i:=by
         intro he
         subst he
         simp only [List.map_append,List.mem_append,List.mem_map] at h
         rcases h with ⟨q,hq,h⟩ | ⟨q,hq,h⟩
         · have:=(hpw'.2.2 q hq p (by simp)).1; omega
         · have:=(List.rel_of_pairwise_cons hpw'.2.1 hq).1; omega
        rw [if_neg hne,hun]
        simp only [List.map_append,List.map_cons,List.mem_append,List.mem_cons] at h ⊢
        rcases h with h | h
        · exact .inl h
        · exact .inr (.inr h))
     (by simpa using hsz)
     (by
      have hpw':=List.pairwise_append.1 hpw
      rw [List.pairwise_append]
      exact ⟨hpw'.1,(List.pairwise_cons.1 hpw'.2.1).2,fun x hx y hy=>hpw'.2.2 x hx y (by simp [hy])⟩)
     (fun q hq=>hdp q (by rcases List.mem_append.1 hq with h | h <;> simp [h]))
     (fun q hq=>hdd q (by rcases List.mem_append.1 hq with h | h <;> simp [h]))
     (fun i hi d hd=>by
      rw [listed_set] at hi ⊢
      by_cases hd':p.1=d
      · rw [if_pos hd']
      · rw [if_neg hd']
        by_cases hi':p.1=i
        · subst hi'; exact hdeps d hd
        · rw [if_neg hi'] at hi; exact hcl i hi d hd)
     (by simpa using hrun') (by rw [← hfin]; simpa using hfin'.symm) R'
    obtain ⟨c1,c2,c3,c4⟩:=cOper_spec hc
    unfold wpOp
    rw [ho]
    simp only
    have R0:Rl X M ⟨[],[],0⟩ a w→True:=fun _=>trivial
    have hguard:∀ b,guardV s.F p.2.x.guard=some b→Region.wanted o (yielded ops a.tmps)=b:=fun b hg=>by
     subst hN
     unfold Region.wanted
     unfold cGuard at c4
     split at c4
     · rename_i h
       simp at c4
       rw [← c4] at hg
       simp [guardV] at hg
       rw [h]
       simp [hg]
     · rename_i j want h
       rw [h]
       simp only
       split at c4
       · rename_i t ht
         split at c4
         · rename_i hlt
           simp at c4
           rw [← c4] at hg
           simp only [guardV] at hg
           have hv:=R.fr t
           have hsz:t<a.tmps.size:=by rw [R.size]; exact hlt
           have hget:a.tmps[t]? = some (a.tmps.getD t undef):=by simp [hsz]
           split at hg
           · rename_i c hF
             rw [hF] at hv
             simp only [VA,VP] at hv
             simp at hg
             subst hg
             unfold yielded
             rw [ht,Option.bind_some,hget,hv]
             simp
           · rename_i hF
             rw [hF] at hv
             simp only [VA,VP,VPs] at hv
             obtain ⟨vs,h1,rfl⟩:=hv
             simp at hg
             subst hg
             unfold yielded
             rw [ht,Option.bind_some,hget,h1]
             simp
           · simp at hg
         · simp at c4
       · simp at c4
    rcases hok with ⟨k1,k2,k3,k4,k5⟩ | ⟨k1,k2,k3,k4⟩
    · rw [if_neg (by rw [hguard false k2]; simp)]
      refine ih M (a.put o.dst undef) w ?_
      simp only [En.step,k3,k4,k5]
      rw [← c2]
      have:=Rel.put R (d:=o.dst) (av:=.pv (.tuple [])) (v:=undef) (by simp only [VA,VP,VPs]; exact ⟨[],rfl,rfl⟩) (fun k hk=>by rw [hN]; exact c3 k hk)
      exact this.used_mono fun i h=>.inl h
    · rw [if_pos (hguard true k2)]
      left
      refine Oper.wp_mono ?_ (k3.does (U:=s.U) hE c1 c3 (fun h=>by rw [c2]; exact hstore h) k4 X M a w Q hX hN R)
      rintro a' w' ⟨M',R'⟩
      refine ih M' a' w' ?_
      simp only [En.step]
      rw [← c2]
      exact R'
section
def mem (a:Nat):List Nat→Bool
 | []=>false
 | b :: r=>cond (Nat.beq a b) true (mem a r)
theorem mem_iff {a:Nat}:∀ {l:List Nat},mem a l=true↔a ∈ l
 | []=>by simp [mem]
 | b :: r=>by
  simp only [mem]
  by_cases h:a=b
  · subst h; rw [beq_self]; simp
  · rw [beq_ne h]; simp [mem_iff,h]
def disj:List Nat→List Nat→Bool
 | [],_=>true
 | a :: r,l=>cond (mem a l) false (disj r l)
theorem disj_ok:∀ {l l':List Nat},disj l l'=true→∀ i ∈ l,i ∉ l'
 | [],l',h,i,hi=>by simp at hi
 | a :: r,l',h,i,hi=>by
  simp only [disj] at h
  cases hm:mem a l' with
  | true=>rw [hm] at h; simp at h
  | false =>
   rw [hm] at h
   rcases List.mem_cons.1 hi with rfl | hi
   · intro hc
     rw [mem_iff.2 hc] at hm
     simp at hm
   · exact disj_ok h i hi
def optL:Option Nat→List Nat
 | some d=>[d]
 | none=>[]
def indepB (e f:En):Bool :=
 disj (optL e.x.dst) f.reads && (disj (optL e.x.dst) (optL f.x.dst) && (disj (optL f.x.dst) e.reads && (disj (keys e.W) f.rd && (disj (keys e.W) (keys f.W) && (disj (keys f.W) e.rd &&
  (Nat.beq e.n 0 || (Nat.beq f.n 0 || !(Nat.beq e.k f.k))))))))
theorem indepB_ok {e f:En} (h:indepB e f=true):Indep e f:=by
 simp only [indepB,Bool.and_eq_true] at h
 obtain ⟨h1,h2,h3,h4,h5,h6,h7⟩:=h
 refine ⟨fun d hd=>⟨disj_ok h1 d (by simp [hd,optL]),fun hf=>?_⟩,fun d hd=>disj_ok h3 d (by simp [hd,optL]),fun i hi=>⟨disj_ok h4 i hi,disj_ok h5 i hi⟩,fun i hi=>disj_ok h6 i hi,fun he hf=>?_⟩
 · exact disj_ok h2 d (by simp [hd,optL]) (by simp [hf,optL])
 · simp only [Bool.or_eq_true,Bool.not_eq_true'] at h7
   rcases h7 with h | h | h
   · have:=Nat.eq_of_beq_eq_true h; omega
   · have:=Nat.eq_of_beq_eq_true h; omega
   · intro hk; rw [hk,beq_self] at h; simp at h
def allLt (i:Nat):List Nat→Bool
 | []=>true
 | d :: r=>Nat.blt d i && allLt i r
def storeB' (e:En):Bool:=match e.x.op with
 | .store _ _ _=>match e.x.dst with
  | none=>true
  | some _=>false
 | _=>true
def restOK (i:Nat) (e:En):List En→Bool
 | []=>true
 | f :: r=>(mem i f.x.deps || indepB e f) && restOK i e r
def anyIn (l:List Nat):List Nat→Bool
 | []=>false
 | d :: r=>cond (mem d l) true (anyIn l r)
def restT (l:List Nat) (j:Nat) (e:En):List En→Bool
 | []=>true
 | f :: r=>cond (anyIn l f.x.deps) (restT (j :: l) (j + 1) e r) (indepB e f && restT l (j + 1) e r)
def chkFrom (i:Nat):List En→Bool
 | []=>true
 | e :: r=>allLt i e.x.deps && (storeB' e && ((restOK i e r || restT [i] (i + 1) e r) && chkFrom (i + 1) r))
theorem allLt_ok {i:Nat}:∀ {l:List Nat},allLt i l=true→∀ d ∈ l,d<i
 | [],h,d,hd=>by simp at hd
 | a :: r,h,d,hd=>by
  simp only [allLt,Bool.and_eq_true] at h
  rcases List.mem_cons.1 hd with rfl | hd
  · have:=h.1; rw [Nat.blt_eq] at this; exact this
  · exact allLt_ok h.2 d hd
theorem storeB'_ok {e:En} (h:storeB' e=true) (hs:e.x.op.isStore=true):e.x.dst=none:=by
 unfold storeB' at h
 split at h
 · split at h
   · assumption
   · simp at h
 · rename_i hne
   cases hop:e.x.op <;> rw [hop] at hs <;> simp [AOp.isStore] at hs
   exact absurd hop (hne _ _ _)
theorem restOK_ok {i:Nat} {e:En}:∀ {l:List En},restOK i e l=true→∀ f ∈ l,i ∈ f.x.deps∨Indep e f
 | [],h,f,hf=>by simp at hf
 | g :: r,h,f,hf=>by
  simp only [restOK,Bool.and_eq_true,Bool.or_eq_true] at h
  rcases List.mem_cons.1 hf with rfl | hf
  · rcases h.1 with h | h
    · exact .inl (mem_iff.1 h)
    · exact .inr (indepB_ok h)
  · exact restOK_ok h.2 f hf
def idxFrom (i:Nat):List En→List (Nat × En)
 | []=>[]
 | e :: r=>(i,e) :: idxFrom (i + 1) r
theorem idxFrom_get:∀ {l:List En} {i:Nat} {p:Nat × En},p ∈ idxFrom i l↔∃ j,l[j]? = some p.2∧p.1=i + j
 | [],i,p=>by simp [idxFrom]
 | e :: r,i,p=>by
  simp only [idxFrom,List.mem_cons]
  rw [idxFrom_get]
  constructor
  · rintro (rfl | ⟨j,h1,h2⟩)
    · exact ⟨0,rfl,rfl⟩
    · exact ⟨j + 1,by simpa using h1,by omega⟩
  · rintro ⟨j,h1,h2⟩
    cases j with
    | zero=>left; simp at h1; exact Prod.ext (by simpa using h2) h1.symm
    | succ j=>right; exact ⟨j,by simpa using h1,by omega⟩
theorem idxFrom_snd:∀ {l:List En} {i:Nat},(idxFrom i l).map (·.2)=l
 | [],i=>rfl
 | e :: r,i=>by simp [idxFrom,idxFrom_snd]
theorem idxFrom_length:∀ {l:List En} {i:Nat},(idxFrom i l).length=l.length
 | [],i=>rfl
 | e :: r,i=>by simp [idxFrom,idxFrom_length]
theorem anyIn_ok {l:List Nat}:∀ {r:List Nat},anyIn l r=true→∃ d ∈ r,d ∈ l
 | [],h=>by simp [anyIn] at h
 | d :: r,h=>by
  simp only [anyIn] at h
  cases hm:mem d l with
  | true=>exact ⟨d,by simp,mem_iff.1 hm⟩
  | false =>
   rw [hm] at h
   obtain ⟨d',h1,h2⟩:=anyIn_ok (r:=r) h
   exact ⟨d',by simp [h1],h2⟩
theorem restT_ok {dp:Nat→List Nat} {i:Nat} {e:En}:∀ {r:List En} {l:List Nat} {j:Nat},(∀ p ∈ idxFrom j r,p.2.x.deps=dp p.1)→(∀ d ∈ l,d=i∨Ahead dp i d)→restT l j e r=true→∀ q ∈ idxFrom j r,Ahead dp i q.1∨Indep e q.2
 | [],l,j,_,_,_,q,hq=>by simp [idxFrom] at hq
 | f :: r,l,j,hd,hl,h,q,hq=>by
  simp only [restT] at h
  simp only [idxFrom,List.mem_cons] at hq hd
  have hd':∀ p ∈ idxFrom (j + 1) r,p.2.x.deps=dp p.1:=fun p hp=>hd p (.inr hp)
  cases ha:anyIn l f.x.deps with
  | true =>
   rw [ha] at h
   obtain ⟨d,h1,h2⟩:=anyIn_ok ha
   have hr:Ahead dp i j:=by
    have e1:f.x.deps=dp j:=hd (j,f) (.inl rfl)
    rw [e1] at h1
    rcases hl d h2 with h3 | h3
    · subst h3; exact .one h1
    · exact .step h3 h1
   rcases hq with rfl | hq
   · exact .inl hr
   · exact restT_ok hd' (fun d hd=>by
      rcases List.mem_cons.1 hd with rfl | hd
      · exact .inr hr
      · exact hl d hd) h q hq
  | false =>
   rw [ha] at h
   simp only [cond_false,Bool.and_eq_true] at h
   rcases hq with rfl | hq
   · exact .inr (indepB_ok h.1)
   · exact restT_ok hd' hl h.2 q hq
theorem chk_pairwise {dp:Nat→List Nat}:∀ {l:List En} {i:Nat},(∀ p ∈ idxFrom i l,p.2.x.deps=dp p.1)→chkFrom i l=true→(idxFrom i l).Pairwise (fun p q=>p.1<q.1∧(Ahead dp p.1 q.1∨Indep p.2 q.2))∧(∀ p ∈ idxFrom i l,∀ d ∈ p.2.x.deps,d<p.1) ∧
    (∀ p ∈ idxFrom i l,p.2.x.op.isStore=true→p.2.x.dst=none)
 | [],i,_,h=>by simp [idxFrom]
 | e :: r,i,hd,h=>by
  simp only [chkFrom,Bool.and_eq_true,Bool.or_eq_true] at h
  obtain ⟨h1,h2,h3,h4⟩:=h
  simp only [idxFrom,List.mem_cons] at hd
  have hd':∀ p ∈ idxFrom (i + 1) r,p.2.x.deps=dp p.1:=fun p hp=>hd p (.inr hp)
  obtain ⟨g1,g2,g3⟩:=chk_pairwise hd' h4
  simp only [idxFrom,List.pairwise_cons,List.mem_cons]
  refine ⟨⟨fun q hq=>?_,g1⟩,?_,?_⟩
  · obtain ⟨j,k1,k2⟩:=idxFrom_get.1 hq
    refine ⟨by show i<q.1; omega,?_⟩
    rcases h3 with h3 | h3
    · rcases restOK_ok h3 q.2 (List.mem_of_getElem? k1) with h5 | h5
      · rw [hd' q hq] at h5
        exact .inl (.one h5)
      · exact .inr h5
    · exact restT_ok hd' (fun d hd=>.inl (by simpa using hd)) h3 q hq
  · rintro p (rfl | hp) d hd
    · exact allLt_ok h1 d hd
    · exact g2 p hp d hd
  · rintro p (rfl | hp) hs
    · exact storeB'_ok h2 hs
    · exact g3 p hp hs
inductive Trc (E:Env):List AOper→St→List En→St→Prop
 | nil {st}:Trc E [] st [] st
 | cons {x l st v W n rd es st'}:guardV (look st.fr) x.guard=some true→Ev E (look st.fr) (blkAt st.hp) st.nx x.op v W n rd→Trc E l ⟨putS st x.dst v,W ++ st.hp,st.nx + n⟩ es st' →
     Trc E (x :: l) st (⟨x,false,st.nx,v,W,n,rd⟩ :: es) st'
 | skip {x l st es st'}:guardV (look st.fr) x.guard=some false→Trc E l ⟨putS st x.dst (.pv (.tuple [])),st.hp,st.nx⟩ es st' →
     Trc E (x :: l) st (⟨x,true,st.nx,.pv (.tuple []),[],0,[]⟩ :: es) st'
theorem appV_one {H:Hp} {k sz:Nat} {s v:AV} {es:List (List PV)} {W:List (Nat × Blk)} {n:Nat} (h:appV H k sz s es=some (v,W,n)):n≤1:=by
 unfold appV at h
 repeat' split at h
 all_goals first | (simp only [Option.some.injEq,Prod.mk.injEq] at h; omega) | (exact absurd h (by simp))
theorem evOp_one {F:Fr} {H:Hp} {k:Nat} {op:AOp} {v:AV} {W:List (Nat × Blk)} {n:Nat} (h:evOp F H k op=some (v,W,n)):n≤1:=by
 unfold evOp at h
 repeat' split at h
 all_goals first | (simp only [Option.some.injEq,Prod.mk.injEq] at h; omega) | (exact absurd h (by simp)) | exact appV_one h
theorem Ev.one {E:Env} {F:Fr} {H:Hp} {k:Nat} {op:AOp} {v:AV} {W:List (Nat × Blk)} {n:Nat} {rd:List Nat} (h:Ev E F H k op v W n rd):n≤1:=by
 cases h with
 | ev h1=>exact evOp_one h1
 | _=>omega
theorem Trc.run {E:Env} {l:List AOper} {st st':St} {es:List En} (h:Trc E l st es st'):∀ (U:Nat→Prop),(∀ i,U i↔i<st.nx) →
    RunV E es ⟨look st.fr,blkAt st.hp,U⟩∧∃ U',fin es ⟨look st.fr,blkAt st.hp,U⟩=⟨look st'.fr,blkAt st'.hp,U'⟩∧(∀ i,U' i↔i<st'.nx):=by
 induction h with
 | nil=>exact fun U hU=>⟨trivial,U,rfl,hU⟩
 | @cons x l st v W n rd es st' hg hev ht ih =>
  intro U hU
  have h1:=hev.one
  obtain ⟨g1,U',g2,g3⟩:=ih (fun i=>U i∨(0<n∧i=st.nx)) (fun i=>by
   rw [hU]
   constructor
   · rintro (h | ⟨h,h'⟩) <;> (show i<st.nx + n) <;> omega
   · intro (h:i<st.nx + n); omega)
  have hstep:En.step ⟨x,false,st.nx,v,W,n,rd⟩ ⟨look st.fr,blkAt st.hp,U⟩=⟨look (putS st x.dst v),blkAt (W ++ st.hp),fun i=>U i∨(0<n∧i=st.nx)⟩:=by
   simp only [En.step]
   rw [look_put,blkAt_wr]
  refine ⟨⟨.inr ⟨rfl,hg,hev,fun _ hu=>?_⟩,by rw [hstep]; exact g1⟩,U',by simp only [fin]; rw [hstep]; exact g2,g3⟩
  have:=(hU st.nx).1 hu
  omega
 | @skip x l st es st' hg ht ih =>
  intro U hU
  obtain ⟨g1,U',g2,g3⟩:=ih (fun i=>U i∨(0<0∧i=st.nx)) (fun i=>by
   rw [hU]
   constructor
   · rintro (h | ⟨h,h'⟩)
     · exact h
     · omega
   · intro h; exact .inl h)
  have hstep:En.step ⟨x,true,st.nx,.pv (.tuple []),[],0,[]⟩ ⟨look st.fr,blkAt st.hp,U⟩=⟨look (putS st x.dst (.pv (.tuple []))),blkAt st.hp,fun i=>U i∨(0<0∧i=st.nx)⟩:=by
   simp only [En.step]
   rw [look_put]
   rfl
  exact ⟨⟨.inl ⟨rfl,hg,rfl,rfl,rfl⟩,by rw [hstep]; exact g1⟩,U',by simp only [fin]; rw [hstep]; exact g2,g3⟩
theorem Trc.xs {E:Env} {l:List AOper} {st st':St} {es:List En} (h:Trc E l st es st'):es.map (·.x)=l:=by
 induction h with
 | nil=>rfl
 | cons _ _ _ ih=>simp [ih]
 | skip _ _ ih=>simp [ih]
def WPd (E:Env) (l:List AOper) (Q:St→Prop) (st:St) (acc:List En):Prop:=∃ es st',Trc E l st es st'∧chkFrom 0 (acc.reverse ++ es)=true∧Q st'
section
variable {E:Env} {Q:St→Prop} {st:St} {x:AOper} {l:List AOper} {acc:List En}
theorem WPd.nil (hc:chkFrom 0 acc.reverse=true) (h:Q st):WPd E [] Q st acc:=⟨[],st,.nil,by simpa using hc,h⟩
theorem WPd.cons {v:AV} {W:List (Nat × Blk)} {n:Nat} {rd:List Nat} (hg:guardV (look st.fr) x.guard=some true) (hev:Ev E (look st.fr) (blkAt st.hp) st.nx x.op v W n rd)
    (h:WPd E l Q ⟨putS st x.dst v,W ++ st.hp,st.nx + n⟩ (⟨x,false,st.nx,v,W,n,rd⟩ :: acc)):WPd E (x :: l) Q st acc:=by
 obtain ⟨es,st',h1,h2,h3⟩:=h
 exact ⟨_,st',.cons hg hev h1,by simpa using h2,h3⟩
theorem WPd.skip (hg:guardV (look st.fr) x.guard=some false)
    (h:WPd E l Q ⟨putS st x.dst (.pv (.tuple [])),st.hp,st.nx⟩ (⟨x,true,st.nx,.pv (.tuple []),[],0,[]⟩ :: acc)):WPd E (x :: l) Q st acc:=by
 obtain ⟨es,st',h1,h2,h3⟩:=h
 exact ⟨_,st',.skip hg h1,by simpa using h2,h3⟩
end
theorem WP.draw {E:Env} (hE':E.OK) {N:Nat} {Q:Exit→St→Prop} {st:St} {l:List AOper} (h:WPd E l (Q .normal) st []):WP E N (.draw l) Q st:=by
 obtain ⟨es,st',htr,hchk,hQ⟩:=h
 intro code hc X M a w Q' hE hN R hq
 obtain ⟨id,ops,rfl,h1⟩:=inv_c_draw hc
 obtain ⟨h2,h3⟩:=cOpers_get h1
 have hxs:=htr.xs
 have hlen:es.length=ops.size:=by
  have:(es.map (·.x)).length=l.length:=by rw [hxs]
  rw [List.length_map] at this
  rw [this,h2]; simp
 obtain ⟨hrun,U',hfin,hU'⟩:=htr.run (fun i=>i<st.nx) (fun i=>Iff.rfl)
 simp only [List.reverse_nil,List.nil_append] at hchk
 have hdd:∀ p ∈ idxFrom 0 es,p.2.x.deps=(fun i=>((es[i]?).map (·.x.deps)).getD []) p.1:=fun p hp=>by
  obtain ⟨j,k1,k2⟩:=idxFrom_get.1 hp
  have:p.1=j:=by omega
  simp only [this,k1,Option.map_some,Option.getD_some]
 obtain ⟨c1,c2,c3⟩:=chk_pairwise (dp:=(fun i=>((es[i]?).map (·.x.deps)).getD [])) hdd hchk
 refine wp_region_any (hE ▸ hE'.mixed) ?_
 subst hE
 refine any_order (E:=X.E) (N:=N) (S:=⟨look st'.fr,blkAt st'.hp,U'⟩) hE' rfl hN (fun M' a' w' R'=>hq _ M' st' a' w' hQ (R'.used_mono fun i hi=>(hU' i).1 hi)) (fun i=>((es[i]?).map (·.x.deps)).getD []) ops.size (idxFrom 0 es) _ ⟨look st.fr,blkAt st.hp,fun i=>i<st.nx⟩ M a _
  (by rw [idxFrom_length,hlen]) ?_ ?_ (by simp) c1 c2 hdd ?_ (by rw [idxFrom_snd]; exact hrun) (by rw [idxFrom_snd]; exact hfin) (R.drew _)
 · intro p hp
   obtain ⟨j,k1,k2⟩:=idxFrom_get.1 hp
   have hl:l[j]? = some p.2.x:=by rw [← hxs,List.getElem?_map,k1]; rfl
   obtain ⟨o,h4,h5⟩:=h3 j _ hl
   refine ⟨o,?_,?_,c3 p hp⟩
   · rw [k2,Nat.zero_add,← Array.getElem?_toList]; exact h4
   · rw [← hN]; rw [hN]; exact h5
 · intro i
   simp only [List.mem_map]
   constructor
   · intro h
     have hi:i<ops.size:=by
      rcases Nat.lt_or_ge i ops.size with h' | h'
      · exact h'
      · simp [Array.getElem?_eq_none,h'] at h
     have hi':i<es.length:=by omega
     exact ⟨(i,es[i]),idxFrom_get.2 ⟨i,by simp [hi'],by simp⟩,rfl⟩
   · rintro ⟨p,hp,rfl⟩
     obtain ⟨j,k1,k2⟩:=idxFrom_get.1 hp
     have:p.1<ops.size:=by
      have:=(List.getElem?_eq_some_iff.1 k1).1
      omega
     simp [this]
 · intro i hi d hd
   have hi':¬ i<ops.size:=fun h=>by simp [h] at hi
   have:es[i]? = none:=List.getElem?_eq_none (by omega)
   simp only [this,Option.map_none,Option.getD_none,List.not_mem_nil] at hd
end
section
section
variable (id:Nat) (es:List (List PV))
mutual
def frzV:AV→AV
 | .ms i=>cond (Nat.beq i id) (.pv (.slice es)) (.ms i)
 | .msub i off len=>cond (Nat.beq i id) (cond (Nat.ble (off + len) es.length) (.pv (.slice ((es.drop off).take len))) .bot) (.msub i off len)
 | .ptr i j off=>cond (Nat.beq i id) (match es[j]? with | some e=>.pv (.cptr e off) | none=>.bot) (.ptr i j off)
 | .func f fs cs=>mkFun f (frzVs fs) (frzVs cs)
 | .iface t v=>match frzV v with
  | .pv p=>.pv (.iface t p)
  | u=>.iface t u
 | .agg cs=>mkAgg (frzVs cs)
 | .tuple cs=>.tuple (frzVs cs)
 | v=>v
def frzVs:List AV→List AV
 | []=>[]
 | c :: r=>frzV c :: frzVs r
end
def frzB:Blk→Blk
 | .var cs=>.var (frzVs id es cs)
 | B=>B
def frzF:List (Nat × AV)→List (Nat × AV)
 | []=>[]
 | (t,v) :: r=>(t,frzV id es v) :: frzF r
def frzH:List (Nat × Blk)→List (Nat × Blk)
 | []=>[]
 | (i,B) :: r=>(i,frzB id es B) :: frzH r
end
theorem look_frz {id:Nat} {es:List (List PV)}:∀ (l:List (Nat × AV)) (t:Nat),look (frzF id es l) t=frzV id es (look l t)
 | [],t=>by simp only [frzF,look,frzV]
 | (k,v) :: r,t=>by
  simp only [frzF,look]
  cases Nat.beq k t <;> simp only [cond_true,cond_false]
  exact look_frz r t
theorem blkAt_frz {id:Nat} {es:List (List PV)}:∀ (l:List (Nat × Blk)) (t:Nat),blkAt (frzH id es l) t=frzB id es (blkAt l t)
 | [],t=>by simp only [frzH,blkAt,frzB]
 | (k,v) :: r,t=>by
  simp only [frzH,blkAt]
  cases Nat.beq k t <;> simp only [cond_true,cond_false]
  exact blkAt_frz r t
theorem frzVs_length {id:Nat} {es:List (List PV)}:∀ (l:List AV),(frzVs id es l).length=l.length
 | []=>rfl
 | c :: r=>by simp only [frzVs,List.length_cons,frzVs_length r]
section
variable {X:Ctx} {M:Nat→Nat} {F:Fr} {H:Hp} {U:Nat→Prop} {a:Act} {w:World} {id sz:Nat} {es:List (List PV)}
theorem beq_cases (i id:Nat):(Nat.beq i id=true∧i=id)∨(Nat.beq i id=false∧i ≠ id):=by
 by_cases h:i=id
 · exact .inl ⟨by rw [h]; exact beq_self id,h⟩
 · exact .inr ⟨beq_ne h,h⟩
theorem mkFun_ok {V:View} {n:Nat} {fs cs:List AV} {vs us:List Value} (h1:VAs V fs vs) (h2:VAs V cs us):VA V (mkFun n fs cs) (.func (.func (V.E.ρ n)) vs.toArray us.toArray):=by
 unfold mkFun allPVs
 split
 · rename_i f c hh
   split at hh
   · rename_i a b ha hb
     simp at hh
     obtain ⟨rfl,rfl⟩:=hh
     simp only [VA,VP]
     exact ⟨vs,us,rfl,allPV_ok ha h1,allPV_ok hb h2⟩
   · simp at hh
 · simp only [VA]
   exact ⟨vs,us,rfl,h1,h2⟩
mutual
theorem frzV_ok (R:Rel X M F H U a w) (hid:H id=.row sz es) {H':Hp} (T:Turns (viewOf X w U M H) (viewOf X w U M H')) (hok:okOf X w M H' (M id)):(v:AV)→(u:Value)→VA (viewOf X w U M H) v u→VA (viewOf X w U M H') (frzV id es v) u
 | .pv p,u,h=>by simp only [frzV]; exact VA_turns T _ _ h
 | .nils,u,h=>by simp only [frzV]; exact VA_turns T _ _ h
 | .bot,u,h=>by simp only [frzV,VA]
 | .map i,u,h=>by simp only [frzV]; exact VA_turns T _ _ h
 | .asub i off len,u,h=>by simp only [frzV]; exact VA_turns T _ _ h
 | .ms i,u,h=>by
  simp only [frzV]
  rcases beq_cases i id with ⟨hb,rfl⟩ | ⟨hb,hne⟩ <;> rw [hb] <;> simp only [cond_true,cond_false]
  · simp only [VA] at h ⊢
    obtain ⟨cap,t,tot,h1,h2,_,_⟩:=h.2.2 (sz,es.length) (by simp [viewOf,hid,Blk.info])
    have hblk:=R.blk i
    rw [hid] at hblk
    obtain ⟨c,t',g1,g2,g3⟩:=hblk
    simp only [VP]
    refine ⟨_,_,_,h1,rfl,h2,fun hp=>⟨M i,0,sz,rfl,hok,?_⟩⟩
    exact VElems_mono T.stays _ _ _ _ (fun _=>rfl) g3
  · exact VA_turns T _ _ h
 | .msub i off len,u,h=>by
  simp only [frzV]
  rcases beq_cases i id with ⟨hb,rfl⟩ | ⟨hb,hne⟩ <;> rw [hb] <;> simp only [cond_true,cond_false]
  · cases hle:Nat.ble (off + len) es.length <;> simp only [cond_true,cond_false]
    · simp only [VA]
    · have hle:=Nat.le_of_ble_eq_true hle
      simp only [VA] at h ⊢
      obtain ⟨A,cap,t,tot,h1,h2,_,_,h5⟩:=h.2.2 (sz,es.length) (by simp [viewOf,hid,Blk.info])
      have hblk:=R.blk i
      rw [hid] at hblk
      obtain ⟨c,t',g1,g2,g3⟩:=hblk
      simp only [VP]
      have hl:((es.drop off).take len).length=len:=by simp; omega
      refine ⟨_,_,_,h1,hl.symm,by omega,fun hp=>?_⟩
      rw [hl] at hp
      refine ⟨M i,off * sz,sz,h5 (.inl hp),hok,?_⟩
      have:=VElems_sub (VElems_mono T.stays _ _ _ _ (fun _=>rfl) g3) off len
      rw [Nat.zero_add] at this
      exact this
  · exact VA_turns T _ _ h
 | .ptr i j off,u,h=>by
  simp only [frzV]
  rcases beq_cases i id with ⟨hb,rfl⟩ | ⟨hb,hne⟩ <;> rw [hb] <;> simp only [cond_true,cond_false]
  · split
    · rename_i e he
      simp only [VA] at h ⊢
      have h1:=h.2.2 (sz,es.length) (by simp [viewOf,hid,Blk.info])
      have hblk:=R.blk i
      rw [hid] at hblk
      obtain ⟨c,t',g1,g2,g3⟩:=hblk
      simp only [VP]
      refine ⟨M i,j * sz,h1,hok,?_⟩
      have g:=((VElems_iff es 0).1 g3 j e he).2
      rw [Nat.zero_add] at g
      exact VRun_mono T.stays _ _ _ (fun _=>rfl) g
    · simp only [VA]
  · exact VA_turns T _ _ h
 | .func f fs cs,u,h=>by
  simp only [VA] at h
  obtain ⟨vs,us,rfl,h1,h2⟩:=h
  simp only [frzV]
  exact mkFun_ok (frzVs_ok R hid T hok fs vs h1) (frzVs_ok R hid T hok cs us h2)
 | .iface t v,u,h=>by
  simp only [VA] at h
  obtain ⟨x,rfl,h1⟩:=h
  have h2:=frzV_ok R hid T hok v x h1
  simp only [frzV]
  split
  · rename_i p hp
    rw [hp] at h2
    simp only [VA,VP] at h2 ⊢
    exact ⟨x,rfl,h2⟩
  · simp only [VA]
    exact ⟨x,rfl,h2⟩
 | .agg cs,u,h=>by
  simp only [VA] at h
  obtain ⟨vs,rfl,h1⟩:=h
  simp only [frzV]
  exact mkAgg_ok (frzVs_ok R hid T hok cs vs h1)
 | .tuple cs,u,h=>by
  simp only [VA] at h
  obtain ⟨vs,rfl,h1⟩:=h
  simp only [frzV,VA]
  exact ⟨vs,rfl,frzVs_ok R hid T hok cs vs h1⟩
theorem frzVs_ok (R:Rel X M F H U a w) (hid:H id=.row sz es) {H':Hp} (T:Turns (viewOf X w U M H) (viewOf X w U M H')) (hok:okOf X w M H' (M id)):(l:List AV)→(vs:List Value)→VAs (viewOf X w U M H) l vs→VAs (viewOf X w U M H') (frzVs id es l) vs
 | [],vs,h=>by simpa only [frzVs,VAs] using h
 | c :: r,vs,h=>by
  simp only [VAs] at h
  obtain ⟨u,us,rfl,h1,h2⟩:=h
  simp only [frzVs,VAs]
  exact ⟨u,us,rfl,frzV_ok R hid T hok c u h1,frzVs_ok R hid T hok r us h2⟩
end
theorem Rel.frz (R:Rel X M F H U a w) (hid:H id=.row sz es) {H':Hp} (hd:H' id=.dead) (hH:∀ i,i ≠ id→H' i=frzB id es (H i)) {F':Fr} (hF:∀ t,F' t=frzV id es (F t)):Rel X M F' H' U a w:=by
 have hinfo:∀ B:Blk,(frzB id es B).info=B.info:=fun B=>by cases B <;> rfl
 have hdead:∀ B:Blk,frzB id es B=.dead→B=.dead:=fun B h=>by cases B <;> simp [frzB] at h ⊢
 have hlive:∀ i,H' i ≠ .dead→i ≠ id∧H i ≠ .dead:=fun i h=>by
  by_cases h':i=id
  · subst h'; exact absurd hd h
  · refine ⟨h',fun hn=>h ?_⟩
    rw [hH i h',hn]; rfl
 have T:Turns (viewOf X w U M H) (viewOf X w U M H'):=by
  refine ⟨rfl,⟨fun b hb=>⟨hb.1,hb.2.1,fun i hi=>hb.2.2 i (hlive i hi).2⟩,fun _ _=>rfl⟩,fun i h=>h,fun i s hu hs=>?_⟩
  by_cases h':i=id
  · subst h'
    simp only [viewOf] at hs
    rw [hd] at hs
    simp [Blk.info] at hs
  · simp only [viewOf] at hs ⊢
    rw [hH i h',hinfo] at hs
    exact ⟨hs,trivial,trivial⟩
 have hne:H id ≠ .dead:=by rw [hid]; simp
 have hok:okOf X w M H' (M id):=⟨(R.own id hne).1,(R.own id hne).2.1,fun i hi he=>(hlive i hi).1 (R.inj i id (hlive i hi).2 hne he)⟩
 refine { defers:=R.defers,size:=R.size,keeps:=R.keeps,K:=R.K,used:=fun i hi=>R.used i (hlive i hi).2,inj:=fun i j hi hj=>R.inj i j (hlive i hi).2 (hlive j hj).2,own:=fun i hi=>R.own i (hlive i hi).2,
          blk:=fun i=>?_,fr:=fun t=>by rw [hF]; exact frzV_ok R hid T hok _ _ (R.fr t),gh:=fun v u h=>VA_turns T _ _ (R.gh v u h) }
 by_cases h':i=id
 · subst h'; rw [hd]; trivial
 · rw [hH i h']
   have hb:=R.blk i
   cases hB:H i with
   | var cs =>
    rw [hB] at hb
    obtain ⟨c,t,g1,g2,g3⟩:=hb
    simp only [frzB]
    refine ⟨c,t,g1,by rw [g2,frzVs_length],?_⟩
    obtain ⟨vs,k1,k2,k3⟩:=ARun_values g3
    exact ARun_of_values (frzVs_ok R hid T hok cs vs k1) k2 k3
   | _ =>
    rw [hB] at hb
    simp only [frzB]
    exact BlkOK_turns T _ (fun _=>rfl) hb
end
def frzS (id:Nat) (st:St):St:=match blkAt st.hp id with
 | .row _ es=>⟨frzF id es st.fr,(id,.dead) :: frzH id es st.hp,st.nx⟩
 | _=>st
def frzA (id:Nat) (st:St) (vs:List AV):List AV:=match blkAt st.hp id with
 | .row _ es=>frzVs id es vs
 | _=>vs
theorem Rl.frz {X:Ctx} {M:Nat→Nat} {st:St} {a:Act} {w:World} (R:Rl X M st a w) (id:Nat):Rl X M (frzS id st) a w:=by
 unfold frzS
 split
 · rename_i sz es h
   refine Rel.frz R h (by simp only [blkAt,beq_self]; rfl) (fun i hi=>?_) fun t=>look_frz _ _
   simp only [blkAt]
   rw [beq_ne (fun h=>hi h.symm)]
   exact blkAt_frz _ _
 · exact R
theorem Rl.frzA {X:Ctx} {M:Nat→Nat} {st:St} {a:Act} {w:World} (R:Rl X M st a w) (id:Nat) {args:List AV} {vs:List Value} (h:VAs (viewOf X w (fun i=>i<st.nx) M (blkAt st.hp)) args vs) :
    VAs (viewOf X w (fun i=>i<(frzS id st).nx) M (blkAt (frzS id st).hp)) (frzA id st args) vs:=by
 have R':=R.frz id
 unfold Ab.frzA
 unfold frzS at R' ⊢
 cases hB:blkAt st.hp id with
 | row sz es =>
  simp only [hB] at R' ⊢
  have hne:blkAt st.hp id ≠ .dead:=by rw [hB]; simp
  have hd:blkAt ((id,Blk.dead) :: frzH id es st.hp) id=.dead:=by simp only [blkAt,beq_self]; rfl
  have hH:∀ i,i ≠ id→blkAt ((id,Blk.dead) :: frzH id es st.hp) i=frzB id es (blkAt st.hp i):=fun i hi=>by
   simp only [blkAt]
   rw [beq_ne (fun h=>hi h.symm)]
   exact blkAt_frz _ _
  have hlive:∀ i,blkAt ((id,Blk.dead) :: frzH id es st.hp) i ≠ .dead→i ≠ id∧blkAt st.hp i ≠ .dead:=fun i h=>by
   by_cases h':i=id
   · subst h'; exact absurd hd h
   · refine ⟨h',fun hn=>h ?_⟩
     rw [hH i h',hn]; rfl
  have T:Turns (viewOf X w (fun i=>i<st.nx) M (blkAt st.hp)) (viewOf X w (fun i=>i<st.nx) M (blkAt ((id,Blk.dead) :: frzH id es st.hp))):=by
   refine ⟨rfl,⟨fun b hb=>⟨hb.1,hb.2.1,fun i hi=>hb.2.2 i (hlive i hi).2⟩,fun _ _=>rfl⟩,fun i h=>h,fun i s hu hs=>?_⟩
   by_cases h':i=id
   · subst h'
     simp only [viewOf] at hs
     rw [hd] at hs
     simp [Blk.info] at hs
   · simp only [viewOf] at hs ⊢
     rw [hH i h'] at hs
     have:(frzB id es (blkAt st.hp i)).info=(blkAt st.hp i).info:=by cases blkAt st.hp i <;> rfl
     rw [this] at hs
     exact ⟨hs,trivial,trivial⟩
  have hok:okOf X w M (blkAt ((id,Blk.dead) :: frzH id es st.hp)) (M id):=⟨(Rel.own R id hne).1,(Rel.own R id hne).2.1,fun i hi he=>(hlive i hi).1 (Rel.inj R i id (hlive i hi).2 hne he)⟩
  exact frzVs_ok R hB T hok _ _ h
 | _=>simp only [hB] at R' ⊢; exact h
def frzSs:List Nat→St→List AV→St × List AV
 | [],st,vs=>(st,vs)
 | i :: r,st,vs=>frzSs r (frzS i st) (frzA i st vs)
theorem Rl.frzs {X:Ctx} {M:Nat→Nat} {a:Act} {w:World}:∀ (l:List Nat) {st:St} {args:List AV} {vs:List Value},Rl X M st a w→VAs (viewOf X w (fun i=>i<st.nx) M (blkAt st.hp)) args vs →
    Rl X M (frzSs l st args).1 a w∧VAs (viewOf X w (fun i=>i<(frzSs l st args).1.nx) M (blkAt (frzSs l st args).1.hp)) (frzSs l st args).2 vs
 | [],st,args,vs,R,h=>⟨R,h⟩
 | i :: r,st,args,vs,R,h=>Rl.frzs r (R.frz i) (R.frzA i h)
mutual
def rowIds:AV→List Nat
 | .ms i=>[i]
 | .msub i _ _=>[i]
 | .ptr i _ _=>[i]
 | .func _ fs cs=>rowIdsL fs ++ rowIdsL cs
 | .iface _ v=>rowIds v
 | .agg cs=>rowIdsL cs
 | .tuple cs=>rowIdsL cs
 | _=>[]
def rowIdsL:List AV→List Nat
 | []=>[]
 | c :: r=>rowIds c ++ rowIdsL r
end
end
theorem any_orderT {E:Env} {N:Nat} (hE:E.OK) {ops:Array Oper} {X:Ctx} (hX:X.E=E) (hN:X.N=N) {Q:Exit→Act→World→Prop} {S:FS} {L:Nat} {oL:Oper} {xL:AOper} (hL:L + 1=ops.size) (hoL:ops[L]? = some oL) (hcL:cOper E N ops oL=some xL) (dp:Nat→List Nat) (hdL:xL.deps=dp L) (hltL:∀ d ∈ xL.deps,d<L) (hah:∀ i,i<L→Ahead dp i L)
    (hQ:∀ M a w,Rel X M S.F S.H S.U a w→wpOp E.P ops Q L (fun a w=>Q .normal a w) a w) :
    ∀ (n:Nat) (es:List (Nat × En)) (listed:Array Bool) (s:FS) (M:Nat→Nat) (a:Act) (w:World),es.length=n→(∀ p ∈ es,p.1<L) →
     (∀ p ∈ es,∃ o,ops[p.1]? = some o∧cOper E N ops o=some p.2.x∧(p.2.x.op.isStore=true→p.2.x.dst=none))→(∀ i,listed.getD i true=false↔(i ∈ es.map (·.1)∨i=L))→listed.size=ops.size →
     es.Pairwise (fun p q=>p.1<q.1∧(Ahead dp p.1 q.1∨Indep p.2 q.2))→(∀ p ∈ es,∀ d ∈ p.2.x.deps,d<p.1)→(∀ p ∈ es,p.2.x.deps=dp p.1)→(∀ i,listed.getD i true=true→∀ d ∈ dp i,listed.getD d true=true) →
     RunV E (es.map (·.2)) s→fin (es.map (·.2)) s=S→Rel X M s.F s.H s.U a w→wpAny E.P .any ops Q (n + 1) listed a w
 | 0,es,listed,s,M,a,w,hn,hlt,hops,hun,hsz,hpw,hdp,hdd,hcl,hrun,hfin,R=>by
  have:es=[]:=List.eq_nil_of_length_eq_zero hn
  subst this
  have hun':∀ i,listed.getD i true=false↔i=L:=fun i=>by
   rw [hun]
   simp
  have hLr:L ∈ Region.ready .any ops listed:=by
   rw [mem_ready]
   refine ⟨(hun' L).2 rfl,oL,hoL,fun e he hb=>?_⟩
   have hd:e.on ∈ xL.deps:=by
    have hc:=hcL
    unfold cOper at hc
    split at hc
    · split at hc
      · simp at hc
        rw [← hc]
        simp only [List.mem_map,List.mem_filter]
        exact ⟨e,⟨by simpa using he,hb⟩,rfl⟩
      · simp at hc
    · simp at hc
   have hltd:=hltL _ hd
   have hnot:¬ listed.getD e.on true=false:=by
    rw [hun']
    omega
   have:e.on<listed.size:=by omega
   simp [this] at hnot ⊢
   exact hnot
  constructor
  · intro hnil
    rw [hnil] at hLr
    simp at hLr
  · intro k hk
    obtain ⟨hku,o,ho,hall⟩:=mem_ready.1 hk
    have hkL:=(hun' k).1 hku
    rw [hkL]
    refine wpOp_mono (fun a' w' hq=>?_) (hQ M a w (by rw [← hfin]; exact R))
    refine ⟨?_,hq⟩
    rw [List.eq_nil_iff_forall_not_mem]
    intro j hj
    have h1:=(mem_ready.1 hj).1
    rw [listed_set] at h1
    by_cases hkj:L=j
    · rw [if_pos hkj] at h1; simp at h1
    · rw [if_neg hkj,hun'] at h1
      exact hkj h1.symm
 | n + 1,es,listed,s,M,a,w,hn,hlt,hops,hun,hsz,hpw,hdp,hdd,hcl,hrun,hfin,R=>by
  constructor
  · intro hnil
    exfalso
    obtain ⟨p,r,rfl⟩:∃ p r,es=p :: r:=by cases es with
     | nil=>simp at hn
     | cons p r=>exact ⟨p,r,rfl⟩
    have hin:p.1 ∈ Region.ready .any ops listed:=by
     rw [mem_ready]
     obtain ⟨o,ho,hc,_⟩:=hops p (by simp)
     refine ⟨(hun p.1).2 (.inl (by simp)),o,ho,fun e he hb=>?_⟩
     have hd:e.on ∈ p.2.x.deps:=by
      unfold cOper at hc
      split at hc
      · split at hc
        · simp at hc
          rw [← hc]
          simp only [List.mem_map,List.mem_filter]
          exact ⟨e,⟨by simpa using he,hb⟩,rfl⟩
        · simp at hc
      · simp at hc
     have hlt':=hdp p (by simp) _ hd
     have hpL:=hlt p (by simp)
     have hsize:p.1<ops.size:=(Array.getElem?_eq_some_iff.1 ho).1
     have hnot:¬ listed.getD e.on true=false:=by
      rw [hun]
      intro hm
      simp only [List.map_cons,List.mem_cons,List.mem_map] at hm
      rcases hm with (h | ⟨q,hq,h⟩) | h
      · omega
      · have:=(List.rel_of_pairwise_cons hpw hq).1
        omega
      · omega
     have:e.on<listed.size:=by omega
     simp [this] at hnot ⊢
     exact hnot
    rw [hnil] at hin
    simp at hin
  · intro k hk
    obtain ⟨hku,o,ho,hall⟩:=mem_ready.1 hk
    have hmem:=(hun k).1 hku
    have hne:k ≠ L:=by
     intro hkL
     rw [hkL] at ho
     obtain ⟨p,r,rfl⟩:∃ p r,es=p :: r:=by cases es with
      | nil=>simp at hn
      | cons p r=>exact ⟨p,r,rfl⟩
     rw [hoL] at ho
     obtain rfl:oL=o:=by simpa using ho
     have hdeps:∀ d ∈ dp L,listed.getD d true=true:=fun d hd=>by
      rw [← hdL] at hd
      have:∃ e ∈ oL.after,Region.binds .any e=true∧e.on=d:=by
       have hc:=hcL
       unfold cOper at hc
       split at hc
       · split at hc
         · simp at hc
           rw [← hc] at hd
           simp only [List.mem_map,List.mem_filter] at hd
           obtain ⟨e,⟨h3,h4⟩,h5⟩:=hd
           exact ⟨e,by simpa using h3,h4,h5⟩
         · simp at hc
       · simp at hc
      obtain ⟨e,h3,h4,h5⟩:=this
      have h6:=hall e h3 h4
      rw [h5] at h6
      by_cases hlt:d<listed.size
      · simp [hlt] at h6 ⊢
        exact h6
      · simp [Array.getElem?_eq_none (Nat.le_of_not_lt hlt)] at h6
     have hpu:listed.getD p.1 true=false:=(hun p.1).2 (.inl (by simp))
     have:=(hah p.1 (hlt p (by simp))).listed (L:=fun i=>listed.getD i true=true) hcl hdeps
     rw [hpu] at this
     simp at this
    have hmem:=hmem.resolve_right hne
    simp only [List.mem_map] at hmem
    obtain ⟨p,hp,rfl⟩:=hmem
    obtain ⟨l1,l2,rfl⟩:=List.append_of_mem hp
    obtain ⟨o',ho',hc,hstore⟩:=hops p hp
    rw [ho] at ho'
    obtain rfl:o=o':=by simpa using ho'
    have hdeps:∀ d ∈ dp p.1,listed.getD d true=true:=fun d hd=>by
     rw [← hdd p hp] at hd
     have:∃ e ∈ o.after,Region.binds .any e=true∧e.on=d:=by
      unfold cOper at hc
      split at hc
      · split at hc
        · simp at hc
          rw [← hc] at hd
          simp only [List.mem_map,List.mem_filter] at hd
          obtain ⟨e,⟨h3,h4⟩,h5⟩:=hd
          exact ⟨e,by simpa using h3,h4,h5⟩
        · simp at hc
      · simp at hc
     obtain ⟨e,h3,h4,h5⟩:=this
     have h6:=hall e h3 h4
     rw [h5] at h6
     by_cases hlt:d<listed.size
     · simp [hlt] at h6 ⊢
       exact h6
     · simp [Array.getElem?_eq_none (Nat.le_of_not_lt hlt)] at h6
    have hind:∀ q ∈ l1,Indep q.2 p.2:=fun q hq=>by
     have h1:=(List.pairwise_append.1 hpw).2.2 q hq p (by simp)
     rcases h1.2 with h2 | h2
     · exfalso
       have hqu:listed.getD q.1 true=false:=(hun q.1).2 (.inl (by simp; exact .inl ⟨q.2,hq⟩))
       have:=h2.listed (L:=fun i=>listed.getD i true=true) hcl hdeps
       rw [hqu] at this
       simp at this
     · exact h2
    have hb:=bubble (e:=p.2) (l1:=l1.map (·.2)) (l2:=l2.map (·.2)) (s:=s) (by simpa using hrun) (fun f hf=>by
     simp only [List.mem_map] at hf
     obtain ⟨q,hq,rfl⟩:=hf
     exact hind q hq)
    obtain ⟨hok,hrun',hfin'⟩:=hb
    have ih:=fun M' a' w' (R':Rel X M' (p.2.step s).F (p.2.step s).H (p.2.step s).U a' w')=>any_orderT hE hX hN hL hoL hcL dp hdL hltL hah hQ n (l1 ++ l2) (listed.setIfInBounds p.1 true) (p.2.step s) M' a' w' (by simp at hn ⊢; omega)
     (fun q hq=>hlt q (by rcases List.mem_append.1 hq with h | h <;> simp [h]))
     (fun q hq=>hops q (by rcases List.mem_append.1 hq with h | h <;> simp [h]))
     (fun i=>by
      rw [listed_set]
      have hpw':=List.pairwise_append.1 hpw
      constructor
      · intro h
        by_cases hki:p.1=i
        · rw [if_pos hki] at h; simp at h
        · rw [if_neg hki,hun] at h
          simp only [List.map_append,List.map_cons,List.mem_append,List.mem_cons] at h ⊢
          rcases h with (h | h | h) | h
          · exact .inl (.inl h)
          · exact absurd h.symm hki
          · exact .inl (.inr h)
          · exact .inr h
      · intro h
        have hne:p.1 ≠ i:=by
         intro he
         subst he
         simp only [List.map_append,List.mem_append,List.mem_map] at h
         rcases h with (⟨q,hq,h⟩ | ⟨q,hq,h⟩) | h
         · have:=(hpw'.2.2 q hq p (by simp)).1; omega
         · have:=(List.rel_of_pairwise_cons hpw'.2.1 hq).1; omega
         · have:=hlt p hp; omega
        rw [if_neg hne,hun]
        simp only [List.map_append,List.map_cons,List.mem_append,List.mem_cons] at h ⊢
        rcases h with (h | h) | h
        · exact .inl (.inl h)
        · exact .inl (.inr (.inr h))
        · exact .inr h)
     (by simpa using hsz)
     (by
      have hpw':=List.pairwise_append.1 hpw
      rw [List.pairwise_append]
      exact ⟨hpw'.1,(List.pairwise_cons.1 hpw'.2.1).2,fun x hx y hy=>hpw'.2.2 x hx y (by simp [hy])⟩)
     (fun q hq=>hdp q (by rcases List.mem_append.1 hq with h | h <;> simp [h]))
     (fun q hq=>hdd q (by rcases List.mem_append.1 hq with h | h <;> simp [h]))
     (fun i hi d hd=>by
      rw [listed_set] at hi ⊢
      by_cases hd':p.1=d
      · rw [if_pos hd']
      · rw [if_neg hd']
        by_cases hi':p.1=i
        · subst hi'; exact hdeps d hd
        · rw [if_neg hi'] at hi; exact hcl i hi d hd)
     (by simpa using hrun') (by rw [← hfin]; simpa using hfin'.symm) R'
    obtain ⟨c1,c2,c3,c4⟩:=cOper_spec hc
    unfold wpOp
    rw [ho]
    simp only
    have R0:Rl X M ⟨[],[],0⟩ a w→True:=fun _=>trivial
    have hguard:∀ b,guardV s.F p.2.x.guard=some b→Region.wanted o (yielded ops a.tmps)=b:=fun b hg=>by
     subst hN
     unfold Region.wanted
     unfold cGuard at c4
     split at c4
     · rename_i h
       simp at c4
       rw [← c4] at hg
       simp [guardV] at hg
       rw [h]
       simp [hg]
     · rename_i j want h
       rw [h]
       simp only
       split at c4
       · rename_i t ht
         split at c4
         · rename_i hlt
           simp at c4
           rw [← c4] at hg
           simp only [guardV] at hg
           have hv:=R.fr t
           have hsz:t<a.tmps.size:=by rw [R.size]; exact hlt
           have hget:a.tmps[t]? = some (a.tmps.getD t undef):=by simp [hsz]
           split at hg
           · rename_i c hF
             rw [hF] at hv
             simp only [VA,VP] at hv
             simp at hg
             subst hg
             unfold yielded
             rw [ht,Option.bind_some,hget,hv]
             simp
           · rename_i hF
             rw [hF] at hv
             simp only [VA,VP,VPs] at hv
             obtain ⟨vs,h1,rfl⟩:=hv
             simp at hg
             subst hg
             unfold yielded
             rw [ht,Option.bind_some,hget,h1]
             simp
           · simp at hg
         · simp at c4
       · simp at c4
    rcases hok with ⟨k1,k2,k3,k4,k5⟩ | ⟨k1,k2,k3,k4⟩
    · rw [if_neg (by rw [hguard false k2]; simp)]
      refine ih M (a.put o.dst undef) w ?_
      simp only [En.step,k3,k4,k5]
      rw [← c2]
      have:=Rel.put R (d:=o.dst) (av:=.pv (.tuple [])) (v:=undef) (by simp only [VA,VP,VPs]; exact ⟨[],rfl,rfl⟩) (fun k hk=>by rw [hN]; exact c3 k hk)
      exact this.used_mono fun i h=>.inl h
    · rw [if_pos (hguard true k2)]
      left
      refine Oper.wp_mono ?_ (k3.does (U:=s.U) hE c1 c3 (fun h=>by rw [c2]; exact hstore h) k4 X M a w Q hX hN R)
      rintro a' w' ⟨M',R'⟩
      refine ih M' a' w' ?_
      simp only [En.step]
      rw [← c2]
      exact R'
theorem Ahead.trans {dp:Nat→List Nat} {i j k:Nat} (h1:Ahead dp i j) (h2:Ahead dp j k):Ahead dp i k:=by
 induction h2 with
 | one h=>exact .step h1 h
 | step _ h ih=>exact .step ih h
def covR (L:List Nat):List AOper→Bool
 | []=>true
 | y :: r=>cond (mem r.length L) (covR (y.deps ++ L) r) false
def covB (l:List AOper) (x:AOper):Bool:=allLt l.length x.deps && covR x.deps l.reverse
theorem covR_ok {dp:Nat→List Nat} {M:Nat}:∀ {r:List AOper} {L:List Nat},(∀ j y,r.reverse[j]? = some y→y.deps=dp j)→(∀ d ∈ L,Ahead dp d M)→covR L r=true→∀ i,i<r.length→Ahead dp i M
 | [],L,hd,hL,h,i,hi=>absurd hi (Nat.not_lt_zero _)
 | y :: r,L,hd,hL,h,i,hi=>by
  simp only [covR] at h
  cases hm:mem r.length L with
  | false=>rw [hm] at h; simp at h
  | true =>
   rw [hm] at h
   have hr:Ahead dp r.length M:=hL _ (mem_iff.1 hm)
   have hy:y.deps=dp r.length:=hd r.length y (by rw [List.reverse_cons,List.getElem?_append_right (by simp)]; simp)
   rcases Nat.lt_or_ge i r.length with h1 | h1
   · refine covR_ok (fun j z hz=>hd j z ?_) (fun d hd'=>?_) h i h1
     · rw [List.reverse_cons,List.getElem?_append_left (List.getElem?_eq_some_iff.1 hz).1]
       exact hz
     · rcases List.mem_append.1 hd' with h2 | h2
       · rw [hy] at h2
         exact Ahead.trans (.one h2) hr
       · exact hL d h2
   · have:i=r.length:=by simp at hi; omega
     rw [this]
     exact hr
theorem WP.drawT {E:Env} (hE':E.OK) {N:Nat} {Q:Exit→St→Prop} {st:St} {l:List AOper} {x:AOper} (hcov:covB l x=true) {Q1:St→Prop} (h:WPd E l Q1 st []) (hx:∀ st',Q1 st'→WPo E N [x] (Q .normal) st'):WP E N (.drawT l x) Q st:=by
 obtain ⟨es,st',htr,hchk,hQ⟩:=h
 have hx':=hx st' hQ
 intro code hc X M a w Q' hE hN R hq
 obtain ⟨id,ops,rfl,h1⟩:=inv_c_drawT hc
 obtain ⟨h2,h3⟩:=cOpers_get h1
 have hxs:=htr.xs
 have hlen:es.length=l.length:=by
  have:(es.map (·.x)).length=l.length:=by rw [hxs]
  rw [List.length_map] at this
  exact this
 have hsz:l.length + 1=ops.size:=by
  simp only [List.length_append,List.length_cons,List.length_nil,Nat.zero_add,Array.length_toList] at h2
  exact h2
 simp only [covB,Bool.and_eq_true] at hcov
 obtain ⟨hrun,U',hfin,hU'⟩:=htr.run (fun i=>i<st.nx) (fun i=>Iff.rfl)
 simp only [List.reverse_nil,List.nil_append] at hchk
 obtain ⟨dp,hdp⟩:∃ dp:Nat→List Nat,dp=fun i=>(((l ++ [x])[i]?).map (·.deps)).getD []:=⟨_,rfl⟩
 have hl1:∀ (j:Nat) y,l[j]? = some y→y.deps=dp j:=fun j y hy=>by
  rw [hdp]
  simp only
  rw [List.getElem?_append_left (List.getElem?_eq_some_iff.1 hy).1,hy]
  rfl
 have hlx:(l ++ [x])[l.length]? = some x:=by simp
 have hdL:x.deps=dp l.length:=by
  rw [hdp]
  simp only [hlx,Option.map_some,Option.getD_some]
 have hdd:∀ p ∈ idxFrom 0 es,p.2.x.deps=dp p.1:=fun p hp=>by
  obtain ⟨j,k1,k2⟩:=idxFrom_get.1 hp
  have:p.1=j:=by omega
  rw [this]
  exact hl1 j _ (by rw [← hxs,List.getElem?_map,k1]; rfl)
 obtain ⟨c1,c2,c3⟩:=chk_pairwise (dp:=dp) hdd hchk
 have hah:∀ i,i<l.length→Ahead dp i l.length:=fun i hi=>by
  refine covR_ok (r:=l.reverse) (fun j y hy=>hl1 j y (by simpa using hy)) (fun d hd=>?_) hcov.2 i (by simpa using hi)
  rw [hdL] at hd
  exact .one hd
 obtain ⟨oL,hoL,hcL⟩:=h3 l.length x hlx
 rw [Array.getElem?_toList] at hoL
 refine wp_region_any (hE ▸ hE'.mixed) ?_
 rw [← hsz]
 subst hE
 refine any_orderT (E:=X.E) (N:=N) (S:=⟨look st'.fr,blkAt st'.hp,U'⟩) (L:=l.length) hE' rfl hN hsz hoL hcL dp hdL (allLt_ok hcov.1) hah (fun M' a' w' R'=>?_) l.length (idxFrom 0 es) _ ⟨look st.fr,blkAt st.hp,fun i=>i<st.nx⟩ M a _
  (by rw [idxFrom_length,hlen]) (fun p hp=>?_) ?_ ?_ (by simp [hsz]) c1 c2 hdd ?_ (by rw [idxFrom_snd]; exact hrun) (by rw [idxFrom_snd]; exact hfin) (R.drew _)
 · have:=hx' ops l.length (by simp; omega) (fun j y hy=>by
    cases j with
    | zero=>simp at hy; subst hy; exact ⟨oL,by simpa using hoL,hcL⟩
    | succ j=>simp at hy) X M' a' w' Q' rfl hN (R'.used_mono fun i hi=>(hU' i).1 hi) (fun M'' st'' a'' w'' hq' R''=>hq .normal M'' st'' a'' w'' hq' R'')
   simp only [List.length_cons,List.length_nil,Nat.zero_add,List.range'_one] at this
   rw [wpOps_cons] at this
   exact this
 · obtain ⟨j,k1,k2⟩:=idxFrom_get.1 hp
   have:=(List.getElem?_eq_some_iff.1 k1).1
   omega
 · intro p hp
   obtain ⟨j,k1,k2⟩:=idxFrom_get.1 hp
   have hl:l[j]? = some p.2.x:=by rw [← hxs,List.getElem?_map,k1]; rfl
   obtain ⟨o,h4,h5⟩:=h3 j p.2.x (by rw [List.getElem?_append_left (List.getElem?_eq_some_iff.1 hl).1]; exact hl)
   refine ⟨o,?_,h5,c3 p hp⟩
   rw [k2,Nat.zero_add,← Array.getElem?_toList]
   exact h4
 · intro i
   simp only [List.mem_map]
   constructor
   · intro h
     have hi:i<l.length + 1:=by
      rcases Nat.lt_or_ge i (l.length + 1) with h' | h'
      · exact h'
      · simp [Array.getElem?_eq_none,h'] at h
     rcases Nat.lt_or_ge i l.length with h' | h'
     · have hi':i<es.length:=by omega
       exact .inl ⟨(i,es[i]),idxFrom_get.2 ⟨i,by simp [hi'],by simp⟩,rfl⟩
     · exact .inr (by omega)
   · rintro (⟨p,hp,rfl⟩ | rfl)
     · obtain ⟨j,k1,k2⟩:=idxFrom_get.1 hp
       have:p.1<l.length + 1:=by
        have:=(List.getElem?_eq_some_iff.1 k1).1
        omega
       simp [this]
     · simp
 · intro i hi d hd
   have hi':¬ i<l.length + 1:=fun h=>by simp [h] at hi
   have:(l ++ [x])[i]? = none:=List.getElem?_eq_none (by simp; omega)
   rw [hdp] at hd
   simp only [this,Option.map_none,Option.getD_none,List.not_mem_nil] at hd
def CallOK (E:Env) (n:Nat) (args:List AV) (h0:Hp) (n0:Nat) (v:AV) (h1:Hp) (n1:Nat):Prop :=
 Ent E n∧∀ X M F a w vs,X.E=E→Rel X M F h0 (fun i=>i<n0) a w→VAs (viewOf X w (fun i=>i<n0) M h0) args vs →
  Calls E.P (E.ρ n) vs.toArray w fun e w'=>∃ u M',e=.returned u∧Rel X M' F h1 (fun i=>i<n1) a w'∧VA (viewOf X w' (fun i=>i<n1) M' h1) v u
structure Hn where
 x:AOper
 kd:Nat
 v:AV
 rd:List Nat
 h0:List (Nat × Blk)
 n0:Nat
 h1:List (Nat × Blk)
 n1:Nat
def Hn.reads (e:Hn):List Nat:=aTmps e.x.op ++ gTmps e.x.guard
def Hn.step (e:Hn) (s:FS):FS:=⟨put s.F e.x.dst e.v,if e.kd=2 then blkAt e.h1 else s.H,if e.kd=2 then (fun i=>i<e.n1) else s.U⟩
def Hn.ok (E:Env) (e:Hn) (s:FS):Prop :=
 (e.kd=0∧guardV s.F e.x.guard=some false∧e.v=.pv (.tuple [])) ∨
 (e.kd=1∧guardV s.F e.x.guard=some true∧Ev E s.F s.H e.n0 e.x.op e.v [] 0 e.rd) ∨
 (e.kd=2∧guardV s.F e.x.guard=some true∧s.H=blkAt e.h0∧s.U=(fun i=>i<e.n0)∧∃ n xs,e.x.op=.call n xs∧CallOK E n (evOs s.F xs) (blkAt e.h0) e.n0 e.v (blkAt e.h1) e.n1)
def IndH (f e:Hn):Prop :=
 (∀ d,f.x.dst=some d→d ∉ e.reads∧e.x.dst ≠ some d)∧(∀ d,e.x.dst=some d→d ∉ f.reads)∧¬ (f.kd=2∧e.kd=2) ∧
 (f.kd=2→∀ i ∈ e.rd,blkAt f.h1 i=blkAt f.h0 i)∧(e.kd=2→∀ i ∈ f.rd,blkAt e.h1 i=blkAt e.h0 i)
theorem Hn.ok_agree {E:Env} {e:Hn} {s s':FS} (h:e.ok E s) (hF:∀ t ∈ e.reads,s'.F t=s.F t) (hH:e.kd=1→∀ i ∈ e.rd,s'.H i=s.H i) (hU:e.kd=2→s'.H=s.H∧s'.U=s.U):e.ok E s':=by
 have hg:guardV s'.F e.x.guard=guardV s.F e.x.guard:=guardV_agree fun t ht=>hF t (by simp [Hn.reads,ht])
 rcases h with ⟨h1,h2,h3⟩ | ⟨h1,h2,h3⟩ | ⟨h1,h2,h3,h4,n,xs,h5,h6⟩
 · exact .inl ⟨h1,by rw [hg]; exact h2,h3⟩
 · exact .inr (.inl ⟨h1,by rw [hg]; exact h2,h3.agree (fun t ht=>hF t (by simp [Hn.reads,ht])) (hH h1)⟩)
 · obtain ⟨u1,u2⟩:=hU h1
   refine .inr (.inr ⟨h1,by rw [hg]; exact h2,u1.trans h3,u2.trans h4,n,xs,h5,?_⟩)
   rw [evOs_agree fun t ht=>hF t (by simp [Hn.reads,h5,aTmps,ht])]
   exact h6
theorem step_commH {e f:Hn} (h:IndH f e) (s:FS):f.step (e.step s)=e.step (f.step s):=by
 obtain ⟨h1,h2,h3,h4,h5⟩:=h
 simp only [Hn.step,FS.mk.injEq]
 refine ⟨?_,?_,?_⟩
 · funext t
   by_cases hf:f.x.dst=some t
   · have he:e.x.dst ≠ some t:=(h1 t hf).2
     rw [put_other he,hf,put_same,put_same]
   · rw [put_other hf]
     by_cases he:e.x.dst=some t
     · rw [he,put_same,put_same]
     · rw [put_other he,put_other he,put_other hf]
 · by_cases hf:f.kd=2
   · have he:¬ e.kd=2:=fun h=>h3 ⟨hf,h⟩
     simp only [if_pos hf,if_neg he]
   · simp only [if_neg hf]
 · by_cases hf:f.kd=2
   · have he:¬ e.kd=2:=fun h=>h3 ⟨hf,h⟩
     simp only [if_pos hf,if_neg he]
   · simp only [if_neg hf]
def RunH (E:Env):List Hn→FS→Prop
 | [],_=>True
 | e :: r,s=>e.ok E s∧RunH E r (e.step s)
def finH:List Hn→FS→FS
 | [],s=>s
 | e :: r,s=>finH r (e.step s)
theorem Hn.heap0 {E:Env} {e:Hn} {s:FS} (h:e.ok E s) (hk:e.kd=2):s.H=blkAt e.h0:=by
 rcases h with ⟨h1,_⟩ | ⟨h1,_⟩ | ⟨_,_,h3,_⟩
 · omega
 · omega
 · exact h3
theorem bubbleH {E:Env} {e:Hn}:∀ {l1 l2:List Hn} {s:FS},RunH E (l1 ++ e :: l2) s→(∀ f ∈ l1,IndH f e)→e.ok E s∧RunH E (l1 ++ l2) (e.step s)∧finH (l1 ++ e :: l2) s=finH (l1 ++ l2) (e.step s)
 | [],l2,s,h,hi=>⟨h.1,h.2,rfl⟩
 | f :: l1,l2,s,h,hi=>by
  obtain ⟨hf,hr⟩:=h
  obtain ⟨he,hr',hfin⟩:=bubbleH hr (fun g hg=>hi g (by simp [hg]))
  have hfe:=hi f (by simp)
  obtain ⟨h1,h2,h3,h4,h5⟩:=hfe
  have he':e.ok E s:=by
   refine Hn.ok_agree he (fun t ht=>?_) (fun hk i hi'=>?_) (fun hk=>?_)
   · simp only [Hn.step]
     rw [put_other fun hd=>(h1 t hd).1 ht]
   · simp only [Hn.step]
     by_cases hf2:f.kd=2
     · rw [if_pos hf2,Hn.heap0 hf hf2]
       exact (h4 hf2 i hi').symm
     · rw [if_neg hf2]
   · have hf2:¬ f.kd=2:=fun h=>h3 ⟨h,hk⟩
     simp only [Hn.step,if_neg hf2,and_self]
  refine ⟨he',⟨?_,?_⟩,?_⟩
  · refine Hn.ok_agree hf (fun t ht=>?_) (fun hk i hi'=>?_) (fun hk=>?_)
    · simp only [Hn.step]
      rw [put_other fun hd=>h2 t hd ht]
    · simp only [Hn.step]
      by_cases he2:e.kd=2
      · rw [if_pos he2,Hn.heap0 he' he2]
        exact h5 he2 i hi'
      · rw [if_neg he2]
    · have he2:¬ e.kd=2:=fun h=>h3 ⟨hk,h⟩
      simp only [Hn.step,if_neg he2,and_self]
  · rw [← step_commH ⟨h1,h2,h3,h4,h5⟩] at hr'
    exact hr'
  · simp only [List.cons_append,finH]
    rw [hfin,step_commH ⟨h1,h2,h3,h4,h5⟩]
theorem any_orderH {E:Env} {N:Nat} (hE:E.OK) {ops:Array Oper} {X:Ctx} (hX:X.E=E) (hN:X.N=N) {Q:Exit→Act→World→Prop} {S:FS} (hQ:∀ M a w,Rel X M S.F S.H S.U a w→Q .normal a w) (dp:Nat→List Nat) :
    ∀ (n:Nat) (es:List (Nat × Hn)) (listed:Array Bool) (s:FS) (M:Nat→Nat) (a:Act) (w:World),es.length=n →
     (∀ p ∈ es,∃ o,ops[p.1]? = some o∧cOper E N ops o=some p.2.x∧(p.2.x.op.isStore=true→p.2.x.dst=none))→(∀ i,listed.getD i true=false↔i ∈ es.map (·.1))→listed.size=ops.size →
     es.Pairwise (fun p q=>p.1<q.1∧(Ahead dp p.1 q.1∨IndH p.2 q.2))→(∀ p ∈ es,∀ d ∈ p.2.x.deps,d<p.1)→(∀ p ∈ es,p.2.x.deps=dp p.1)→(∀ i,listed.getD i true=true→∀ d ∈ dp i,listed.getD d true=true) →
     RunH E (es.map (·.2)) s→finH (es.map (·.2)) s=S→Rel X M s.F s.H s.U a w→wpAny E.P .any ops Q n listed a w
 | 0,es,listed,s,M,a,w,hn,hops,hun,hsz,hpw,hdp,hdd,hcl,hrun,hfin,R=>by
  have:es=[]:=List.eq_nil_of_length_eq_zero hn
  subst this
  refine ⟨?_,hQ M a w (by rw [← hfin]; exact R)⟩
  rw [List.eq_nil_iff_forall_not_mem]
  intro j hj
  have:=(mem_ready.1 hj).1
  rw [hun] at this
  simp at this
 | n + 1,es,listed,s,M,a,w,hn,hops,hun,hsz,hpw,hdp,hdd,hcl,hrun,hfin,R=>by
  constructor
  · intro hnil
    exfalso
    obtain ⟨p,r,rfl⟩:∃ p r,es=p :: r:=by cases es with
     | nil=>simp at hn
     | cons p r=>exact ⟨p,r,rfl⟩
    have hin:p.1 ∈ Region.ready .any ops listed:=by
     rw [mem_ready]
     obtain ⟨o,ho,hc,_⟩:=hops p (by simp)
     refine ⟨(hun p.1).2 (by simp),o,ho,fun e he hb=>?_⟩
     have hd:e.on ∈ p.2.x.deps:=by
      unfold cOper at hc
      split at hc
      · split at hc
        · simp at hc
          rw [← hc]
          simp only [List.mem_map,List.mem_filter]
          exact ⟨e,⟨by simpa using he,hb⟩,rfl⟩
        · simp at hc
      · simp at hc
     have hlt:=hdp p (by simp) _ hd
     have hsize:p.1<ops.size:=(Array.getElem?_eq_some_iff.1 ho).1
     have hnot:¬ listed.getD e.on true=false:=by
      rw [hun]
      intro hm
      simp only [List.map_cons,List.mem_cons,List.mem_map] at hm
      rcases hm with h | ⟨q,hq,h⟩
      · omega
      · have:=(List.rel_of_pairwise_cons hpw hq).1
        omega
     have:e.on<listed.size:=by omega
     simp [this] at hnot ⊢
     exact hnot
    rw [hnil] at hin
    simp at hin
  · intro k hk
    obtain ⟨hku,o,ho,hall⟩:=mem_ready.1 hk
    have hmem:=(hun k).1 hku
    simp only [List.mem_map] at hmem
    obtain ⟨p,hp,rfl⟩:=hmem
    obtain ⟨l1,l2,rfl⟩:=List.append_of_mem hp
    obtain ⟨o',ho',hc,hstore⟩:=hops p hp
    rw [ho] at ho'
    obtain rfl:o=o':=by simpa using ho'
    have hdeps:∀ d ∈ dp p.1,listed.getD d true=true:=fun d hd=>by
     rw [← hdd p hp] at hd
     have:∃ e ∈ o.after,Region.binds .any e=true∧e.on=d:=by
      unfold cOper at hc
      split at hc
      · split at hc
        · simp at hc
          rw [← hc] at hd
          simp only [List.mem_map,List.mem_filter] at hd
          obtain ⟨e,⟨h3,h4⟩,h5⟩:=hd
          exact ⟨e,by simpa using h3,h4,h5⟩
        · simp at hc
      · simp at hc
     obtain ⟨e,h3,h4,h5⟩:=this
     have h6:=hall e h3 h4
     rw [h5] at h6
     by_cases hlt:d<listed.size
     · simp [hlt] at h6 ⊢
       exact h6
     · simp [Array.getElem?_eq_none (Nat.le_of_not_lt hlt)] at h6
    have hind:∀ q ∈ l1,IndH q.2 p.2:=fun q hq=>by
     have h1:=(List.pairwise_append.1 hpw).2.2 q hq p (by simp)
     rcases h1.2 with h2 | h2
     · exfalso
       have hqu:listed.getD q.1 true=false:=(hun q.1).2 (by simp; exact .inl ⟨q.2,hq⟩)
       have:=h2.listed (L:=fun i=>listed.getD i true=true) hcl hdeps
       rw [hqu] at this
       simp at this
     · exact h2
    have hb:=bubbleH (e:=p.2) (l1:=l1.map (·.2)) (l2:=l2.map (·.2)) (s:=s) (by simpa using hrun) (fun f hf=>by
     simp only [List.mem_map] at hf
     obtain ⟨q,hq,rfl⟩:=hf
     exact hind q hq)
    obtain ⟨hok,hrun',hfin'⟩:=hb
    have ih:=fun M' a' w' (R':Rel X M' (p.2.step s).F (p.2.step s).H (p.2.step s).U a' w')=>any_orderH hE hX hN hQ dp n (l1 ++ l2) (listed.setIfInBounds p.1 true) (p.2.step s) M' a' w' (by simp at hn ⊢; omega)
     (fun q hq=>hops q (by rcases List.mem_append.1 hq with h | h <;> simp [h]))
     (fun i=>by
      rw [listed_set]
      have hpw':=List.pairwise_append.1 hpw
      constructor
      · intro h
        by_cases hki:p.1=i
        · rw [if_pos hki] at h; simp at h
        · rw [if_neg hki,hun] at h
          simp only [List.map_append,List.map_cons,List.mem_append,List.mem_cons] at h ⊢
          rcases h with h | h | h
          · exact .inl h
          · exact absurd h.symm hki
          · exact .inr h
      · intro h
        have hne:p.1 ≠ i:=by
         intro he
         subst he
         simp only [List.map_append,List.mem_append,List.mem_map] at h
         rcases h with ⟨q,hq,h⟩ | ⟨q,hq,h⟩
         · have:=(hpw'.2.2 q hq p (by simp)).1; omega
         · have:=(List.rel_of_pairwise_cons hpw'.2.1 hq).1; omega
        rw [if_neg hne,hun]
        simp only [List.map_append,List.map_cons,List.mem_append,List.mem_cons] at h ⊢
        rcases h with h | h
        · exact .inl h
        · exact .inr (.inr h))
     (by simpa using hsz)
     (by
      have hpw':=List.pairwise_append.1 hpw
      rw [List.pairwise_append]
      exact ⟨hpw'.1,(List.pairwise_cons.1 hpw'.2.1).2,fun x hx y hy=>hpw'.2.2 x hx y (by simp [hy])⟩)
     (fun q hq=>hdp q (by rcases List.mem_append.1 hq with h | h <;> simp [h]))
     (fun q hq=>hdd q (by rcases List.mem_append.1 hq with h | h <;> simp [h]))
     (fun i hi d hd=>by
      rw [listed_set] at hi ⊢
      by_cases hd':p.1=d
      · rw [if_pos hd']
      · rw [if_neg hd']
        by_cases hi':p.1=i
        · subst hi'; exact hdeps d hd
        · rw [if_neg hi'] at hi; exact hcl i hi d hd)
     (by simpa using hrun') (by rw [← hfin]; simpa using hfin'.symm) R'
    obtain ⟨c1,c2,c3,c4⟩:=cOper_spec hc
    unfold wpOp
    rw [ho]
    simp only
    have R0:Rl X M ⟨[],[],0⟩ a w→True:=fun _=>trivial
    have hguard:∀ b,guardV s.F p.2.x.guard=some b→Region.wanted o (yielded ops a.tmps)=b:=fun b hg=>by
     subst hN
     unfold Region.wanted
     unfold cGuard at c4
     split at c4
     · rename_i h
       simp at c4
       rw [← c4] at hg
       simp [guardV] at hg
       rw [h]
       simp [hg]
     · rename_i j want h
       rw [h]
       simp only
       split at c4
       · rename_i t ht
         split at c4
         · rename_i hlt
           simp at c4
           rw [← c4] at hg
           simp only [guardV] at hg
           have hv:=R.fr t
           have hsz:t<a.tmps.size:=by rw [R.size]; exact hlt
           have hget:a.tmps[t]? = some (a.tmps.getD t undef):=by simp [hsz]
           split at hg
           · rename_i c hF
             rw [hF] at hv
             simp only [VA,VP] at hv
             simp at hg
             subst hg
             unfold yielded
             rw [ht,Option.bind_some,hget,hv]
             simp
           · rename_i hF
             rw [hF] at hv
             simp only [VA,VP,VPs] at hv
             obtain ⟨vs,h1,rfl⟩:=hv
             simp at hg
             subst hg
             unfold yielded
             rw [ht,Option.bind_some,hget,h1]
             simp
           · simp at hg
         · simp at c4
       · simp at c4
    rcases hok with ⟨k1,k2,k3⟩ | ⟨k1,k2,k3⟩ | ⟨k1,k2,k3,k4,n',xs,k5,k6⟩
    · rw [if_neg (by rw [hguard false k2]; simp)]
      refine ih M (a.put o.dst undef) w ?_
      have hk:¬ p.2.kd=2:=by omega
      simp only [Hn.step,k3,if_neg hk]
      rw [← c2]
      exact Rel.put R (d:=o.dst) (av:=.pv (.tuple [])) (v:=undef) (by simp only [VA,VP,VPs]; exact ⟨[],rfl,rfl⟩) (fun k hk=>by rw [hN]; exact c3 k hk)
    · rw [if_pos (hguard true k2)]
      left
      refine Oper.wp_mono ?_ (k3.does (U:=s.U) hE c1 c3 (fun h=>by rw [c2]; exact hstore h) (fun h=>absurd h (Nat.lt_irrefl _)) X M a w Q hX hN R)
      rintro a' w' ⟨M',R'⟩
      refine ih M' a' w' ?_
      have hk:¬ p.2.kd=2:=by omega
      simp only [Hn.step,if_neg hk]
      rw [← c2]
      exact R'.used_mono fun i h=>by
       rcases h with h | h
       · exact h
       · exact absurd h.1 (Nat.lt_irrefl _)
    · rw [if_pos (hguard true k2)]
      left
      rw [k5] at c1
      rw [k3,k4] at R
      subst hX
      obtain ⟨c,f,ho',hb',hf,hl⟩:=inv_call c1
      have e:=hE.rho f n' hf
      subst e
      obtain ⟨e1,e2⟩:=k6
      have hargs:(#[] ++ c.args.map a.eval ++ #[]:Array Value)=(List.map a.eval c.args.toList).toArray:=by rw [amap]; simp
      rw [Oper.wp,exec_call ho' hb',r_callFunc e1,Oper.upon_enter,hargs]
      refine (e2 X M _ a w _ rfl R (cOs_ok hE R hl)).mono fun e w' hh=>?_
      obtain ⟨u,M',rfl,R',hu⟩:=hh
      refine ih M' _ _ ?_
      simp only [Hn.step,if_pos k1]
      rw [← c2]
      exact R'.put hu (fun k hk=>by rw [hN]; exact c3 k hk)
def readsH (x:AOper):List Nat:=aTmps x.op ++ gTmps x.guard
def callB:AOp→Bool
 | .call _ _=>true
 | _=>false
def noRd:AOp→Bool
 | .load _ _ _ | .nilchk _ | .fieldAddr _ _ | .len _ | .b2s _ | .store _ _ _ | .idxAddr _ _ _ | .idxArr _ _ _ _ | .slice _ _ _ _ | .sliceArr _ _ _ _ _ | .bin _ (some _) _ _ | .append _ _ _ _ | .mapGet _ _ _ _ _ | .mapPut _ _ _ _=>false
 | _=>true
theorem noRd_ok {F:Fr} {op:AOp} (h:noRd op=true):rdEv F op=[]:=by
 cases op <;> try rfl
 all_goals try (simp [noRd] at h; done)
 rename_i o k x y
 cases k with
 | none=>rfl
 | some k=>simp [noRd] at h
def stOKH (x:AOper):Bool:=match x.op with
 | .store _ _ _=>match x.dst with
  | none=>true
  | some _=>false
 | _=>true
def sIndH (x y:AOper):Bool:=disj (optL x.dst) (readsH y) && (disj (optL x.dst) (optL y.dst) && (disj (optL y.dst) (readsH x) && !(callB x.op && callB y.op)))
def mayH (x y:AOper):Bool:=(callB x.op && !noRd y.op) || (callB y.op && !noRd x.op)
def rowH (i:Nat) (x:AOper):List Nat→Nat→List AOper→Option (List (Nat × Nat))
 | _,_,[]=>some []
 | l,j,y :: r=>cond (anyIn l y.deps) (rowH i x (j :: l) (j + 1) r) (cond (sIndH x y) (match rowH i x l (j + 1) r with
  | some ps=>some (cond (mayH x y) ((i,j) :: ps) ps)
  | none=>none) none)
def pairsH (i:Nat):List AOper→Option (List (Nat × Nat))
 | []=>some []
 | x :: r=>cond (stOKH x && allLt i x.deps) (match rowH i x [i] (i + 1) r,pairsH (i + 1) r with
  | some a,some b=>some (a ++ b)
  | _,_=>none) none
def DynH (e f:Hn):Prop:=(e.kd=2→∀ i ∈ f.rd,blkAt e.h1 i=blkAt e.h0 i)∧(f.kd=2→∀ i ∈ e.rd,blkAt f.h1 i=blkAt f.h0 i)
def dynHO:Option Hn→Option Hn→Prop
 | some e,some f=>DynH e f
 | _,_=>False
def dynHAll (es:List Hn):List (Nat × Nat)→Prop
 | []=>True
 | (i,j) :: r=>dynHO (es[i]?) (es[j]?)∧dynHAll es r
theorem dynHAll_mem {es:List Hn}:∀ {ps:List (Nat × Nat)},dynHAll es ps→∀ i j,(i,j) ∈ ps→∀ e f,es[i]? = some e→es[j]? = some f→DynH e f
 | [],_,i,j,h,_,_,_,_=>by simp at h
 | (a,b) :: r,h,i,j,hm,e,f,h1,h2=>by
  simp only [dynHAll] at h
  rcases List.mem_cons.1 hm with heq | hm
  · simp only [Prod.mk.injEq] at heq
    obtain ⟨rfl,rfl⟩:=heq
    have:=h.1
    rw [h1,h2] at this
    exact this
  · exact dynHAll_mem h.2 i j hm e f h1 h2
def GoodH (e:Hn):Prop:=(e.kd=2→callB e.x.op=true)∧(noRd e.x.op=true→e.rd=[])
theorem ind_ofH {e f:Hn} (he:GoodH e) (hf:GoodH f) (hs:sIndH e.x f.x=true) (hd:mayH e.x f.x=true→DynH e f):IndH e f:=by
 simp only [sIndH,Bool.and_eq_true,Bool.not_eq_true',Bool.and_eq_false_iff] at hs
 obtain ⟨s1,s2,s3,s4⟩:=hs
 refine ⟨fun d h=>⟨disj_ok s1 d (by simp [h,optL]),fun h'=>disj_ok s2 d (by simp [h,optL]) (by simp [h',optL])⟩,fun d h=>disj_ok s3 d (by simp [h,optL]),fun h=>?_,fun h i hi=>?_,fun h i hi=>?_⟩
 · have a:=he.1 h.1
   have b:=hf.1 h.2
   rcases s4 with s4 | s4
   · rw [a] at s4; simp at s4
   · rw [b] at s4; simp at s4
 · cases hn:noRd f.x.op with
   | true=>rw [hf.2 hn] at hi; simp at hi
   | false=>exact (hd (by unfold mayH; rw [he.1 h,hn]; rfl)).1 h i hi
 · cases hn:noRd e.x.op with
   | true=>rw [he.2 hn] at hi; simp at hi
   | false=>exact (hd (by unfold mayH; rw [hf.1 h,hn]; simp)).2 h i hi
def idxH (i:Nat):List Hn→List (Nat × Hn)
 | []=>[]
 | e :: r=>(i,e) :: idxH (i + 1) r
theorem idxH_get:∀ {l:List Hn} {i:Nat} {p:Nat × Hn},p ∈ idxH i l↔∃ j,l[j]? = some p.2∧p.1=i + j
 | [],i,p=>by simp [idxH]
 | e :: r,i,p=>by
  simp only [idxH,List.mem_cons]
  rw [idxH_get]
  constructor
  · rintro (rfl | ⟨j,h1,h2⟩)
    · exact ⟨0,rfl,rfl⟩
    · exact ⟨j + 1,by simpa using h1,by omega⟩
  · rintro ⟨j,h1,h2⟩
    cases j with
    | zero=>left; simp at h1; exact Prod.ext (by simpa using h2) h1.symm
    | succ j=>right; exact ⟨j,by simpa using h1,by omega⟩
theorem idxH_snd:∀ {l:List Hn} {i:Nat},(idxH i l).map (·.2)=l
 | [],i=>rfl
 | e :: r,i=>by simp [idxH,idxH_snd]
theorem idxH_length:∀ {l:List Hn} {i:Nat},(idxH i l).length=l.length
 | [],i=>rfl
 | e :: r,i=>by simp [idxH,idxH_length]
theorem rowH_ok {dp:Nat→List Nat} {i:Nat} {e:Hn} (he:GoodH e):∀ {r:List Hn} {l:List Nat} {j:Nat} {ps:List (Nat × Nat)},(∀ f ∈ r,GoodH f)→(∀ p ∈ idxH j r,p.2.x.deps=dp p.1)→(∀ d ∈ l,d=i∨Ahead dp i d)→rowH i e.x l j (r.map (·.x))=some ps →
    (∀ b f,(i,b) ∈ ps→j≤b→r[b - j]? = some f→DynH e f)→∀ q ∈ idxH j r,Ahead dp i q.1∨IndH e q.2
 | [],l,j,ps,_,_,_,_,_,q,hq=>by simp [idxH] at hq
 | f :: r,l,j,ps,hg,hd,hl,h,hdy,q,hq=>by
  simp only [List.map_cons,rowH] at h
  simp only [idxH,List.mem_cons] at hq hd
  have hd':∀ p ∈ idxH (j + 1) r,p.2.x.deps=dp p.1:=fun p hp=>hd p (.inr hp)
  have hg':∀ g ∈ r,GoodH g:=fun g hg'=>hg g (by simp [hg'])
  have shift:∀ {qs:List (Nat × Nat)},(∀ b,(i,b) ∈ qs→(i,b) ∈ ps)→∀ b g,(i,b) ∈ qs→j + 1≤b→r[b - (j + 1)]? = some g→DynH e g:=fun hsub b g hb hj hgg=>by
   refine hdy b g (hsub b hb) (by omega) ?_
   rw [show b - j=(b - (j + 1)) + 1 by omega]
   simpa using hgg
  cases ha:anyIn l f.x.deps with
  | true =>
   rw [ha] at h
   obtain ⟨d,h1,h2⟩:=anyIn_ok ha
   have hr:Ahead dp i j:=by
    have e1:f.x.deps=dp j:=hd (j,f) (.inl rfl)
    rw [e1] at h1
    rcases hl d h2 with h3 | h3
    · subst h3; exact .one h1
    · exact .step h3 h1
   rcases hq with rfl | hq
   · exact .inl hr
   · exact rowH_ok he hg' hd' (fun d hd=>by
      rcases List.mem_cons.1 hd with rfl | hd
      · exact .inr hr
      · exact hl d hd) h (shift fun b hb=>hb) q hq
  | false =>
   rw [ha] at h
   simp only [cond_false] at h
   cases hsi:sIndH e.x f.x with
   | false=>rw [hsi] at h; simp at h
   | true =>
    rw [hsi] at h
    simp only [cond_true] at h
    cases hr:rowH i e.x l (j + 1) (r.map (·.x)) with
    | none=>rw [hr] at h; simp at h
    | some qs =>
     rw [hr] at h
     simp only [Option.some.injEq] at h
     rcases hq with rfl | hq
     · refine .inr (ind_ofH he (hg f (by simp)) hsi fun hm=>?_)
       rw [hm] at h
       exact hdy j f (by rw [← h]; simp) (Nat.le_refl _) (by simp)
     · exact rowH_ok he hg' hd' hl hr (shift fun b hb=>by
        rw [← h]
        cases mayH e.x f.x <;> simp [hb]) q hq
theorem storeH_ok {x:AOper} (h:stOKH x=true) (hs:x.op.isStore=true):x.dst=none:=by
 unfold stOKH at h
 split at h
 · split at h
   · assumption
   · simp at h
 · rename_i hne
   cases hop:x.op <;> rw [hop] at hs <;> simp [AOp.isStore] at hs
   exact absurd hop (hne _ _ _)
theorem pairsH_ok {dp:Nat→List Nat}:∀ {es:List Hn} {i:Nat} {ps:List (Nat × Nat)},(∀ f ∈ es,GoodH f)→(∀ p ∈ idxH i es,p.2.x.deps=dp p.1)→pairsH i (es.map (·.x))=some ps →
    (∀ a b e f,(a,b) ∈ ps→i≤a→i≤b→es[a - i]? = some e→es[b - i]? = some f→DynH e f) →
    (idxH i es).Pairwise (fun p q=>p.1<q.1∧(Ahead dp p.1 q.1∨IndH p.2 q.2))∧(∀ p ∈ idxH i es,∀ d ∈ p.2.x.deps,d<p.1)∧(∀ p ∈ idxH i es,p.2.x.op.isStore=true→p.2.x.dst=none)
 | [],i,ps,_,_,_,_=>by simp [idxH]
 | e :: r,i,ps,hg,hd,h,hdy=>by
  simp only [List.map_cons,pairsH] at h
  cases h1:(stOKH e.x && allLt i e.x.deps) with
  | false=>rw [h1] at h; simp at h
  | true =>
   rw [h1] at h
   simp only [cond_true] at h
   simp only [Bool.and_eq_true] at h1
   simp only [idxH,List.mem_cons] at hd
   have hd':∀ p ∈ idxH (i + 1) r,p.2.x.deps=dp p.1:=fun p hp=>hd p (.inr hp)
   cases ha:rowH i e.x [i] (i + 1) (r.map (·.x)) with
   | none=>rw [ha] at h; simp at h
   | some as =>
    cases hb:pairsH (i + 1) (r.map (·.x)) with
    | none=>rw [ha,hb] at h; simp at h
    | some bs =>
     rw [ha,hb] at h
     simp only [Option.some.injEq] at h
     have hrow:=rowH_ok (dp:=dp) (hg e (by simp)) (fun f hf=>hg f (by simp [hf])) hd' (fun d hd=>.inl (by simpa using hd)) ha (fun b f hm hj hf=>by
      refine hdy i b e f (by rw [← h]; simp [hm]) (Nat.le_refl _) (by omega) (by simp) ?_
      rw [show b - i=(b - (i + 1)) + 1 by omega]
      simpa using hf)
     obtain ⟨g1,g2,g3⟩:=pairsH_ok (fun f hf=>hg f (by simp [hf])) hd' hb (fun a b f g hm ha' hb' hf hg=>by
      refine hdy a b f g (by rw [← h]; simp [hm]) (by omega) (by omega) ?_ ?_
      · rw [show a - i=(a - (i + 1)) + 1 by omega]
        simpa using hf
      · rw [show b - i=(b - (i + 1)) + 1 by omega]
        simpa using hg)
     simp only [idxH,List.pairwise_cons,List.mem_cons]
     refine ⟨⟨fun q hq=>?_,g1⟩,?_,?_⟩
     · obtain ⟨j,k1,k2⟩:=idxH_get.1 hq
       exact ⟨by show i<q.1; omega,hrow q hq⟩
     · rintro p (rfl | hp) d hd
       · exact allLt_ok h1.2 d hd
       · exact g2 p hp d hd
     · rintro p (rfl | hp) hs
       · exact storeH_ok h1.1 hs
       · exact g3 p hp hs
inductive TrcH (E:Env):List AOper→St→List Hn→St→Prop
 | nil {st}:TrcH E [] st [] st
 | float {x l st v rd es st'}:guardV (look st.fr) x.guard=some true→Ev E (look st.fr) (blkAt st.hp) st.nx x.op v [] 0 rd→(noRd x.op=true→rd=[])→TrcH E l ⟨putS st x.dst v,st.hp,st.nx⟩ es st'→TrcH E (x :: l) st (⟨x,1,v,rd,[],st.nx,[],0⟩ :: es) st'
 | heavy {x l st v n xs hp' nx' es st'}:guardV (look st.fr) x.guard=some true→x.op=.call n xs→CallOK E n (evOs (look st.fr) xs) (blkAt st.hp) st.nx v (blkAt hp') nx'→TrcH E l ⟨putS st x.dst v,hp',nx'⟩ es st'→TrcH E (x :: l) st (⟨x,2,v,[],st.hp,st.nx,hp',nx'⟩ :: es) st'
 | skip {x l st es st'}:guardV (look st.fr) x.guard=some false→TrcH E l ⟨putS st x.dst (.pv (.tuple [])),st.hp,st.nx⟩ es st'→TrcH E (x :: l) st (⟨x,0,.pv (.tuple []),[],[],0,[],0⟩ :: es) st'
theorem TrcH.run {E:Env} {l:List AOper} {st st':St} {es:List Hn} (h:TrcH E l st es st'):RunH E es ⟨look st.fr,blkAt st.hp,fun i=>i<st.nx⟩∧finH es ⟨look st.fr,blkAt st.hp,fun i=>i<st.nx⟩=⟨look st'.fr,blkAt st'.hp,fun i=>i<st'.nx⟩:=by
 induction h with
 | nil=>exact ⟨trivial,rfl⟩
 | @float x l st v rd es st' hg hev hrd ht ih =>
  have hstep:Hn.step ⟨x,1,v,rd,[],st.nx,[],0⟩ ⟨look st.fr,blkAt st.hp,fun i=>i<st.nx⟩=⟨look (putS st x.dst v),blkAt st.hp,fun i=>i<st.nx⟩:=by
   simp only [Hn.step]
   rw [look_put,if_neg (by omega),if_neg (by omega)]
  refine ⟨⟨.inr (.inl ⟨rfl,hg,hev⟩),by rw [hstep]; exact ih.1⟩,?_⟩
  simp only [finH]
  rw [hstep]
  exact ih.2
 | @heavy x l st v n xs hp' nx' es st' hg hop hc ht ih =>
  have hstep:Hn.step ⟨x,2,v,[],st.hp,st.nx,hp',nx'⟩ ⟨look st.fr,blkAt st.hp,fun i=>i<st.nx⟩=⟨look (putS st x.dst v),blkAt hp',fun i=>i<nx'⟩:=by
   simp only [Hn.step]
   rw [look_put,if_pos trivial,if_pos trivial]
  refine ⟨⟨.inr (.inr ⟨rfl,hg,rfl,rfl,n,xs,hop,hc⟩),by rw [hstep]; exact ih.1⟩,?_⟩
  simp only [finH]
  rw [hstep]
  exact ih.2
 | @skip x l st es st' hg ht ih =>
  have hstep:Hn.step ⟨x,0,.pv (.tuple []),[],[],0,[],0⟩ ⟨look st.fr,blkAt st.hp,fun i=>i<st.nx⟩=⟨look (putS st x.dst (.pv (.tuple []))),blkAt st.hp,fun i=>i<st.nx⟩:=by
   simp only [Hn.step]
   rw [look_put,if_neg (by omega),if_neg (by omega)]
  refine ⟨⟨.inl ⟨rfl,hg,rfl⟩,by rw [hstep]; exact ih.1⟩,?_⟩
  simp only [finH]
  rw [hstep]
  exact ih.2
theorem TrcH.xs {E:Env} {l:List AOper} {st st':St} {es:List Hn} (h:TrcH E l st es st'):es.map (·.x)=l:=by
 induction h with
 | nil=>rfl
 | float _ _ _ _ ih=>simp [ih]
 | heavy _ _ _ _ ih=>simp [ih]
 | skip _ _ ih=>simp [ih]
theorem TrcH.good {E:Env} {l:List AOper} {st st':St} {es:List Hn} (h:TrcH E l st es st'):∀ e ∈ es,GoodH e:=by
 induction h with
 | nil=>exact fun e he=>by simp at he
 | float _ _ hrd _ ih =>
  intro e he
  rcases List.mem_cons.1 he with rfl | he
  · exact ⟨fun h=>by simp at h,hrd⟩
  · exact ih e he
 | heavy _ hop _ _ ih =>
  intro e he
  rcases List.mem_cons.1 he with rfl | he
  · exact ⟨fun _=>by rw [hop]; rfl,fun _=>rfl⟩
  · exact ih e he
 | skip _ _ ih =>
  intro e he
  rcases List.mem_cons.1 he with rfl | he
  · exact ⟨fun h=>by simp at h,fun _=>rfl⟩
  · exact ih e he
theorem WP.drawH {E:Env} (hE':E.OK) {N:Nat} {Q:Exit→St→Prop} {st st':St} {l:List AOper} {es:List Hn} {ps:List (Nat × Nat)} (htr:TrcH E l st es st') (hps:pairsH 0 l=some ps) (hdy:dynHAll es ps) (hQ:Q .normal st'):WP E N (.drawH l) Q st:=by
 intro code hc X M a w Q' hE hN R hq
 obtain ⟨id,ops,rfl,h1⟩:=inv_c_drawH hc
 obtain ⟨h2,h3⟩:=cOpers_get h1
 have hxs:=htr.xs
 have hlen:es.length=ops.size:=by
  have:(es.map (·.x)).length=l.length:=by rw [hxs]
  rw [List.length_map] at this
  rw [this,h2]; simp
 obtain ⟨hrun,hfin⟩:=htr.run
 have hdd:∀ p ∈ idxH 0 es,p.2.x.deps=(fun i=>((es[i]?).map (·.x.deps)).getD []) p.1:=fun p hp=>by
  obtain ⟨j,k1,k2⟩:=idxH_get.1 hp
  have:p.1=j:=by omega
  simp only [this,k1,Option.map_some,Option.getD_some]
 obtain ⟨c1,c2,c3⟩:=pairsH_ok (dp:=(fun i=>((es[i]?).map (·.x.deps)).getD [])) htr.good hdd (by rw [hxs]; exact hps) (fun a b e f hm _ _ he hf=>dynHAll_mem hdy a b hm e f (by simpa using he) (by simpa using hf))
 refine wp_region_any (hE ▸ hE'.mixed) ?_
 subst hE
 refine any_orderH (E:=X.E) (N:=N) (S:=⟨look st'.fr,blkAt st'.hp,fun i=>i<st'.nx⟩) hE' rfl hN (fun M' a' w' R'=>hq _ M' st' a' w' hQ R') (fun i=>((es[i]?).map (·.x.deps)).getD []) ops.size (idxH 0 es) _ ⟨look st.fr,blkAt st.hp,fun i=>i<st.nx⟩ M a _
  (by rw [idxH_length,hlen]) ?_ ?_ (by simp) c1 c2 hdd ?_ (by rw [idxH_snd]; exact hrun) (by rw [idxH_snd]; exact hfin) (R.drew _)
 · intro p hp
   obtain ⟨j,k1,k2⟩:=idxH_get.1 hp
   have hl:l[j]? = some p.2.x:=by rw [← hxs,List.getElem?_map,k1]; rfl
   obtain ⟨o,h4,h5⟩:=h3 j _ hl
   refine ⟨o,?_,?_,c3 p hp⟩
   · rw [k2,Nat.zero_add,← Array.getElem?_toList]; exact h4
   · rw [← hN]; rw [hN]; exact h5
 · intro i
   simp only [List.mem_map]
   constructor
   · intro h
     have hi:i<ops.size:=by
      rcases Nat.lt_or_ge i ops.size with h' | h'
      · exact h'
      · simp [Array.getElem?_eq_none,h'] at h
     have hi':i<es.length:=by omega
     exact ⟨(i,es[i]),idxH_get.2 ⟨i,by simp [hi'],by simp⟩,rfl⟩
   · rintro ⟨p,hp,rfl⟩
     obtain ⟨j,k1,k2⟩:=idxH_get.1 hp
     have:p.1<ops.size:=by
      have:=(List.getElem?_eq_some_iff.1 k1).1
      omega
     simp [this]
 · intro i hi d hd
   have hi':¬ i<ops.size:=fun h=>by simp [h] at hi
   have:es[i]? = none:=List.getElem?_eq_none (by omega)
   simp only [this,Option.map_none,Option.getD_none,List.not_mem_nil] at hd
section
def evP (F:Fr):AOp→Option AV
 | .mv x=>some (evO F x)
 | .extract x i=>extractV i (evO F x)
 | .bmax xs=>maxA iMax (evOs F xs)
 | .bmin xs=>maxA iMin (evOs F xs)
 | _=>none
theorem evP_ev {F:Fr} {H:Hp} {nx:Nat} {op:AOp} {v:AV} (h:evP F op=some v):evOp F H nx op=some (v,[],0)∧op.isStore=false:=by
 unfold evP at h
 split at h
 · simp only [Option.some.injEq] at h; subst h; exact ⟨rfl,rfl⟩
 · exact ⟨by simp only [evOp,h],rfl⟩
 · exact ⟨by simp only [evOp,h],rfl⟩
 · exact ⟨by simp only [evOp,h],rfl⟩
 · simp at h
def putF (fr:List (Nat × AV)):Option Nat→AV→List (Nat × AV)
 | some k,v=>(k,v) :: fr
 | none,_=>fr
def runP:List AOper→List (Nat × AV)→Option (List (Nat × AV))
 | [],fr=>some fr
 | x :: r,fr=>match x.guard with
  | some _=>none
  | none=>match evP (look fr) x.op with
   | some v=>runP r (putF fr x.dst v)
   | none=>none
theorem runP_append:∀ {x y:List AOper} {fr fr':List (Nat × AV)},runP (x ++ y) fr=some fr'→∃ fr1,runP x fr=some fr1∧runP y fr1=some fr'
 | [],y,fr,fr',h=>⟨fr,rfl,h⟩
 | a :: r,y,fr,fr',h=>by
  simp only [List.cons_append,runP] at h ⊢
  split at h
  · simp at h
  · split at h
    · exact runP_append h
    · simp at h
theorem look_putF {fr:List (Nat × AV)} {d:Option Nat} {v:AV} {t:Nat} (h:∀ k,d=some k→k ≠ t):look (putF fr d v) t=look fr t:=by
 cases d with
 | none=>rfl
 | some k=>simp only [putF,look,beq_ne (h k rfl),cond_false]
theorem look_runP {t:Nat}:∀ {l:List AOper} {fr fr':List (Nat × AV)},¬ t ∈ dstsL l→runP l fr=some fr'→look fr' t=look fr t
 | [],fr,fr',hn,h=>by simp only [runP,Option.some.injEq] at h; rw [h]
 | x :: r,fr,fr',hn,h=>by
  simp only [runP] at h
  split at h
  · simp at h
  · split at h
    · rename_i v _
      cases hd:x.dst with
      | none =>
       simp only [dstsL,hd] at hn h
       exact look_runP hn h
      | some d =>
       simp only [dstsL,hd,List.mem_cons,not_or] at hn h
       rw [look_runP hn.2 h]
       exact look_putF (fun k hk=>by simp only [Option.some.injEq] at hk; subst hk; exact fun e=>hn.1 e.symm)
    · simp at h
section
variable {E:Env} {N:Nat} {hp:List (Nat × Blk)} {nx:Nat}
theorem WPo_runP (hE:E.OK):∀ {l:List AOper} {fr fr':List (Nat × AV)} {r:List AOper} {Q:St→Prop},runP l fr=some fr'→WPo E N r Q ⟨fr',hp,nx⟩→WPo E N (l ++ r) Q ⟨fr,hp,nx⟩
 | [],fr,fr',r,Q,h,hk=>by simp only [runP,Option.some.injEq] at h; subst h; exact hk
 | x :: l,fr,fr',r,Q,h,hk=>by
  simp only [runP] at h
  split at h
  · simp at h
  · rename_i hg
    split at h
    · rename_i v hv
      have ih:=WPo_runP hE h hk
      refine WPo.cons (st:=⟨fr,hp,nx⟩) (v:=v) (W:=[]) (n:=0) (by rw [hg]; rfl) (fun o h1 h2 h3=>?_) ?_
      · obtain ⟨e1,e2⟩:=evP_ev (H:=blkAt hp) (nx:=nx) hv
        refine (ev_does' (U:=fun i=>i<nx) hE e1 h1 h3 (fun hs=>?_) (fun _=>Nat.lt_irrefl _)).used fun i hi=>?_
        · rw [e2] at hs; simp at hs
        · rcases hi with hi | ⟨h0,_⟩
          · exact hi
          · omega
      · have:next ⟨fr,hp,nx⟩ x v [] 0=⟨putF fr x.dst v,hp,nx⟩:=by
         unfold next
         cases hd:x.dst <;> rfl
        rw [this]
        exact ih
    · simp at h
theorem WP_flat (hE:E.OK):∀ (c:ACode) {l:List AOper} {fr fr':List (Nat × AV)} {Q:Exit→St→Prop},flat1 c=some l→runP l fr=some fr'→Q .normal ⟨fr',hp,nx⟩→WP E N c Q ⟨fr,hp,nx⟩
 | .skip,l,fr,fr',Q,h,hr,hq=>by
  simp only [flat1,Option.some.injEq] at h
  subst h
  simp only [runP,Option.some.injEq] at hr
  subst hr
  exact WP.skip hq
 | .ops l',l,fr,fr',Q,h,hr,hq=>by
  simp only [flat1,Option.some.injEq] at h
  subst h
  have:=WPo_runP (N:=N) (hp:=hp) (nx:=nx) (r:=[]) (Q:=Q .normal) hE hr (WPo.nil hq)
  rw [List.append_nil] at this
  exact WP.ops hE this
 | .seq a b,l,fr,fr',Q,h,hr,hq=>by
  simp only [flat1] at h
  split at h
  · rename_i x y h1 h2
    simp only [Option.some.injEq] at h
    subst h
    obtain ⟨fr1,r1,r2⟩:=runP_append hr
    exact WP.seq (WP_flat hE a h1 r1 (WP_flat hE b h2 r2 hq))
  · simp at h
 | .draw _,l,fr,fr',Q,h,_,_=>by simp [flat1] at h
 | .drawT _ _,l,fr,fr',Q,h,_,_=>by simp [flat1] at h
 | .drawH _,l,fr,fr',Q,h,_,_=>by simp [flat1] at h
 | .cond _ _ _,l,fr,fr',Q,h,_,_=>by simp [flat1] at h
 | .block _ _,l,fr,fr',Q,h,_,_=>by simp [flat1] at h
 | .loop _,l,fr,fr',Q,h,_,_=>by simp [flat1] at h
 | .exit _,l,fr,fr',Q,h,_,_=>by simp [flat1] at h
 | .ret,l,fr,fr',Q,h,_,_=>by simp [flat1] at h
 | .rangeM ..,l,fr,fr',Q,h,_,_=>by simp [flat1] at h
end
/-! ### Rounds -/
section
variable (nx more pair:Nat) (bl:List AOper)
def roundP (e:PV × PV) (fr:List (Nat × AV)):Option (List (Nat × AV)):=runP bl ((pair,.pv (.tuple [e.1,e.2])) :: (more,.pv (.bool true)) :: (nx,.tuple [.pv (.bool true),.bot,.bot]) :: fr)
def rngP:List (PV × PV)→List (Nat × AV)→Option (List (Nat × AV))
 | [],fr=>some fr
 | e :: r,fr=>match roundP nx more pair bl e fr with
  | some fr'=>rngP r fr'
  | none=>none
theorem rngP_snoc:∀ {vs:List (PV × PV)} {e:PV × PV} {fr fr1:List (Nat × AV)},rngP nx more pair bl vs fr=some fr1→rngP nx more pair bl (vs ++ [e]) fr=roundP nx more pair bl e fr1
 | [],e,fr,fr1,h=>by
  simp only [rngP,Option.some.injEq] at h
  subst h
  simp only [List.nil_append,rngP]
  split <;> simp_all
 | a :: r,e,fr,fr1,h=>by
  simp only [List.cons_append,rngP] at h ⊢
  split at h
  · exact rngP_snoc h
  · simp at h
theorem rngP_prefix:∀ {vs us:List (PV × PV)} {fr fr':List (Nat × AV)},rngP nx more pair bl (vs ++ us) fr=some fr'→∃ fr1,rngP nx more pair bl vs fr=some fr1
 | [],us,fr,fr',h=>⟨fr,rfl⟩
 | a :: r,us,fr,fr',h=>by
  simp only [List.cons_append,rngP] at h ⊢
  split at h
  · exact rngP_prefix h
  · simp at h
theorem look_round {t:Nat} {e:PV × PV} {fr fr':List (Nat × AV)} (h1:t ≠ nx) (h2:t ≠ more) (h3:t ≠ pair) (h4:¬ t ∈ dstsL bl) (h:roundP nx more pair bl e fr=some fr'):look fr' t=look fr t:=by
 rw [look_runP h4 h]
 simp only [look,beq_ne (Ne.symm h1),beq_ne (Ne.symm h2),beq_ne (Ne.symm h3),cond_false]
end
def rdP:AOp→List AO
 | .mv x=>[x]
 | .extract x _=>[x]
 | .bmax xs=>xs
 | .bmin xs=>xs
 | _=>[]
def tmps1:List AO→List Nat
 | []=>[]
 | .t n :: r=>n :: tmps1 r
 | _ :: r=>tmps1 r
def memN (t:Nat):List Nat→Bool
 | []=>false
 | a :: r=>Nat.beq a t || memN t r
def dropN (wr:List Nat):List Nat→List Nat
 | []=>[]
 | a :: r=>cond (memN a wr) (dropN wr r) (a :: dropN wr r)
def carry:List Nat→List AOper→List Nat
 | _,[]=>[]
 | wr,x :: r=>dropN wr (tmps1 (rdP x.op)) ++ carry (match x.dst with
  | some d=>d :: wr
  | none=>wr) r
def killL (it nx more pair:Nat) (bl:List AOper):List Nat:=it :: nx :: more :: dropN (carry [pair] bl) (pair :: dstsL bl)
def botL:List Nat→List (Nat × AV)→List (Nat × AV)
 | [],fr=>fr
 | t :: r,fr=>(t,.bot) :: botL r fr
theorem look_botL (t:Nat):∀ (l:List Nat) (fr:List (Nat × AV)),look (botL l fr) t=.bot∨(¬ t ∈ l∧look (botL l fr) t=look fr t)
 | [],fr=>.inr ⟨by simp,rfl⟩
 | a :: r,fr=>by
  simp only [botL,look]
  by_cases h:a=t
  · subst h
    rw [beq_self]
    exact .inl rfl
  · rw [beq_ne h]
    simp only [cond_false]
    rcases look_botL t r fr with e | ⟨e1,e2⟩
    · exact .inl e
    · exact .inr ⟨by simp only [List.mem_cons,not_or]; exact ⟨fun e=>h e.symm,e1⟩,e2⟩
def Agree (it nx more pair:Nat) (bl:List AOper) (es:List (PV × PV)) (fr fr0:List (Nat × AV)):Prop :=
 ∀ vs,vs.Perm es→∃ fr',rngP nx more pair bl vs fr=some fr'∧∀ t,¬ t ∈ killL it nx more pair bl→look fr' t=look fr0 t
noncomputable def rangeQ (m:AO) (it nx more pair:Nat) (bl:List AOper) (st:St):Option St :=
 match evO (look st.fr) m with
 | .map id=>match blkAt st.hp id with
  | .map es=>match rngP nx more pair bl es ((it,.ptr st.nx 0 0) :: st.fr) with
   | some fr0 => @ite _ (Agree it nx more pair bl es ((it,.ptr st.nx 0 0) :: st.fr) fr0) (Classical.propDecidable _) (some ⟨botL (killL it nx more pair bl) fr0,st.hp,st.nx + 1⟩) none
   | none=>none
  | _=>none
 | _=>none
theorem rangeQ_some {m:AO} {it nx more pair:Nat} {bl:List AOper} {st st':St} (h:rangeQ m it nx more pair bl st=some st'):∃ id es fr0,evO (look st.fr) m=.map id∧blkAt st.hp id=.map es ∧
    rngP nx more pair bl es ((it,.ptr st.nx 0 0) :: st.fr)=some fr0∧Agree it nx more pair bl es ((it,.ptr st.nx 0 0) :: st.fr) fr0∧st'=⟨botL (killL it nx more pair bl) fr0,st.hp,st.nx + 1⟩:=by
 unfold rangeQ at h
 split at h
 · rename_i id h1
   split at h
   · rename_i es h2
     split at h
     · rename_i fr0 h3
       by_cases hA:Agree it nx more pair bl es ((it,.ptr st.nx 0 0) :: st.fr) fr0
       · rw [if_pos hA] at h
         simp only [Option.some.injEq] at h
         exact ⟨id,es,fr0,h1,h2,h3,hA,h.symm⟩
       · rw [if_neg hA] at h
         simp at h
     · simp at h
   · simp at h
 · simp at h
end
section
open Go.ChangeMaps (setBlock)
theorem wp_change {P:Program} {o:Oper} {a:Act} {w:World} {K K':Act→World→Prop} {Q Q':Exit→Act→World→Prop} (h:∀ a w,K a w→K' a w) (hp:∀ c a w,Q (.panic c) a w→Q' (.panic c) a w) (ho:LetsOut Q→LetsOut Q') (hh:o.wp P a w K Q):o.wp P a w K' Q':=by
 unfold Oper.wp at *
 generalize (execOp a.eval o).run P w=r at *
 cases r with
 | ok n w' =>
  cases n <;> simp only [Oper.upon] at hh ⊢ <;>
   first
    | exact h _ _ hh
    | exact Calls.mono hh (fun e w'' he=>by cases e <;> first | exact h _ _ he | exact hp _ _ _ he | exact ho he)
    | exact Rows.mono hh (fun _ _ he=>h _ _ he)
 | halt x w'=>cases x <;> simp only [Oper.upon] at hh ⊢ <;> first | exact hp _ _ _ hh | exact hh
theorem wpOps_prefix {P:Program} {ops:Array Oper} {Q':Exit→Act→World→Prop} {rest:List Nat}:∀ (l:List Nat) (a:Act) (w:World),wpOps P ops (Exit.then (wpOps P ops Q' rest) Q') l a w→wpOps P ops Q' (l ++ rest) a w
 | [],a,w,h=>h
 | i :: r,a,w,h=>by
  rw [wpOps_cons] at h
  rw [List.cons_append,wpOps_cons]
  unfold wpOp at *
  split
  · rename_i ho
    simp only [ho] at h
    exact wpOps_prefix r a w h
  · rename_i o ho
    simp only [ho] at h
    split
    · rename_i hw
      simp only [hw,if_true] at h
      exact h.imp (wp_change (fun a w=>wpOps_prefix r a w) (fun c a w h=>h) (fun ⟨a,w,h⟩=>⟨a,w,h⟩)) (fun ⟨h1,h2⟩=>⟨h1,let ⟨a,w,h⟩:=h2; ⟨a,w,h⟩⟩)
    · rename_i hw
      simp only [hw] at h
      exact wpOps_prefix r _ _ h
section
variable {X:Ctx} {M:Nat→Nat} {F:Fr} {H:Hp} {U:Nat→Prop} {a:Act} {w:World}
theorem Rel.withG (R:Rel X M F H U a w) (G:AV→Value→Prop) (h:∀ v u,G v u→VA (viewOf X w U M H) v u):Rel ⟨X.E,X.K,X.w0,X.S,X.N,G,X.good⟩ M F H U a w :=
 ⟨R.defers,R.size,R.keeps,R.K,R.used,R.inj,R.own,R.blk,R.fr,h⟩
theorem Rel.frames (R:Rel X M F H U a w) {F':Fr} (h:∀ t,F' t=.bot∨F' t=F t):Rel X M F' H U a w :=
 ⟨R.defers,R.size,R.keeps,R.K,R.used,R.inj,R.own,R.blk,fun t=>by
  rcases h t with e | e
  · rw [e]; simp only [VA]
  · rw [e]; exact R.fr t,R.gh⟩
theorem Rel.heaps (R:Rel X M F H U a w) {H':Hp} (h:∀ i,H' i=H i):Rel X M F H' U a w:=by
 obtain rfl:H'=H:=funext h
 exact R
theorem Rel.retell (R:Rel X M F H U a w) {k:Nat} {o:Obj} {B:Blk} (ho:w.heap[M k]? = some o) (hk:H k ≠ .dead) (hd:B ≠ .dead) (hi:B.info=(H k).info) (hB:∀ V,V.E=X.E→V.w=w→(∀ b,okOf X w M H b→V.ok b)→BlkOK V (M k) B):Rel X M F (wr H [(k,B)]) U a w:=by
 have hs:=setB_self ho
 have:=R.write o B k hk hd hi (by rw [hs]) (by
  rw [hs]
  refine hB _ rfl rfl fun b hb=>⟨hb.1,hb.2.1,fun i hi=>hb.2.2 i ?_⟩
  by_cases h:k=i
  · subst h; exact hk
  · rwa [show wr H [(k,B)] i=H i by rw [wr_other H B [] h]; rfl] at hi)
 rwa [hs] at this
end
theorem VEnt2_zip {E:Env} {w:World} {ok:Nat→Prop}:∀ {es:List (PV × PV)} {ms:List MapEntry},VEnt2 E w ok es ms→ms.length=es.length∧∀ z ∈ es.zip ms,VP E w ok z.1.1 z.2.key∧VP E w ok z.1.2 z.2.val
 | [],ms,h=>by
  simp only [VEnt2] at h
  subst h
  exact ⟨rfl,fun z hz=>by simp at hz⟩
 | (k,v) :: es,ms,h=>by
  simp only [VEnt2] at h
  obtain ⟨m,rest,rfl,h1,h2,h3⟩:=h
  obtain ⟨e1,e2⟩:=VEnt2_zip h3
  refine ⟨by simp [e1],fun z hz=>?_⟩
  simp only [List.zip_cons_cons,List.mem_cons] at hz
  rcases hz with rfl | hz
  · exact ⟨h1,h2⟩
  · exact e2 z hz
theorem VEnt2_of {E:Env} {w:World} {ok:Nat→Prop}:∀ {es:List (PV × PV)} {ms:List MapEntry},ms.length=es.length→(∀ z ∈ es.zip ms,VP E w ok z.1.1 z.2.key∧VP E w ok z.1.2 z.2.val)→VEnt2 E w ok es ms
 | [],ms,h,_=>by simp only [VEnt2]; exact List.eq_nil_of_length_eq_zero (by simpa using h)
 | (k,v) :: es,[],h,_=>by simp at h
 | (k,v) :: es,m :: rest,h,hz=>by
  simp only [VEnt2]
  have h0:=hz ((k,v),m) (by simp)
  exact ⟨m,rest,rfl,h0.1,h0.2,VEnt2_of (by simpa using h) fun z hz'=>hz z (by simp only [List.zip_cons_cons]; exact List.mem_cons_of_mem _ hz')⟩
theorem zip_right:∀ {es:List (PV × PV)} {ms:List MapEntry},ms.length=es.length→∀ e ∈ ms,∃ z ∈ es.zip ms,z.2=e
 | [],ms,h,e,he=>by
  have:=List.eq_nil_of_length_eq_zero (show ms.length=0 by simpa using h)
  subst this
  simp at he
 | x :: es,[],h,e,he=>by simp at he
 | x :: es,m :: rest,h,e,he=>by
  rcases List.mem_cons.1 he with rfl | he
  · exact ⟨(x,e),by simp,rfl⟩
  · obtain ⟨z,h1,h2⟩:=zip_right (es:=es) (ms:=rest) (by simpa using h) e he
    exact ⟨z,by simp only [List.zip_cons_cons]; exact List.mem_cons_of_mem _ h1,h2⟩
theorem inj_of_nodup {α:Type} {f:α→Nat}:∀ {l:List α},(l.map f).Nodup→∀ {x y:α},x ∈ l→y ∈ l→f x=f y→x=y
 | [],_,x,y,hx,_,_=>by simp at hx
 | a :: l,h,x,y,hx,hy,e=>by
  simp only [List.map_cons,List.nodup_cons] at h
  rcases List.mem_cons.1 hx with hx1 | hx1
  · rcases List.mem_cons.1 hy with hy1 | hy1
    · rw [hx1,hy1]
    · exact absurd (by rw [← hx1,e]; exact List.mem_map.2 ⟨y,hy1,rfl⟩) h.1
  · rcases List.mem_cons.1 hy with hy1 | hy1
    · exact absurd (by rw [← hy1,← e]; exact List.mem_map.2 ⟨x,hx1,rfl⟩) h.1
    · exact inj_of_nodup h.2 hx1 hy1 e
theorem nodup_of_map {α:Type} {f:α→Nat}:∀ {l:List α},(l.map f).Nodup→l.Nodup
 | [],_=>List.nodup_nil
 | a :: l,h=>by
  simp only [List.map_cons,List.nodup_cons] at h
  exact List.nodup_cons.2 ⟨fun ha=>h.1 (List.mem_map.2 ⟨a,ha,rfl⟩),nodup_of_map h.2⟩
theorem rest_perm {α:Type} {f:α→Nat} {L vs:List α} (hL:(L.map f).Nodup) (hv:(vs.map f).Nodup) (hs:∀ z ∈ vs,z ∈ L):∃ rest,(vs ++ rest).Perm L:=by
 refine ⟨L.filter (fun z => !(vs.map f).contains (f z)),?_⟩
 refine (List.perm_ext_iff_of_nodup ?_ (nodup_of_map hL)).2 fun z=>?_
 · refine List.nodup_append.2 ⟨nodup_of_map hv,(nodup_of_map hL).filter _,fun x hx y hy e=>?_⟩
   subst e
   simp only [List.mem_filter,Bool.not_eq_true',List.contains_eq_mem,decide_eq_false_iff_not] at hy
   exact hy.2 (List.mem_map.2 ⟨x,hx,rfl⟩)
 · simp only [List.mem_append,List.mem_filter,Bool.not_eq_true',List.contains_eq_mem,decide_eq_false_iff_not]
   constructor
   · rintro (h | h)
     · exact hs z h
     · exact h.1
   · intro h
     by_cases hz:f z ∈ vs.map f
     · obtain ⟨y,hy,e⟩:=List.mem_map.1 hz
       obtain rfl:=inj_of_nodup hL (hs y hy) h e
       exact .inl hy
     · exact .inr ⟨h,hz⟩
theorem look_rng {nx more pair:Nat} {bl:List AOper} {t:Nat} (h1:t ≠ nx) (h2:t ≠ more) (h3:t ≠ pair) (h4:¬ t ∈ dstsL bl):∀ {vs:List (PV × PV)} {fr fr':List (Nat × AV)},rngP nx more pair bl vs fr=some fr'→look fr' t=look fr t
 | [],fr,fr',h=>by simp only [rngP,Option.some.injEq] at h; rw [h]
 | e :: r,fr,fr',h=>by
  simp only [rngP] at h
  split at h
  · rename_i fr1 hr
    rw [look_rng h1 h2 h3 h4 h,look_round nx more pair bl h1 h2 h3 h4 hr]
  · simp at h
structure RI (X:Ctx) (it nx more pair:Nat) (bl:List AOper) (id j mb clk:Nat) (ms:Array MapEntry) (L:List ((PV × PV) × MapEntry)) (fr0:List (Nat × AV)) (hp:List (Nat × Blk)) (n:Nat) (a:Act) (w:World) (M:Nat→Nat) (fr:List (Nat × AV)) (seen:Array Nat) (vs:List ((PV × PV) × MapEntry)):Prop where
 num:n=(leftOf ms seen).size
 run:rngP nx more pair bl (vs.map (·.1)) fr0=some fr
 rel:Rl X M ⟨fr,(j,.obj (.mapIter (some mb) clk seen clk)) :: (id,.obj (.map ms clk)) :: hp,j + 1⟩ a w
 stamps:seen.toList=vs.map (fun z=>z.2.born)
 sub:∀ z ∈ vs,z ∈ L
 nodup:(vs.map (fun z=>z.2.born)).Nodup
theorem WP.rangeM {E:Env} {N:Nat} (hE':E.OK) {pre:List AOper} {m:AO} {it nx more pair:Nat} {bl:List AOper} {Q:Exit→St→Prop} {st st1 st2:St}
    (hpre:WPo E N pre (fun s=>s=st1) st) (h:rangeQ m it nx more pair bl st1=some st2) (hQ:Q .normal st2):WP E N (.rangeM pre m it nx more pair bl) Q st:=by
 intro code hc X M a w Q' hE hN R hq
 subst hE
 obtain ⟨ca,cb,x,y,rfl,h1,h2,h3⟩:=inv_c_range hc
 obtain ⟨pre',m',it',d,hd,bl2,e1,rfl,rfl,hfl,hit,n1,n2,n3,n4⟩:=rngC_ok h3
 simp only [ACode.rangeM.injEq] at e1
 obtain ⟨rfl,rfl,rfl,rfl,rfl,rfl,rfl⟩:=e1
 obtain ⟨id,es,fr0',g1,g2,g3,g4,rfl⟩:=rangeQ_some h
 obtain ⟨iid,ops,rfl,k1⟩:=inv_c_ops h1
 obtain ⟨k2,k3⟩:=cOpers_get k1
 -- the loop's code
 obtain ⟨cl,rfl,c1⟩:=inv_c_block h2
 obtain ⟨cr,rfl,c2⟩:=inv_c_loop c1
 obtain ⟨cs,ct,rfl,c3,c4⟩:=inv_c_seq c2
 obtain ⟨i2,ops2,rfl,c5⟩:=inv_c_ops c3
 obtain ⟨cc,ck,rfl,c6,c7⟩:=inv_c_seq c4
 obtain ⟨cnd,cy,cn,rfl,q1,q2,q3⟩:=inv_c_cond c6
 obtain rfl:=inv_c_skip q2
 obtain rfl:=inv_c_exit q3
 obtain ⟨cv,rfl,q4⟩:=inv_c_block c7
 obtain ⟨ce,cf,rfl,q5,q6⟩:=inv_c_seq q4
 obtain ⟨i3,ops3,rfl,q7⟩:=inv_c_ops q5
 obtain ⟨s1,s2⟩:=cOpers_get c5
 obtain ⟨s3,s4⟩:=cOpers_get q7
 obtain ⟨o0,p0,p1⟩:=s2 0 _ rfl
 obtain ⟨o1,p2,p3⟩:=s2 1 _ rfl
 obtain ⟨o2,p4,p5⟩:=s4 0 _ rfl
 rw [Array.getElem?_toList] at p0 p2 p4
 have sz2:ops2.size=2:=by have:=s1; simp only [List.length_cons,List.length_nil,Array.length_toList] at this; omega
 -- the region ahead: what is ahead of the range, and the range
 refine wp_seq (wp_region ?_)
 have hlen:ops.size=pre.length + 1:=by have:=k2; simp only [List.length_append,List.length_cons,List.length_nil,Array.length_toList] at this; omega
 have hget:∀ (i:Nat) x,(pre ++ [⟨some it,.rng m,none,d⟩])[i]? = some x→∃ o,ops[i]? = some o∧cOper X.E N ops o=some x:=fun i x hx=>by
  obtain ⟨o,e1,e2⟩:=k3 i x hx
  exact ⟨o,by rw [← Array.getElem?_toList]; exact e1,e2⟩
 rw [hlen,List.range_eq_range',List.range'_concat]
 refine wpOps_prefix _ a w ?_
 refine hpre ops 0 (by omega) (fun i x hx=>by
  rw [Nat.zero_add]
  exact hget i x (by rw [List.getElem?_append_left (List.getElem?_eq_some_iff.1 hx).1]; exact hx)) X M a w _ rfl hN R (fun M1 st' a1 w1 hst R1=>?_)
 rw [hst] at R1
 clear hst
 show wpOps X.E.P ops _ [0 + 1 * pre.length] a1 w1
 obtain ⟨orr,r0,r1⟩:=hget pre.length ⟨some it,.rng m,none,d⟩ (by simp)
 obtain ⟨r2,r3,r4,r5⟩:=cOper_spec r1
 rw [wpOps_cons]
 unfold wpOp
 rw [show ops[0 + 1 * pre.length]? = some orr by simpa using r0]
 simp only
 rw [if_pos (guard_ok R1 (by rw [hN]; exact r5) rfl)]
 left
 obtain ⟨t,xo,kt,et,ho,hu,hx⟩:=inv_rng r2
 have hv:=cO_ok hE' R1 hx
 rw [g1] at hv
 have hv':=hv
 simp only [VA] at hv
 have hb:=R1.blk id
 rw [g2] at hb
 obtain ⟨ms,clk,b1,b2,b3,b4⟩:=hb
 have hev:a1.eval xo=.map (some (M1 id)):=hv.2.2 (0,0) (by simp [viewOf,g2,Blk.info])
 have b1':w1.heap[M1 id]? = some (.map ms clk):=b1
 have hrun:=run_range_map (P:=X.E.P) w1 t kt et (M1 id) ms clk hu b1'
 have hex:execOp a1.eval orr=(do pure (Next.value (← Instr.range t (a1.eval xo))):Sem Next):=by
  unfold execOp
  rw [ho]
  try rfl
 rw [Oper.wp,hex,hev,r_value hrun,Oper.upon_value]
 obtain ⟨z1,z2⟩:=VEnt2_zip b2
 rw [hev] at hv'
 -- what the rounds may lean on
 let L:=es.zip ms.toList
 let G':AV→Value→Prop:=fun v u=>X.G v u∨(v=.map id∧u=.map (some (M1 id)))∨∃ z ∈ L,(v=.pv z.1.1∧u=z.2.key)∨(v=.pv z.1.2∧u=z.2.val)
 have Rg:=Rel.withG R1 G' (fun v u hg=>by
  rcases hg with hg | ⟨rfl,rfl⟩ | ⟨z,hz,⟨rfl,rfl⟩ | ⟨rfl,rfl⟩⟩
  · exact R1.gh v u hg
  · exact hv'
  · simp only [VA]; exact (z2 z hz).1
  · simp only [VA]; exact (z2 z hz).2)
 have hidd:blkAt st1.hp id ≠ .dead:=by rw [g2]; simp
 have hidu:id<st1.nx:=R1.used id hidd
 have hidj:st1.nx ≠ id:=by omega
 have R2:=Rg.retell (k:=id) (o:=.map ms clk) (B:=.obj (.map ms clk)) b1' hidd (by simp) (by rw [g2]; rfl) (fun V hVE hVw _=>by
  show V.w.heap[M1 id]? = _
  rw [hVw]
  exact b1')
 have R3:=R2.new (.mapIter (some (M1 id)) clk #[] clk) (.obj (.mapIter (some (M1 id)) clk #[] clk)) st1.nx (Nat.lt_irrefl _) (by simp) (heap_push_new _ _)
 have R4:=R3.put (d:=orr.dst) (av:=.ptr st1.nx 0 0) (v:=.pointer (some ⟨w1.heap.size,0,none⟩)) (by
  simp only [VA]
  refine ⟨.inr rfl,⟨by simp,by simp⟩,fun s hs=>?_⟩
  have hs':some (0,0)=some s:=by rw [← hs]; simp only [viewOf]; rw [wr_same]; rfl
  simp only [Option.some.injEq] at hs'
  subst hs'
  simp only [viewOf,upM_same,Nat.zero_mul,Nat.add_zero]) (fun k hk=>by
   show k<X.N
   rw [hN]
   exact r4 k hk)
 have R5:Rl ⟨X.E,X.K,X.w0,X.S,X.N,G',X.good⟩ (upM M1 st1.nx w1.heap.size) ⟨(it,.ptr st1.nx 0 0) :: st1.fr,(st1.nx,.obj (.mapIter (some (M1 id)) clk #[] clk)) :: (id,.obj (.map ms clk)) :: st1.hp,st1.nx + 1⟩ (a1.put orr.dst (.pointer (some ⟨w1.heap.size,0,none⟩))) (w1.alloc (.mapIter (some (M1 id)) clk #[] clk)):=by
  have R4':=(R4.used_mono (U':=fun i=>i<st1.nx + 1) (fun i hi=>by rcases hi with hi | hi <;> omega))
  rw [r3] at R4' ⊢
  refine Rel.heaps (Rel.frames R4' (F':=look ((it,.ptr st1.nx 0 0) :: st1.fr)) (fun t=>.inr rfl)) (fun i=>?_)
  simp only [blkAt,wr]
 have hLs:∀ z ∈ L,z.2 ∈ ms.toList:=fun z hz=>(List.of_mem_zip hz).2
 have hstamp:(ms.toList.map (·.born)).Nodup:=by
  rw [List.nodup_iff_pairwise_ne,List.pairwise_map]
  exact b4
 have hLmap:L.map (·.2)=ms.toList:=List.map_snd_zip (by omega)
 have hLfst:L.map (·.1)=es:=List.map_fst_zip (by omega)
 have hLn:(L.map (fun z=>z.2.born)).Nodup:=by
  have:L.map (fun z=>z.2.born)=(L.map (·.2)).map (·.born):=by rw [List.map_map]; rfl
  rw [this,hLmap]
  exact hstamp
 show (Code.block hd.out (.loop _)).wp X.E.P Q' _ _
 refine wp_block ?_
 refine wp_loop_ghost (fun n a w=>∃ M fr seen vs,RI ⟨X.E,X.K,X.w0,X.S,X.N,G',X.good⟩ it hd.nx hd.more hd.pair (hd.bl1 ++ bl2) id st1.nx (M1 id) clk ms L ((it,.ptr st1.nx 0 0) :: st1.fr) st1.hp n a w M fr seen vs) (leftOf ms #[]).size ⟨_,_,#[],[],⟨rfl,rfl,R5,rfl,fun z hz=>by simp at hz,by simp⟩⟩ ?_
 rintro n a2 w2 ⟨M2,fr,seen,vs,I⟩
 have hfit:look fr it=.ptr st1.nx 0 0:=by
  rw [look_rng n1 n2 n3 n4 I.run]
  simp only [look,beq_self,cond_true]
 have hr:w2.heap[M2 st1.nx]? = some (.mapIter (some (M1 id)) clk seen clk):=by
  have:=I.rel.blk st1.nx
  rw [show blkAt ((st1.nx,.obj (.mapIter (some (M1 id)) clk seen clk)) :: (id,.obj (.map ms clk)) :: st1.hp) st1.nx=.obj (.mapIter (some (M1 id)) clk seen clk) by simp only [blkAt,beq_self,cond_true]] at this
  exact this
 have hbid:∀ o:Obj,blkAt ((st1.nx,.obj o) :: (id,.obj (.map ms clk)) :: st1.hp) id=.obj (.map ms clk):=fun o=>by simp only [blkAt,beq_ne hidj,beq_self,cond_true,cond_false]
 have hM:M1 id=M2 id:=by
  have:=I.rel.gh (.map id) (.map (some (M1 id))) (.inr (.inl ⟨rfl,rfl⟩))
  simp only [VA] at this
  have:=this.2.2 (0,0) (by simp only [viewOf]; rw [hbid]; rfl)
  simpa [viewOf] using this
 have hbm:w2.heap[M1 id]? = some (.map ms clk):=by
  have:=I.rel.blk id
  rw [hbid] at this
  rw [hM]
  exact this
 refine wp_seq (wp_region ?_)
 rw [sz2,show List.range 2=[0,1] from rfl]
 obtain ⟨u1,u2,u3,u4⟩:=cOper_spec p1
 obtain ⟨xi,v1,v2⟩:=inv_nxt u1
 rw [wpOps_cons]
 unfold wpOp
 rw [show ops2[0]? = some o0 from p0]
 simp only
 rw [if_pos (guard_ok I.rel (by show cGuard X.N ops2 o0.guard=_; rw [hN]; exact u4) rfl)]
 left
 rw [← hit] at v2
 have hv2:=cO_ok (X:=⟨X.E,X.K,X.w0,X.S,X.N,G',X.good⟩) hE' I.rel v2
 simp only [evO,hfit] at hv2
 simp only [VA] at hv2
 have hev2:a2.eval xi=.pointer (some ⟨M2 st1.nx,0,none⟩):=by
  have:=hv2.2.2 (0,0) (by simp only [viewOf,blkAt,beq_self,cond_true,Blk.info])
  simpa [viewOf] using this
 have hex2:execOp a2.eval o0=(do pure (Next.value (← Instr.next (a2.eval xi) false o0.type)):Sem Next):=by
  unfold execOp
  rw [v1]
  try rfl
 -- the second operation
 have ext:∀ (b:Bool) (cs:List AV) (hp':List (Nat × Blk)),WPo X.E N [⟨some hd.more,.extract (.t hd.nx) 0,none,hd.d2⟩] (fun s=>s=⟨(hd.more,.pv (.bool b)) :: (hd.nx,.tuple (.pv (.bool b) :: cs)) :: fr,hp',st1.nx + 1⟩) ⟨(hd.nx,.tuple (.pv (.bool b) :: cs)) :: fr,hp',st1.nx + 1⟩:=fun b cs hp'=>by
  have:=WPo_runP (E:=X.E) (N:=N) (hp:=hp') (nx:=st1.nx + 1) hE' (l:=[⟨some hd.more,.extract (.t hd.nx) 0,none,hd.d2⟩]) (fr:=(hd.nx,.tuple (.pv (.bool b) :: cs)) :: fr) (fr':=(hd.more,.pv (.bool b)) :: (hd.nx,.tuple (.pv (.bool b) :: cs)) :: fr) (r:=[]) (Q:=fun s=>s=⟨(hd.more,.pv (.bool b)) :: (hd.nx,.tuple (.pv (.bool b) :: cs)) :: fr,hp',st1.nx + 1⟩)
   (by simp only [runP,evP,evO,look,beq_self,cond_true,extractV,List.getElem?_cons_zero,putF]) (WPo.nil rfl)
  simpa using this
 have ops1:∀ (i:Nat) x,[(⟨some hd.more,.extract (.t hd.nx) 0,none,hd.d2⟩:AOper)][i]? = some x→∃ o,ops2[1 + i]? = some o∧cOper X.E N ops2 o=some x:=fun i x hx=>by
  cases i with
  | zero=>simp only [List.getElem?_cons_zero,Option.some.injEq] at hx; subst hx; exact ⟨o1,p2,p3⟩
  | succ i=>simp at hx
 rw [Oper.wp,hex2,hev2]
 rcases run_next_at (P:=X.E.P) w2 o0.type (M2 st1.nx) (M1 id) clk clk seen ms clk hr hbm b3 (Nat.le_refl _) with ⟨hl,hrun2⟩ | ⟨e,he,w3,hw3,hrun2⟩
 · -- none is left
   rw [r_value hrun2,Oper.upon_value]
   have T1:=I.rel.put (d:=o0.dst) (av:=.tuple [.pv (.bool false)]) (v:=.tuple #[.bool false]) (by
    simp only [VA,VAs,VP]
    exact ⟨[.bool false],rfl,.bool false,[],rfl,rfl,rfl⟩) (fun k hk=>by show k<X.N; rw [hN]; exact u3 k hk)
   rw [u2] at T1 ⊢
   refine ext false [] _ ops2 1 (by rw [sz2]; exact Nat.le_refl _) ops1 ⟨X.E,X.K,X.w0,X.S,X.N,G',X.good⟩ M2 _ _ _ rfl hN (Rel.frames T1 (fun t=>.inr rfl)) (fun M4 s4 a4 w4 hs4 T2=>?_)
   subst hs4
   have hcv:=cO_ok (X:=⟨X.E,X.K,X.w0,X.S,X.N,G',X.good⟩) hE' T2 q1
   simp only [evO,look,beq_self,cond_true,VA,VP] at hcv
   refine wp_seq (wp_cond (t:=false) hcv (wp_exit ?_))
   show Exit.inBlock hd.out Q' (.exit hd.out) a4 w4
   simp only [Exit.inBlock,if_true]
   -- the state behind
   have hall:=all_seen ms seen hl
   have hperm:vs.Perm L:=(List.perm_ext_iff_of_nodup (nodup_of_map I.nodup) (nodup_of_map hLn)).2 fun z=>⟨I.sub z,fun hz=>by
    have h1:=hall z.2 (hLs z hz)
    have h2:z.2.born ∈ seen.toList:=by simpa using h1
    rw [I.stamps] at h2
    obtain ⟨y,hy,e⟩:=List.mem_map.1 h2
    obtain rfl:=inj_of_nodup (f:=fun z=>z.2.born) hLn (I.sub y hy) hz e
    exact hy⟩
   have hpe:(vs.map (·.1)).Perm es:=by
    have:=hperm.map (·.1)
    rwa [hLfst] at this
   obtain ⟨fr',f1,f2⟩:=g4 _ hpe
   rw [I.run] at f1
   simp only [Option.some.injEq] at f1
   subst f1
   have hM4:M1 id=M4 id:=by
    have:=T2.gh (.map id) (.map (some (M1 id))) (.inr (.inl ⟨rfl,rfl⟩))
    simp only [VA] at this
    have:=this.2.2 (0,0) (by simp only [viewOf]; rw [hbid]; rfl)
    simpa [viewOf] using this
   have hb4:w4.heap[M4 id]? = some (.map ms clk):=by
    have:=T2.blk id
    rw [hbid] at this
    exact this
   have T3:=T2.retell (k:=id) (o:=.map ms clk) (B:=.map es) hb4 (by rw [hbid]; simp) (by simp) (by rw [hbid]; rfl) (fun V hVE hVw hok=>by
    refine ⟨ms,clk,by rw [hVw]; exact hb4,?_,b3,b4⟩
    refine VEnt2_of z1 fun z hz=>?_
    have e1:=T2.gh (.pv z.1.1) z.2.key (.inr (.inr ⟨z,hz,.inl ⟨rfl,rfl⟩⟩))
    have e2:=T2.gh (.pv z.1.2) z.2.val (.inr (.inr ⟨z,hz,.inr ⟨rfl,rfl⟩⟩))
    simp only [VA] at e1 e2
    rw [hVE,hVw]
    exact ⟨VP_mono ⟨hok,fun _ _=>rfl⟩ _ _ e1,VP_mono ⟨hok,fun _ _=>rfl⟩ _ _ e2⟩)
   have T4:=T3.kill st1.nx
   have hdj:blkAt st1.hp st1.nx=.dead:=Classical.byContradiction fun h=>absurd (R1.used _ h) (Nat.lt_irrefl _)
   have T5:=T4.heaps (H':=blkAt st1.hp) (fun i=>by
    by_cases hi:st1.nx=i
    · subst hi
      rw [hdj,wr_same]
    · rw [wr_other _ _ _ hi]
      by_cases hi2:id=i
      · subst hi2
        show _=wr (wr _ [(id,.map es)]) [] id
        simp only [wr,beq_self,cond_true,g2]
      · simp only [wr,blkAt,beq_ne hi,beq_ne hi2,cond_false])
   have T6:=T5.frames (F':=look (botL (killL it hd.nx hd.more hd.pair (hd.bl1 ++ bl2)) fr0')) (fun t=>by
    rcases look_botL t (killL it hd.nx hd.more hd.pair (hd.bl1 ++ bl2)) fr0' with e | ⟨e1,e2⟩
    · exact .inl e
    · have k1:hd.more ≠ t:=fun h=>e1 (by rw [← h]; simp [killL])
      have k2:hd.nx ≠ t:=fun h=>e1 (by rw [← h]; simp [killL])
      refine .inr ?_
      rw [e2,← f2 t e1]
      simp only [look,beq_ne k1,beq_ne k2,cond_false])
   exact hq .normal M4 _ a4 w4 hQ ⟨T6.defers,T6.size,T6.keeps,T6.K,T6.used,T6.inj,T6.own,T6.blk,T6.fr,fun v u hg=>T6.gh v u (.inl hg)⟩
 · -- one more round
   rw [r_value hrun2,Oper.upon_value]
   obtain ⟨m1,m2⟩:=mem_left he
   obtain ⟨z,hz,rfl⟩:=zip_right z1 e m1
   have hnew:¬ z.2.born ∈ vs.map (fun z=>z.2.born):=by
    rw [← I.stamps]
    simpa using m2
   have hnd:((vs ++ [z]).map (fun z=>z.2.born)).Nodup:=by
    rw [List.map_append]
    refine List.nodup_append.2 ⟨I.nodup,by simp,fun x hx y hy e=>?_⟩
    simp only [List.map_cons,List.map_nil,List.mem_singleton] at hy
    subst e hy
    exact hnew hx
   have hsub:∀ y ∈ vs ++ [z],y ∈ L:=fun y hy=>by
    rcases List.mem_append.1 hy with hy | hy
    · exact I.sub y hy
    · simp only [List.mem_singleton] at hy
      subst hy
      exact hz
   obtain ⟨rest,hrest⟩:=rest_perm (f:=fun z:(PV × PV) × MapEntry=>z.2.born) hLn hnd hsub
   obtain ⟨fr',f1,_⟩:=g4 (((vs ++ [z]) ++ rest).map (·.1)) (by
    have:=hrest.map (·.1)
    rwa [hLfst] at this)
   rw [List.map_append] at f1
   obtain ⟨fr1,f3⟩:=rngP_prefix _ _ _ _ f1
   have f4:=f3
   rw [List.map_append,List.map_cons,List.map_nil,rngP_snoc _ _ _ _ I.run] at f4
   unfold roundP at f4
   obtain ⟨fr2,f5,f6⟩:=runP_append f4
   -- the worlds
   have Rw:Rl ⟨X.E,X.K,X.w0,X.S,X.N,G',X.good⟩ M2 ⟨fr,(st1.nx,.obj (.mapIter (some (M1 id)) clk seen clk)) :: (id,.obj (.map ms clk)) :: st1.hp,st1.nx + 1⟩ a2 w3:=by
    rcases hw3 with rfl | rfl
    · exact I.rel
    · exact I.rel.drew _
   have hr3:w3.heap[M2 st1.nx]? = some (.mapIter (some (M1 id)) clk seen clk):=by
    rcases hw3 with rfl | rfl <;> exact hr
   have Rx:=Rw.write (.mapIter (some (M1 id)) clk (seen.push z.2.born) clk) (.obj (.mapIter (some (M1 id)) clk (seen.push z.2.born) clk)) st1.nx (by simp only [blkAt,beq_self,cond_true]; simp) (by simp) (by simp only [blkAt,beq_self,cond_true,Blk.info]) (by
    have h2:=setB_same (.mapIter (some (M1 id)) clk (seen.push z.2.born) clk) (Array.getElem?_eq_some_iff.1 hr3).1
    simp only [World.shape?,h2,hr3]) (setB_same _ (Array.getElem?_eq_some_iff.1 hr3).1)
   have T1:=(Rx.heaps (H':=blkAt ((st1.nx,.obj (.mapIter (some (M1 id)) clk (seen.push z.2.born) clk)) :: (id,.obj (.map ms clk)) :: st1.hp)) (fun i=>by
    by_cases hi:st1.nx=i
    · subst hi
      simp only [wr,blkAt,beq_self,cond_true]
    · simp only [wr,blkAt,beq_ne hi,cond_false])).put (d:=o0.dst) (av:=.tuple [.pv (.bool true),.bot,.bot]) (v:=.tuple #[.bool true,z.2.key,z.2.val]) (by
    simp only [VA,VAs,VP]
    exact ⟨[.bool true,z.2.key,z.2.val],rfl,.bool true,_,rfl,rfl,_,_,rfl,trivial,_,_,rfl,trivial,rfl⟩) (fun k hk=>by show k<X.N; rw [hN]; exact u3 k hk)
   rw [u2] at T1 ⊢
   refine ext true [.bot,.bot] _ ops2 1 (by rw [sz2]; exact Nat.le_refl _) ops1 ⟨X.E,X.K,X.w0,X.S,X.N,G',X.good⟩ M2 _ _ _ rfl hN (Rel.frames T1 (fun t=>.inr rfl)) (fun M4 s4 a4 w4 hs4 T2=>?_)
   subst hs4
   have hcv:=cO_ok (X:=⟨X.E,X.K,X.w0,X.S,X.N,G',X.good⟩) hE' T2 q1
   simp only [evO,look,beq_self,cond_true,VA,VP] at hcv
   refine wp_seq (wp_cond (t:=true) hcv (wp_skip ?_))
   show (Code.block hd.nid _).wp X.E.P _ a4 w4
   refine wp_block (wp_seq (wp_region ?_))
   have sz3:ops3.size=hd.bl1.length + 1:=by have:=s3; simp only [List.length_cons,Array.length_toList] at this; omega
   rw [List.range_eq_range',sz3,List.range'_succ]
   obtain ⟨y1,y2,y3,y4⟩:=cOper_spec p5
   obtain ⟨xe,x1,x2⟩:=inv_ent y1
   rw [wpOps_cons]
   unfold wpOp
   rw [show ops3[0]? = some o2 from p4]
   simp only
   rw [if_pos (guard_ok T2 (by show cGuard X.N ops3 o2.guard=_; rw [hN]; exact y4) rfl)]
   left
   rw [← hit] at x2
   have hv4:=cO_ok (X:=⟨X.E,X.K,X.w0,X.S,X.N,G',X.good⟩) hE' T2 x2
   have hfit4:evO (look ((hd.more,.pv (.bool true)) :: (hd.nx,.tuple [.pv (.bool true),.bot,.bot]) :: fr)) (.t it)=.ptr st1.nx 0 0:=by
    simp only [evO,look,beq_ne (Ne.symm n1),beq_ne (Ne.symm n2),cond_false]
    exact hfit
   simp only [hfit4] at hv4
   simp only [VA] at hv4
   have hev4:a4.eval xe=.pointer (some ⟨M4 st1.nx,0,none⟩):=by
    have:=hv4.2.2 (0,0) (by simp only [viewOf,blkAt,beq_self,cond_true,Blk.info])
    simpa [viewOf] using this
   have hr4:w4.heap[M4 st1.nx]? = some (.mapIter (some (M1 id)) clk (seen.push z.2.born) clk):=by
    have:=T2.blk st1.nx
    rw [show blkAt ((st1.nx,.obj (.mapIter (some (M1 id)) clk (seen.push z.2.born) clk)) :: (id,.obj (.map ms clk)) :: st1.hp) st1.nx=.obj (.mapIter (some (M1 id)) clk (seen.push z.2.born) clk) by simp only [blkAt,beq_self,cond_true]] at this
    exact this
   have hM4:M1 id=M4 id:=by
    have:=T2.gh (.map id) (.map (some (M1 id))) (.inr (.inl ⟨rfl,rfl⟩))
    simp only [VA] at this
    have:=this.2.2 (0,0) (by simp only [viewOf]; rw [hbid]; rfl)
    simpa [viewOf] using this
   have hb4:w4.heap[M1 id]? = some (.map ms clk):=by
    have:=T2.blk id
    rw [hbid] at this
    rw [hM4]
    exact this
   have hrun4:=run_entry_at (P:=X.E.P) w4 (M4 st1.nx) (M1 id) clk seen ms clk z.2 hr4 hb4 (hLs z hz) hstamp
   have hex4:execOp a4.eval o2=(do pure (Next.value (← Instr.entry (a4.eval xe))):Sem Next):=by
    unfold execOp
    rw [x1]
    try rfl
   rw [Oper.wp,hex4,hev4,r_value hrun4,Oper.upon_value]
   have e1:=T2.gh (.pv z.1.1) z.2.key (.inr (.inr ⟨z,hz,.inl ⟨rfl,rfl⟩⟩))
   have e2:=T2.gh (.pv z.1.2) z.2.val (.inr (.inr ⟨z,hz,.inr ⟨rfl,rfl⟩⟩))
   simp only [VA] at e1 e2
   have T3:=T2.put (d:=o2.dst) (av:=.pv (.tuple [z.1.1,z.1.2])) (v:=.tuple #[z.2.key,z.2.val]) (by
    simp only [VA,VP,VPs]
    exact ⟨[z.2.key,z.2.val],rfl,z.2.key,_,rfl,e1,_,_,rfl,e2,rfl⟩) (fun k hk=>by show k<X.N; rw [hN]; exact y3 k hk)
   rw [y2] at T3 ⊢
   have kw:=WPo_runP (E:=X.E) (N:=N) (hp:=(st1.nx,.obj (.mapIter (some (M1 id)) clk (seen.push z.2.born) clk)) :: (id,.obj (.map ms clk)) :: st1.hp) (nx:=st1.nx + 1) hE' f5 (r:=[]) (Q:=fun s=>s=⟨fr2,(st1.nx,.obj (.mapIter (some (M1 id)) clk (seen.push z.2.born) clk)) :: (id,.obj (.map ms clk)) :: st1.hp,st1.nx + 1⟩) (WPo.nil rfl)
   rw [List.append_nil] at kw
   refine kw ops3 (0 + 1) (by rw [sz3]; omega) (fun i x hx=>by
    obtain ⟨o,j1,j2⟩:=s4 (i + 1) x (by simpa using hx)
    exact ⟨o,by rw [show 0 + 1 + i=i + 1 by omega,← Array.getElem?_toList]; exact j1,j2⟩) ⟨X.E,X.K,X.w0,X.S,X.N,G',X.good⟩ M4 _ _ _ rfl hN (Rel.frames T3 (fun t=>.inr rfl)) (fun M5 s5 a5 w5 hs5 T5=>?_)
   subst hs5
   refine WP_flat (E:=X.E) (N:=N) hE' hd.b2 (Q:=fun e s=>e=.normal∧s=⟨fr1,(st1.nx,.obj (.mapIter (some (M1 id)) clk (seen.push z.2.born) clk)) :: (id,.obj (.map ms clk)) :: st1.hp,st1.nx + 1⟩) hfl f6 ⟨rfl,rfl⟩ cf q6 ⟨X.E,X.K,X.w0,X.S,X.N,G',X.good⟩ M5 a5 w5 _ rfl hN T5 (fun e M6 s6 a6 w6 hes T6=>?_)
   obtain ⟨rfl,rfl⟩:=hes
   refine ⟨_,?_,M6,fr1,seen.push z.2.born,vs ++ [z],⟨rfl,f3,T6,by simp [I.stamps],hsub,hnd⟩⟩
   rw [I.num]
   exact left_shrinks ms seen z.2 he
end
section
structure Tab where
 fn:Nat→Option AFunc
 raw:Nat→Bool
 flat:Nat→Bool
 own:Nat→Bool
 still:Nat→Bool
 prim:Nat→Option (List AV→List (Nat × Blk)→Nat→Option (AV × List (Nat × Blk) × Nat))
abbrev Hl:=List (Nat × Blk)
abbrev Cl:=Nat→List AV→Hl→Nat→Option (AV × Hl × Nat)
mutual
def flatP:PV→Bool
 | .bool _ | .int _ _ | .str _ | .nilp | .nilf | .nili=>true
 | .iface _ v=>flatP v
 | .agg l | .tuple l=>flatPs l
 | _=>false
def flatPs:List PV→Bool
 | []=>true
 | p :: r=>flatP p && flatPs r
end
section
variable (T:Tab) (C:Cl)
def ownSz (H:Hp):AV→Option Nat
 | .ms id=>match H id with
  | .row sz _=>some sz
  | _=>none
 | _=>none
def callP (n:Nat) (ps:List PV):Option (Option Nat × PV) :=
 match C n (pvs ps) [] 0 with
 | some (v,hp,_)=>match snapV (blkAt hp) v with
  | some p=>some (ownSz (blkAt hp) v,p)
  | none=>none
 | none=>none
def putP (own:Bool) (d:Option Nat) (st:St):Option Nat × PV→St
 | (some sz,.slice es)=>match own with
  | true=>⟨putS st d (.ms st.nx),(st.nx,.row sz es) :: st.hp,st.nx + 1⟩
  | false=>⟨putS st d (.pv (.slice es)),st.hp,st.nx⟩
 | (_,p)=>⟨putS st d (.pv p),st.hp,st.nx⟩
def flatR:Option Nat × PV→Bool
 | (some _,.slice es)=>es.all flatPs
 | _=>false
def doCall (n:Nat) (args:List AV) (d:Option Nat) (st:St):Option St :=
 match T.raw n with
 | true=>match C n args st.hp st.nx with
  | some (v,hp,nx)=>some ⟨putS st d v,hp,nx⟩
  | none=>none
 | false=>match pureVs args with
  | some ps=>match callP C n ps with
   | some r=>some (putP (T.own n) d st r)
   | none=>none
  | none=>match T.flat n with
   | true=>match snapVs (blkAt st.hp) args with
    | some ps=>match callP C n ps with
     | some (o,p)=>match flatP p with
      | true=>some ⟨putS st d (.pv p),st.hp,st.nx⟩
      | false=>match T.own n && flatR (o,p) with
       | true=>some (putP true d st (o,p))
       | false=>none
     | none=>none
    | none=>none
   | false=>match frzSs (rowIdsL args) st args with
    | (st',args')=>match pureVs args' with
     | some ps=>match callP C n ps with
      | some r=>some (putP (T.own n) d st' r)
      | none=>none
     | none=>none
def dstStore (x:AOper):Bool:=match x.op with
 | .store _ _ _=>match x.dst with
  | none=>true
  | some _=>false
 | _=>true
def againS:AOp→St→Option St
 | .bslice _ _ zs ps,st=>match fillA (look st.fr) zs ps with
  | some cs=>some (frzSs (rowIdsL cs) st []).1
  | none=>none
 | _,_=>none
theorem againS_spec {op:AOp} {st st1:St} (h:againS op st=some st1):op.isStore=false∧∃ l,st1=(frzSs l st []).1:=by
 unfold againS at h
 split at h
 · split at h
   · simp at h
     exact ⟨rfl,_,h.symm⟩
   · simp at h
 · simp at h
def doOp (x:AOper) (st:St):Option St :=
 match x.op with
 | .call n xs=>doCall T C n (evOs (look st.fr) xs) x.dst st
 | .callv f xs=>match funV (evO (look st.fr) f) with
  | some (n,fs,cs)=>doCall T C n (fs ++ (evOs (look st.fr) xs ++ cs)) x.dst st
  | none=>none
 | op=>match evOp (look st.fr) (blkAt st.hp) st.nx op with
  | some (v,W,n)=>match dstStore x with
   | true=>some ⟨putS st x.dst v,W ++ st.hp,st.nx + n⟩
   | false=>none
  | none=>match againS op st with
   | some st1=>match evOp (look st1.fr) (blkAt st1.hp) st1.nx op with
    | some (v,W,n)=>some ⟨putS st1 x.dst v,W ++ st1.hp,st1.nx + n⟩
    | none=>none
   | none=>none
def doO (x:AOper) (st:St):Option St :=
 match guardV (look st.fr) x.guard with
 | some true=>doOp T C x st
 | some false=>some ⟨putS st x.dst (.pv (.tuple [])),st.hp,st.nx⟩
 | none=>none
def runOps:List AOper→St→Option St
 | [],st=>some st
 | x :: r,st=>match doO T C x st with
  | some st'=>runOps r st'
  | none=>none
def callV (own:Bool) (nx:Nat) (r:Option Nat × PV):AV × List (Nat × Blk) × Nat:=match own with
 | false=>(.pv r.2,[],0)
 | true=>match r with
  | (some sz,.slice es)=>(.ms nx,[(nx,.row sz es)],1)
  | (_,p)=>(.pv p,[],0)
def trcC (x:AOper) (st:St) (q:AV × List (Nat × Blk) × Nat):En × St:=(⟨x,false,st.nx,q.1,q.2.1,q.2.2,[]⟩,⟨putS st x.dst q.1,q.2.1 ++ st.hp,st.nx + q.2.2⟩)
def Tab.ownD (T:Tab) (n:Nat):Bool:=Nat.beq n 279 && T.own n
def trcOp (x:AOper) (st:St):Option (En × St) :=
 match x.op with
 | .call n xs=>match T.raw n,pureVs (evOs (look st.fr) xs) with
  | false,some ps=>match callP C n ps with
   | some r=>some (trcC x st (callV (T.ownD n) st.nx r))
   | none=>none
  | _,_=>none
 | .callv f xs=>match funV (evO (look st.fr) f) with
  | some (n,fs,cs)=>match T.raw n,pureVs (fs ++ (evOs (look st.fr) xs ++ cs)) with
   | false,some ps=>match callP C n ps with
    | some (_,p)=>some (⟨x,false,st.nx,.pv p,[],0,[]⟩,⟨putS st x.dst (.pv p),st.hp,st.nx⟩)
    | none=>none
   | _,_=>none
  | none=>none
 | op=>match evOp (look st.fr) (blkAt st.hp) st.nx op with
  | some (v,W,n)=>some (⟨x,false,st.nx,v,W,n,rdEv (look st.fr) op⟩,⟨putS st x.dst v,W ++ st.hp,st.nx + n⟩)
  | none=>none
def trcO (x:AOper) (st:St):Option (En × St) :=
 match guardV (look st.fr) x.guard with
 | some true=>trcOp T C x st
 | some false=>some (⟨x,true,st.nx,.pv (.tuple []),[],0,[]⟩,⟨putS st x.dst (.pv (.tuple [])),st.hp,st.nx⟩)
 | none=>none
def trcs:List AOper→St→Option (List En × St)
 | [],st=>some ([],st)
 | x :: r,st=>match trcO T C x st with
  | some (e,st')=>match trcs r st' with
   | some (es,st'')=>some (e :: es,st'')
   | none=>none
  | none=>none
def rowKeys (H:Hp):Hl→List Nat
 | []=>[]
 | (i,_) :: r=>match H i with
  | .row _ _=>i :: rowKeys H r
  | _=>rowKeys H r
def frzAll (still:Bool) (st:St):St:=match still with
 | true=>(frzSs (rowKeys (blkAt st.hp) st.hp) st []).1
 | false=>st
def runDraw (still:Bool) (l:List AOper) (st:St):Option St :=
 match trcs T C l (frzAll still st) with
 | some (es,st')=>match chkFrom 0 es with
  | true=>some st'
  | false=>none
 | none=>none
def runDrawT (still:Bool) (l:List AOper) (x:AOper) (st:St):Option St :=
 match covB l x with
 | true=>match runDraw T C still l st with
  | some st'=>doO T C x st'
  | none=>none
 | false=>none
def callH (n:Nat) (args:List AV) (st:St):Option (AV × Hl × Nat) :=
 match T.raw n with
 | true=>C n args st.hp st.nx
 | false=>match pureVs args with
  | some ps=>match callP C n ps with
   | some (_,p)=>some (.pv p,st.hp,st.nx)
   | none=>none
  | none=>match snapVs (blkAt st.hp) args with
   | some ps=>match callP C n ps with
    | some (_,p)=>match flatP p with
     | true=>some (.pv p,st.hp,st.nx)
     | false=>none
    | none=>none
   | none=>none
def floatH (x:AOper) (st:St):Option (AV × List (Nat × Blk) × Nat)→Option (Hn × St)
 | some (v,[],0)=>some (⟨x,1,v,rdEv (look st.fr) x.op,[],st.nx,[],0⟩,⟨putS st x.dst v,st.hp,st.nx⟩)
 | _=>none
def heavyH (x:AOper) (st:St):Option (AV × Hl × Nat)→Option (Hn × St)
 | some (v,hp,nx)=>some (⟨x,2,v,[],st.hp,st.nx,hp,nx⟩,⟨putS st x.dst v,hp,nx⟩)
 | none=>none
def stepH (x:AOper) (st:St):Option (Hn × St) :=
 match guardV (look st.fr) x.guard with
 | some true=>match x.op with
  | .call n xs=>heavyH x st (callH T C n (evOs (look st.fr) xs) st)
  | op=>floatH x st (evOp (look st.fr) (blkAt st.hp) st.nx op)
 | some false=>some (⟨x,0,.pv (.tuple []),[],[],0,[],0⟩,⟨putS st x.dst (.pv (.tuple [])),st.hp,st.nx⟩)
 | none=>none
def trcsH:List AOper→St→Option (List Hn × St)
 | [],st=>some ([],st)
 | x :: r,st=>match stepH T C x st with
  | some (e,st')=>match trcsH r st' with
   | some (es,st'')=>some (e :: es,st'')
   | none=>none
  | none=>none
noncomputable def endH (l:List AOper):List Hn × St→Option St
 | (es,st')=>match pairsH 0 l with
  | some ps => @ite _ (dynHAll es ps) (Classical.propDecidable _) (some st') none
  | none=>none
noncomputable def runDrawH (l:List AOper) (st:St):Option St :=
 match trcsH T C l st with
 | some r=>endH l r
 | none=>none
noncomputable def run (still:Bool):Nat→ACode→St→Option (Exit × St)
 | 0,_,_=>none
 | k + 1,.skip,st=>some (.normal,st)
 | k + 1,.ops l,st=>match runOps T C l st with
  | some st'=>some (.normal,st')
  | none=>none
 | k + 1,.draw l,st=>match runDraw T C still l st with
  | some st'=>some (.normal,st')
  | none=>none
 | k + 1,.drawT l x,st=>match runDrawT T C still l x st with
  | some st'=>some (.normal,st')
  | none=>none
 | k + 1,.drawH l,st=>match runDrawH T C l st with
  | some st'=>some (.normal,st')
  | none=>none
 | k + 1,.seq a b,st=>match run still k a st with
  | some (.normal,st')=>run still k b st'
  | r=>r
 | k + 1,.cond c a b,st=>match evO (look st.fr) c with
  | .pv (.bool true)=>run still k a st
  | .pv (.bool false)=>run still k b st
  | _=>none
 | k + 1,.block id b,st=>match run still k b st with
  | some (.exit i,st')=>match Nat.beq i id with
   | true=>some (.normal,st')
   | false=>some (.exit i,st')
  | r=>r
 | k + 1,.loop b,st=>match run still k b st with
  | some (.normal,st')=>run still k (.loop b) st'
  | r=>r
 | k + 1,.rangeM pre m it nx more pair bl,st=>match runOps T C pre st with
  | some st1=>match rangeQ m it nx more pair bl st1 with
   | some st2=>some (.normal,st2)
   | none=>none
  | none=>none
 | k + 1,.exit id,st=>some (.exit id,st)
 | k + 1,.ret,st=>some (.ret,st)
end
def argsA:Nat→List AV→List (Nat × AV)
 | _,[]=>[]
 | k,p :: r=>(k,p) :: argsA (k + 1) r
def retV (f:AFunc):Option (Exit × St)→Option (AV × Hl × Nat)
 | some (.ret,st)=>match resV (look st.fr) (blkAt st.hp) f.res with
  | some vs=>some (resOne vs,st.hp,st.nx)
  | none=>none
 | some (.normal,st)=>match resV (look st.fr) (blkAt st.hp) f.res with
  | some vs=>some (resOne vs,st.hp,st.nx)
  | none=>none
 | _=>none
noncomputable def den (T:Tab):Nat→Cl
 | 0=>fun _ _ _ _=>none
 | k + 1=>fun n args hp nx=>match T.prim n with
  | some g=>g args hp nx
  | none=>match T.fn n with
   | some f=>match Nat.ble args.length f.N with
    | true=>retV f (run T (den T k) (T.still n) k f.body ⟨argsA 0 args,hp,nx⟩)
    | false=>none
   | none=>none
end
def RawC (E:Env) (n:Nat) (args:List AV) (hp:Hl) (nx:Nat) (v:AV) (hp':Hl) (nx':Nat):Prop :=
 Ent E n∧∀ X M F a w vs,X.E=E→Rel X M F (blkAt hp) (fun i=>i<nx) a w→VAs (viewOf X w (fun i=>i<nx) M (blkAt hp)) args vs →
  Calls E.P (E.ρ n) vs.toArray w fun e w'=>∃ u M',e=.returned u∧Rel X M' F (blkAt hp') (fun i=>i<nx') a w'∧VA (viewOf X w' (fun i=>i<nx') M' (blkAt hp')) v u
def OKC (E:Env) (C:Cl):Prop:=∀ n args hp nx v hp' nx',C n args hp nx=some (v,hp',nx')→RawC E n args hp nx v hp' nx'
theorem WPo.step {E:Env} {N:Nat} {x:AOper} {l:List AOper} {Q:St→Prop} {st st1:St} (hg:guardV (look st.fr) x.guard=some true)
    (hd:∀ o,cOp E o=some x.op→o.dst=x.dst→(∀ k,o.dst=some k→k<N)→∀ X M a w (Q:Act→World→Prop) Q',X.E=E→X.N=N→Rl X M st a w→(∀ M' a' w',Rl X M' st1 a' w'→Q a' w')→o.wp E.P a w Q Q')
    (h:WPo E N l Q st1):WPo E N (x :: l) Q st:=by
 intro ops k hk hl X M a w Q' hE hN R hq
 obtain ⟨o,ho,hc⟩:=hl 0 x rfl
 obtain ⟨h1,h2,h3,h4⟩:=cOper_spec hc
 simp only [List.length_cons,List.range'_succ]
 rw [wpOps_cons]
 unfold wpOp
 rw [show ops[k]? = some o from ho]
 simp only
 have hw:=guard_ok (X:=X) (o:=o) R (by rw [hN]; exact h4) hg
 rw [if_pos hw]
 left
 refine hd o h1 h2 h3 X M a w _ _ hE hN R fun M' a' w' R'=>?_
 refine h ops (k + 1) (by simp at hk; omega) (fun j y hy=>?_) X M' a' w' Q' hE hN R' hq
 have:=hl (j + 1) y (by simpa using hy)
 rwa [← Nat.add_assoc,Nat.add_right_comm] at this
theorem WPo.does {E:Env} {N:Nat} {x:AOper} {l:List AOper} {Q:St→Prop} {st:St} {v:AV} {W:List (Nat × Blk)} {n:Nat} (hg:guardV (look st.fr) x.guard=some true)
    (hd:∀ o,cOp E o=some x.op→o.dst=x.dst→(∀ k,o.dst=some k→k<N)→Does E N o (look st.fr) (blkAt st.hp) (fun i=>i<st.nx) v W (fun i=>i<st.nx + n))
    (h:WPo E N l Q ⟨putS st x.dst v,W ++ st.hp,st.nx + n⟩):WPo E N (x :: l) Q st:=WPo.cons hg (fun o h1 h2 h3=>hd o h1 h2 h3) h
theorem look_argsA:∀ (ps:List AV) (k t:Nat),look (argsA k ps) t=if k≤t then (match ps[t - k]? with | some p=>p | none=>.bot) else .bot
 | [],k,t=>by
  simp only [argsA,look,List.getElem?_nil]
  split <;> rfl
 | p :: r,k,t=>by
  simp only [argsA,look]
  by_cases h:k=t
  · subst h
    rw [beq_self]
    simp
  · rw [beq_ne h]
    simp only [cond_false]
    rw [look_argsA r (k + 1) t]
    by_cases h2:k≤t
    · obtain ⟨j,hj⟩:∃ j,t - k=j + 1:=⟨t - k - 1,by omega⟩
      rw [if_pos (by omega),if_pos h2,hj,List.getElem?_cons_succ,show t - (k + 1)=j by omega]
    · rw [if_neg (by omega),if_neg h2]
def Conv (E:Env) (v:AV) (hp:Hl) (nx:Nat) (v':AV) (hp':Hl) (nx':Nat):Prop :=
 ∀ X M F a w u,X.E=E→Rel X M F (blkAt hp) (fun i=>i<nx) a w→VA (viewOf X w (fun i=>i<nx) M (blkAt hp)) v u →
  Rel X M F (blkAt hp') (fun i=>i<nx') a w∧VA (viewOf X w (fun i=>i<nx') M (blkAt hp')) v' u
theorem RawC.of_conv {E:Env} {n:Nat} {af:AFunc} {args:List AV} {hp hp':Hl} {nx nx':Nat} {v:AV} (hE:E.OK) (hf:cFunc E n=some af) (hN:args.length≤af.N)
    (h:WP E af.N af.body (fun e st=>(e=.ret∨e=.normal)∧∃ vs,resV (look st.fr) (blkAt st.hp) af.res=some vs∧Conv E (resOne vs) st.hp st.nx v hp' nx') ⟨argsA 0 args,hp,nx⟩):RawC E n args hp nx v hp' nx':=by
 unfold cFunc at hf
 split at hf
 · rename_i fn hfn
   split at hf
   · simp at hf
   · rename_i hname
     split at hf
     · rename_i c hbody
       split at hf
       · rename_i b l hb hl
         simp at hf
         subst hf
         refine ⟨⟨fn,hfn,by simpa using hname,by simp [hbody]⟩,fun X M F a w vs hX R hv=>?_⟩
         refine calls_of_wp hfn hbody ?_
         have hlen:=VAs_length hv
         have hsz:(vs.toArray ++ Array.replicate (fn.ntmps - vs.toArray.size) undef).size=fn.ntmps:=by
          simp only [Array.size_append,List.size_toArray,Array.size_replicate]
          simp only at hN
          omega
         let X':Ctx:=⟨E,X.K,w,fun b=>∃ i,blkAt hp i ≠ .dead∧M i=b,fn.ntmps,fun v u=>X.G v u∨∃ t,v=F t∧u=a.tmps.getD t undef,⟨hX ▸ R.inv,fun p hp=>fun ⟨i,hi,he⟩=>R.gl p (hX ▸ hp) i hi he⟩⟩
         have hview:∀ w U M H,viewOf X' w U M H=viewOf X w U M H:=fun w U M H=>by simp only [viewOf,X',hX]; rfl
         have R0:Rl X' M ⟨argsA 0 args,hp,nx⟩ { tmps:=vs.toArray ++ Array.replicate (fn.ntmps - vs.toArray.size) undef,defers:=[] } w:=by
          refine { defers:=rfl,size:=hsz,keeps:=Keeps.refl,K:=fun b hb=>Nat.lt_of_lt_of_le (R.K b hb) R.keeps.size,used:=R.used,inj:=R.inj,own:=fun i hi=>⟨(R.own i hi).1,(R.own i hi).2.1,.inl ⟨i,hi,rfl⟩⟩,
                   blk:=fun i=>by rw [hview]; exact R.blk i,gh:=fun v u hg=>?_,fr:=fun t=>?_ }
          · simp only
            rw [look_argsA,hview]
            simp only [Nat.zero_le,if_true,Nat.sub_zero]
            split
            · rename_i p hp
              obtain ⟨l1,m1⟩:=(VAs_iff _ _).1 hv
              have hlt:t<vs.length:=by rw [l1]; exact (List.getElem?_eq_some_iff.1 hp).1
              have:(vs.toArray ++ Array.replicate (fn.ntmps - vs.toArray.size) undef).getD t undef=vs[t]:=by
               simp [Array.getElem?_append,hlt]
              rw [this]
              exact m1 t p _ hp (by simp [hlt])
            · simp only [VA]
          · rw [hview]
            rcases hg with hg | ⟨t,rfl,rfl⟩
            · exact R.gh v u hg
            · exact R.fr t
         refine h c hb X' _ _ _ _ rfl rfl R0 fun e M' st' a' w' hQ R'=>?_
         have main:(∃ vs,resV (look st'.fr) (blkAt st'.hp) l=some vs∧Conv E (resOne vs) st'.hp st'.nx v hp' nx') →
             a'.defers=[]∧∃ x,(results fn a'.tmps).run E.P w'=.ok x w'∧∃ u M',Ending.returned x=.returned u∧Rel X M' F (blkAt hp') (fun i=>i<nx') a w'∧VA (viewOf X w' (fun i=>i<nx') M' (blkAt hp')) v u:=by
          rintro ⟨vs,g1,hconv⟩
          obtain ⟨us,k1,k2,k3⟩:=resV_ok R' hl g1
          have hrun:(fn.results.mapM fun x=>(match x with | .tmp t=>pure (a'.tmps.getD t undef) | .cell a t=>do loadVar t (← asAddr (a'.tmps.getD a undef)):Sem Value)).run E.P w'=.ok us.toArray w':=by
           have hm:(fn.results.toList.mapM fun x=>(match x with | .tmp t=>pure (a'.tmps.getD t undef) | .cell a t=>do loadVar t (← asAddr (a'.tmps.getD a undef)):Sem Value)).run E.P w'=.ok us w':=r_mapM k1 k3
           rw [Array.mapM_eq_mapM_toList,map_eq_pure_bind,rb hm]
           rfl
          refine ⟨R'.defers,if h:us.toArray.size=1 then us.toArray[0] else .tuple us.toArray,?_,_,M',rfl,hconv X M' F a w' _ hX ?_ ?_⟩
          · unfold results
            exact rb hrun
          · refine { defers:=R.defers,size:=R.size,keeps:=R.keeps.trans R'.keeps fun b hb hs=>?_,K:=R.K,used:=R'.used,inj:=R'.inj,own:=fun i hi=>?_,blk:=fun i=>by rw [← hview]; exact R'.blk i,fr:=fun t=>?_,gh:=fun v u hg=>?_ }
            · obtain ⟨i,hi,rfl⟩:=hs
              rcases (R.own i hi).2.2 with h1 | h1
              · exact h1
              · omega
            · obtain ⟨o1,o2,o3⟩:=R'.own i hi
              refine ⟨o1,o2,?_⟩
              rcases o3 with ⟨j,hj,hjm⟩ | o3
              · rw [← hjm]; exact (R.own j hj).2.2
              · exact .inr (Nat.le_trans R.keeps.size o3)
            · rw [← hview]; exact R'.gh _ _ (.inr ⟨t,rfl,rfl⟩)
            · rw [← hview]; exact R'.gh _ _ (.inl hg)
          · rw [← hview]
            have hl2:=VAs_length k2
            unfold resOne
            split
            · rename_i v
              simp only [VAs] at k2
              obtain ⟨u,us',rfl,k4,rfl⟩:=k2
              simpa using k4
            · rename_i hne
              rw [dif_neg]
              · simp only [VA]
                exact ⟨us,rfl,k2⟩
              · intro h1
                have:vs.length=1:=by rw [← hl2]; simpa using h1
                obtain ⟨v,rfl⟩:=List.length_eq_one_iff.1 this
                exact hne v rfl
         obtain ⟨he,hm⟩:=hQ
         rcases he with rfl | rfl
         · exact main hm
         · exact main hm
       · simp at hf
     · simp at hf
 · simp at hf
theorem RawC.of_body {E:Env} {n:Nat} {af:AFunc} {args:List AV} {hp hp':Hl} {nx nx':Nat} {v:AV} (hE:E.OK) (hf:cFunc E n=some af) (hN:args.length≤af.N)
    (h:WP E af.N af.body (fun e st=>(e=.ret∨e=.normal)∧∃ vs,resV (look st.fr) (blkAt st.hp) af.res=some vs∧resOne vs=v∧st.hp=hp'∧st.nx=nx') ⟨argsA 0 args,hp,nx⟩):RawC E n args hp nx v hp' nx':=by
 refine RawC.of_conv hE hf hN (WP.mono h ?_)
 rintro e st ⟨he,vs,h1,h2,h3,h4⟩
 refine ⟨he,vs,h1,fun X M F a w u hX R hu=>?_⟩
 subst h2 h3 h4
 exact ⟨R,hu⟩
theorem RawC.pure {E:Env} {n:Nat} {ps:List PV} {v:AV} {hp:Hl} {nx:Nat} {p:PV} (h:RawC E n (pvs ps) [] 0 v hp nx) (hp':snapV (blkAt hp) v=some p):Pure E n ps p:=by
 refine ⟨h.1,fun K w vs hI hK hv=>?_⟩
 let X:Ctx:=⟨E,K,w,fun _=>False,0,fun _ _=>False,⟨hI,fun _ _ h=>h⟩⟩
 have R:Rel X (fun _=>0) (fun _=>.bot) (blkAt []) (fun i=>i<0) { tmps := #[],defers:=[] } w :=
  { defers:=rfl,size:=rfl,keeps:=Keeps.refl,K:=hK,used:=fun i hi=>absurd rfl hi,inj:=fun i j hi=>absurd rfl hi,own:=fun i hi=>absurd rfl hi,blk:=fun i=>trivial,gh:=fun _ _ h=>h.elim,fr:=fun t=>by simp only [VA] }
 refine (h.2 X _ _ _ w vs rfl R ?_).mono fun e w' hh=>?_
 · refine pvs_iff.2 (VPs_mono ⟨fun b hb=>⟨hb.1,hb.2,fun i hi=>absurd rfl hi⟩,fun _ _=>rfl⟩ _ _ hv)
 · obtain ⟨u,M',rfl,R',hu⟩:=hh
   exact ⟨u,rfl,snapV_ok R' (fun b hb=>⟨hb.1,hb.2.1⟩) (fun i hi=>⟨(R'.own i hi).1,(R'.own i hi).2.1⟩) _ _ _ hp' hu,R'.keeps⟩
end Go.Proofs.YtebfpcfbmhkiiaaGreatDoor.Ab
