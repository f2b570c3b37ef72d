/- The layer, part 2: Ab48, Ab49, Ab51, Ab52, Co67, Sp1, Sp1b, Co05, Sp5, Co09, Sp9, Sp5b, Sp5d, Ab54, Sp6, Sp6b, Sp7, SpU, Co03, Sp3, Ab56, Sp3b, Sp3c, Sp3d, Sp3e, Sp3r, Sp3s, Sp3t, Ab57, Ab58. -/
import Derived.Test.YtimkghkokfhfcaaDoorA1
set_option linter.unusedVariables false
set_option linter.unusedSimpArgs false
namespace Go.Proofs.YtimkghkokfhfcaaDoor.Ab
open Go
inductive Sh where
  | bo
  | nu (k : IntKind)
  | st
  | sl (es : List Sh)
def Sh.flat : Sh → Bool
  | .sl _ => false
  | _ => true
section
variable (P : Program)
def shFs (rec : TypeId → Option (List Sh)) : Nat → List Field → Option (List Sh)
  | _, [] => some []
  | off, f :: r => match rec f.type with
    | some s => if f.offset = off ∧ s.length = P.cellsOf f.type then match shFs rec (off + s.length) r with
        | some ss => some (s ++ ss)
        | none => none
      else none
    | none => none
def shRep (s : List Sh) : Nat → List Sh
  | 0 => []
  | n + 1 => s ++ shRep s n
def shOf : Nat → TypeId → Option (List Sh)
  | 0, _ => none
  | n + 1, t => match P.underlying t with
    | some .bool => some [.bo]
    | some (.int k) => some [.nu k]
    | some .string => some [.st]
    | some (.slice e) => match shOf n e with
      | some es => if es.all Sh.flat = true ∧ es.length = P.cellsOf e ∧ 0 < es.length then some [.sl es] else none
      | none => none
    | some (.struct fs) => match shFs P (shOf n) 0 fs.toList with
      | some ss => if ss.length = P.cellsOf t then some ss else none
      | none => none
    | some (.array m e) => match shOf n e with
      | some es => if es.length = P.cellsOf e ∧ m * P.cellsOf e = P.cellsOf t then some (shRep es m) else none
      | none => none
    | _ => none
end
mutual
def Fits : Sh → PV → Prop
  | .bo, p => ∃ x, p = .bool x
  | .nu k, p => ∃ n, p = .int k n ∧ (Lit.int k n).wf = true
  | .st, p => ∃ x, p = .str x ∧ x.size ≤ maxLen
  | .sl es, p => ∃ l : List (List PV), p = .slice l ∧ ∀ e ∈ l, FitsL es e
def FitsL : List Sh → List PV → Prop
  | [], ps => ps = []
  | s :: r, ps => ∃ p q, ps = p :: q ∧ Fits s p ∧ FitsL r q
end
theorem FitsL_append : ∀ {a b : List Sh} {p q : List PV}, FitsL a p → FitsL b q → FitsL (a ++ b) (p ++ q)
  | [], b, p, q, h1, h2 => by simp only [FitsL] at h1; subst h1; exact h2
  | s :: r, b, p, q, h1, h2 => by
    simp only [FitsL] at h1
    obtain ⟨x, y, rfl, h3, h4⟩ := h1
    simp only [List.cons_append, FitsL]
    exact ⟨x, y ++ q, rfl, h3, FitsL_append h4 h2⟩
theorem FitsL_length : ∀ {a : List Sh} {p : List PV}, FitsL a p → p.length = a.length
  | [], p, h => by simp only [FitsL] at h; subst h; rfl
  | s :: r, p, h => by
    simp only [FitsL] at h
    obtain ⟨x, y, rfl, h3, h4⟩ := h
    simp [FitsL_length h4]
theorem VPs_append {E : Env} {w : World} {ok : Nat → Prop} : ∀ {a b : List PV} {u v : List Value}, VPs E w ok a u → VPs E w ok b v → VPs E w ok (a ++ b) (u ++ v)
  | [], b, u, v, h1, h2 => by simp only [VPs] at h1; subst h1; exact h2
  | p :: r, b, u, v, h1, h2 => by
    simp only [VPs] at h1
    obtain ⟨x, y, rfl, h3, h4⟩ := h1
    simp only [List.cons_append, VPs]
    exact ⟨x, y ++ v, rfl, h3, VPs_append h4 h2⟩
section
variable {E : Env} {P : Program} {w : World} {H : Type} {enc : TypeId × Value → H} {base : Nat} {spare : Nat → Bool} {held : Bool}
def Opens (E : Env) (w : World) (shs : List Sh) (cs : List Value) : Prop :=
  ∃ ps, FitsL shs ps ∧ VPs E w (fun b => b < w.heap.size) ps cs ∧ (∀ v ∈ cs, Scalar v) ∧ (shs.all Sh.flat = true → ∀ v ∈ cs, ∀ a l c, v ≠ .slice a l c)
theorem Opens.nil : Opens E w [] [] := ⟨[], rfl, by simp [VPs], by simp, by simp⟩
theorem Opens.append {a b : List Sh} {u v : List Value} (h1 : Opens E w a u) (h2 : Opens E w b v) : Opens E w (a ++ b) (u ++ v) := by
  obtain ⟨p, f1, v1, s1, l1⟩ := h1
  obtain ⟨q, f2, v2, s2, l2⟩ := h2
  refine ⟨p ++ q, FitsL_append f1 f2, VPs_append v1 v2, fun x hx => ?_, fun hf x hx => ?_⟩
  · rcases List.mem_append.1 hx with h | h
    · exact s1 x h
    · exact s2 x h
  · simp only [List.all_append, Bool.and_eq_true] at hf
    rcases List.mem_append.1 hx with h | h
    · exact l1 hf.1 x h
    · exact l2 hf.2 x h
theorem Opens.length {a : List Sh} {u : List Value} (h : Opens E w a u) : u.length = a.length := by
  obtain ⟨p, f1, v1, _⟩ := h
  rw [← FitsL_length f1]
  clear f1
  rename_i hh
  clear hh
  induction p generalizing u with
  | nil => simp only [VPs] at v1; subst v1; rfl
  | cons x r ih =>
    simp only [VPs] at v1
    obtain ⟨y, z, rfl, _, h⟩ := v1
    simp [ih h]
def Spots (ss : List Sh) (cs : List Value) : Prop := ss.all Sh.flat = true ∨ ∀ v ∈ cs, ∀ a l c, v = .slice (some a) l c → a.spot = none
theorem open_fs {rec : TypeId → Option (List Sh)} {n : Nat} {cs : List Value}
    (hrec : ∀ t ss cs' x, rec t = some ss → DataW.trod enc P w base spare held n t cs' = some x → Spots ss cs' → Opens E w ss cs') :
    ∀ (fs : List Field) (off : Nat) (ss : List Sh), Spots ss cs → shFs P rec off fs = some ss → (∀ f ∈ fs, ∃ x, DataW.trod enc P w base spare held n f.type ((cs.drop f.offset).take (P.cellsOf f.type)) = some x) → Opens E w ss ((cs.drop off).take ss.length)
  | [], off, ss, _, h, _ => by
    simp only [shFs, Option.some.injEq] at h
    subst h
    simpa using Opens.nil
  | f :: r, off, ss, hsp, h, hall => by
    simp only [shFs] at h
    split at h
    · rename_i s hs
      split at h
      · rename_i hc
        split at h
        · rename_i ss' hss
          simp only [Option.some.injEq] at h
          subst h
          obtain ⟨x, hx⟩ := hall f (by simp)
          have hf : (s ++ ss').all Sh.flat = true → s.all Sh.flat = true ∧ ss'.all Sh.flat = true := by
            intro h; rw [List.all_append, Bool.and_eq_true] at h; exact h
          have h1 := hrec _ _ _ _ hs hx (hsp.elim (fun h => .inl (hf h).1) fun h => .inr fun v hv => h v (List.mem_of_mem_drop (List.mem_of_mem_take hv)))
          have h2 := open_fs hrec r (off + s.length) ss' (hsp.elim (fun h => .inl (hf h).2) .inr) hss (fun g hg => hall g (by simp [hg]))
          rw [hc.1, ← hc.2] at h1
          have : (cs.drop off).take (s ++ ss').length = (cs.drop off).take s.length ++ (cs.drop (off + s.length)).take ss'.length := by
            rw [List.length_append, List.take_add, List.drop_drop]
          rw [this]
          exact h1.append h2
        · simp at h
      · simp at h
    · simp at h
theorem open_rep {es : List Sh} {n : Nat} {e : TypeId} {cs : List Value}
    (hrec : ∀ cs' x, DataW.trod enc P w base spare held n e cs' = some x → Spots es cs' → Opens E w es cs') (hl : es.length = P.cellsOf e) :
    ∀ (m k : Nat), Spots (shRep es m) cs → (∀ i, i < m → ∃ x, DataW.trod enc P w base spare held n e ((cs.drop ((k + i) * P.cellsOf e)).take (P.cellsOf e)) = some x) → Opens E w (shRep es m) ((cs.drop (k * P.cellsOf e)).take (m * P.cellsOf e))
  | 0, k, _, _ => by simpa [shRep] using Opens.nil
  | m + 1, k, hsp, hall => by
    have hf : (es ++ shRep es m).all Sh.flat = true → es.all Sh.flat = true ∧ (shRep es m).all Sh.flat = true := by
      intro h; rw [List.all_append, Bool.and_eq_true] at h; exact h
    obtain ⟨x, hx⟩ := hall 0 (by omega)
    have h1 := hrec _ _ hx (hsp.elim (fun h => .inl (hf h).1) fun h => .inr fun v hv => h v (List.mem_of_mem_drop (List.mem_of_mem_take hv)))
    have h2 := open_rep hrec hl m (k + 1) (hsp.elim (fun h => .inl (hf h).2) .inr) (fun i hi => by
      have := hall (i + 1) (by omega)
      rwa [show k + (i + 1) = k + 1 + i by omega] at this)
    have : (cs.drop (k * P.cellsOf e)).take ((m + 1) * P.cellsOf e) = (cs.drop (k * P.cellsOf e)).take (P.cellsOf e) ++ (cs.drop ((k + 1) * P.cellsOf e)).take (m * P.cellsOf e) := by
      rw [Nat.succ_mul, Nat.add_comm (m * P.cellsOf e), List.take_add, List.drop_drop, Nat.succ_mul]
    rw [this]
    exact h1.append h2
theorem add_at (b o n : Nat) : (⟨b, o, none⟩ : Addr).add n = ⟨b, o + n, none⟩ := by
  unfold Addr.add
  split
  · rename_i h; subst h; rfl
  · rfl
theorem open_elems {P : Program} {es : List Sh} {e : TypeId} {ab : Nat} (hlen : es.length = P.cellsOf e) :
    ∀ (len ao : Nat), (∀ i, i < len → ∃ cs', w.cells? base ((⟨ab, ao, none⟩ : Addr).add (i * P.cellsOf e)) (P.cellsOf e) = some cs' ∧ Opens E w es cs') →
      ∃ rows : List (List PV), rows.length = len ∧ (∀ r ∈ rows, FitsL es r) ∧ VElems E w (fun b => b < w.heap.size) rows ab ao (P.cellsOf e)
  | 0, ao, _ => ⟨[], rfl, by simp, by simp [VElems]⟩
  | len + 1, ao, h => by
    obtain ⟨cs', h1, ps, f1, v1, s1, _⟩ := h 0 (by omega)
    obtain ⟨rows, g1, g2, g3⟩ := open_elems hlen len (ao + P.cellsOf e) (fun i hi => by
      have := h (i + 1) (by omega)
      rw [add_at] at this ⊢
      rwa [Nat.succ_mul, Nat.add_comm (i * P.cellsOf e), ← Nat.add_assoc] at this)
    obtain ⟨_, c1, c2⟩ := World.cells?_some h1
    refine ⟨ps :: rows, by simp [g1], fun r hr => ?_, ?_⟩
    · rcases List.mem_cons.1 hr with rfl | hr
      · exact f1
      · exact g2 r hr
    · simp only [VElems]
      refine ⟨by rw [FitsL_length f1, hlen], ?_, g3⟩
      have hcell : ∀ i, i < P.cellsOf e → w.cell? ⟨ab, ao + i, none⟩ = cs'[i]? := fun i hi => by
        have := c2 i hi
        rwa [Nat.zero_mul, add_at, add_at, Nat.add_zero] at this
      clear f1 h1 c2 g3
      rw [← c1] at hcell
      have key : ∀ (ps : List PV) (cs' : List Value) (o : Nat), VPs E w (fun b => b < w.heap.size) ps cs' → (∀ v ∈ cs', Scalar v) → (∀ i, i < cs'.length → w.cell? ⟨ab, o + i, none⟩ = cs'[i]?) → VRun E w (fun b => b < w.heap.size) ps ab o := by
        intro ps
        induction ps with
        | nil => intro cs' o _ _ _; simp [VRun]
        | cons p r ih =>
          intro cs' o hv hs hc
          simp only [VPs] at hv
          obtain ⟨u, us, rfl, k1, k2⟩ := hv
          simp only [VRun]
          refine ⟨⟨u, ?_, hs u (by simp), k1⟩, ih us (o + 1) k2 (fun v hv => hs v (by simp [hv])) fun i hi => ?_⟩
          · have := hc 0 (by simp)
            simpa using this
          · have := hc (i + 1) (by simpa using hi)
            rw [show o + (i + 1) = o + 1 + i by omega] at this
            simpa using this
      exact key ps cs' ao v1 s1 hcell
theorem open_sh {P : Program} : ∀ (d : Nat) (t : TypeId) (ss : List Sh), shOf P d t = some ss → ∀ (n : Nat) (cs : List Value) (x : DataW H × List MemPlace), DataW.trod enc P w base spare held n t cs = some x → Spots ss cs → Opens E w ss cs
  | 0, t, ss, hs, _, _, _, _, _ => by simp [shOf] at hs
  | d + 1, t, ss, hs, n, cs, x, h, hsp => by
    simp only [shOf] at hs
    split at hs
    · rename_i ht
      simp at hs; subst hs
      obtain ⟨b, rfl, _⟩ := DataW.trod_bool ht h
      exact ⟨[.bool b], ⟨_, _, rfl, ⟨b, rfl⟩, rfl⟩, by simp [VPs, VP], by simp [Scalar], by simp⟩
    · rename_i k ht
      simp at hs; subst hs
      obtain ⟨m, rfl, _, hw⟩ := DataW.trod_int ht h
      exact ⟨[.int k m], ⟨_, _, rfl, ⟨m, rfl, hw⟩, rfl⟩, by simp [VPs, VP], by simp [Scalar], by simp⟩
    · rename_i ht
      simp at hs; subst hs
      obtain ⟨s, rfl, _, hw⟩ := DataW.trod_string ht h
      exact ⟨[.str s], ⟨_, _, rfl, ⟨s, rfl, hw⟩, rfl⟩, by simp [VPs, VP], by simp [Scalar], by simp⟩
    · rename_i e ht
      split at hs
      · rename_i es he
        split at hs
        · rename_i hc
          simp at hs; subst hs
          obtain ⟨hflat, hlen, hpos⟩ := hc
          rcases DataW.trod_slice ht h with ⟨rfl, _⟩ | ⟨a, len, cap, elems, rest, m, _, rfl, _, hb, hl, hm, hel, hcs, _⟩
          · exact ⟨[.slice []], ⟨_, _, rfl, ⟨[], rfl, by simp⟩, rfl⟩, ⟨_, _, rfl, ⟨none, 0, 0, rfl, rfl, Nat.le_refl _, fun h => by simp at h⟩, rfl⟩, by simp [Scalar], by simp [Sh.flat]⟩
          · have hspot : a.spot = none := by
              rcases hsp with h | h
              · simp [Sh.flat] at h
              · exact h _ (List.mem_singleton.2 rfl) a len cap rfl
            obtain ⟨ab, ao, asp⟩ := a
            simp only at hspot
            subst hspot
            have each : ∀ i, i < len → ∃ cs', w.cells? base ((⟨ab, ao, none⟩ : Addr).add (i * P.cellsOf e)) (P.cellsOf e) = some cs' ∧ Opens E w es cs' := by
              intro i hi
              have h1 := hcs i hi
              have : ∃ y, elems[i]? = some y := ⟨elems[i]'(by omega), by simp [hel, hi]⟩
              obtain ⟨y, hy⟩ := this
              rw [hy, Option.bind_eq_some_iff] at h1
              obtain ⟨cs', hc1, hc2⟩ := h1
              exact ⟨cs', hc1, open_sh d e es he _ _ _ hc2 (.inl hflat)⟩
            obtain ⟨rows, r1, r2, r3⟩ := open_elems hlen len ao each
            refine ⟨[.slice rows], ⟨_, _, rfl, ⟨rows, rfl, r2⟩, rfl⟩, ?_, by simp [Scalar], by simp [Sh.flat]⟩
            simp only [VPs, VP]
            refine ⟨_, _, rfl, ⟨some ⟨ab, ao, none⟩, len, cap, rfl, r1.symm, hl, fun hp => ⟨ab, ao, P.cellsOf e, rfl, ?_, r3⟩⟩, rfl⟩
            obtain ⟨cs', c1, _⟩ := each 0 (by omega)
            have := World.cells?_block c1 (by omega)
            rwa [add_at] at this
        · simp at hs
      · simp at hs
    · rename_i fs ht
      split at hs
      · rename_i ss' hss
        split at hs
        · rename_i hc
          simp at hs; subst hs
          obtain ⟨xs, m, rfl, _, hlen, hxl, hall⟩ := DataW.trod_struct ht h
          have h1 := open_fs (E := E) (cs := cs) (rec := shOf P d) (n := m) (enc := enc) (base := base) (spare := spare) (held := held) (fun t ss cs' x hr hx hsp' => open_sh d t ss hr m cs' x hx hsp') fs.toList 0 ss' hsp hss (fun f hf => by
            obtain ⟨i, hi, rfl⟩ := List.getElem_of_mem hf
            have hi' : i < fs.size := by simpa using hi
            have := hall i fs[i] (by simp [hi'])
            refine ⟨xs[i]'(by omega), ?_⟩
            rw [Array.getElem_toList, this]
            simp [hxl, hi'])
          rwa [hc, ← hlen, List.drop_zero, List.take_length] at h1
        · simp at hs
      · simp at hs
    · rename_i m e ht
      split at hs
      · rename_i es he
        split at hs
        · rename_i hc
          simp at hs; subst hs
          obtain ⟨xs, k, rfl, _, hlen, hxl, hall⟩ := DataW.trod_array ht h
          have h1 := open_rep (E := E) (cs := cs) (es := es) (e := e) (n := k) (enc := enc) (base := base) (spare := spare) (held := held) (fun cs' x hx hsp' => open_sh d e es he k cs' x hx hsp') hc.1 m 0 hsp (fun i hi => by
            have := hall i hi
            rw [Nat.zero_add]
            exact ⟨xs[i]'(by omega), by rw [this]; simp [hxl, hi]⟩)
          rwa [hc.2, ← hlen, Nat.zero_mul, List.drop_zero, List.take_length] at h1
        · simp at hs
      · simp at hs
    · simp at hs
theorem spot_of_cell {r : Reach} {base : Nat} {u : TypeId} {a : Addr} {l c : Nat} (h : Cell.okWide P w r base u (.slice (some a) l c)) : a.spot = none := by
  unfold Cell.okWide at h
  split at h <;> rename_i h2 <;> first | (simp at h2; done) | skip
  unfold Cell.ok at h
  split at h <;> rename_i h3 h4 <;> first | (simp at h4; done) | skip
  all_goals first | exact h.elim | (simp at h4; obtain ⟨rfl, rfl, rfl⟩ := h4; exact h.2.2.2.1)
theorem open_agg {r : Reach} {d : Nat} {t : TypeId} {v : Value} {ss : List Sh} {x : DataW H} {ps : List MemPlace} (hagg : (match P.underlying t with | some (.struct _) => true | some (.array _ _) => true | _ => false) = true)
    (hs : shOf P d t = some ss) (hval : Value.okWide P w r base t v) (h : DataW.Trod enc P w 0 (fun _ => true) true t v x ps) : ∃ l, FitsL ss l ∧ VP E w (fun b => b < w.heap.size) (.agg l) v := by
  obtain ⟨n, h⟩ := h
  have : ∃ cs, v = .agg cs ∧ Row.okWide P w r base t cs := by
    unfold Value.okWide at hval
    split at hagg
    · rename_i hu; rw [hu] at hval; obtain ⟨cs, h1, _, h2⟩ := hval; exact ⟨cs, h1, h2⟩
    · rename_i hu; rw [hu] at hval; obtain ⟨cs, h1, _, h2⟩ := hval; exact ⟨cs, h1, h2⟩
    · simp at hagg
  obtain ⟨cs, rfl, ts, _, _, hcell⟩ := this
  obtain ⟨l, h1, h2, _, _⟩ := open_sh (E := E) d t ss hs n _ _ h (.inr fun v hv a l c hvv => by
    obtain ⟨i, hi, hiv⟩ := List.getElem_of_mem (show v ∈ cs.toList from hv)
    obtain ⟨u, _, h5⟩ := hcell i v (by rw [← Array.getElem?_toList, List.getElem?_eq_getElem hi, hiv])
    rw [hvv] at h5
    exact spot_of_cell h5)
  refine ⟨l, h1, ?_⟩
  simp only [VP]
  exact ⟨cs.toList, by simp, h2⟩
theorem open_one {r : Reach} {d : Nat} {t : TypeId} {v : Value} {s : Sh} {x : DataW H} {ps : List MemPlace} (hagg : (match P.underlying t with | some (.struct _) => true | some (.array _ _) => true | _ => false) = false)
    (hs : shOf P d t = some [s]) (hval : Value.okWide P w r base t v) (h : DataW.Trod enc P w 0 (fun _ => true) true t v x ps) : ∃ p, Fits s p ∧ VP E w (fun b => b < w.heap.size) p v := by
  obtain ⟨n, h⟩ := h
  have hc : Cell.okWide P w r base t v := by
    unfold Value.okWide at hval
    split at hval
    · rename_i hu; simp [hu] at hagg
    · rename_i hu; simp [hu] at hagg
    · exact hval
  have hv : v.cells.toList = [v] := by
    cases v <;> first | rfl | skip
    unfold Cell.okWide at hc
    split at hc <;> rename_i h2 <;> first | (simp at h2; done) | skip
    unfold Cell.ok at hc
    split at hc <;> rename_i h3 h4 <;> first | (simp at h4; done) | exact hc.elim
  rw [hv] at h
  obtain ⟨l, h1, h2, _, _⟩ := open_sh (E := E) d t [s] hs n _ _ h (.inr fun u hu a l c hvv => by
    simp only [List.mem_singleton] at hu
    subst hu
    rw [hvv] at hc
    exact spot_of_cell hc)
  simp only [FitsL] at h1
  obtain ⟨p, q, rfl, h3, rfl⟩ := h1
  simp only [VPs] at h2
  obtain ⟨u, us, h4, h5, rfl⟩ := h2
  simp only [List.cons.injEq] at h4
  exact ⟨p, h3, h4.1 ▸ h5⟩
end
end Go.Proofs.YtimkghkokfhfcaaDoor.Ab
set_option linter.unusedVariables false
set_option linter.unusedSimpArgs false
namespace Go.Proofs.YtimkghkokfhfcaaDoor.Ab
open Go
def lkN : List (Nat × Nat) → Nat → Option Nat
  | [], _ => none
  | (a, b) :: r, n => cond (Nat.beq a n) (some b) (lkN r n)
def lkR : List (Nat × Nat) → Nat → Option Nat
  | [], _ => none
  | (a, b) :: r, n => cond (Nat.beq b n) (some a) (lkR r n)
def envOf (P : Program) (fs ts : List (Nat × Nat)) (nt : Nat) (gl : List (Nat × Value)) : Env :=
  ⟨P, fun n => (lkN fs n).getD 1000000, fun n => (lkN ts n).getD (1000000 + n), lkR fs, lkR ts, nt, gl⟩
def okN (fs : List (Nat × Nat)) : Bool := fs.all fun p => Nat.beq ((lkN fs p.1).getD 1000000) p.2
def okT (ts : List (Nat × Nat)) (nt : Nat) : Bool := ts.all (fun p => Nat.beq ((lkN ts p.1).getD (1000000 + p.1)) p.2 && Nat.blt p.1 nt) &&
  (List.range nt).all fun n => (List.range nt).all fun m => Nat.beq n m || !(Nat.beq ((lkN ts n).getD (1000000 + n)) ((lkN ts m).getD (1000000 + m)))
theorem lkR_mem : ∀ {l : List (Nat × Nat)} {f n : Nat}, lkR l f = some n → (n, f) ∈ l
  | [], f, n, h => by simp [lkR] at h
  | (a, b) :: r, f, n, h => by
    simp only [lkR] at h
    by_cases hb : b = f
    · subst hb; rw [beq_self] at h; simp at h; subst h; simp
    · rw [beq_ne hb] at h; exact List.mem_cons_of_mem _ (lkR_mem h)
theorem envOf_ok {P : Program} {fs ts : List (Nat × Nat)} {nt : Nat} {gl : List (Nat × Value)} (h1 : okN fs = true) (h2 : okT ts nt = true) (h3 : P.follows .mixedOrders = true) : (envOf P fs ts nt gl).OK where
  rho := fun f n h => by
    have := List.all_eq_true.1 h1 _ (lkR_mem h)
    exact Nat.eq_of_beq_eq_true this
  tau := fun t n h => by
    unfold okT at h2
    rw [Bool.and_eq_true] at h2
    have := List.all_eq_true.1 h2.1 _ (lkR_mem h)
    rw [Bool.and_eq_true] at this
    exact ⟨Nat.eq_of_beq_eq_true this.1, Nat.le_of_ble_eq_true this.2⟩
  inj := fun n m hn hm h => by
    unfold okT at h2
    rw [Bool.and_eq_true] at h2
    have := List.all_eq_true.1 (List.all_eq_true.1 h2.2 n (List.mem_range.2 hn)) m (List.mem_range.2 hm)
    rw [Bool.or_eq_true] at this
    rcases this with h' | h'
    · exact Nat.eq_of_beq_eq_true h'
    · have h : (lkN ts n).getD (1000000 + n) = (lkN ts m).getD (1000000 + m) := h
      rw [h, beq_self] at h'
      simp at h'
  mixed := h3
abbrev Prm := List AV → Hl → Nat → Option (AV × Hl × Nat)
def lkF : List (Nat × AFunc) → Nat → Option AFunc
  | [], _ => none
  | (a, f) :: r, n => cond (Nat.beq a n) (some f) (lkF r n)
def lkP : List (Nat × Prm) → Nat → Option Prm
  | [], _ => none
  | (a, f) :: r, n => cond (Nat.beq a n) (some f) (lkP r n)
def inL (l : List Nat) (n : Nat) : Bool := l.any fun a => Nat.beq a n
def tabOf (l : List (Nat × AFunc)) (raw flat own still : List Nat) (ps : List (Nat × Prm)) : Tab := ⟨lkF l, inL raw, inL flat, inL own, inL still, lkP ps⟩
theorem lkF_mem : ∀ {l : List (Nat × AFunc)} {n : Nat} {f : AFunc}, lkF l n = some f → (n, f) ∈ l
  | [], n, f, h => by simp [lkF] at h
  | (a, b) :: r, n, f, h => by
    simp only [lkF] at h
    by_cases hb : a = n
    · subst hb; rw [beq_self] at h; simp at h; subst h; simp
    · rw [beq_ne hb] at h; exact List.mem_cons_of_mem _ (lkF_mem h)
theorem lkP_mem : ∀ {l : List (Nat × Prm)} {n : Nat} {f : Prm}, lkP l n = some f → (n, f) ∈ l
  | [], n, f, h => by simp [lkP] at h
  | (a, b) :: r, n, f, h => by
    simp only [lkP] at h
    by_cases hb : a = n
    · subst hb; rw [beq_self] at h; simp at h; subst h; simp
    · rw [beq_ne hb] at h; exact List.mem_cons_of_mem _ (lkP_mem h)
def TiesL (E : Env) : List (Nat × AFunc) → Prop
  | [] => True
  | (n, f) :: r => cFunc E n = some f ∧ TiesL E r
def PrimsL (E : Env) : List (Nat × Prm) → Prop
  | [] => True
  | (n, g) :: r => (∀ args hp nx v hp' nx', g args hp nx = some (v, hp', nx') → RawC E n args hp nx v hp' nx') ∧ PrimsL E r
theorem TiesL.mem {E : Env} : ∀ {l : List (Nat × AFunc)}, TiesL E l → ∀ {n : Nat} {f : AFunc}, (n, f) ∈ l → cFunc E n = some f
  | (a, b) :: r, h, n, f, hm => by
    rcases List.mem_cons.1 hm with hm | hm
    · simp only [Prod.mk.injEq] at hm
      obtain ⟨rfl, rfl⟩ := hm
      exact h.1
    · exact TiesL.mem h.2 hm
theorem PrimsL.mem {E : Env} : ∀ {l : List (Nat × Prm)}, PrimsL E l → ∀ {n : Nat} {g : Prm}, (n, g) ∈ l → ∀ args hp nx v hp' nx', g args hp nx = some (v, hp', nx') → RawC E n args hp nx v hp' nx'
  | (a, b) :: r, h, n, f, hm => by
    rcases List.mem_cons.1 hm with hm | hm
    · simp only [Prod.mk.injEq] at hm
      obtain ⟨rfl, rfl⟩ := hm
      exact h.1
    · exact PrimsL.mem h.2 hm
theorem tied_of {E : Env} {l : List (Nat × AFunc)} {raw flat own still : List Nat} {ps : List (Nat × Prm)} (h1 : TiesL E l) (h2 : PrimsL E ps) : Tied E (tabOf l raw flat own still ps) where
  fn := fun n f _ h => h1.mem (lkF_mem h)
  prim := fun n g h => h2.mem (lkP_mem h)
theorem law_calls {E : Env} {T : Tab} (hE : E.OK) (hT : Tied E T) {n : Nat} {ps : List PV} (h : Gives T n ps (.bool true)) {w : World} {vs : List Value} (hI : E.inv w) (hv : VPs E w (fun b => b < w.heap.size) ps vs) :
    Calls E.P (E.ρ n) vs.toArray w fun e w' => e = .returned (.bool true) ∧ Go.RowKit.Below w.heap.size w w' := by
  obtain ⟨_, _, o, hc⟩ := h
  obtain ⟨v, hp, nx, h1, h2, _⟩ := callP_spec hc
  have hP := (D_sound hE hT _ _ _ _ _ _ _ h1).pure h2
  refine (hP.2 (fun _ => False) w vs hI (fun b hb => hb.elim) (VPs_mono ⟨fun b hb => ⟨hb, fun h => h⟩, fun _ _ => rfl⟩ _ _ hv)).mono fun e w' hh => ?_
  obtain ⟨u, rfl, h3, h4⟩ := hh
  simp only [VP] at h3
  subst h3
  exact ⟨rfl, h4.os, h4.tape, h4.output, h4.size, fun k hk => h4.block k hk (fun h => h)⟩
/-! ### What the laws are handed -/
def inI (n : Int) : Prop := -9223372036854775808 ≤ n ∧ n ≤ 9223372036854775807
def inU (n : Int) : Prop := 0 ≤ n ∧ n ≤ 18446744073709551615
theorem wf_i64 {n : Int} (h : (Lit.int .i64 n).wf = true) : inI n := by
  simp only [Lit.wf, Bool.and_eq_true, decide_eq_true_eq] at h
  exact h
theorem wf_u64 {n : Int} (h : (Lit.int .u64 n).wf = true) : inU n := by
  simp only [Lit.wf, Bool.and_eq_true, decide_eq_true_eq] at h
  exact h
theorem rows_map {α : Type} {enc : α → List PV} {W : α → Prop} : ∀ {l : List (List PV)}, (∀ e ∈ l, ∃ x, e = enc x ∧ W x) → ∃ xs : List α, l = xs.map enc ∧ ∀ x ∈ xs, W x
  | [], _ => ⟨[], rfl, by simp⟩
  | e :: r, h => by
    obtain ⟨x, rfl, hx⟩ := h e (by simp)
    obtain ⟨xs, rfl, hxs⟩ := rows_map (fun e he => h e (List.mem_cons_of_mem _ he))
    exact ⟨x :: xs, rfl, by simpa using ⟨hx, hxs⟩⟩
def Vec.wf (v : Vec) : Prop := inU v.a ∧ inU v.b ∧ inU v.c ∧ inU v.d
def Node.wf (n : Node) : Prop := inI n.id ∧ inI n.zone ∧ n.cap.wf ∧ n.held.wf
def Load.wf (l : Load) : Prop := inI l.id ∧ inI l.skew ∧ inI l.min ∧ inI l.max
def Pod.wf (p : Pod) : Prop := inI p.id ∧ inI p.load ∧ inI p.prio ∧ p.req.wf ∧ inI p.node
def Want.wf (w : Want) : Prop := inI w.pod ∧ w.req.wf
def Move.wf (m : Move) : Prop := inI m.kind ∧ inI m.pod ∧ inI m.node ∧ inI m.over
def Snap.wf (s : Snap) : Prop := (∀ n ∈ s.nodes, n.wf) ∧ (∀ l ∈ s.loads, l.wf) ∧ ∀ p ∈ s.pods, p.wf
def Spec.wf (x : Spec) : Prop := (∀ w ∈ x.wants, w.wf) ∧ inI x.pre ∧ inI x.shi
def State.wf (t : State) : Prop := (∀ p ∈ t.pods, p.wf) ∧ inI t.pre ∧ inI t.shi
def nodeS : List Sh := [.nu .i64, .nu .i64, .nu .u64, .nu .u64, .nu .u64, .nu .u64, .nu .u64, .nu .u64, .nu .u64, .nu .u64]
def loadS : List Sh := [.nu .i64, .bo, .nu .i64, .nu .i64, .nu .i64]
def podS : List Sh := [.nu .i64, .nu .i64, .nu .i64, .nu .u64, .nu .u64, .nu .u64, .nu .u64, .nu .i64]
def wantS : List Sh := [.nu .i64, .nu .u64, .nu .u64, .nu .u64, .nu .u64, .bo]
theorem fits_node {e : List PV} (h : FitsL nodeS e) : ∃ n : Node, e = nodeC n ∧ n.wf := by
  simp only [nodeS, FitsL, Fits] at h
  obtain ⟨_, _, rfl, ⟨a, rfl, h1⟩, _, _, rfl, ⟨b, rfl, h2⟩, _, _, rfl, ⟨c, rfl, h3⟩, _, _, rfl, ⟨d, rfl, h4⟩, _, _, rfl, ⟨f, rfl, h5⟩, _, _, rfl, ⟨g, rfl, h6⟩, _, _, rfl, ⟨i, rfl, h7⟩, _, _, rfl, ⟨j, rfl, h8⟩, _, _, rfl, ⟨k, rfl, h9⟩, _, _, rfl, ⟨l, rfl, h10⟩, rfl⟩ := h
  exact ⟨⟨a, b, ⟨c, d, f, g⟩, ⟨i, j, k, l⟩⟩, rfl, wf_i64 h1, wf_i64 h2, ⟨wf_u64 h3, wf_u64 h4, wf_u64 h5, wf_u64 h6⟩, wf_u64 h7, wf_u64 h8, wf_u64 h9, wf_u64 h10⟩
theorem fits_load {e : List PV} (h : FitsL loadS e) : ∃ n : Load, e = loadC n ∧ n.wf := by
  simp only [loadS, FitsL, Fits] at h
  obtain ⟨_, _, rfl, ⟨a, rfl, h1⟩, _, _, rfl, ⟨b, rfl⟩, _, _, rfl, ⟨c, rfl, h3⟩, _, _, rfl, ⟨d, rfl, h4⟩, _, _, rfl, ⟨f, rfl, h5⟩, rfl⟩ := h
  exact ⟨⟨a, b, c, d, f⟩, rfl, wf_i64 h1, wf_i64 h3, wf_i64 h4, wf_i64 h5⟩
theorem fits_pod {e : List PV} (h : FitsL podS e) : ∃ n : Pod, e = podC n ∧ n.wf := by
  simp only [podS, FitsL, Fits] at h
  obtain ⟨_, _, rfl, ⟨a, rfl, h1⟩, _, _, rfl, ⟨b, rfl, h2⟩, _, _, rfl, ⟨c, rfl, h3⟩, _, _, rfl, ⟨d, rfl, h4⟩, _, _, rfl, ⟨f, rfl, h5⟩, _, _, rfl, ⟨g, rfl, h6⟩, _, _, rfl, ⟨i, rfl, h7⟩, _, _, rfl, ⟨j, rfl, h8⟩, rfl⟩ := h
  exact ⟨⟨a, b, c, ⟨d, f, g, i⟩, j⟩, rfl, wf_i64 h1, wf_i64 h2, wf_i64 h3, ⟨wf_u64 h4, wf_u64 h5, wf_u64 h6, wf_u64 h7⟩, wf_i64 h8⟩
theorem fits_want {e : List PV} (h : FitsL wantS e) : ∃ n : Want, e = wantC n ∧ n.wf := by
  simp only [wantS, FitsL, Fits] at h
  obtain ⟨_, _, rfl, ⟨a, rfl, h1⟩, _, _, rfl, ⟨b, rfl, h2⟩, _, _, rfl, ⟨c, rfl, h3⟩, _, _, rfl, ⟨d, rfl, h4⟩, _, _, rfl, ⟨f, rfl, h5⟩, _, _, rfl, ⟨g, rfl⟩, rfl⟩ := h
  exact ⟨⟨a, ⟨b, c, d, f⟩, g⟩, rfl, wf_i64 h1, wf_u64 h2, wf_u64 h3, wf_u64 h4, wf_u64 h5⟩
theorem fits_snap {e : List PV} (h : FitsL [.sl nodeS, .sl loadS, .sl podS] e) : ∃ s : Snap, .agg e = snapP s ∧ s.wf := by
  simp only [FitsL, Fits] at h
  obtain ⟨_, _, rfl, ⟨a, rfl, h1⟩, _, _, rfl, ⟨b, rfl, h2⟩, _, _, rfl, ⟨c, rfl, h3⟩, rfl⟩ := h
  obtain ⟨x, rfl, k1⟩ := rows_map (fun e he => fits_node (h1 e he))
  obtain ⟨y, rfl, k2⟩ := rows_map (fun e he => fits_load (h2 e he))
  obtain ⟨z, rfl, k3⟩ := rows_map (fun e he => fits_pod (h3 e he))
  exact ⟨⟨x, y, z⟩, rfl, k1, k2, k3⟩
theorem fits_spec {e : List PV} (h : FitsL [.sl wantS, .nu .i64, .nu .i64] e) : ∃ s : Spec, .agg e = specP s ∧ s.wf := by
  simp only [FitsL, Fits] at h
  obtain ⟨_, _, rfl, ⟨a, rfl, h1⟩, _, _, rfl, ⟨b, rfl, h2⟩, _, _, rfl, ⟨c, rfl, h3⟩, rfl⟩ := h
  obtain ⟨x, rfl, k1⟩ := rows_map (fun e he => fits_want (h1 e he))
  exact ⟨⟨x, b, c⟩, rfl, k1, wf_i64 h2, wf_i64 h3⟩
theorem fits_int {p : PV} (h : Fits (.nu .i64) p) : ∃ n, p = .int .i64 n ∧ inI n := by
  simp only [Fits] at h
  obtain ⟨n, rfl, h⟩ := h
  exact ⟨n, rfl, wf_i64 h⟩
end Go.Proofs.YtimkghkokfhfcaaDoor.Ab
set_option linter.unusedVariables false
set_option linter.unusedSimpArgs false
namespace Go.Proofs.YtimkghkokfhfcaaDoor.Ab
open Go
section
variable {P : Program} {w : World} {t : TypeId}
theorem qp_pp (d : Nat) {e : TypeId} {n : Nat} {a : Addr} (h : P.underlying t = some (.pointer e)) (hz : (sizeOf e).run P w = .ok n w) (hn : n ≠ 0) : (Op.equalIn (d + 1) t (.pointer (some a)) (.pointer (some a))).run P w = .ok true w := by
  simp only [Op.equalIn]
  rw [rb (r_underlying h)]
  simp only
  rw [rb hz]
  rw [if_pos hn]
  unfold sameAddr
  simp [run_pure]
theorem qd_ii (d : Nat) {ms u v x y} (h : P.underlying t = some (.interface ms)) (hne : u ≠ v) : (Op.equalIn (d + 1) t (.iface u x) (.iface v y)).run P w = .ok false w := by
  simp only [Op.equalIn]
  rw [rb (r_underlying h)]
  simp only [ne_eq, hne, not_false_eq_true, if_true]
  rfl
theorem beql_of {x y : Value} {b : Bool} (h : (Op.equal t x y).run P w = .ok b w) (h1 : (∀ k n, x ≠ .int k n) ∧ (∀ s, x ≠ .string s) ∧ (∀ k n, x ≠ .float k n) ∧ ∀ k n m, x ≠ .complex k n m) :
    (binOp .eql t x y).run P w = .ok (.bool b) w ∧ (binOp .neq t x y).run P w = .ok (.bool (!b)) w := by
  obtain ⟨h2, h3, h4, h5⟩ := h1
  cases x <;> first | exact absurd rfl (h2 _ _) | exact absurd rfl (h3 _) | exact absurd rfl (h4 _ _) | exact absurd rfl (h5 _ _ _) |
    (constructor
     · simp only [binOp]; rw [rb h]; rfl
     · simp only [binOp]; rw [rb h]; rfl)
theorem ie_same {ms : _} {u : TypeId} {x y : Value} {b : Bool} (h : P.underlying t = some (.interface ms)) (hc : (P.info? u).map (·.comparable) = some true) (hb : (Op.equalIn 9999 u x y).run P w = .ok b w) :
    (binOp .eql t (.iface u x) (.iface u y)).run P w = .ok (.bool b) w ∧ (binOp .neq t (.iface u x) (.iface u y)).run P w = .ok (.bool (!b)) w := by
  refine beql_of ?_ ⟨by simp, by simp, by simp, by simp⟩
  cases hi : P.info? u with
  | none => rw [hi] at hc; cases hc
  | some i =>
    rw [hi] at hc
    exact (qi_ii 9999 h hi (Option.some.inj hc)).trans hb
theorem ie_other {ms : _} {u v : TypeId} {x y : Value} (h : P.underlying t = some (.interface ms)) (hne : u ≠ v) :
    (binOp .eql t (.iface u x) (.iface v y)).run P w = .ok (.bool false) w ∧ (binOp .neq t (.iface u x) (.iface v y)).run P w = .ok (.bool true) w :=
  beql_of (qd_ii 9999 h hne) ⟨by simp, by simp, by simp, by simp⟩
theorem ie_int {k : IntKind} {n m : Int} (h : P.underlying t = some (.int k)) : (Op.equalIn 9999 t (.int k n) (.int k m)).run P w = .ok (decide (n = m)) w := by
  have := run_equalIn_int w 9998 t k k n m h
  exact this
end
end Go.Proofs.YtimkghkokfhfcaaDoor.Ab
set_option linter.unusedVariables false
set_option linter.unusedSimpArgs false
namespace Go.Proofs.YtimkghkokfhfcaaDoor.Ab
open Go
def isP (args : List AV) (hp : Hl) (nx : Nat) : Option (AV × Hl × Nat) :=
  match args with
  | [.pv .nili, .pv (.int .i64 _), .pv (.int .i64 _)] => some (.pv (.bool false), hp, nx)
  | [.pv (.iface 0 (.int .i64 _)), .pv (.int .i64 _), .pv (.int .i64 _)] => some (.pv (.bool false), hp, nx)
  | [.pv (.iface 1 (.cptr [.int .i64 a, .int .i64 n] 0)), .pv (.int .i64 x), .pv (.int .i64 y)] => some (.pv (.bool (decide (a = x) && decide (n = y))), hp, nx)
  | _ => none
theorem keeps_of {w w' : World} (h : Go.RowKit.Below w.heap.size w w') : Keeps (fun _ => False) w w' := ⟨h.os, h.tape, h.output, h.size, fun b hb _ => h.block b hb⟩
theorem isP_raw {E : Env} {n : Nat} {g : Nat × Value} (hent : Ent E n) (hg : g ∈ E.gl)
    (h1 : ∀ (x y : Int) (w : World), Calls E.P (E.ρ n) #[.nilIface, .int .i64 x, .int .i64 y] w fun e w' => e = .returned (.bool false) ∧ Go.RowKit.Below w.heap.size w w')
    (h2 : ∀ (m x y : Int) (w : World), w.cell? ⟨g.1, 0, none⟩ = some g.2 → Calls E.P (E.ρ n) #[.iface (E.τ 0) (.int .i64 m), .int .i64 x, .int .i64 y] w fun e w' => e = .returned (.bool false) ∧ Go.RowKit.Below w.heap.size w w')
    (h3 : ∀ (b o : Nat) (a m x y : Int) (w : World), w.cell? ⟨g.1, 0, none⟩ = some g.2 → w.cell? ⟨b, o, none⟩ = some (.int .i64 a) → w.cell? ⟨b, o + 1, none⟩ = some (.int .i64 m) →
      Calls E.P (E.ρ n) #[.iface (E.τ 1) (.pointer (some ⟨b, o, none⟩)), .int .i64 x, .int .i64 y] w fun e w' => e = .returned (.bool (decide (a = x) && decide (m = y))) ∧ Go.RowKit.Below w.heap.size w w')
    (args : List AV) (hp : Hl) (nx : Nat) (v : AV) (hp' : Hl) (nx' : Nat) (h : isP args hp nx = some (v, hp', nx')) : RawC E n args hp nx v hp' nx' := by
  refine ⟨hent, fun X M F a w vs hX R hv => ?_⟩
  subst hX
  have hc := (R.inv g hg).2
  have fin : ∀ {b : Bool}, v = .pv (.bool b) → hp' = hp → nx' = nx → ∀ {e : Ending} {w' : World}, (e = .returned (.bool b) ∧ Go.RowKit.Below w.heap.size w w') →
      ∃ u M', e = .returned u ∧ Rel X M' F (blkAt hp') (fun i => i < nx') a w' ∧ VA (viewOf X w' (fun i => i < nx') M' (blkAt hp')) v u := by
    rintro b rfl rfl rfl e w' ⟨rfl, hb⟩
    exact ⟨_, M, rfl, R.grown (keeps_of hb), by simp only [VA, VP]⟩
  unfold isP at h
  split at h
  · rename_i x y
    simp only [Option.some.injEq, Prod.mk.injEq] at h
    obtain ⟨rfl, rfl, rfl⟩ := h
    simp only [VAs, VA, VP] at hv
    obtain ⟨_, _, rfl, rfl, _, _, rfl, rfl, _, _, rfl, rfl, rfl⟩ := hv
    exact (h1 x y w).mono fun e w' hh => fin rfl rfl rfl hh
  · rename_i m x y
    simp only [Option.some.injEq, Prod.mk.injEq] at h
    obtain ⟨rfl, rfl, rfl⟩ := h
    simp only [VAs, VA, VP] at hv
    obtain ⟨_, _, rfl, ⟨_, rfl, rfl⟩, _, _, rfl, rfl, _, _, rfl, rfl, rfl⟩ := hv
    exact (h2 m x y w hc).mono fun e w' hh => fin rfl rfl rfl hh
  · rename_i a' m x y
    simp only [Option.some.injEq, Prod.mk.injEq] at h
    obtain ⟨rfl, rfl, rfl⟩ := h
    simp only [VAs, VA, VP, VRun] at hv
    obtain ⟨_, _, rfl, ⟨_, rfl, b, o, rfl, _, ⟨_, c1, _, rfl⟩, ⟨_, c2, _, rfl⟩, _⟩, _, _, rfl, rfl, _, _, rfl, rfl, rfl⟩ := hv
    exact (h3 b o a' m x y w hc c1 c2).mono fun e w' hh => fin rfl rfl rfl hh
  · simp at h
structure StdP (T : Tab) (n : Nat) (g : Prm) : Prop where
  prim : T.prim n = some g
  raw : T.raw n = false
  own : T.own n = false
end Go.Proofs.YtimkghkokfhfcaaDoor.Ab
set_option linter.unusedVariables false
namespace Go.Proofs.YtimkghkokfhfcaaDoor.Ab
open Go
def f69 : AFunc := ⟨40, [.t 6],
 (.seq (.ops [
   ⟨some 3, .box (.t 0), none, []⟩,
   ⟨some 4, .box (.t 1), none, []⟩,
   ⟨some 5, .box (.t 2), none, []⟩,
   ⟨some 6, .mv (.c (.pv (.bool false))), none, []⟩])
  (.seq (.ops [
   ⟨some 10, .load true 3 (.t 3), none, []⟩,
   ⟨some 11, .fieldAddr 1 (.t 4), none, []⟩,
   ⟨some 12, .load false 1 (.t 11), none, [1]⟩,
   ⟨some 13, .call 81 [(.t 10), (.t 12)], none, [0, 2]⟩,
   ⟨some 9, .mv (.t 13), none, [3]⟩,
   ⟨some 14, .extract (.t 9) 0, none, [4]⟩,
   ⟨some 15, .extract (.t 9) 1, none, [4]⟩,
   ⟨some 7, .alloc [(.pv (.int .i64 0)), (.pv (.bool false)), (.pv (.int .i64 0)), (.pv (.int .i64 0)), (.pv (.int .i64 0))], none, []⟩,
   ⟨none, .store 5 (.t 7) (.t 14), none, [7, 5, 3, 0, 1, 2, 3, 4, 5, 7]⟩,
   ⟨some 8, .mv (.t 15), none, [6, 8, 0, 1, 2, 3, 4, 5, 6, 7, 8]⟩])
  (.seq (.ops [
   ⟨some 16, .fieldAddr 1 (.t 4), none, []⟩,
   ⟨some 17, .load false 1 (.t 16), none, [0]⟩,
   ⟨some 18, .fieldAddr 1 (.t 5), none, []⟩,
   ⟨some 19, .load false 1 (.t 18), none, [2]⟩,
   ⟨some 20, .bin .eql none (.t 17) (.t 19), none, [1, 3]⟩,
   ⟨some 21, .mv (.t 20), none, [4]⟩,
   ⟨some 22, .fieldAddr 7 (.t 4), some (21, true), [5]⟩,
   ⟨some 23, .load false 1 (.t 22), some (21, true), [6, 5]⟩,
   ⟨some 24, .fieldAddr 7 (.t 5), some (21, true), [5]⟩,
   ⟨some 25, .load false 1 (.t 24), some (21, true), [8, 5]⟩,
   ⟨some 26, .bin .eql none (.t 23) (.t 25), some (21, true), [7, 9, 5]⟩,
   ⟨some 27, .pick (.t 21) (.t 26) (.c (.pv (.bool false))), none, [5, 10]⟩,
   ⟨some 28, .mv (.t 27), none, [11, 5]⟩,
   ⟨some 29, .fieldAddr 7 (.t 4), some (28, true), [12]⟩,
   ⟨some 30, .load false 1 (.t 29), some (28, true), [13, 12]⟩,
   ⟨some 31, .bin .neq none (.t 30) (.c (.pv (.int .i64 0))), some (28, true), [14, 12]⟩,
   ⟨some 32, .pick (.t 28) (.t 31) (.c (.pv (.bool false))), none, [12, 15]⟩,
   ⟨some 33, .mv (.t 32), none, [16, 12]⟩,
   ⟨some 34, .mv (.t 8), some (33, true), [17]⟩,
   ⟨some 35, .pick (.t 33) (.t 34) (.c (.pv (.bool false))), none, [17, 18]⟩,
   ⟨some 36, .mv (.t 35), none, [19, 17]⟩,
   ⟨some 37, .fieldAddr 1 (.t 7), some (36, true), [20]⟩,
   ⟨some 38, .load false 1 (.t 37), some (36, true), [21, 20]⟩,
   ⟨some 39, .pick (.t 36) (.t 38) (.c (.pv (.bool false))), none, [20, 22]⟩,
   ⟨some 6, .mv (.t 39), none, [23, 20, 0, 1, 2, 3, 4, 5, 6, 7, 8, 9, 10, 11, 12, 13, 14, 15, 16, 17, 18, 19, 20, 21, 22, 23]⟩])
  .ret)))⟩
def f81l0 : ACode :=
 (.seq (.ops [
   ⟨some 12, .bin .lss none (.t 11) (.t 10), none, []⟩])
  (.seq (.cond (.t 12)
   .skip
   (.exit 0))
  (.seq (.block 1
   (.seq (.ops [
     ⟨some 13, .idxAddr 5 (.t 9) (.t 11), none, []⟩,
     ⟨some 14, .load true 5 (.t 13), none, [0]⟩,
     ⟨some 7, .alloc [(.pv (.int .i64 0)), (.pv (.bool false)), (.pv (.int .i64 0)), (.pv (.int .i64 0)), (.pv (.int .i64 0))], none, []⟩,
     ⟨none, .store 5 (.t 7) (.t 14), none, [2, 1, 0, 1, 2]⟩])
    (.seq (.ops [
     ⟨some 15, .fieldAddr 0 (.t 7), none, []⟩,
     ⟨some 16, .load false 1 (.t 15), none, [0]⟩,
     ⟨some 17, .mv (.t 1), none, []⟩,
     ⟨some 18, .bin .eql none (.t 16) (.t 17), none, [1, 2]⟩])
    (.cond (.t 18)
     (.seq (.ops [
       ⟨some 19, .load true 5 (.t 7), none, []⟩,
       ⟨none, .store 5 (.t 4) (.t 19), none, [0, 0]⟩,
       ⟨some 5, .mv (.c (.pv (.bool true))), none, [1, 0, 1]⟩])
      .ret)
     .skip))))
  (.ops [
   ⟨some 20, .bin .add none (.t 11) (.c (.pv (.int .i64 1))), none, []⟩,
   ⟨some 11, .mv (.t 20), none, [0]⟩]))))
def f81 : AFunc := ⟨22, [.cell 4 true 5, .t 5],
 (.seq (.ops [
   ⟨some 2, .box (.t 0), none, []⟩,
   ⟨some 4, .alloc [(.pv (.int .i64 0)), (.pv (.bool false)), (.pv (.int .i64 0)), (.pv (.int .i64 0)), (.pv (.int .i64 0))], none, []⟩,
   ⟨some 5, .mv (.c (.pv (.bool false))), none, []⟩])
  (.seq (.seq (.ops [
   ⟨some 8, .fieldAddr 1 (.t 2), none, []⟩,
   ⟨some 9, .load false 1 (.t 8), none, [0]⟩,
   ⟨some 10, .len (.t 9), none, [1]⟩,
   ⟨some 11, .mv (.c (.pv (.int .i64 0))), none, []⟩])
  (.block 0
   (.loop f81l0)))
  (.seq (.ops [
   ⟨some 21, .build [(.pv (.int .i64 0)), (.pv (.bool false)), (.pv (.int .i64 0)), (.pv (.int .i64 0)), (.pv (.int .i64 0))] [], none, []⟩,
   ⟨none, .store 5 (.t 4) (.t 21), none, [0, 0]⟩,
   ⟨some 5, .mv (.c (.pv (.bool false))), none, [1, 0, 1]⟩])
  .ret)))⟩
def f140l0 : ACode :=
 (.seq (.seq (.ops [
   ⟨some 10, .mv (.t 7), none, []⟩,
   ⟨some 11, .bin .lss none (.t 10) (.c (.pv (.int .i64 4))), none, [0]⟩])
  (.cond (.t 11)
   .skip
   (.exit 0)))
  (.seq (.block 1
   (.seq (.draw [
     ⟨some 15, .mv (.t 7), none, []⟩,
     ⟨some 16, .idxArr 4 1 (.t 2) (.t 15), none, [0]⟩,
     ⟨some 17, .load false 1 (.t 16), none, [1]⟩,
     ⟨some 18, .mv (.t 7), none, []⟩,
     ⟨some 19, .idxArr 4 1 (.t 3) (.t 18), none, [3]⟩,
     ⟨some 20, .load false 1 (.t 19), none, [4]⟩,
     ⟨some 21, .call 145 [(.t 17), (.t 20)], none, [2, 5]⟩,
     ⟨some 14, .mv (.t 21), none, [6]⟩,
     ⟨some 22, .extract (.t 14) 0, none, [7]⟩,
     ⟨some 23, .extract (.t 14) 1, none, [7]⟩,
     ⟨some 8, .mv (.t 22), none, [8, 6, 0, 1, 2, 3, 4, 5, 6, 7, 8]⟩,
     ⟨some 9, .mv (.t 23), none, [9, 10, 0, 1, 2, 3, 4, 5, 6, 7, 8, 9, 10]⟩])
    (.seq (.seq (.ops [
     ⟨some 24, .mv (.t 9), none, []⟩,
     ⟨some 25, .not (.t 24), none, [0]⟩])
    (.cond (.t 25)
     (.seq (.ops [
       ⟨some 26, .build [(.pv (.int .u64 0)), (.pv (.int .u64 0)), (.pv (.int .u64 0)), (.pv (.int .u64 0))] [], none, []⟩,
       ⟨none, .store 4 (.t 4) (.t 26), none, [0, 0]⟩,
       ⟨some 5, .mv (.c (.pv (.bool false))), none, [1, 0, 1]⟩])
      .ret)
     .skip))
    (.ops [
     ⟨some 27, .mv (.t 7), none, []⟩,
     ⟨some 28, .mv (.t 8), none, []⟩,
     ⟨some 29, .idxArr 4 1 (.t 6) (.t 27), none, [0, 0, 1]⟩,
     ⟨none, .store 1 (.t 29) (.t 28), none, [2, 1, 0, 1]⟩]))))
  (.ops [
   ⟨some 12, .mv (.t 7), none, []⟩,
   ⟨some 13, .bin .add none (.t 12) (.c (.pv (.int .i64 1))), none, [0]⟩,
   ⟨some 7, .mv (.t 13), none, [1, 0, 1]⟩])))
def f140 : AFunc := ⟨31, [.cell 4 true 4, .t 5],
 (.seq (.ops [
   ⟨some 2, .box (.t 0), none, []⟩,
   ⟨some 3, .box (.t 1), none, []⟩,
   ⟨some 4, .alloc [(.pv (.int .u64 0)), (.pv (.int .u64 0)), (.pv (.int .u64 0)), (.pv (.int .u64 0))], none, []⟩,
   ⟨some 5, .mv (.c (.pv (.bool false))), none, []⟩])
  (.seq (.ops [
   ⟨some 6, .alloc [(.pv (.int .u64 0)), (.pv (.int .u64 0)), (.pv (.int .u64 0)), (.pv (.int .u64 0))], none, []⟩])
  (.seq (.seq (.ops [
   ⟨some 7, .mv (.c (.pv (.int .i64 0))), none, []⟩])
  (.block 0
   (.loop f140l0)))
  (.seq (.ops [
   ⟨some 30, .load true 4 (.t 6), none, []⟩,
   ⟨none, .store 4 (.t 4) (.t 30), none, [0, 0]⟩,
   ⟨some 5, .mv (.c (.pv (.bool true))), none, [1, 0, 1]⟩])
  .ret))))⟩
def f141 : AFunc := ⟨31, [.t 4],
 (.seq (.ops [
   ⟨some 2, .box (.t 0), none, []⟩,
   ⟨some 3, .box (.t 1), none, []⟩,
   ⟨some 4, .mv (.c (.pv (.bool false))), none, []⟩])
  (.seq (.ops [
   ⟨some 5, .idxArr 4 1 (.t 2) (.c (.pv (.int .i64 0))), none, []⟩,
   ⟨some 6, .load false 1 (.t 5), none, [0]⟩,
   ⟨some 7, .idxArr 4 1 (.t 3) (.c (.pv (.int .i64 0))), none, []⟩,
   ⟨some 8, .load false 1 (.t 7), none, [2]⟩,
   ⟨some 9, .bin .leq none (.t 6) (.t 8), none, [1, 3]⟩,
   ⟨some 10, .mv (.t 9), none, [4]⟩,
   ⟨some 11, .idxArr 4 1 (.t 2) (.c (.pv (.int .i64 1))), some (10, true), [5]⟩,
   ⟨some 12, .load false 1 (.t 11), some (10, true), [6, 5]⟩,
   ⟨some 13, .idxArr 4 1 (.t 3) (.c (.pv (.int .i64 1))), some (10, true), [5]⟩,
   ⟨some 14, .load false 1 (.t 13), some (10, true), [8, 5]⟩,
   ⟨some 15, .bin .leq none (.t 12) (.t 14), some (10, true), [7, 9, 5]⟩,
   ⟨some 16, .pick (.t 10) (.t 15) (.c (.pv (.bool false))), none, [5, 10]⟩,
   ⟨some 17, .mv (.t 16), none, [11, 5]⟩,
   ⟨some 18, .idxArr 4 1 (.t 2) (.c (.pv (.int .i64 2))), some (17, true), [12]⟩,
   ⟨some 19, .load false 1 (.t 18), some (17, true), [13, 12]⟩,
   ⟨some 20, .idxArr 4 1 (.t 3) (.c (.pv (.int .i64 2))), some (17, true), [12]⟩,
   ⟨some 21, .load false 1 (.t 20), some (17, true), [15, 12]⟩,
   ⟨some 22, .bin .leq none (.t 19) (.t 21), some (17, true), [14, 16, 12]⟩,
   ⟨some 23, .pick (.t 17) (.t 22) (.c (.pv (.bool false))), none, [12, 17]⟩,
   ⟨some 24, .mv (.t 23), none, [18, 12]⟩,
   ⟨some 25, .idxArr 4 1 (.t 2) (.c (.pv (.int .i64 3))), some (24, true), [19]⟩,
   ⟨some 26, .load false 1 (.t 25), some (24, true), [20, 19]⟩,
   ⟨some 27, .idxArr 4 1 (.t 3) (.c (.pv (.int .i64 3))), some (24, true), [19]⟩,
   ⟨some 28, .load false 1 (.t 27), some (24, true), [22, 19]⟩,
   ⟨some 29, .bin .leq none (.t 26) (.t 28), some (24, true), [21, 23, 19]⟩,
   ⟨some 30, .pick (.t 24) (.t 29) (.c (.pv (.bool false))), none, [19, 24]⟩,
   ⟨some 4, .mv (.t 30), none, [25, 19, 0, 1, 2, 3, 4, 5, 6, 7, 8, 9, 10, 11, 12, 13, 14, 15, 16, 17, 18, 19, 20, 21, 22, 23, 24, 25]⟩])
  .ret))⟩
def f142 : AFunc := ⟨34, [.cell 4 true 4, .t 5],
 (.seq (.ops [
   ⟨some 2, .box (.t 0), none, []⟩,
   ⟨some 3, .box (.t 1), none, []⟩,
   ⟨some 4, .alloc [(.pv (.int .u64 0)), (.pv (.int .u64 0)), (.pv (.int .u64 0)), (.pv (.int .u64 0))], none, []⟩,
   ⟨some 5, .mv (.c (.pv (.bool false))), none, []⟩])
  (.seq (.ops [
   ⟨some 7, .load true 4 (.t 3), none, []⟩,
   ⟨some 8, .load true 4 (.t 2), none, []⟩,
   ⟨some 9, .call 141 [(.t 7), (.t 8)], none, [0, 1]⟩,
   ⟨some 6, .mv (.t 9), none, [2, 2, 0, 1, 2]⟩])
  (.seq (.seq (.ops [
   ⟨some 10, .mv (.t 6), none, []⟩,
   ⟨some 11, .not (.t 10), none, [0]⟩])
  (.cond (.t 11)
   (.seq (.ops [
     ⟨some 12, .build [(.pv (.int .u64 0)), (.pv (.int .u64 0)), (.pv (.int .u64 0)), (.pv (.int .u64 0))] [], none, []⟩,
     ⟨none, .store 4 (.t 4) (.t 12), none, [0, 0]⟩,
     ⟨some 5, .mv (.c (.pv (.bool false))), none, [1, 0, 1]⟩])
    .ret)
   .skip))
  (.seq (.ops [
   ⟨some 13, .idxArr 4 1 (.t 2) (.c (.pv (.int .i64 0))), none, []⟩,
   ⟨some 14, .load false 1 (.t 13), none, [0]⟩,
   ⟨some 15, .idxArr 4 1 (.t 3) (.c (.pv (.int .i64 0))), none, []⟩,
   ⟨some 16, .load false 1 (.t 15), none, [2]⟩,
   ⟨some 17, .bin .sub none (.t 14) (.t 16), none, [1, 3]⟩,
   ⟨some 18, .idxArr 4 1 (.t 2) (.c (.pv (.int .i64 1))), none, []⟩,
   ⟨some 19, .load false 1 (.t 18), none, [5]⟩,
   ⟨some 20, .idxArr 4 1 (.t 3) (.c (.pv (.int .i64 1))), none, []⟩,
   ⟨some 21, .load false 1 (.t 20), none, [7]⟩,
   ⟨some 22, .bin .sub none (.t 19) (.t 21), none, [6, 8]⟩,
   ⟨some 23, .idxArr 4 1 (.t 2) (.c (.pv (.int .i64 2))), none, []⟩,
   ⟨some 24, .load false 1 (.t 23), none, [10]⟩,
   ⟨some 25, .idxArr 4 1 (.t 3) (.c (.pv (.int .i64 2))), none, []⟩,
   ⟨some 26, .load false 1 (.t 25), none, [12]⟩,
   ⟨some 27, .bin .sub none (.t 24) (.t 26), none, [11, 13]⟩,
   ⟨some 28, .idxArr 4 1 (.t 2) (.c (.pv (.int .i64 3))), none, []⟩,
   ⟨some 29, .load false 1 (.t 28), none, [15]⟩,
   ⟨some 30, .idxArr 4 1 (.t 3) (.c (.pv (.int .i64 3))), none, []⟩,
   ⟨some 31, .load false 1 (.t 30), none, [17]⟩,
   ⟨some 32, .bin .sub none (.t 29) (.t 31), none, [16, 18]⟩,
   ⟨some 33, .build [(.pv (.int .u64 0)), (.pv (.int .u64 0)), (.pv (.int .u64 0)), (.pv (.int .u64 0))] [(0, 1, (.t 17)), (1, 1, (.t 22)), (2, 1, (.t 27)), (3, 1, (.t 32))], none, [4, 9, 14, 19]⟩,
   ⟨none, .store 4 (.t 4) (.t 33), none, [20, 0, 1, 2, 3, 4, 5, 6, 7, 8, 9, 10, 11, 12, 13, 14, 15, 16, 17, 18, 19, 20]⟩,
   ⟨some 5, .mv (.c (.pv (.bool true))), none, [21, 0, 1, 2, 3, 4, 5, 6, 7, 8, 9, 10, 11, 12, 13, 14, 15, 16, 17, 18, 19, 20, 21]⟩])
  .ret))))⟩
def f143l0 : ACode :=
 (.seq (.seq (.ops [
   ⟨some 7, .mv (.t 6), none, []⟩,
   ⟨some 8, .mv (.t 0), none, []⟩,
   ⟨some 9, .len (.t 8), none, [1]⟩,
   ⟨some 10, .bin .lss none (.t 7) (.t 9), none, [0, 2]⟩,
   ⟨some 11, .mv (.t 10), none, [3]⟩,
   ⟨some 12, .mv (.t 5), some (11, true), [4]⟩,
   ⟨some 13, .pick (.t 11) (.t 12) (.c (.pv (.bool false))), none, [4, 5]⟩])
  (.cond (.t 13)
   .skip
   (.exit 0)))
  (.seq (.block 1
   (.draw [
     ⟨some 17, .load true 4 (.t 4), none, []⟩,
     ⟨some 18, .mv (.t 0), none, []⟩,
     ⟨some 19, .mv (.t 6), none, []⟩,
     ⟨some 20, .idxAddr 4 (.t 18) (.t 19), none, [1, 2]⟩,
     ⟨some 21, .load true 4 (.t 20), none, [3]⟩,
     ⟨some 22, .call 140 [(.t 17), (.t 21)], none, [0, 4]⟩,
     ⟨some 16, .mv (.t 22), none, [5]⟩,
     ⟨some 23, .extract (.t 16) 0, none, [6]⟩,
     ⟨some 24, .extract (.t 16) 1, none, [6]⟩,
     ⟨none, .store 4 (.t 4) (.t 23), none, [7, 5, 0, 1, 2, 3, 4, 5, 6, 7]⟩,
     ⟨some 5, .mv (.t 24), none, [8, 9, 0, 1, 2, 3, 4, 5, 6, 7, 8, 9]⟩]))
  (.ops [
   ⟨some 14, .mv (.t 6), none, []⟩,
   ⟨some 15, .bin .add none (.t 14) (.c (.pv (.int .i64 1))), none, [0]⟩,
   ⟨some 6, .mv (.t 15), none, [1, 0, 1]⟩])))
def f143 : AFunc := ⟨27, [.cell 2 true 4, .t 3],
 (.seq (.ops [
   ⟨some 2, .alloc [(.pv (.int .u64 0)), (.pv (.int .u64 0)), (.pv (.int .u64 0)), (.pv (.int .u64 0))], none, []⟩,
   ⟨some 3, .mv (.c (.pv (.bool false))), none, []⟩])
  (.seq (.ops [
   ⟨some 4, .alloc [(.pv (.int .u64 0)), (.pv (.int .u64 0)), (.pv (.int .u64 0)), (.pv (.int .u64 0))], none, []⟩])
  (.seq (.ops [
   ⟨some 5, .mv (.c (.pv (.bool true))), none, []⟩])
  (.seq (.seq (.ops [
   ⟨some 6, .mv (.c (.pv (.int .i64 0))), none, []⟩])
  (.block 0
   (.loop f143l0)))
  (.seq (.ops [
   ⟨some 25, .load true 4 (.t 4), none, []⟩,
   ⟨some 26, .mv (.t 5), none, []⟩,
   ⟨none, .store 4 (.t 2) (.t 25), none, [0, 0]⟩,
   ⟨some 3, .mv (.t 26), none, [1, 2, 0, 1, 2]⟩])
  .ret)))))⟩
def f144 : AFunc := ⟨10, [.t 4],
 (.seq (.ops [
   ⟨some 4, .mv (.c (.pv (.int .u64 0))), none, []⟩])
  (.seq (.seq (.ops [
   ⟨some 5, .mv (.t 1), none, []⟩])
  (.cond (.t 5)
   (.seq (.ops [
     ⟨some 6, .mv (.t 0), none, []⟩,
     ⟨some 7, .bin .quo none (.t 6) (.c (.pv (.int .u64 4294967296))), none, [0]⟩,
     ⟨some 4, .mv (.t 7), none, [1, 0, 1]⟩])
    .ret)
   .skip))
  (.seq (.ops [
   ⟨some 8, .mv (.t 0), none, []⟩,
   ⟨some 9, .bin .rem none (.t 8) (.c (.pv (.int .u64 4294967296))), none, [0]⟩,
   ⟨some 4, .mv (.t 9), none, [1, 0, 1]⟩])
  .ret)))⟩
def f145 : AFunc := ⟨28, [.t 4, .t 5],
 (.seq (.ops [
   ⟨some 4, .mv (.c (.pv (.int .u64 0))), none, []⟩,
   ⟨some 5, .mv (.c (.pv (.bool false))), none, [0]⟩])
  (.seq (.ops [
   ⟨some 8, .mv (.t 0), none, []⟩,
   ⟨some 9, .call 144 [(.t 8), (.c (.pv (.bool false)))], none, [0]⟩,
   ⟨some 10, .mv (.t 1), none, []⟩,
   ⟨some 11, .call 144 [(.t 10), (.c (.pv (.bool false)))], none, [2, 1]⟩,
   ⟨some 12, .bin .add none (.t 9) (.t 11), none, [1, 3]⟩,
   ⟨some 6, .mv (.t 12), none, [4, 3, 0, 1, 2, 3, 4]⟩])
  (.seq (.ops [
   ⟨some 13, .mv (.t 0), none, []⟩,
   ⟨some 14, .call 144 [(.t 13), (.c (.pv (.bool true)))], none, [0]⟩,
   ⟨some 15, .mv (.t 1), none, []⟩,
   ⟨some 16, .call 144 [(.t 15), (.c (.pv (.bool true)))], none, [2, 1]⟩,
   ⟨some 17, .bin .add none (.t 14) (.t 16), none, [1, 3]⟩,
   ⟨some 18, .mv (.t 6), none, []⟩,
   ⟨some 19, .bin .quo none (.t 18) (.c (.pv (.int .u64 4294967296))), none, [5]⟩,
   ⟨some 20, .bin .add none (.t 17) (.t 19), none, [4, 6]⟩,
   ⟨some 7, .mv (.t 20), none, [7, 3, 0, 1, 2, 3, 4, 5, 6, 7]⟩])
  (.seq (.seq (.ops [
   ⟨some 21, .mv (.t 7), none, []⟩,
   ⟨some 22, .bin .geq none (.t 21) (.c (.pv (.int .u64 4294967296))), none, [0]⟩])
  (.cond (.t 22)
   (.seq (.ops [
     ⟨some 4, .mv (.c (.pv (.int .u64 0))), none, []⟩,
     ⟨some 5, .mv (.c (.pv (.bool false))), none, [0, 0]⟩])
    .ret)
   .skip))
  (.seq (.ops [
   ⟨some 23, .mv (.t 7), none, []⟩,
   ⟨some 24, .bin .mul none (.t 23) (.c (.pv (.int .u64 4294967296))), none, [0]⟩,
   ⟨some 25, .mv (.t 6), none, []⟩,
   ⟨some 26, .bin .rem none (.t 25) (.c (.pv (.int .u64 4294967296))), none, [2]⟩,
   ⟨some 27, .bin .add none (.t 24) (.t 26), none, [1, 3]⟩,
   ⟨some 4, .mv (.t 27), none, [4, 0, 1, 2, 3, 4]⟩,
   ⟨some 5, .mv (.c (.pv (.bool true))), none, [5, 0, 1, 2, 3, 4, 5]⟩])
  .ret)))))⟩
def f155l0 : ACode :=
 (.seq (.seq (.ops [
   ⟨some 6, .mv (.t 5), none, []⟩,
   ⟨some 7, .fieldAddr 0 (.t 2), none, []⟩,
   ⟨some 8, .load false 1 (.t 7), none, [1]⟩,
   ⟨some 9, .len (.t 8), none, [2]⟩,
   ⟨some 10, .bin .lss none (.t 6) (.t 9), none, [0, 3]⟩])
  (.cond (.t 10)
   .skip
   (.exit 0)))
  (.seq (.block 1
   (.seq (.ops [
     ⟨some 13, .fieldAddr 0 (.t 2), none, []⟩,
     ⟨some 14, .load false 1 (.t 13), none, [0]⟩,
     ⟨some 15, .mv (.t 5), none, []⟩,
     ⟨some 16, .idxAddr 10 (.t 14) (.t 15), none, [1, 2]⟩,
     ⟨some 17, .fieldAddr 0 (.t 16), none, [3]⟩,
     ⟨some 18, .load false 1 (.t 17), none, [4]⟩,
     ⟨some 19, .mv (.t 1), none, []⟩,
     ⟨some 20, .bin .eql none (.t 18) (.t 19), none, [5, 6]⟩])
    (.cond (.t 20)
     (.seq (.ops [
       ⟨some 21, .mv (.t 5), none, []⟩,
       ⟨some 4, .mv (.t 21), none, [0, 0]⟩])
      .ret)
     .skip)))
  (.ops [
   ⟨some 11, .mv (.t 5), none, []⟩,
   ⟨some 12, .bin .add none (.t 11) (.c (.pv (.int .i64 1))), none, [0]⟩,
   ⟨some 5, .mv (.t 12), none, [1, 0, 1]⟩])))
def f155 : AFunc := ⟨22, [.t 4],
 (.seq (.ops [
   ⟨some 2, .box (.t 0), none, []⟩,
   ⟨some 4, .mv (.c (.pv (.int .i64 0))), none, []⟩])
  (.seq (.seq (.ops [
   ⟨some 5, .mv (.c (.pv (.int .i64 0))), none, []⟩])
  (.block 0
   (.loop f155l0)))
  (.seq (.ops [
   ⟨some 4, .mv (.c (.pv (.int .i64 (-1)))), none, []⟩])
  .ret)))⟩
def f170 : AFunc := ⟨59, [.cell 6 true 4, .t 7],
 (.seq (.ops [
   ⟨some 3, .box (.t 0), none, []⟩,
   ⟨some 4, .box (.t 1), none, []⟩,
   ⟨some 6, .alloc [(.pv (.int .u64 0)), (.pv (.int .u64 0)), (.pv (.int .u64 0)), (.pv (.int .u64 0))], none, []⟩,
   ⟨some 7, .mv (.c (.pv (.int .i64 0))), none, []⟩])
  (.seq (.ops [
   ⟨some 15, .load true 3 (.t 3), none, []⟩,
   ⟨some 16, .mv (.t 2), none, []⟩,
   ⟨some 17, .call 155 [(.t 15), (.t 16)], none, [0, 1]⟩,
   ⟨some 8, .mv (.t 17), none, [2, 2, 0, 1, 2]⟩])
  (.seq (.seq (.ops [
   ⟨some 18, .mv (.t 8), none, []⟩,
   ⟨some 19, .bin .lss none (.t 18) (.c (.pv (.int .i64 0))), none, [0]⟩])
  (.cond (.t 19)
   (.seq (.ops [
     ⟨some 20, .build [(.pv (.int .u64 0)), (.pv (.int .u64 0)), (.pv (.int .u64 0)), (.pv (.int .u64 0))] [], none, []⟩,
     ⟨none, .store 4 (.t 6) (.t 20), none, [0, 0]⟩,
     ⟨some 7, .mv (.c (.pv (.int .i64 4))), none, [1, 0, 1]⟩])
    .ret)
   .skip))
  (.seq (.ops [
   ⟨some 22, .load true 3 (.t 4), none, []⟩,
   ⟨some 23, .mv (.t 2), none, []⟩,
   ⟨some 24, .call 171 [(.t 22), (.t 23)], none, [0, 1]⟩,
   ⟨some 21, .mv (.t 24), none, [2]⟩,
   ⟨some 25, .extract (.t 21) 0, none, [3]⟩,
   ⟨some 26, .extract (.t 21) 1, none, [3]⟩,
   ⟨some 9, .alloc [(.pv (.int .u64 0)), (.pv (.int .u64 0)), (.pv (.int .u64 0)), (.pv (.int .u64 0))], none, []⟩,
   ⟨none, .store 4 (.t 9) (.t 25), none, [6, 4, 2, 0, 1, 2, 3, 4, 6]⟩,
   ⟨some 10, .mv (.t 26), none, [5, 7, 0, 1, 2, 3, 4, 5, 6, 7]⟩])
  (.seq (.seq (.ops [
   ⟨some 27, .mv (.t 10), none, []⟩,
   ⟨some 28, .not (.t 27), none, [0]⟩])
  (.cond (.t 28)
   (.seq (.ops [
     ⟨some 29, .build [(.pv (.int .u64 0)), (.pv (.int .u64 0)), (.pv (.int .u64 0)), (.pv (.int .u64 0))] [], none, []⟩,
     ⟨none, .store 4 (.t 6) (.t 29), none, [0, 0]⟩,
     ⟨some 7, .mv (.c (.pv (.int .i64 8))), none, [1, 0, 1]⟩])
    .ret)
   .skip))
  (.seq (.draw [
   ⟨some 31, .fieldAddr 0 (.t 3), none, []⟩,
   ⟨some 32, .load false 1 (.t 31), none, [0]⟩,
   ⟨some 33, .mv (.t 8), none, []⟩,
   ⟨some 34, .idxAddr 10 (.t 32) (.t 33), none, [1, 2]⟩,
   ⟨some 35, .fieldAddr 2 (.t 34), none, [3]⟩,
   ⟨some 36, .load true 4 (.t 35), none, [4]⟩,
   ⟨some 37, .fieldAddr 0 (.t 3), none, []⟩,
   ⟨some 38, .load false 1 (.t 37), none, [6]⟩,
   ⟨some 39, .mv (.t 8), none, []⟩,
   ⟨some 40, .idxAddr 10 (.t 38) (.t 39), none, [7, 8]⟩,
   ⟨some 41, .fieldAddr 6 (.t 40), none, [9]⟩,
   ⟨some 42, .load true 4 (.t 41), none, [10]⟩,
   ⟨some 43, .call 142 [(.t 36), (.t 42)], none, [5, 11]⟩,
   ⟨some 30, .mv (.t 43), none, [12]⟩,
   ⟨some 44, .extract (.t 30) 0, none, [13]⟩,
   ⟨some 45, .extract (.t 30) 1, none, [13]⟩,
   ⟨some 11, .alloc [(.pv (.int .u64 0)), (.pv (.int .u64 0)), (.pv (.int .u64 0)), (.pv (.int .u64 0))], none, []⟩,
   ⟨none, .store 4 (.t 11) (.t 44), none, [16, 14, 12, 0, 1, 2, 3, 4, 5, 6, 7, 8, 9, 10, 11, 12, 13, 14, 16]⟩,
   ⟨some 12, .mv (.t 45), none, [15, 17, 0, 1, 2, 3, 4, 5, 6, 7, 8, 9, 10, 11, 12, 13, 14, 15, 16, 17]⟩])
  (.seq (.seq (.ops [
   ⟨some 46, .mv (.t 12), none, []⟩,
   ⟨some 47, .not (.t 46), none, [0]⟩])
  (.cond (.t 47)
   (.seq (.ops [
     ⟨some 48, .build [(.pv (.int .u64 0)), (.pv (.int .u64 0)), (.pv (.int .u64 0)), (.pv (.int .u64 0))] [], none, []⟩,
     ⟨none, .store 4 (.t 6) (.t 48), none, [0, 0]⟩,
     ⟨some 7, .mv (.c (.pv (.int .i64 9))), none, [1, 0, 1]⟩])
    .ret)
   .skip))
  (.seq (.ops [
   ⟨some 50, .load true 4 (.t 11), none, []⟩,
   ⟨some 51, .load true 4 (.t 9), none, []⟩,
   ⟨some 52, .call 142 [(.t 50), (.t 51)], none, [0, 1]⟩,
   ⟨some 49, .mv (.t 52), none, [2]⟩,
   ⟨some 53, .extract (.t 49) 0, none, [3]⟩,
   ⟨some 54, .extract (.t 49) 1, none, [3]⟩,
   ⟨some 13, .alloc [(.pv (.int .u64 0)), (.pv (.int .u64 0)), (.pv (.int .u64 0)), (.pv (.int .u64 0))], none, []⟩,
   ⟨none, .store 4 (.t 13) (.t 53), none, [6, 4, 2, 0, 1, 2, 3, 4, 6]⟩,
   ⟨some 14, .mv (.t 54), none, [5, 7, 0, 1, 2, 3, 4, 5, 6, 7]⟩])
  (.seq (.seq (.ops [
   ⟨some 55, .mv (.t 14), none, []⟩,
   ⟨some 56, .not (.t 55), none, [0]⟩])
  (.cond (.t 56)
   (.seq (.ops [
     ⟨some 57, .build [(.pv (.int .u64 0)), (.pv (.int .u64 0)), (.pv (.int .u64 0)), (.pv (.int .u64 0))] [], none, []⟩,
     ⟨none, .store 4 (.t 6) (.t 57), none, [0, 0]⟩,
     ⟨some 7, .mv (.c (.pv (.int .i64 9))), none, [1, 0, 1]⟩])
    .ret)
   .skip))
  (.seq (.ops [
   ⟨some 58, .load true 4 (.t 13), none, []⟩,
   ⟨none, .store 4 (.t 6) (.t 58), none, [0, 0]⟩,
   ⟨some 7, .mv (.c (.pv (.int .i64 0))), none, [1, 0, 1]⟩])
  .ret))))))))))⟩
def f171l0 : ACode :=
 (.seq (.seq (.ops [
   ⟨some 10, .mv (.t 7), none, []⟩,
   ⟨some 11, .fieldAddr 0 (.t 2), none, []⟩,
   ⟨some 12, .load false 1 (.t 11), none, [1]⟩,
   ⟨some 13, .len (.t 12), none, [2]⟩,
   ⟨some 14, .bin .lss none (.t 10) (.t 13), none, [0, 3]⟩])
  (.cond (.t 14)
   .skip
   (.exit 0)))
  (.seq (.block 1
   (.seq (.ops [
     ⟨some 17, .fieldAddr 0 (.t 2), none, []⟩,
     ⟨some 18, .load false 1 (.t 17), none, [0]⟩,
     ⟨some 19, .mv (.t 7), none, []⟩,
     ⟨some 20, .idxAddr 8 (.t 18) (.t 19), none, [1, 2]⟩,
     ⟨some 21, .fieldAddr 7 (.t 20), none, [3]⟩,
     ⟨some 22, .load false 1 (.t 21), none, [4]⟩,
     ⟨some 23, .mv (.t 1), none, []⟩,
     ⟨some 24, .bin .eql none (.t 22) (.t 23), none, [5, 6]⟩])
    (.cond (.t 24)
     (.ops [
       ⟨some 25, .mv (.t 6), none, []⟩,
       ⟨some 26, .fieldAddr 0 (.t 2), none, []⟩,
       ⟨some 27, .load false 1 (.t 26), none, [1]⟩,
       ⟨some 28, .mv (.t 7), none, []⟩,
       ⟨some 29, .idxAddr 8 (.t 27) (.t 28), none, [2, 3]⟩,
       ⟨some 30, .fieldAddr 3 (.t 29), none, [4]⟩,
       ⟨some 31, .load true 4 (.t 30), none, [5]⟩,
       ⟨some 32, .bslice 4 1 [(.pv (.int .u64 0)), (.pv (.int .u64 0)), (.pv (.int .u64 0)), (.pv (.int .u64 0))] [(0, 4, (.t 31))], none, [6]⟩,
       ⟨some 33, .append 4 32 (.t 25) (.t 32), none, [0, 7]⟩,
       ⟨some 6, .mv (.t 33), none, [8, 8, 0, 1, 2, 3, 4, 5, 6, 7, 8]⟩])
     .skip)))
  (.ops [
   ⟨some 15, .mv (.t 7), none, []⟩,
   ⟨some 16, .bin .add none (.t 15) (.c (.pv (.int .i64 1))), none, [0]⟩,
   ⟨some 7, .mv (.t 16), none, [1, 0, 1]⟩])))
def f171 : AFunc := ⟨43, [.cell 4 true 4, .t 5],
 (.seq (.ops [
   ⟨some 2, .box (.t 0), none, []⟩,
   ⟨some 4, .alloc [(.pv (.int .u64 0)), (.pv (.int .u64 0)), (.pv (.int .u64 0)), (.pv (.int .u64 0))], none, []⟩,
   ⟨some 5, .mv (.c (.pv (.bool false))), none, []⟩])
  (.seq (.ops [
   ⟨some 6, .mv (.c .nils), none, []⟩])
  (.seq (.seq (.ops [
   ⟨some 7, .mv (.c (.pv (.int .i64 0))), none, []⟩])
  (.block 0
   (.loop f171l0)))
  (.seq (.ops [
   ⟨some 35, .mv (.t 6), none, []⟩,
   ⟨some 36, .call 143 [(.t 35)], none, [0]⟩,
   ⟨some 34, .mv (.t 36), none, [1]⟩,
   ⟨some 37, .extract (.t 34) 0, none, [2]⟩,
   ⟨some 38, .extract (.t 34) 1, none, [2]⟩,
   ⟨some 8, .alloc [(.pv (.int .u64 0)), (.pv (.int .u64 0)), (.pv (.int .u64 0)), (.pv (.int .u64 0))], none, []⟩,
   ⟨none, .store 4 (.t 8) (.t 37), none, [5, 3, 1, 0, 1, 2, 3, 5]⟩,
   ⟨some 9, .mv (.t 38), none, [4, 6, 0, 1, 2, 3, 4, 5, 6]⟩])
  (.seq (.seq (.ops [
   ⟨some 39, .mv (.t 9), none, []⟩,
   ⟨some 40, .not (.t 39), none, [0]⟩])
  (.cond (.t 40)
   (.seq (.ops [
     ⟨some 41, .build [(.pv (.int .u64 0)), (.pv (.int .u64 0)), (.pv (.int .u64 0)), (.pv (.int .u64 0))] [], none, []⟩,
     ⟨none, .store 4 (.t 4) (.t 41), none, [0, 0]⟩,
     ⟨some 5, .mv (.c (.pv (.bool false))), none, [1, 0, 1]⟩])
    .ret)
   .skip))
  (.seq (.ops [
   ⟨some 42, .load true 4 (.t 8), none, []⟩,
   ⟨none, .store 4 (.t 4) (.t 42), none, [0, 0]⟩,
   ⟨some 5, .mv (.c (.pv (.bool true))), none, [1, 0, 1]⟩])
  .ret))))))⟩
def f220 : AFunc := ⟨54, [.cell 6 true 4, .t 7],
 (.seq (.ops [
   ⟨some 3, .box (.t 0), none, []⟩,
   ⟨some 4, .box (.t 1), none, []⟩,
   ⟨some 6, .alloc [(.pv (.int .u64 0)), (.pv (.int .u64 0)), (.pv (.int .u64 0)), (.pv (.int .u64 0))], none, []⟩,
   ⟨some 7, .mv (.c (.pv .nili)), none, []⟩])
  (.seq (.ops [
   ⟨some 14, .load true 3 (.t 3), none, []⟩,
   ⟨some 15, .mv (.t 2), none, []⟩,
   ⟨some 16, .call 82 [(.t 14), (.t 15)], none, [0, 1]⟩,
   ⟨some 13, .mv (.t 16), none, [2]⟩,
   ⟨some 17, .extract (.t 13) 0, none, [3]⟩,
   ⟨some 18, .extract (.t 13) 1, none, [3]⟩,
   ⟨some 8, .alloc [(.pv (.int .i64 0)), (.pv (.int .i64 0)), (.pv (.int .u64 0)), (.pv (.int .u64 0)), (.pv (.int .u64 0)), (.pv (.int .u64 0)), (.pv (.int .u64 0)), (.pv (.int .u64 0)), (.pv (.int .u64 0)), (.pv (.int .u64 0))], none, []⟩,
   ⟨none, .store 10 (.t 8) (.t 17), none, [6, 4, 2, 0, 1, 2, 3, 4, 6]⟩,
   ⟨some 9, .mv (.t 18), none, [5, 7, 0, 1, 2, 3, 4, 5, 6, 7]⟩])
  (.seq (.seq (.ops [
   ⟨some 19, .mv (.t 9), none, []⟩,
   ⟨some 20, .not (.t 19), none, [0]⟩])
  (.cond (.t 20)
   (.seq (.ops [
     ⟨some 21, .build [(.pv (.int .u64 0)), (.pv (.int .u64 0)), (.pv (.int .u64 0)), (.pv (.int .u64 0))] [], none, []⟩,
     ⟨some 22, .mkI 0 (.c (.pv (.int .i64 4))), none, []⟩,
     ⟨none, .store 4 (.t 6) (.t 21), none, [0, 0]⟩,
     ⟨some 7, .mv (.t 22), none, [1, 2, 0, 1, 2]⟩])
    .ret)
   .skip))
  (.seq (.ops [
   ⟨some 24, .load true 3 (.t 4), none, []⟩,
   ⟨some 25, .mv (.t 2), none, []⟩,
   ⟨some 26, .call 221 [(.t 24), (.t 25)], none, [0, 1]⟩,
   ⟨some 23, .mv (.t 26), none, [2]⟩,
   ⟨some 27, .extract (.t 23) 0, none, [3]⟩,
   ⟨some 28, .extract (.t 23) 1, none, [3]⟩,
   ⟨some 10, .alloc [(.pv (.int .u64 0)), (.pv (.int .u64 0)), (.pv (.int .u64 0)), (.pv (.int .u64 0))], none, []⟩,
   ⟨none, .store 4 (.t 10) (.t 27), none, [6, 4, 2, 0, 1, 2, 3, 4, 6]⟩,
   ⟨some 11, .mv (.t 28), none, [5, 7, 0, 1, 2, 3, 4, 5, 6, 7]⟩])
  (.seq (.seq (.ops [
   ⟨some 29, .mv (.t 11), none, []⟩,
   ⟨some 30, .bin .neq (some (.iface true)) (.t 29) (.c (.pv .nili)), none, [0]⟩])
  (.cond (.t 30)
   (.seq (.ops [
     ⟨some 31, .build [(.pv (.int .u64 0)), (.pv (.int .u64 0)), (.pv (.int .u64 0)), (.pv (.int .u64 0))] [], none, []⟩,
     ⟨some 32, .mv (.t 11), none, []⟩,
     ⟨none, .store 4 (.t 6) (.t 31), none, [0, 0]⟩,
     ⟨some 7, .mv (.t 32), none, [1, 2, 0, 1, 2]⟩])
    .ret)
   .skip))
  (.seq (.ops [
   ⟨some 34, .fieldAddr 2 (.t 8), none, []⟩,
   ⟨some 35, .load true 4 (.t 34), none, [0]⟩,
   ⟨some 36, .fieldAddr 6 (.t 8), none, []⟩,
   ⟨some 37, .load true 4 (.t 36), none, [2]⟩,
   ⟨some 38, .call 258 [(.t 35), (.t 37)], none, [1, 3]⟩,
   ⟨some 33, .mv (.t 38), none, [4]⟩,
   ⟨some 39, .extract (.t 33) 0, none, [5]⟩,
   ⟨some 40, .extract (.t 33) 1, none, [5]⟩,
   ⟨some 12, .alloc [(.pv (.int .u64 0)), (.pv (.int .u64 0)), (.pv (.int .u64 0)), (.pv (.int .u64 0))], none, []⟩,
   ⟨none, .store 4 (.t 12) (.t 39), none, [8, 6, 4, 0, 1, 2, 3, 4, 5, 6, 8]⟩,
   ⟨some 11, .mv (.t 40), none, [7, 9, 0, 1, 2, 3, 4, 5, 6, 7, 8, 9]⟩])
  (.seq (.seq (.ops [
   ⟨some 41, .mv (.t 11), none, []⟩,
   ⟨some 42, .bin .eql (some (.iface true)) (.t 41) (.c (.pv .nili)), none, [0]⟩])
  (.cond (.t 42)
   (.ops [
     ⟨some 44, .load true 4 (.t 12), none, []⟩,
     ⟨some 45, .load true 4 (.t 10), none, []⟩,
     ⟨some 46, .call 258 [(.t 44), (.t 45)], none, [0, 1]⟩,
     ⟨some 43, .mv (.t 46), none, [2]⟩,
     ⟨some 47, .extract (.t 43) 0, none, [3]⟩,
     ⟨some 48, .extract (.t 43) 1, none, [3]⟩,
     ⟨none, .store 4 (.t 12) (.t 47), none, [4, 2, 0, 1, 2, 3, 4]⟩,
     ⟨some 11, .mv (.t 48), none, [5, 6, 0, 1, 2, 3, 4, 5, 6]⟩])
   .skip))
  (.seq (.seq (.ops [
   ⟨some 49, .mv (.t 11), none, []⟩,
   ⟨some 50, .bin .neq (some (.iface true)) (.t 49) (.c (.pv .nili)), none, [0]⟩])
  (.cond (.t 50)
   (.seq (.ops [
     ⟨some 51, .build [(.pv (.int .u64 0)), (.pv (.int .u64 0)), (.pv (.int .u64 0)), (.pv (.int .u64 0))] [], none, []⟩,
     ⟨some 52, .mkI 0 (.c (.pv (.int .i64 9))), none, []⟩,
     ⟨none, .store 4 (.t 6) (.t 51), none, [0, 0]⟩,
     ⟨some 7, .mv (.t 52), none, [1, 2, 0, 1, 2]⟩])
    .ret)
   .skip))
  (.seq (.ops [
   ⟨some 53, .load true 4 (.t 12), none, []⟩,
   ⟨none, .store 4 (.t 6) (.t 53), none, [0, 0]⟩,
   ⟨some 7, .mv (.c (.pv .nili)), none, [1, 0, 1]⟩])
  .ret)))))))))⟩
def f221l0 : ACode :=
 (.seq (.ops [
   ⟨some 13, .bin .lss none (.t 12) (.t 11), none, []⟩])
  (.seq (.cond (.t 13)
   .skip
   (.exit 0))
  (.seq (.block 1
   (.seq (.ops [
     ⟨some 14, .idxAddr 8 (.t 10) (.t 12), none, []⟩,
     ⟨some 15, .load true 8 (.t 14), none, [0]⟩,
     ⟨some 8, .alloc [(.pv (.int .i64 0)), (.pv (.int .i64 0)), (.pv (.int .i64 0)), (.pv (.int .u64 0)), (.pv (.int .u64 0)), (.pv (.int .u64 0)), (.pv (.int .u64 0)), (.pv (.int .i64 0))], none, []⟩,
     ⟨none, .store 8 (.t 8) (.t 15), none, [2, 1, 0, 1, 2]⟩])
    (.seq (.ops [
     ⟨some 16, .fieldAddr 7 (.t 8), none, []⟩,
     ⟨some 17, .load false 1 (.t 16), none, [0]⟩,
     ⟨some 18, .mv (.t 1), none, []⟩,
     ⟨some 19, .bin .eql none (.t 17) (.t 18), none, [1, 2]⟩])
    (.cond (.t 19)
     (.ops [
       ⟨some 20, .mv (.t 6), none, []⟩,
       ⟨some 21, .fieldAddr 3 (.t 8), none, []⟩,
       ⟨some 22, .load true 4 (.t 21), none, [1]⟩,
       ⟨some 23, .bslice 4 1 [(.pv (.int .u64 0)), (.pv (.int .u64 0)), (.pv (.int .u64 0)), (.pv (.int .u64 0))] [(0, 4, (.t 22))], none, [2]⟩,
       ⟨some 24, .append 4 32 (.t 20) (.t 23), none, [0, 3]⟩,
       ⟨some 6, .mv (.t 24), none, [4, 4, 0, 1, 2, 3, 4]⟩])
     .skip))))
  (.ops [
   ⟨some 25, .bin .add none (.t 12) (.c (.pv (.int .i64 1))), none, []⟩,
   ⟨some 12, .mv (.t 25), none, [0]⟩]))))
def f221 : AFunc := ⟨30, [.cell 4 true 4, .t 5],
 (.seq (.ops [
   ⟨some 2, .box (.t 0), none, []⟩,
   ⟨some 4, .alloc [(.pv (.int .u64 0)), (.pv (.int .u64 0)), (.pv (.int .u64 0)), (.pv (.int .u64 0))], none, []⟩,
   ⟨some 5, .mv (.c (.pv .nili)), none, []⟩])
  (.seq (.ops [
   ⟨some 6, .mv (.c .nils), none, []⟩])
  (.seq (.seq (.ops [
   ⟨some 9, .fieldAddr 0 (.t 2), none, []⟩,
   ⟨some 10, .load false 1 (.t 9), none, [0]⟩,
   ⟨some 11, .len (.t 10), none, [1]⟩,
   ⟨some 12, .mv (.c (.pv (.int .i64 0))), none, []⟩])
  (.block 0
   (.loop f221l0)))
  (.seq (.ops [
   ⟨some 26, .mv (.t 6), none, []⟩,
   ⟨some 27, .call 260 [(.t 26)], none, [0]⟩,
   ⟨some 28, .extract (.t 27) 0, none, [1]⟩,
   ⟨some 29, .extract (.t 27) 1, none, [1]⟩,
   ⟨none, .store 4 (.t 4) (.t 28), none, [2, 1, 0, 1, 2, 3]⟩,
   ⟨some 5, .mv (.t 29), none, [3, 4, 0, 1, 2, 3, 4]⟩])
  .ret))))⟩
def f255 : AFunc := ⟨11, [.cell 4 true 4, .t 5],
 (.seq (.ops [
   ⟨some 2, .box (.t 0), none, []⟩,
   ⟨some 3, .box (.t 1), none, []⟩,
   ⟨some 4, .alloc [(.pv (.int .u64 0)), (.pv (.int .u64 0)), (.pv (.int .u64 0)), (.pv (.int .u64 0))], none, []⟩,
   ⟨some 5, .mv (.c (.pv .nili)), none, []⟩])
  (.seq (.ops [
   ⟨some 6, .load true 4 (.t 2), none, []⟩,
   ⟨some 7, .load true 4 (.t 3), none, []⟩,
   ⟨some 8, .call 261 [(.t 6), (.t 7), (.f 256)], none, [0, 1]⟩,
   ⟨some 9, .extract (.t 8) 0, none, [2]⟩,
   ⟨some 10, .extract (.t 8) 1, none, [2]⟩,
   ⟨none, .store 4 (.t 4) (.t 9), none, [3, 2, 0, 1, 2, 3, 4]⟩,
   ⟨some 5, .mv (.t 10), none, [4, 5, 0, 1, 2, 3, 4, 5]⟩])
  .ret))⟩
def f258 : AFunc := ⟨11, [.cell 4 true 4, .t 5],
 (.seq (.ops [
   ⟨some 2, .box (.t 0), none, []⟩,
   ⟨some 3, .box (.t 1), none, []⟩,
   ⟨some 4, .alloc [(.pv (.int .u64 0)), (.pv (.int .u64 0)), (.pv (.int .u64 0)), (.pv (.int .u64 0))], none, []⟩,
   ⟨some 5, .mv (.c (.pv .nili)), none, []⟩])
  (.seq (.ops [
   ⟨some 6, .load true 4 (.t 2), none, []⟩,
   ⟨some 7, .load true 4 (.t 3), none, []⟩,
   ⟨some 8, .call 261 [(.t 6), (.t 7), (.f 259)], none, [0, 1]⟩,
   ⟨some 9, .extract (.t 8) 0, none, [2]⟩,
   ⟨some 10, .extract (.t 8) 1, none, [2]⟩,
   ⟨none, .store 4 (.t 4) (.t 9), none, [3, 2, 0, 1, 2, 3, 4]⟩,
   ⟨some 5, .mv (.t 10), none, [4, 5, 0, 1, 2, 3, 4, 5]⟩])
  .ret))⟩
def f259 : AFunc := ⟨12, [.t 4, .t 5],
 (.seq (.ops [
   ⟨some 4, .mv (.c (.pv (.int .u64 0))), none, []⟩,
   ⟨some 5, .mv (.c (.pv (.bool false))), none, [0]⟩])
  (.seq (.ops [
   ⟨some 6, .mv (.t 0), none, []⟩,
   ⟨some 7, .mv (.t 1), none, []⟩,
   ⟨some 8, .bin .sub none (.t 6) (.t 7), none, [0, 1]⟩,
   ⟨some 9, .mv (.t 0), none, []⟩,
   ⟨some 10, .mv (.t 1), none, []⟩,
   ⟨some 11, .bin .geq none (.t 9) (.t 10), none, [3, 4]⟩,
   ⟨some 4, .mv (.t 8), none, [2, 0, 1, 2]⟩,
   ⟨some 5, .mv (.t 11), none, [5, 6, 0, 1, 2, 3, 4, 5, 6]⟩])
  .ret))⟩
def f260l0 : ACode :=
 (.seq (.ops [
   ⟨some 12, .bin .lss none (.t 11) (.t 10), none, []⟩])
  (.seq (.cond (.t 12)
   .skip
   (.exit 0))
  (.seq (.block 1
   (.seq (.ops [
     ⟨some 13, .idxAddr 4 (.t 9) (.t 11), none, []⟩,
     ⟨some 14, .load true 4 (.t 13), none, [0]⟩,
     ⟨some 6, .alloc [(.pv (.int .u64 0)), (.pv (.int .u64 0)), (.pv (.int .u64 0)), (.pv (.int .u64 0))], none, []⟩,
     ⟨none, .store 4 (.t 6) (.t 14), none, [2, 1, 0, 1, 2]⟩])
    (.seq (.ops [
     ⟨some 16, .load true 4 (.t 4), none, []⟩,
     ⟨some 17, .load true 4 (.t 6), none, []⟩,
     ⟨some 18, .call 255 [(.t 16), (.t 17)], none, [0, 1]⟩,
     ⟨some 15, .mv (.t 18), none, [2]⟩,
     ⟨some 19, .extract (.t 15) 0, none, [3]⟩,
     ⟨some 20, .extract (.t 15) 1, none, [3]⟩,
     ⟨some 7, .alloc [(.pv (.int .u64 0)), (.pv (.int .u64 0)), (.pv (.int .u64 0)), (.pv (.int .u64 0))], none, []⟩,
     ⟨none, .store 4 (.t 7) (.t 19), none, [6, 4, 2, 0, 1, 2, 3, 4, 6]⟩,
     ⟨some 8, .mv (.t 20), none, [5, 7, 0, 1, 2, 3, 4, 5, 6, 7]⟩])
    (.seq (.seq (.ops [
     ⟨some 21, .mv (.t 8), none, []⟩,
     ⟨some 22, .bin .neq (some (.iface true)) (.t 21) (.c (.pv .nili)), none, [0]⟩])
    (.cond (.t 22)
     (.seq (.ops [
       ⟨some 23, .build [(.pv (.int .u64 0)), (.pv (.int .u64 0)), (.pv (.int .u64 0)), (.pv (.int .u64 0))] [], none, []⟩,
       ⟨some 24, .mv (.t 8), none, []⟩,
       ⟨none, .store 4 (.t 2) (.t 23), none, [0, 0]⟩,
       ⟨some 3, .mv (.t 24), none, [1, 2, 0, 1, 2]⟩])
      .ret)
     .skip))
    (.ops [
     ⟨some 25, .load true 4 (.t 7), none, []⟩,
     ⟨none, .store 4 (.t 4) (.t 25), none, [0, 0]⟩])))))
  (.ops [
   ⟨some 26, .bin .add none (.t 11) (.c (.pv (.int .i64 1))), none, []⟩,
   ⟨some 11, .mv (.t 26), none, [0]⟩]))))
def f260 : AFunc := ⟨28, [.cell 2 true 4, .t 3],
 (.seq (.ops [
   ⟨some 2, .alloc [(.pv (.int .u64 0)), (.pv (.int .u64 0)), (.pv (.int .u64 0)), (.pv (.int .u64 0))], none, []⟩,
   ⟨some 3, .mv (.c (.pv .nili)), none, []⟩])
  (.seq (.ops [
   ⟨some 4, .alloc [(.pv (.int .u64 0)), (.pv (.int .u64 0)), (.pv (.int .u64 0)), (.pv (.int .u64 0))], none, []⟩])
  (.seq (.seq (.ops [
   ⟨some 9, .mv (.t 0), none, []⟩,
   ⟨some 10, .len (.t 9), none, [0]⟩,
   ⟨some 11, .mv (.c (.pv (.int .i64 0))), none, []⟩])
  (.block 0
   (.loop f260l0)))
  (.seq (.ops [
   ⟨some 27, .load true 4 (.t 4), none, []⟩,
   ⟨none, .store 4 (.t 2) (.t 27), none, [0, 0]⟩,
   ⟨some 3, .mv (.c (.pv .nili)), none, [1, 0, 1]⟩])
  .ret))))⟩
def f261l0 : ACode :=
 (.seq (.ops [
   ⟨some 13, .bin .lss none (.t 12) (.c (.pv (.int .i64 4))), none, []⟩])
  (.seq (.cond (.t 13)
   .skip
   (.exit 0))
  (.seq (.block 1
   (.seq (.ops [
     ⟨some 14, .mv (.t 12), none, []⟩,
     ⟨some 9, .mv (.t 14), none, [0, 0]⟩])
    (.seq (.draw [
     ⟨some 16, .mv (.t 2), none, []⟩,
     ⟨some 17, .mv (.t 9), none, []⟩,
     ⟨some 18, .idxArr 4 1 (.t 3) (.t 17), none, [1]⟩,
     ⟨some 19, .load false 1 (.t 18), none, [2]⟩,
     ⟨some 20, .mv (.t 9), none, []⟩,
     ⟨some 21, .idxArr 4 1 (.t 4) (.t 20), none, [4]⟩,
     ⟨some 22, .load false 1 (.t 21), none, [5]⟩,
     ⟨some 23, .callv (.t 16) [(.t 19), (.t 22)], none, [0, 3, 6]⟩,
     ⟨some 15, .mv (.t 23), none, [7]⟩,
     ⟨some 24, .extract (.t 15) 0, none, [8]⟩,
     ⟨some 25, .extract (.t 15) 1, none, [8]⟩,
     ⟨some 10, .mv (.t 24), none, [9, 7, 0, 1, 2, 3, 4, 5, 6, 7, 8, 9]⟩,
     ⟨some 11, .mv (.t 25), none, [10, 11, 0, 1, 2, 3, 4, 5, 6, 7, 8, 9, 10, 11]⟩])
    (.seq (.seq (.ops [
     ⟨some 26, .mv (.t 11), none, []⟩,
     ⟨some 27, .not (.t 26), none, [0]⟩])
    (.cond (.t 27)
     (.seq (.ops [
       ⟨some 28, .build [(.pv (.int .u64 0)), (.pv (.int .u64 0)), (.pv (.int .u64 0)), (.pv (.int .u64 0))] [], none, []⟩,
       ⟨some 29, .mkI 0 (.c (.pv (.int .i64 8))), none, []⟩,
       ⟨none, .store 4 (.t 6) (.t 28), none, [0, 0]⟩,
       ⟨some 7, .mv (.t 29), none, [1, 2, 0, 1, 2]⟩])
      .ret)
     .skip))
    (.ops [
     ⟨some 30, .mv (.t 9), none, []⟩,
     ⟨some 31, .mv (.t 10), none, []⟩,
     ⟨some 32, .idxArr 4 1 (.t 8) (.t 30), none, [0, 0, 1]⟩,
     ⟨none, .store 1 (.t 32) (.t 31), none, [2, 1, 0, 1]⟩])))))
  (.ops [
   ⟨some 33, .bin .add none (.t 12) (.c (.pv (.int .i64 1))), none, []⟩,
   ⟨some 12, .mv (.t 33), none, [0]⟩]))))
def f261 : AFunc := ⟨35, [.cell 6 true 4, .t 7],
 (.seq (.ops [
   ⟨some 3, .box (.t 0), none, []⟩,
   ⟨some 4, .box (.t 1), none, []⟩,
   ⟨some 6, .alloc [(.pv (.int .u64 0)), (.pv (.int .u64 0)), (.pv (.int .u64 0)), (.pv (.int .u64 0))], none, []⟩,
   ⟨some 7, .mv (.c (.pv .nili)), none, []⟩])
  (.seq (.ops [
   ⟨some 8, .alloc [(.pv (.int .u64 0)), (.pv (.int .u64 0)), (.pv (.int .u64 0)), (.pv (.int .u64 0))], none, []⟩])
  (.seq (.seq (.ops [
   ⟨some 12, .mv (.c (.pv (.int .i64 0))), none, []⟩])
  (.block 0
   (.loop f261l0)))
  (.seq (.ops [
   ⟨some 34, .load true 4 (.t 8), none, []⟩,
   ⟨none, .store 4 (.t 6) (.t 34), none, [0, 0]⟩,
   ⟨some 7, .mv (.c (.pv .nili)), none, [1, 0, 1]⟩])
  .ret))))⟩
end Go.Proofs.YtimkghkokfhfcaaDoor.Ab
set_option linter.unusedVariables false
set_option linter.unusedSimpArgs false
namespace Go.Proofs.YtimkghkokfhfcaaDoor.Ab
open Go
/-! ### The document's sums -/
def sumOk (a b : Int) : Bool := decide (a + b < 18446744073709551616)
/-! ### vec's own sums -/
def add1P (args : List AV) (hp : Hl) (nx : Nat) : Option (AV × Hl × Nat) :=
  match args with
  | [.pv (.int .u64 x), .pv (.int .u64 y)] => if 0 ≤ x ∧ x ≤ 18446744073709551615 ∧ 0 ≤ y ∧ y ≤ 18446744073709551615 then some (.pv (.tuple [.int .u64 ((x + y) % 18446744073709551616), .bool (sumOk x y)]), hp, nx) else none
  | _ => none
end Go.Proofs.YtimkghkokfhfcaaDoor.Ab
set_option linter.unusedVariables false
set_option linter.unusedSimpArgs false
namespace Go.Proofs.YtimkghkokfhfcaaDoor.Ab
open Go
structure StdV (T : Tab) : Prop where
  h255 : Std T 255 f255
  h261 : Std T 261 f261
  h256 : StdP T 256 add1P
  h260 : Std T 260 f260
end Go.Proofs.YtimkghkokfhfcaaDoor.Ab
set_option linter.unusedVariables false
namespace Go.Proofs.YtimkghkokfhfcaaDoor.Ab
def f82l0 : ACode :=
 (.seq (.ops [
   ⟨some 12, .bin .lss none (.t 11) (.t 10), none, []⟩])
  (.seq (.cond (.t 12)
   .skip
   (.exit 0))
  (.seq (.block 1
   (.seq (.ops [
     ⟨some 13, .idxAddr 10 (.t 9) (.t 11), none, []⟩,
     ⟨some 14, .load true 10 (.t 13), none, [0]⟩,
     ⟨some 7, .alloc [(.pv (.int .i64 0)), (.pv (.int .i64 0)), (.pv (.int .u64 0)), (.pv (.int .u64 0)), (.pv (.int .u64 0)), (.pv (.int .u64 0)), (.pv (.int .u64 0)), (.pv (.int .u64 0)), (.pv (.int .u64 0)), (.pv (.int .u64 0))], none, []⟩,
     ⟨none, .store 10 (.t 7) (.t 14), none, [2, 1, 0, 1, 2]⟩])
    (.seq (.ops [
     ⟨some 15, .fieldAddr 0 (.t 7), none, []⟩,
     ⟨some 16, .load false 1 (.t 15), none, [0]⟩,
     ⟨some 17, .mv (.t 1), none, []⟩,
     ⟨some 18, .bin .eql none (.t 16) (.t 17), none, [1, 2]⟩])
    (.cond (.t 18)
     (.seq (.ops [
       ⟨some 19, .load true 10 (.t 7), none, []⟩,
       ⟨none, .store 10 (.t 4) (.t 19), none, [0, 0]⟩,
       ⟨some 5, .mv (.c (.pv (.bool true))), none, [1, 0, 1]⟩])
      .ret)
     .skip))))
  (.ops [
   ⟨some 20, .bin .add none (.t 11) (.c (.pv (.int .i64 1))), none, []⟩,
   ⟨some 11, .mv (.t 20), none, [0]⟩]))))
def f82 : AFunc := ⟨22, [.cell 4 true 10, .t 5],
 (.seq (.ops [
   ⟨some 2, .box (.t 0), none, []⟩,
   ⟨some 4, .alloc [(.pv (.int .i64 0)), (.pv (.int .i64 0)), (.pv (.int .u64 0)), (.pv (.int .u64 0)), (.pv (.int .u64 0)), (.pv (.int .u64 0)), (.pv (.int .u64 0)), (.pv (.int .u64 0)), (.pv (.int .u64 0)), (.pv (.int .u64 0))], none, []⟩,
   ⟨some 5, .mv (.c (.pv (.bool false))), none, []⟩])
  (.seq (.seq (.ops [
   ⟨some 8, .fieldAddr 0 (.t 2), none, []⟩,
   ⟨some 9, .load false 1 (.t 8), none, [0]⟩,
   ⟨some 10, .len (.t 9), none, [1]⟩,
   ⟨some 11, .mv (.c (.pv (.int .i64 0))), none, []⟩])
  (.block 0
   (.loop f82l0)))
  (.seq (.ops [
   ⟨some 21, .build [(.pv (.int .i64 0)), (.pv (.int .i64 0)), (.pv (.int .u64 0)), (.pv (.int .u64 0)), (.pv (.int .u64 0)), (.pv (.int .u64 0)), (.pv (.int .u64 0)), (.pv (.int .u64 0)), (.pv (.int .u64 0)), (.pv (.int .u64 0))] [], none, []⟩,
   ⟨none, .store 10 (.t 4) (.t 21), none, [0, 0]⟩,
   ⟨some 5, .mv (.c (.pv (.bool false))), none, [1, 0, 1]⟩])
  .ret)))⟩
def f83l0 : ACode :=
 (.seq (.ops [
   ⟨some 12, .bin .lss none (.t 11) (.t 10), none, []⟩])
  (.seq (.cond (.t 12)
   .skip
   (.exit 0))
  (.seq (.block 1
   (.seq (.ops [
     ⟨some 13, .idxAddr 6 (.t 9) (.t 11), none, []⟩,
     ⟨some 14, .load true 6 (.t 13), none, [0]⟩,
     ⟨some 7, .alloc [(.pv (.int .i64 0)), (.pv (.int .u64 0)), (.pv (.int .u64 0)), (.pv (.int .u64 0)), (.pv (.int .u64 0)), (.pv (.bool false))], none, []⟩,
     ⟨none, .store 6 (.t 7) (.t 14), none, [2, 1, 0, 1, 2]⟩])
    (.seq (.ops [
     ⟨some 15, .fieldAddr 0 (.t 7), none, []⟩,
     ⟨some 16, .load false 1 (.t 15), none, [0]⟩,
     ⟨some 17, .mv (.t 1), none, []⟩,
     ⟨some 18, .bin .eql none (.t 16) (.t 17), none, [1, 2]⟩])
    (.cond (.t 18)
     (.seq (.ops [
       ⟨some 19, .load true 6 (.t 7), none, []⟩,
       ⟨none, .store 6 (.t 4) (.t 19), none, [0, 0]⟩,
       ⟨some 5, .mv (.c (.pv (.bool true))), none, [1, 0, 1]⟩])
      .ret)
     .skip))))
  (.ops [
   ⟨some 20, .bin .add none (.t 11) (.c (.pv (.int .i64 1))), none, []⟩,
   ⟨some 11, .mv (.t 20), none, [0]⟩]))))
def f83 : AFunc := ⟨22, [.cell 4 true 6, .t 5],
 (.seq (.ops [
   ⟨some 2, .box (.t 0), none, []⟩,
   ⟨some 4, .alloc [(.pv (.int .i64 0)), (.pv (.int .u64 0)), (.pv (.int .u64 0)), (.pv (.int .u64 0)), (.pv (.int .u64 0)), (.pv (.bool false))], none, []⟩,
   ⟨some 5, .mv (.c (.pv (.bool false))), none, []⟩])
  (.seq (.seq (.ops [
   ⟨some 8, .fieldAddr 0 (.t 2), none, []⟩,
   ⟨some 9, .load false 1 (.t 8), none, [0]⟩,
   ⟨some 10, .len (.t 9), none, [1]⟩,
   ⟨some 11, .mv (.c (.pv (.int .i64 0))), none, []⟩])
  (.block 0
   (.loop f83l0)))
  (.seq (.ops [
   ⟨some 21, .build [(.pv (.int .i64 0)), (.pv (.int .u64 0)), (.pv (.int .u64 0)), (.pv (.int .u64 0)), (.pv (.int .u64 0)), (.pv (.bool false))] [], none, []⟩,
   ⟨none, .store 6 (.t 4) (.t 21), none, [0, 0]⟩,
   ⟨some 5, .mv (.c (.pv (.bool false))), none, [1, 0, 1]⟩])
  .ret)))⟩
def f153 : AFunc := ⟨19, [.t 2],
 (.seq (.ops [
   ⟨some 1, .box (.t 0), none, []⟩,
   ⟨some 2, .mv (.c (.pv (.bool false))), none, []⟩])
  (.seq (.ops [
   ⟨some 3, .fieldAddr 0 (.t 1), none, []⟩,
   ⟨some 4, .load false 1 (.t 3), none, [0]⟩,
   ⟨some 5, .len (.t 4), none, [1]⟩,
   ⟨some 6, .bin .leq none (.t 5) (.c (.pv (.int .i64 40))), none, [2]⟩,
   ⟨some 7, .mv (.t 6), none, [3]⟩,
   ⟨some 8, .fieldAddr 1 (.t 1), some (7, true), [4]⟩,
   ⟨some 9, .load false 1 (.t 8), some (7, true), [5, 4]⟩,
   ⟨some 10, .len (.t 9), some (7, true), [6, 4]⟩,
   ⟨some 11, .bin .leq none (.t 10) (.c (.pv (.int .i64 40))), some (7, true), [7, 4]⟩,
   ⟨some 12, .pick (.t 7) (.t 11) (.c (.pv (.bool false))), none, [4, 8]⟩,
   ⟨some 13, .mv (.t 12), none, [9, 4]⟩,
   ⟨some 14, .fieldAddr 2 (.t 1), some (13, true), [10]⟩,
   ⟨some 15, .load false 1 (.t 14), some (13, true), [11, 10]⟩,
   ⟨some 16, .len (.t 15), some (13, true), [12, 10]⟩,
   ⟨some 17, .bin .leq none (.t 16) (.c (.pv (.int .i64 40))), some (13, true), [13, 10]⟩,
   ⟨some 18, .pick (.t 13) (.t 17) (.c (.pv (.bool false))), none, [10, 14]⟩,
   ⟨some 2, .mv (.t 18), none, [15, 10, 0, 1, 2, 3, 4, 5, 6, 7, 8, 9, 10, 11, 12, 13, 14, 15]⟩])
  .ret))⟩
def f244 : AFunc := ⟨9, [.t 4],
 (.seq (.ops [
   ⟨some 2, .box (.t 0), none, []⟩,
   ⟨some 3, .box (.t 1), none, []⟩,
   ⟨some 4, .mv (.c (.pv (.int .i64 0))), none, []⟩])
  (.seq (.ops [
   ⟨some 5, .fieldAddr 0 (.t 2), none, []⟩,
   ⟨some 6, .load false 1 (.t 5), none, [0]⟩,
   ⟨some 7, .mkF 245 [] [(.t 3)], none, []⟩,
   ⟨some 8, .call 287 [(.t 6), (.t 7)], none, [1, 2]⟩,
   ⟨some 4, .mv (.t 8), none, [3, 3, 0, 1, 2, 3]⟩])
  .ret))⟩
def f245 : AFunc := ⟨8, [.t 3],
 (.seq (.ops [
   ⟨some 2, .box (.t 0), none, []⟩,
   ⟨some 3, .mv (.c (.pv (.bool false))), none, []⟩])
  (.seq (.ops [
   ⟨some 4, .fieldAddr 0 (.t 2), none, []⟩,
   ⟨some 5, .load false 1 (.t 4), none, [0]⟩,
   ⟨some 6, .load false 1 (.t 1), none, []⟩,
   ⟨some 7, .bin .eql none (.t 5) (.t 6), none, [1, 2]⟩,
   ⟨some 3, .mv (.t 7), none, [3, 0, 1, 2, 3]⟩])
  .ret))⟩
def f287l0 : ACode :=
 (.seq (.ops [
   ⟨some 9, .bin .lss none (.t 8) (.t 7), none, []⟩])
  (.seq (.cond (.t 9)
   .skip
   (.exit 0))
  (.seq (.block 1
   (.seq (.ops [
     ⟨some 10, .mv (.t 8), none, []⟩,
     ⟨some 5, .mv (.t 10), none, [0, 0]⟩])
    (.seq (.ops [
     ⟨some 11, .mv (.t 1), none, []⟩,
     ⟨some 12, .mv (.t 0), none, []⟩,
     ⟨some 13, .mv (.t 5), none, []⟩,
     ⟨some 14, .idxAddr 8 (.t 12) (.t 13), none, [1, 2]⟩,
     ⟨some 15, .load true 8 (.t 14), none, [3]⟩,
     ⟨some 16, .callv (.t 11) [(.t 15)], none, [0, 4]⟩])
    (.cond (.t 16)
     (.seq (.ops [
       ⟨some 17, .mv (.t 5), none, []⟩,
       ⟨some 4, .mv (.t 17), none, [0, 0]⟩])
      .ret)
     .skip))))
  (.ops [
   ⟨some 18, .bin .add none (.t 8) (.c (.pv (.int .i64 1))), none, []⟩,
   ⟨some 8, .mv (.t 18), none, [0]⟩]))))
def f287 : AFunc := ⟨19, [.t 4],
 (.seq (.ops [
   ⟨some 4, .mv (.c (.pv (.int .i64 0))), none, []⟩])
  (.seq (.seq (.ops [
   ⟨some 6, .mv (.t 0), none, []⟩,
   ⟨some 7, .len (.t 6), none, [0]⟩,
   ⟨some 8, .mv (.c (.pv (.int .i64 0))), none, []⟩])
  (.block 0
   (.loop f287l0)))
  (.seq (.ops [
   ⟨some 4, .mv (.c (.pv (.int .i64 (-1)))), none, []⟩])
  .ret)))⟩
end Go.Proofs.YtimkghkokfhfcaaDoor.Ab
set_option linter.unusedVariables false
set_option linter.unusedSimpArgs false
namespace Go.Proofs.YtimkghkokfhfcaaDoor.Ab
open Go
def few3 (s : Snap) : Bool := decide ((s.nodes.length : Int) ≤ 40) && (decide ((s.loads.length : Int) ≤ 40) && decide ((s.pods.length : Int) ≤ 40))
theorem few3_ok {T : Tab} (h153 : Std T 153 f153) (s : Snap) : Gives T 153 [snapP s] (.bool (few3 s)) := by
  refine gives h153 rfl ?_
  unfold few3
  by_cases h1 : (s.nodes.length : Int) ≤ 40 <;> by_cases h2 : (s.loads.length : Int) ≤ 40 <;> by_cases h3 : (s.pods.length : Int) ≤ 40 <;>
    simp only [f153, runL, opQ, evOp, evO, evOs, guardV, argsA, pvs, putS, cellsOf, scals, scal, Nat.reduceEqDiff, Nat.reduceAdd, reduceCtorEq, fieldA, nonNil, cellsAt, mkAgg, allPV, storeB, patchL, Int.reduceToNat, Nat.reduceMul, Nat.reduceLT, stepA, Int.reduceNeg, Int.reduceLE, Int.reduceLT, Int.reduceEq, extractV, mkAgg, Nat.reduceLeDiff, fillA, pureVs, pureV, eqV, eqB, lenV, binV, intBin, intV, idxA, List.drop, List.take, RetP, retP, resV, resOne, snapV, snapVs, snapR, snapRs, ownSz, pickV, AO.isC, opE, opD, funV, snapP, List.length_map, h1, h2, h3, decide_true, decide_false, Bool.and_true, Bool.true_and, Bool.and_false, Bool.false_and]
end Go.Proofs.YtimkghkokfhfcaaDoor.Ab
set_option linter.unusedVariables false
namespace Go.Proofs.YtimkghkokfhfcaaDoor.Ab
open Go
def f4 : AFunc := ⟨8, [.t 2],
 (.seq (.ops [
   ⟨some 2, .mv (.c (.pv .nili)), none, []⟩])
  (.seq (.ops [
   ⟨some 3, .mv (.t 0), none, []⟩,
   ⟨some 4, .nilchk (.t 3), none, [0]⟩,
   ⟨some 5, .fieldAddr 1 (.t 4), none, [1]⟩,
   ⟨some 6, .load false 1 (.t 5), none, [2]⟩,
   ⟨some 7, .mkI 0 (.t 6), none, [3]⟩,
   ⟨some 2, .mv (.t 7), none, [4, 0, 1, 2, 3, 4]⟩])
  .ret))⟩
def f72 : AFunc := ⟨18, [.t 4],
 (.seq (.ops [
   ⟨some 2, .box (.t 0), none, []⟩,
   ⟨some 3, .box (.t 1), none, []⟩,
   ⟨some 4, .mv (.c (.pv .nili)), none, []⟩])
  (.seq (.seq (.ops [
   ⟨some 5, .fieldAddr 1 (.t 3), none, []⟩,
   ⟨some 6, .load false 1 (.t 5), none, [0]⟩,
   ⟨some 7, .fieldAddr 1 (.t 2), none, []⟩,
   ⟨some 8, .load false 1 (.t 7), none, [2]⟩,
   ⟨some 9, .bin .gtr none (.t 6) (.t 8), none, [1, 3]⟩,
   ⟨some 10, .mv (.t 9), none, [4]⟩,
   ⟨some 11, .fieldAddr 2 (.t 3), some (10, false), [5]⟩,
   ⟨some 12, .load false 1 (.t 11), some (10, false), [6, 5]⟩,
   ⟨some 13, .fieldAddr 2 (.t 2), some (10, false), [5]⟩,
   ⟨some 14, .load false 1 (.t 13), some (10, false), [8, 5]⟩,
   ⟨some 15, .bin .gtr none (.t 12) (.t 14), some (10, false), [7, 9, 5]⟩,
   ⟨some 16, .pick (.t 10) (.c (.pv (.bool true))) (.t 15), none, [5, 10]⟩])
  (.cond (.t 16)
   (.seq (.ops [
     ⟨some 17, .mkI 0 (.c (.pv (.int .i64 15))), none, []⟩,
     ⟨some 4, .mv (.t 17), none, [0, 0]⟩])
    .ret)
   .skip))
  (.seq (.ops [
   ⟨some 4, .mv (.c (.pv .nili)), none, []⟩])
  .ret)))⟩
end Go.Proofs.YtimkghkokfhfcaaDoor.Ab
set_option linter.unusedVariables false
set_option linter.unusedSimpArgs false
namespace Go.Proofs.YtimkghkokfhfcaaDoor.Ab
open Go
section
variable {T : Tab}
/-! ### The laws' own helpers -/
end
end Go.Proofs.YtimkghkokfhfcaaDoor.Ab
set_option linter.unusedVariables false
set_option linter.unusedSimpArgs false
namespace Go.Proofs.YtimkghkokfhfcaaDoor.Ab
open Go
section
variable {T : Tab}
structure Std5 (T : Tab) : Prop where
  h287 : Std T 287 f287
  flat287 : T.flat 287 = true
  h245 : Std T 245 f245
  h244 : Std T 244 f244
structure Cln (T : Tab) (n sz : Nat) : Prop where
  prim : T.prim n = some (cloneP sz)
  raw : T.raw n = false
  own : T.own n = true
theorem Cln.call {n sz : Nat} (S : Cln T n sz) {es : List (List PV)} (h : allLen sz es = true) (hl : es.length ≤ 2 ^ 30) (d : Option Nat) (l : List AOper) (st : St) (K : St → Prop) :
    callQ T n [.pv (.slice es)] d l st K ↔ WpO T l (match es with | [] => ⟨putS st d (.pv (.slice [])), st.hp, st.nx⟩ | e :: r => ⟨putS st d (.ms st.nx), (st.nx, .row sz (e :: r)) :: st.hp, st.nx + 1⟩) K := by
  cases es with
  | nil =>
    have hc : callP (D T) n [.slice []] = some (none, .slice []) := by
      unfold callP
      rw [D_prim S.prim (show cloneP sz (pvs [.slice []]) [] 0 = some (.pv (.slice []), [], 2) from rfl)]
      rfl
    rw [callQ_pure S.raw rfl hc, S.own]
    rfl
  | cons e r =>
    have hc : callP (D T) n [.slice (e :: r)] = some (some sz, .slice (e :: r)) := by
      unfold callP
      rw [D_prim S.prim (show cloneP sz (pvs [.slice (e :: r)]) [] 0 = some (.ms 1, [(1, .row sz (e :: r))], 2) from by
        simp only [cloneP, pvs]; rw [if_pos ⟨h, hl⟩])]
      rfl
    rw [callQ_pure S.raw rfl hc, S.own]
    rfl
end
end Go.Proofs.YtimkghkokfhfcaaDoor.Ab
set_option linter.unusedVariables false
set_option linter.unusedSimpArgs false
namespace Go.Proofs.YtimkghkokfhfcaaDoor.Ab
open Go
/-! ### Calls in the caller's blocks -/
theorem callQ_raw {T : Tab} {n : Nat} {args : List AV} {d : Option Nat} {l : List AOper} {st : St} {K : St → Prop} {v : AV} {hp : Hl} {nx : Nat} (hr : T.raw n = true) (h : D T n args st.hp st.nx = some (v, hp, nx)) :
    callQ T n args d l st K ↔ WpO T l ⟨putS st d v, hp, nx⟩ K := by
  unfold callQ doCall
  simp only [hr, h, Option.some.injEq]
  constructor
  · rintro ⟨_, rfl, h⟩; exact h
  · exact fun h => ⟨_, rfl, h⟩
structure StdR (T : Tab) (n : Nat) (f : AFunc) : Prop where
  prim : T.prim n = none
  fn : T.fn n = some f
  still : T.still n = false
  raw : T.raw n = true
def node0 : Node := ⟨0, 0, ⟨0, 0, 0, 0⟩, ⟨0, 0, 0, 0⟩⟩
def nodeOf (id : Int) (l : List Node) : Option Node := l.find? (fun n => decide (n.id = id))
def nodeR : Option Node → PV
  | some n => .tuple [.agg (nodeC n), .bool true]
  | none => .tuple [.agg (nodeC node0), .bool false]
theorem node_loop {T : Tab} (l : List Node) (id : Int) (hl : l.length ≤ 2 ^ 30) (Q : Exit → St → Prop) (o : Option Node)
    (hend : o = none → ∀ fr hp nx, look fr 4 = .ptr 1 0 0 → blkAt hp 1 = .var (pvs (nodeC node0)) → Q (.exit 0) ⟨fr, hp, nx⟩)
    (hret : ∀ n, o = some n → ∀ fr hp nx, look fr 4 = .ptr 1 0 0 → look fr 5 = .pv (.bool true) → blkAt hp 1 = .var (pvs (nodeC n)) → Q .ret ⟨fr, hp, nx⟩) :
    ∀ (rest : List Node) (i : Nat), l.drop i = rest → i ≤ l.length → nodeOf id rest = o → ∀ (fr : List (Nat × AV)) (hp : Hl) (nx : Nat), 2 ≤ nx → look fr 4 = .ptr 1 0 0 → blkAt hp 1 = .var (pvs (nodeC node0)) →
      look fr 1 = .pv (.int .i64 id) → look fr 9 = .pv (.slice (l.map nodeC)) → look fr 10 = .pv (.int .i64 l.length) → look fr 11 = .pv (.int .i64 i) → Wp T false (.loop f82l0) ⟨fr, hp, nx⟩ Q := by
  intro rest
  induction rest with
  | nil =>
    intro i hd hi ho fr hp nx hn h4 b1 h1 h9 h10 h11
    have hlen := drop_nil hd hi
    rw [Wp_loop, Wp_eq f82l0.eq_1]
    simp only [runL, opQ, evOp, evO, evOs, guardV, argsA, pvs, putS, cellsOf, scals, scal, Nat.reduceEqDiff, Nat.reduceAdd, reduceCtorEq, fieldA, nonNil, cellsAt, mkAgg, allPV, storeB, patchL, Int.reduceToNat, Nat.reduceMul, Nat.reduceLT, stepA, Int.reduceNeg, Int.reduceLE, Int.reduceLT, Int.reduceEq, extractV, mkAgg, Nat.reduceLeDiff, fillA, pureVs, pureV, eqV, eqB, lenV, binV, intBin, intV, idxA, List.drop, List.take, RetP, retP, resV, resOne, snapV, snapVs, snapR, snapRs, ownSz, pickV, AO.isC, opE, opD, funV, h4, h1, h9, h10, h11, hlen, Int.lt_irrefl]
    refine hend ho.symm _ _ _ ?_ b1
    simp only [look_if, Nat.reduceEqDiff, if_false, h4]
  | cons n r ih =>
    intro i hd hi ho fr hp nx hn h4 b1 h1 h9 h10 h11
    obtain ⟨hget, hlt, hw, hd', hi', hb⟩ := drop_cons hd hl
    have n1 : ¬ nx = 1 := by omega
    have b1' := b1
    simp only [nodeC, node0, pvs] at b1'
    rw [Wp_loop, Wp_eq f82l0.eq_1]
    by_cases hk : n.id = id
    · simp only [runL, opQ, evOp, evO, evOs, guardV, argsA, pvs, putS, cellsOf, scals, scal, Nat.reduceEqDiff, Nat.reduceAdd, reduceCtorEq, fieldA, nonNil, cellsAt, mkAgg, allPV, storeB, patchL, Int.reduceToNat, Nat.reduceMul, Nat.reduceLT, stepA, Int.reduceNeg, Int.reduceLE, Int.reduceLT, Int.reduceEq, extractV, mkAgg, Nat.reduceLeDiff, fillA, pureVs, pureV, eqV, eqB, lenV, binV, intBin, intV, idxA, List.drop, List.take, RetP, retP, resV, resOne, snapV, snapVs, snapR, snapRs, ownSz, pickV, AO.isC, opE, opD, funV, h4, b1', h1, h9, h10, h11, hlt, hget, nodeC, n1, hk]
      refine hret n (by rw [← ho]; simp [nodeOf, hk]) _ _ _ ?_ ?_ ?_
      all_goals simp only [look_if, blkAt_if, Nat.reduceEqDiff, if_true, if_false, h4, n1, nodeC, pvs, hk]
    · simp only [runL, opQ, evOp, evO, evOs, guardV, argsA, pvs, putS, cellsOf, scals, scal, Nat.reduceEqDiff, Nat.reduceAdd, reduceCtorEq, fieldA, nonNil, cellsAt, mkAgg, allPV, storeB, patchL, Int.reduceToNat, Nat.reduceMul, Nat.reduceLT, stepA, Int.reduceNeg, Int.reduceLE, Int.reduceLT, Int.reduceEq, extractV, mkAgg, Nat.reduceLeDiff, fillA, pureVs, pureV, eqV, eqB, lenV, binV, intBin, intV, idxA, List.drop, List.take, RetP, retP, resV, resOne, snapV, snapVs, snapR, snapRs, ownSz, pickV, AO.isC, opE, opD, funV, h4, b1', h1, h9, h10, h11, hlt, hget, nodeC, n1, hk, hw]
      refine ih (i + 1) hd' hi' (by rw [← ho]; simp [nodeOf, hk]) _ _ _ (by omega) ?_ ?_ ?_ ?_ ?_ ?_
      all_goals simp only [look_if, blkAt_if, Nat.reduceEqDiff, if_true, if_false, h4, b1, n1, h1, h9, h10]
theorem node_ok {T : Tab} (h : Std T 82 f82) (s : Snap) (id : Int) (hl : s.nodes.length ≤ 2 ^ 30) : Gives T 82 [snapP s, .int .i64 id] (nodeR (nodeOf id s.nodes)) := by
  refine gives h rfl ?_
  simp only [f82, runL, opQ, evOp, evO, evOs, guardV, argsA, pvs, putS, cellsOf, scals, scal, Nat.reduceEqDiff, Nat.reduceAdd, reduceCtorEq, fieldA, nonNil, cellsAt, mkAgg, allPV, storeB, patchL, Int.reduceToNat, Nat.reduceMul, Nat.reduceLT, stepA, Int.reduceNeg, Int.reduceLE, Int.reduceLT, Int.reduceEq, extractV, mkAgg, Nat.reduceLeDiff, fillA, pureVs, pureV, eqV, eqB, lenV, binV, intBin, intV, idxA, List.drop, List.take, RetP, retP, resV, resOne, snapV, snapVs, snapR, snapRs, ownSz, pickV, AO.isC, opE, opD, funV, snapP]
  refine node_loop s.nodes id hl _ (nodeOf id s.nodes) (fun ho fr hp nx h4 b1 => ?_) (fun n ho fr hp nx h4 h5 b1 => ?_) s.nodes 0 rfl (Nat.zero_le _) rfl _ _ _ (Nat.le_refl _) rfl rfl rfl rfl rfl rfl
  · simp only [nodeC, node0, pvs] at b1
    simp only [runL, opQ, evOp, evO, evOs, guardV, argsA, pvs, putS, cellsOf, scals, scal, Nat.reduceEqDiff, Nat.reduceAdd, reduceCtorEq, fieldA, nonNil, cellsAt, mkAgg, allPV, storeB, patchL, Int.reduceToNat, Nat.reduceMul, Nat.reduceLT, stepA, Int.reduceNeg, Int.reduceLE, Int.reduceLT, Int.reduceEq, extractV, mkAgg, Nat.reduceLeDiff, fillA, pureVs, pureV, eqV, eqB, lenV, binV, intBin, intV, idxA, List.drop, List.take, RetP, retP, resV, resOne, snapV, snapVs, snapR, snapRs, ownSz, pickV, AO.isC, opE, opD, funV, ho, nodeR, h4, b1, nodeC, node0]
  · simp only [nodeC, pvs] at b1
    simp only [runL, opQ, evOp, evO, evOs, guardV, argsA, pvs, putS, cellsOf, scals, scal, Nat.reduceEqDiff, Nat.reduceAdd, reduceCtorEq, fieldA, nonNil, cellsAt, mkAgg, allPV, storeB, patchL, Int.reduceToNat, Nat.reduceMul, Nat.reduceLT, stepA, Int.reduceNeg, Int.reduceLE, Int.reduceLT, Int.reduceEq, extractV, mkAgg, Nat.reduceLeDiff, fillA, pureVs, pureV, eqV, eqB, lenV, binV, intBin, intV, idxA, List.drop, List.take, RetP, retP, resV, resOne, snapV, snapVs, snapR, snapRs, ownSz, pickV, AO.isC, opE, opD, funV, ho, nodeR, h4, h5, b1, nodeC]
def want0 : Want := ⟨0, ⟨0, 0, 0, 0⟩, false⟩
def wantOf (id : Int) (l : List Want) : Option Want := l.find? (fun n => decide (n.pod = id))
def wantR : Option Want → PV
  | some n => .tuple [.agg (wantC n), .bool true]
  | none => .tuple [.agg (wantC want0), .bool false]
theorem want_loop {T : Tab} (l : List Want) (id : Int) (hl : l.length ≤ 2 ^ 30) (Q : Exit → St → Prop) (o : Option Want)
    (hend : o = none → ∀ fr hp nx, look fr 4 = .ptr 1 0 0 → blkAt hp 1 = .var (pvs (wantC want0)) → Q (.exit 0) ⟨fr, hp, nx⟩)
    (hret : ∀ n, o = some n → ∀ fr hp nx, look fr 4 = .ptr 1 0 0 → look fr 5 = .pv (.bool true) → blkAt hp 1 = .var (pvs (wantC n)) → Q .ret ⟨fr, hp, nx⟩) :
    ∀ (rest : List Want) (i : Nat), l.drop i = rest → i ≤ l.length → wantOf id rest = o → ∀ (fr : List (Nat × AV)) (hp : Hl) (nx : Nat), 2 ≤ nx → look fr 4 = .ptr 1 0 0 → blkAt hp 1 = .var (pvs (wantC want0)) →
      look fr 1 = .pv (.int .i64 id) → look fr 9 = .pv (.slice (l.map wantC)) → look fr 10 = .pv (.int .i64 l.length) → look fr 11 = .pv (.int .i64 i) → Wp T false (.loop f83l0) ⟨fr, hp, nx⟩ Q := by
  intro rest
  induction rest with
  | nil =>
    intro i hd hi ho fr hp nx hn h4 b1 h1 h9 h10 h11
    have hlen := drop_nil hd hi
    rw [Wp_loop, Wp_eq f83l0.eq_1]
    simp only [runL, opQ, evOp, evO, evOs, guardV, argsA, pvs, putS, cellsOf, scals, scal, Nat.reduceEqDiff, Nat.reduceAdd, reduceCtorEq, fieldA, nonNil, cellsAt, mkAgg, allPV, storeB, patchL, Int.reduceToNat, Nat.reduceMul, Nat.reduceLT, stepA, Int.reduceNeg, Int.reduceLE, Int.reduceLT, Int.reduceEq, extractV, mkAgg, Nat.reduceLeDiff, fillA, pureVs, pureV, eqV, eqB, lenV, binV, intBin, intV, idxA, List.drop, List.take, RetP, retP, resV, resOne, snapV, snapVs, snapR, snapRs, ownSz, pickV, AO.isC, opE, opD, funV, h4, h1, h9, h10, h11, hlen, Int.lt_irrefl]
    refine hend ho.symm _ _ _ ?_ b1
    simp only [look_if, Nat.reduceEqDiff, if_false, h4]
  | cons n r ih =>
    intro i hd hi ho fr hp nx hn h4 b1 h1 h9 h10 h11
    obtain ⟨hget, hlt, hw, hd', hi', hb⟩ := drop_cons hd hl
    have n1 : ¬ nx = 1 := by omega
    have b1' := b1
    simp only [wantC, want0, pvs] at b1'
    rw [Wp_loop, Wp_eq f83l0.eq_1]
    by_cases hk : n.pod = id
    · simp only [runL, opQ, evOp, evO, evOs, guardV, argsA, pvs, putS, cellsOf, scals, scal, Nat.reduceEqDiff, Nat.reduceAdd, reduceCtorEq, fieldA, nonNil, cellsAt, mkAgg, allPV, storeB, patchL, Int.reduceToNat, Nat.reduceMul, Nat.reduceLT, stepA, Int.reduceNeg, Int.reduceLE, Int.reduceLT, Int.reduceEq, extractV, mkAgg, Nat.reduceLeDiff, fillA, pureVs, pureV, eqV, eqB, lenV, binV, intBin, intV, idxA, List.drop, List.take, RetP, retP, resV, resOne, snapV, snapVs, snapR, snapRs, ownSz, pickV, AO.isC, opE, opD, funV, h4, b1', h1, h9, h10, h11, hlt, hget, wantC, n1, hk]
      refine hret n (by rw [← ho]; simp [wantOf, hk]) _ _ _ ?_ ?_ ?_
      all_goals simp only [look_if, blkAt_if, Nat.reduceEqDiff, if_true, if_false, h4, n1, wantC, pvs, hk]
    · simp only [runL, opQ, evOp, evO, evOs, guardV, argsA, pvs, putS, cellsOf, scals, scal, Nat.reduceEqDiff, Nat.reduceAdd, reduceCtorEq, fieldA, nonNil, cellsAt, mkAgg, allPV, storeB, patchL, Int.reduceToNat, Nat.reduceMul, Nat.reduceLT, stepA, Int.reduceNeg, Int.reduceLE, Int.reduceLT, Int.reduceEq, extractV, mkAgg, Nat.reduceLeDiff, fillA, pureVs, pureV, eqV, eqB, lenV, binV, intBin, intV, idxA, List.drop, List.take, RetP, retP, resV, resOne, snapV, snapVs, snapR, snapRs, ownSz, pickV, AO.isC, opE, opD, funV, h4, b1', h1, h9, h10, h11, hlt, hget, wantC, n1, hk, hw]
      refine ih (i + 1) hd' hi' (by rw [← ho]; simp [wantOf, hk]) _ _ _ (by omega) ?_ ?_ ?_ ?_ ?_ ?_
      all_goals simp only [look_if, blkAt_if, Nat.reduceEqDiff, if_true, if_false, h4, b1, n1, h1, h9, h10]
theorem want_ok {T : Tab} (h : Std T 83 f83) (x : Spec) (id : Int) (hl : x.wants.length ≤ 2 ^ 30) : Gives T 83 [specP x, .int .i64 id] (wantR (wantOf id x.wants)) := by
  refine gives h rfl ?_
  simp only [f83, runL, opQ, evOp, evO, evOs, guardV, argsA, pvs, putS, cellsOf, scals, scal, Nat.reduceEqDiff, Nat.reduceAdd, reduceCtorEq, fieldA, nonNil, cellsAt, mkAgg, allPV, storeB, patchL, Int.reduceToNat, Nat.reduceMul, Nat.reduceLT, stepA, Int.reduceNeg, Int.reduceLE, Int.reduceLT, Int.reduceEq, extractV, mkAgg, Nat.reduceLeDiff, fillA, pureVs, pureV, eqV, eqB, lenV, binV, intBin, intV, idxA, List.drop, List.take, RetP, retP, resV, resOne, snapV, snapVs, snapR, snapRs, ownSz, pickV, AO.isC, opE, opD, funV, specP]
  refine want_loop x.wants id hl _ (wantOf id x.wants) (fun ho fr hp nx h4 b1 => ?_) (fun n ho fr hp nx h4 h5 b1 => ?_) x.wants 0 rfl (Nat.zero_le _) rfl _ _ _ (Nat.le_refl _) rfl rfl rfl rfl rfl rfl
  · simp only [wantC, want0, pvs] at b1
    simp only [runL, opQ, evOp, evO, evOs, guardV, argsA, pvs, putS, cellsOf, scals, scal, Nat.reduceEqDiff, Nat.reduceAdd, reduceCtorEq, fieldA, nonNil, cellsAt, mkAgg, allPV, storeB, patchL, Int.reduceToNat, Nat.reduceMul, Nat.reduceLT, stepA, Int.reduceNeg, Int.reduceLE, Int.reduceLT, Int.reduceEq, extractV, mkAgg, Nat.reduceLeDiff, fillA, pureVs, pureV, eqV, eqB, lenV, binV, intBin, intV, idxA, List.drop, List.take, RetP, retP, resV, resOne, snapV, snapVs, snapR, snapRs, ownSz, pickV, AO.isC, opE, opD, funV, ho, wantR, h4, b1, wantC, want0]
  · simp only [wantC, pvs] at b1
    simp only [runL, opQ, evOp, evO, evOs, guardV, argsA, pvs, putS, cellsOf, scals, scal, Nat.reduceEqDiff, Nat.reduceAdd, reduceCtorEq, fieldA, nonNil, cellsAt, mkAgg, allPV, storeB, patchL, Int.reduceToNat, Nat.reduceMul, Nat.reduceLT, stepA, Int.reduceNeg, Int.reduceLE, Int.reduceLT, Int.reduceEq, extractV, mkAgg, Nat.reduceLeDiff, fillA, pureVs, pureV, eqV, eqB, lenV, binV, intBin, intV, idxA, List.drop, List.take, RetP, retP, resV, resOne, snapV, snapVs, snapR, snapRs, ownSz, pickV, AO.isC, opE, opD, funV, ho, wantR, h4, h5, b1, wantC]
end Go.Proofs.YtimkghkokfhfcaaDoor.Ab
set_option linter.unusedVariables false
set_option linter.unusedSimpArgs false
namespace Go.Proofs.YtimkghkokfhfcaaDoor.Ab
open Go
def asP (args : List AV) (hp : Hl) (nx : Nat) : Option (AV × Hl × Nat) :=
  match args with
  | [.pv .nili, .iface 3 (.ptr k 0 0)] => some (.pv (.bool false), hp, nx)
  | [.pv (.iface 0 (.int .i64 n)), .iface 3 (.ptr k 0 0)] => match blkAt hp k with
    | .var [.pv (.int .i64 _)] => some (.pv (.bool true), (k, .var [.pv (.int .i64 n)]) :: hp, nx)
    | _ => none
  | [.pv (.iface 1 (.cptr [.int .i64 _, .int .i64 n] 0)), .iface 3 (.ptr k 0 0)] => match blkAt hp k with
    | .var [.pv (.int .i64 _)] => some (.pv (.bool true), (k, .var [.pv (.int .i64 n)]) :: hp, nx)
    | _ => none
  | _ => none
theorem Rel.setVar {X : Ctx} {M : Nat → Nat} {F : Fr} {hp : Hl} {nx : Nat} {a : Act} {w : World} (R : Rel X M F (blkAt hp) (fun i => i < nx) a w) {k : Nat} {o n : Int} (hb : blkAt hp k = .var [.pv (.int .i64 o)]) :
    Rel X M F (blkAt ((k, .var [.pv (.int .i64 n)]) :: hp)) (fun i => i < nx) a (w.setCell ⟨M k, 0, none⟩ (.int .i64 n)) := by
  have hB := R.blk k
  rw [hb] at hB
  obtain ⟨c, t, h1, h2, h3⟩ := hB
  simp only [viewOf] at h1
  have hsz : c.size = 1 := by simpa using h2
  rw [setCell_eq h1]
  have e : blkAt ((k, .var [.pv (.int .i64 n)]) :: hp) = wr (blkAt hp) [(k, .var [.pv (.int .i64 n)])] := by
    funext i
    rw [← blkAt_wr]
    rfl
  rw [e]
  have hlt : M k < w.heap.size := (Array.getElem?_eq_some_iff.1 h1).1
  refine R.write _ _ k (by rw [hb]; simp) (by simp) (by rw [hb]; rfl) ?_ ?_
  · simp only [World.shape?]
    rw [setB_same _ hlt, h1]
    simp
  · refine ⟨_, t, setB_same _ hlt, by simp [hsz], ?_⟩
    simp only [ARun, and_true]
    refine ⟨.int .i64 n, ?_, by simp [Scalar], by simp only [VA, VP]⟩
    simp only [World.cell?, viewOf]
    rw [setB_same _ hlt]
    simp [hsz]
theorem asP_raw {E : Env} {n : Nat} {g : Nat × Value} (hent : Ent E n) (hg : g ∈ E.gl)
    (h1 : ∀ (t : Value) (w : World), Calls E.P (E.ρ n) #[.nilIface, t] w fun e w' => e = .returned (.bool false) ∧ w' = w)
    (h2 : ∀ (t : Addr) (old : Value) (w : World) (m : Int), w.cell? ⟨g.1, 0, none⟩ = some g.2 → w.cell? t = some old → w.frozen? t = false →
      Calls E.P (E.ρ n) #[.iface (E.τ 0) (.int .i64 m), .iface (E.τ 3) (.pointer (some t))] w fun e w' => e = .returned (.bool true) ∧ ∃ w1, Go.RowKit.Below w.heap.size w w1 ∧ w' = w1.setCell t (.int .i64 m))
    (h3 : ∀ (t : Addr) (old : Value) (w : World) (b o : Nat) (a m : Int), w.cell? ⟨b, o, none⟩ = some (.int .i64 a) → w.cell? ⟨b, o + 1, none⟩ = some (.int .i64 m) → w.cell? ⟨g.1, 0, none⟩ = some g.2 → w.cell? t = some old → w.frozen? t = false →
      Calls E.P (E.ρ n) #[.iface (E.τ 1) (.pointer (some ⟨b, o, none⟩)), .iface (E.τ 3) (.pointer (some t))] w fun e w' => e = .returned (.bool true) ∧ ∃ w1, Go.RowKit.Below w.heap.size w w1 ∧ w' = w1.setCell t (.int .i64 m))
    (args : List AV) (hp : Hl) (nx : Nat) (v : AV) (hp' : Hl) (nx' : Nat) (h : asP args hp nx = some (v, hp', nx')) : RawC E n args hp nx v hp' nx' := by
  refine ⟨hent, fun X M F a w vs hX R hv => ?_⟩
  subst hX
  have hc := (R.inv g hg).2
  have fin : ∀ {k : Nat} {o m : Int}, blkAt hp k = .var [.pv (.int .i64 o)] → v = .pv (.bool true) → hp' = (k, .var [.pv (.int .i64 m)]) :: hp → nx' = nx → ∀ {e : Ending} {w' : World}, (e = .returned (.bool true) ∧ ∃ w1, Go.RowKit.Below w.heap.size w w1 ∧ w' = w1.setCell ⟨M k, 0, none⟩ (.int .i64 m)) →
      ∃ u M', e = .returned u ∧ Rel X M' F (blkAt hp') (fun i => i < nx') a w' ∧ VA (viewOf X w' (fun i => i < nx') M' (blkAt hp')) v u := by
    rintro k o m hb rfl rfl rfl e w' ⟨rfl, w1, hbl, rfl⟩
    exact ⟨_, M, rfl, (R.grown (keeps_of hbl)).setVar hb, by simp only [VA, VP]⟩
  have tgt : ∀ {k : Nat} {o : Int} {u : Value}, blkAt hp k = .var [.pv (.int .i64 o)] → VA (viewOf X w (fun i => i < nx) M (blkAt hp)) (.ptr k 0 0) u →
      u = .pointer (some ⟨M k, 0, none⟩) ∧ (∃ old, w.cell? ⟨M k, 0, none⟩ = some old) ∧ w.frozen? ⟨M k, 0, none⟩ = false := by
    intro k o u hb hu
    simp only [VA, viewOf] at hu
    obtain ⟨_, _, hu⟩ := hu
    have e := hu (0, 0) (by rw [hb]; rfl)
    have hB := R.blk k
    rw [hb] at hB
    obtain ⟨c, t, q1, q2, q3⟩ := hB
    simp only [viewOf] at q1
    have hsz : c.size = 1 := by simpa using q2
    simp only [ARun, and_true] at q3
    obtain ⟨x, q4, _, _⟩ := q3
    refine ⟨by simpa using e, ⟨x, q4⟩, ?_⟩
    simp only [World.frozen?, q1]
    simp
  unfold asP at h
  split at h
  · rename_i k
    simp only [Option.some.injEq, Prod.mk.injEq] at h
    obtain ⟨rfl, rfl, rfl⟩ := h
    simp only [VAs, VA, VP] at hv
    obtain ⟨_, _, rfl, rfl, u, _, rfl, _, rfl⟩ := hv
    refine (h1 u w).mono fun e w' ⟨he, hw⟩ => ?_
    subst he hw
    exact ⟨_, M, rfl, R, by simp only [VA, VP]⟩
  · rename_i m k
    split at h
    · rename_i o hb
      simp only [Option.some.injEq, Prod.mk.injEq] at h
      obtain ⟨rfl, rfl, rfl⟩ := h
      simp only [VAs] at hv
      obtain ⟨u1, _, rfl, hu1, u2, _, rfl, hu2, rfl⟩ := hv
      simp only [VA, VP] at hu1
      obtain ⟨_, rfl, rfl⟩ := hu1
      rw [VA] at hu2
      obtain ⟨u3, rfl, hu3⟩ := hu2
      obtain ⟨rfl, ⟨old, c1⟩, c2⟩ := tgt hb hu3
      exact (h2 ⟨M k, 0, none⟩ old w m hc c1 c2).mono fun e w' hh => fin hb rfl rfl rfl hh
    · simp at h
  · rename_i a' m k
    split at h
    · rename_i o hb
      simp only [Option.some.injEq, Prod.mk.injEq] at h
      obtain ⟨rfl, rfl, rfl⟩ := h
      simp only [VAs] at hv
      obtain ⟨u1, _, rfl, hu1, u2, _, rfl, hu2, rfl⟩ := hv
      simp only [VA, VP, VRun] at hu1
      obtain ⟨_, rfl, b, o', rfl, _, ⟨_, d1, _, rfl⟩, ⟨_, d2, _, rfl⟩, _⟩ := hu1
      rw [VA] at hu2
      obtain ⟨u3, rfl, hu3⟩ := hu2
      obtain ⟨rfl, ⟨old, c1⟩, c2⟩ := tgt hb hu3
      exact (h3 ⟨M k, 0, none⟩ old w b o' a' m d1 d2 hc c1 c2).mono fun e w' hh => fin hb rfl rfl rfl hh
    · simp at h
  · simp at h
structure StdA (T : Tab) (n : Nat) : Prop where
  prim : T.prim n = some asP
  raw : T.raw n = true
section
variable {T : Tab} {n : Nat} (S : StdA T n)
include S
end
end Go.Proofs.YtimkghkokfhfcaaDoor.Ab
set_option linter.unusedVariables false
set_option linter.unusedSimpArgs false
namespace Go.Proofs.YtimkghkokfhfcaaDoor.Ab
open Go
section
variable {T : Tab}
/-! ### Code, of codes -/
/-! ### The document's search for a node -/
def ixNode (id : Int) : Nat → List Node → Int
  | _, [] => -1
  | i, p :: r => if p.id = id then i else ixNode id (i + 1) r
theorem ixNode_cases (id : Int) : ∀ (l : List Node) (i : Nat), (nodeOf id l = none ∧ ixNode id i l = -1) ∨ ∃ j p, l[j]? = some p ∧ nodeOf id l = some p ∧ ixNode id i l = ((i + j : Nat) : Int)
  | [], i => .inl ⟨rfl, rfl⟩
  | p :: r, i => by
    by_cases hp : p.id = id
    · exact .inr ⟨0, p, rfl, by simp [nodeOf, hp], by simp [ixNode, hp]⟩
    · rcases ixNode_cases id r (i + 1) with ⟨h1, h2⟩ | ⟨j, q, h1, h2, h3⟩
      · exact .inl ⟨by simpa [nodeOf, hp] using h1, by simp [ixNode, hp, h2]⟩
      · refine .inr ⟨j + 1, q, by simpa using h1, by simpa [nodeOf, hp] using h2, ?_⟩
        simp only [ixNode, if_neg hp, h3]
        omega
theorem node3_loop (s : Snap) (id : Int) (hl : s.nodes.length ≤ 2 ^ 30) (Q : Exit → St → Prop) (o : Int)
    (hend : o = -1 → ∀ fr hp nx, Q (.exit 0) ⟨fr, hp, nx⟩) (hret : ∀ fr hp nx, look fr 4 = .pv (.int .i64 o) → Q .ret ⟨fr, hp, nx⟩) :
    ∀ (rest : List Node) (i : Nat), s.nodes.drop i = rest → i ≤ s.nodes.length → ixNode id i rest = o → ∀ (fr : List (Nat × AV)) (hp : Hl) (nx : Nat), look fr 5 = .pv (.int .i64 i) → look fr 1 = .pv (.int .i64 id) → look fr 2 = .ptr 0 0 0 →
      blkAt hp 0 = .var [.pv (.slice (s.nodes.map nodeC)), .pv (.slice (s.loads.map loadC)), .pv (.slice (s.pods.map podC))] → Wp T false (.loop f155l0) ⟨fr, hp, nx⟩ Q := by
  intro rest
  induction rest with
  | nil =>
    intro i hd hi ho fr hp nx h5 h1 h2 b0
    have hlen := drop_nil hd hi
    rw [Wp_loop, Wp_eq f155l0.eq_1]
    simp only [runL, opQ, evOp, evO, evOs, guardV, argsA, pvs, putS, cellsOf, scals, scal, Nat.reduceEqDiff, Nat.reduceAdd, reduceCtorEq, fieldA, nonNil, cellsAt, mkAgg, allPV, storeB, patchL, Int.reduceToNat, Nat.reduceMul, Nat.reduceLT, stepA, Int.reduceNeg, Int.reduceLE, Int.reduceLT, Int.reduceEq, extractV, mkAgg, Nat.reduceLeDiff, fillA, pureVs, pureV, eqV, eqB, lenV, binV, intBin, intV, idxA, List.drop, List.take, RetP, retP, resV, resOne, snapV, snapVs, snapR, snapRs, ownSz, pickV, AO.isC, opE, opD, funV, h5, h1, h2, b0, hlen, Int.lt_irrefl]
    exact hend ho.symm _ _ _
  | cons n r ih =>
    intro i hd hi ho fr hp nx h5 h1 h2 b0
    obtain ⟨hget, hlt, hw, hd', hi', hb⟩ := drop_cons hd hl
    simp only [ixNode] at ho
    rw [Wp_loop, Wp_eq f155l0.eq_1]
    by_cases hk : n.id = id
    · rw [if_pos hk] at ho
      simp only [runL, opQ, evOp, evO, evOs, guardV, argsA, pvs, putS, cellsOf, scals, scal, Nat.reduceEqDiff, Nat.reduceAdd, reduceCtorEq, fieldA, nonNil, cellsAt, mkAgg, allPV, storeB, patchL, Int.reduceToNat, Nat.reduceMul, Nat.reduceLT, stepA, Int.reduceNeg, Int.reduceLE, Int.reduceLT, Int.reduceEq, extractV, mkAgg, Nat.reduceLeDiff, fillA, pureVs, pureV, eqV, eqB, lenV, binV, intBin, intV, idxA, List.drop, List.take, RetP, retP, resV, resOne, snapV, snapVs, snapR, snapRs, ownSz, pickV, AO.isC, opE, opD, funV, h5, h1, h2, b0, hlt, hget, nodeC, hk]
      exact hret _ _ _ (by simp only [look_if, Nat.reduceEqDiff, if_true, if_false, ← ho])
    · rw [if_neg hk] at ho
      simp only [runL, opQ, evOp, evO, evOs, guardV, argsA, pvs, putS, cellsOf, scals, scal, Nat.reduceEqDiff, Nat.reduceAdd, reduceCtorEq, fieldA, nonNil, cellsAt, mkAgg, allPV, storeB, patchL, Int.reduceToNat, Nat.reduceMul, Nat.reduceLT, stepA, Int.reduceNeg, Int.reduceLE, Int.reduceLT, Int.reduceEq, extractV, mkAgg, Nat.reduceLeDiff, fillA, pureVs, pureV, eqV, eqB, lenV, binV, intBin, intV, idxA, List.drop, List.take, RetP, retP, resV, resOne, snapV, snapVs, snapR, snapRs, ownSz, pickV, AO.isC, opE, opD, funV, h5, h1, h2, b0, hlt, hget, nodeC, hk, hw]
      refine ih (i + 1) hd' hi' ho _ _ _ ?_ ?_ ?_ b0
      all_goals simp only [look_if, Nat.reduceEqDiff, if_true, if_false, h1, h2]
theorem node3_ok (h155 : Std T 155 f155) (s : Snap) (id : Int) (hl : s.nodes.length ≤ 2 ^ 30) : Gives T 155 [snapP s, .int .i64 id] (.int .i64 (ixNode id 0 s.nodes)) := by
  refine gives h155 rfl ?_
  simp only [f155, runL, opQ, evOp, evO, evOs, guardV, argsA, pvs, putS, cellsOf, scals, scal, Nat.reduceEqDiff, Nat.reduceAdd, reduceCtorEq, fieldA, nonNil, cellsAt, mkAgg, allPV, storeB, patchL, Int.reduceToNat, Nat.reduceMul, Nat.reduceLT, stepA, Int.reduceNeg, Int.reduceLE, Int.reduceLT, Int.reduceEq, extractV, mkAgg, Nat.reduceLeDiff, fillA, pureVs, pureV, eqV, eqB, lenV, binV, intBin, intV, idxA, List.drop, List.take, RetP, retP, resV, resOne, snapV, snapVs, snapR, snapRs, ownSz, pickV, AO.isC, opE, opD, funV, snapP]
  refine node3_loop s id hl _ (ixNode id 0 s.nodes) (fun ho fr hp nx => ?_) (fun fr hp nx h4 => ?_) s.nodes 0 rfl (Nat.zero_le _) rfl _ _ _ rfl rfl rfl rfl
  · simp only [runL, opQ, evOp, evO, evOs, guardV, argsA, pvs, putS, cellsOf, scals, scal, Nat.reduceEqDiff, Nat.reduceAdd, reduceCtorEq, fieldA, nonNil, cellsAt, mkAgg, allPV, storeB, patchL, Int.reduceToNat, Nat.reduceMul, Nat.reduceLT, stepA, Int.reduceNeg, Int.reduceLE, Int.reduceLT, Int.reduceEq, extractV, mkAgg, Nat.reduceLeDiff, fillA, pureVs, pureV, eqV, eqB, lenV, binV, intBin, intV, idxA, List.drop, List.take, RetP, retP, resV, resOne, snapV, snapVs, snapR, snapRs, ownSz, pickV, AO.isC, opE, opD, funV, ho]
  · simp only [runL, opQ, evOp, evO, evOs, guardV, argsA, pvs, putS, cellsOf, scals, scal, Nat.reduceEqDiff, Nat.reduceAdd, reduceCtorEq, fieldA, nonNil, cellsAt, mkAgg, allPV, storeB, patchL, Int.reduceToNat, Nat.reduceMul, Nat.reduceLT, stepA, Int.reduceNeg, Int.reduceLE, Int.reduceLT, Int.reduceEq, extractV, mkAgg, Nat.reduceLeDiff, fillA, pureVs, pureV, eqV, eqB, lenV, binV, intBin, intV, idxA, List.drop, List.take, RetP, retP, resV, resOne, snapV, snapVs, snapR, snapRs, ownSz, pickV, AO.isC, opE, opD, funV, h4]
/-! ### What is used -/
end
end Go.Proofs.YtimkghkokfhfcaaDoor.Ab
set_option linter.unusedVariables false
set_option linter.unusedSimpArgs false
namespace Go.Proofs.YtimkghkokfhfcaaDoor.Ab
open Go
section
variable {T : Tab}
structure Std6 (T : Tab) : Prop where
  v : StdV T
  h82 : Std T 82 f82
  h221 : Std T 221 f221
  h258 : Std T 258 f258
  h259 : Std T 259 f259
  h220 : Std T 220 f220
  f260 : T.flat 260 = true
structure Std6r (T : Tab) : Prop where
  h155 : Std T 155 f155
  h171 : Std T 171 f171
  h143 : Std T 143 f143
  h140 : Std T 140 f140
  h145 : Std T 145 f145
  h144 : Std T 144 f144
  h142 : Std T 142 f142
  h141 : Std T 141 f141
  h170 : Std T 170 f170
  f143 : T.flat 143 = true
end
end Go.Proofs.YtimkghkokfhfcaaDoor.Ab
set_option linter.unusedVariables false
set_option linter.unusedSimpArgs false
namespace Go.Proofs.YtimkghkokfhfcaaDoor.Ab
open Go
def load0 : Load := ⟨0, false, 0, 0, 0⟩
def loadOf (id : Int) (l : List Load) : Option Load := l.find? (fun n => decide (n.id = id))
def loadR : Option Load → PV
  | some n => .tuple [.agg (loadC n), .bool true]
  | none => .tuple [.agg (loadC load0), .bool false]
theorem load_loop {T : Tab} (l : List Load) (id : Int) (hl : l.length ≤ 2 ^ 30) (Q : Exit → St → Prop) (o : Option Load)
    (hend : o = none → ∀ fr hp nx, look fr 4 = .ptr 1 0 0 → blkAt hp 1 = .var (pvs (loadC load0)) → Q (.exit 0) ⟨fr, hp, nx⟩)
    (hret : ∀ n, o = some n → ∀ fr hp nx, look fr 4 = .ptr 1 0 0 → look fr 5 = .pv (.bool true) → blkAt hp 1 = .var (pvs (loadC n)) → Q .ret ⟨fr, hp, nx⟩) :
    ∀ (rest : List Load) (i : Nat), l.drop i = rest → i ≤ l.length → loadOf id rest = o → ∀ (fr : List (Nat × AV)) (hp : Hl) (nx : Nat), 2 ≤ nx → look fr 4 = .ptr 1 0 0 → blkAt hp 1 = .var (pvs (loadC load0)) →
      look fr 1 = .pv (.int .i64 id) → look fr 9 = .pv (.slice (l.map loadC)) → look fr 10 = .pv (.int .i64 l.length) → look fr 11 = .pv (.int .i64 i) → Wp T false (.loop f81l0) ⟨fr, hp, nx⟩ Q := by
  intro rest
  induction rest with
  | nil =>
    intro i hd hi ho fr hp nx hn h4 b1 h1 h9 h10 h11
    have hlen := drop_nil hd hi
    rw [Wp_loop, Wp_eq f81l0.eq_1]
    simp only [runL, opQ, evOp, evO, evOs, guardV, argsA, pvs, putS, cellsOf, scals, scal, Nat.reduceEqDiff, Nat.reduceAdd, reduceCtorEq, fieldA, nonNil, cellsAt, mkAgg, allPV, storeB, patchL, Int.reduceToNat, Nat.reduceMul, Nat.reduceLT, stepA, Int.reduceNeg, Int.reduceLE, Int.reduceLT, Int.reduceEq, extractV, mkAgg, Nat.reduceLeDiff, fillA, pureVs, pureV, eqV, eqB, lenV, binV, intBin, intV, idxA, List.drop, List.take, RetP, retP, resV, resOne, snapV, snapVs, snapR, snapRs, ownSz, pickV, AO.isC, opE, opD, funV, h4, h1, h9, h10, h11, hlen, Int.lt_irrefl]
    refine hend ho.symm _ _ _ ?_ b1
    simp only [look_if, Nat.reduceEqDiff, if_false, h4]
  | cons n r ih =>
    intro i hd hi ho fr hp nx hn h4 b1 h1 h9 h10 h11
    obtain ⟨hget, hlt, hw, hd', hi', hb⟩ := drop_cons hd hl
    have n1 : ¬ nx = 1 := by omega
    have b1' := b1
    simp only [loadC, load0, pvs] at b1'
    rw [Wp_loop, Wp_eq f81l0.eq_1]
    by_cases hk : n.id = id
    · simp only [runL, opQ, evOp, evO, evOs, guardV, argsA, pvs, putS, cellsOf, scals, scal, Nat.reduceEqDiff, Nat.reduceAdd, reduceCtorEq, fieldA, nonNil, cellsAt, mkAgg, allPV, storeB, patchL, Int.reduceToNat, Nat.reduceMul, Nat.reduceLT, stepA, Int.reduceNeg, Int.reduceLE, Int.reduceLT, Int.reduceEq, extractV, mkAgg, Nat.reduceLeDiff, fillA, pureVs, pureV, eqV, eqB, lenV, binV, intBin, intV, idxA, List.drop, List.take, RetP, retP, resV, resOne, snapV, snapVs, snapR, snapRs, ownSz, pickV, AO.isC, opE, opD, funV, h4, b1', h1, h9, h10, h11, hlt, hget, loadC, n1, hk]
      refine hret n (by rw [← ho]; simp [loadOf, hk]) _ _ _ ?_ ?_ ?_
      all_goals simp only [look_if, blkAt_if, Nat.reduceEqDiff, if_true, if_false, h4, n1, loadC, pvs, hk]
    · simp only [runL, opQ, evOp, evO, evOs, guardV, argsA, pvs, putS, cellsOf, scals, scal, Nat.reduceEqDiff, Nat.reduceAdd, reduceCtorEq, fieldA, nonNil, cellsAt, mkAgg, allPV, storeB, patchL, Int.reduceToNat, Nat.reduceMul, Nat.reduceLT, stepA, Int.reduceNeg, Int.reduceLE, Int.reduceLT, Int.reduceEq, extractV, mkAgg, Nat.reduceLeDiff, fillA, pureVs, pureV, eqV, eqB, lenV, binV, intBin, intV, idxA, List.drop, List.take, RetP, retP, resV, resOne, snapV, snapVs, snapR, snapRs, ownSz, pickV, AO.isC, opE, opD, funV, h4, b1', h1, h9, h10, h11, hlt, hget, loadC, n1, hk, hw]
      refine ih (i + 1) hd' hi' (by rw [← ho]; simp [loadOf, hk]) _ _ _ (by omega) ?_ ?_ ?_ ?_ ?_ ?_
      all_goals simp only [look_if, blkAt_if, Nat.reduceEqDiff, if_true, if_false, h4, b1, n1, h1, h9, h10]
theorem load_ok {T : Tab} (h : Std T 81 f81) (s : Snap) (id : Int) (hl : s.loads.length ≤ 2 ^ 30) : Gives T 81 [snapP s, .int .i64 id] (loadR (loadOf id s.loads)) := by
  refine gives h rfl ?_
  simp only [f81, runL, opQ, evOp, evO, evOs, guardV, argsA, pvs, putS, cellsOf, scals, scal, Nat.reduceEqDiff, Nat.reduceAdd, reduceCtorEq, fieldA, nonNil, cellsAt, mkAgg, allPV, storeB, patchL, Int.reduceToNat, Nat.reduceMul, Nat.reduceLT, stepA, Int.reduceNeg, Int.reduceLE, Int.reduceLT, Int.reduceEq, extractV, mkAgg, Nat.reduceLeDiff, fillA, pureVs, pureV, eqV, eqB, lenV, binV, intBin, intV, idxA, List.drop, List.take, RetP, retP, resV, resOne, snapV, snapVs, snapR, snapRs, ownSz, pickV, AO.isC, opE, opD, funV, snapP]
  refine load_loop s.loads id hl _ (loadOf id s.loads) (fun ho fr hp nx h4 b1 => ?_) (fun n ho fr hp nx h4 h5 b1 => ?_) s.loads 0 rfl (Nat.zero_le _) rfl _ _ _ (Nat.le_refl _) rfl rfl rfl rfl rfl rfl
  · simp only [loadC, load0, pvs] at b1
    simp only [runL, opQ, evOp, evO, evOs, guardV, argsA, pvs, putS, cellsOf, scals, scal, Nat.reduceEqDiff, Nat.reduceAdd, reduceCtorEq, fieldA, nonNil, cellsAt, mkAgg, allPV, storeB, patchL, Int.reduceToNat, Nat.reduceMul, Nat.reduceLT, stepA, Int.reduceNeg, Int.reduceLE, Int.reduceLT, Int.reduceEq, extractV, mkAgg, Nat.reduceLeDiff, fillA, pureVs, pureV, eqV, eqB, lenV, binV, intBin, intV, idxA, List.drop, List.take, RetP, retP, resV, resOne, snapV, snapVs, snapR, snapRs, ownSz, pickV, AO.isC, opE, opD, funV, ho, loadR, h4, b1, loadC, load0]
  · simp only [loadC, pvs] at b1
    simp only [runL, opQ, evOp, evO, evOs, guardV, argsA, pvs, putS, cellsOf, scals, scal, Nat.reduceEqDiff, Nat.reduceAdd, reduceCtorEq, fieldA, nonNil, cellsAt, mkAgg, allPV, storeB, patchL, Int.reduceToNat, Nat.reduceMul, Nat.reduceLT, stepA, Int.reduceNeg, Int.reduceLE, Int.reduceLT, Int.reduceEq, extractV, mkAgg, Nat.reduceLeDiff, fillA, pureVs, pureV, eqV, eqB, lenV, binV, intBin, intV, idxA, List.drop, List.take, RetP, retP, resV, resOne, snapV, snapVs, snapR, snapRs, ownSz, pickV, AO.isC, opE, opD, funV, ho, loadR, h4, h5, b1, loadC]
end Go.Proofs.YtimkghkokfhfcaaDoor.Ab
set_option linter.unusedVariables false
set_option linter.unusedSimpArgs false
namespace Go.Proofs.YtimkghkokfhfcaaDoor.Ab
open Go
def Own (v : AV) (hp : Hl) (sz : Nat) (es : List (List PV)) (lo nx : Nat) : Prop := (es = [] ∧ v = .nils) ∨ ∃ id, v = .ms id ∧ lo ≤ id ∧ id < nx ∧ blkAt hp id = .row sz es
section
variable {v : AV} {hp hp' : Hl} {sz lo nx nx' : Nat} {es : List (List PV)}
theorem Own.nil : Own .nils hp sz [] lo nx := .inl ⟨rfl, rfl⟩
theorem Own.mono (h : Own v hp sz es lo nx) (h1 : ∀ k, lo ≤ k → k < nx → blkAt hp' k = blkAt hp k) (h2 : nx ≤ nx') : Own v hp' sz es lo nx' := by
  rcases h with h | ⟨id, a, b, c, d⟩
  · exact .inl h
  · exact .inr ⟨id, a, b, by omega, by rw [h1 id b c, d]⟩
theorem Own.push (h : Own v hp sz es lo nx) (b : Blk) : Own v ((nx, b) :: hp) sz es lo (nx + 1) := by
  refine h.mono (fun k h1 h2 => ?_) (Nat.le_succ _)
  have : ¬ nx = k := by omega
  simp only [blkAt_if, this, if_false]
theorem Own.over (h : Own v hp sz es lo nx) {i : Nat} {b : Blk} (hi : i < lo ∨ nx ≤ i) : Own v ((i, b) :: hp) sz es lo nx := by
  refine h.mono (fun k h1 h2 => ?_) (Nat.le_refl _)
  have : ¬ i = k := by omega
  simp only [blkAt_if, this, if_false]
theorem Own.up (h : Own v hp sz es lo nx) (h2 : nx ≤ nx') : Own v hp sz es lo nx' := h.mono (fun k _ _ => rfl) h2
theorem Own.snap (h : Own v hp sz es lo nx) : snapV (blkAt hp) v = some (.slice es) := by
  rcases h with ⟨rfl, rfl⟩ | ⟨id, rfl, b, c, d⟩
  · rfl
  · simp only [snapV, snapR, d]
theorem Own.src (h : Own v hp sz es lo nx) : srcV (blkAt hp) v = some es := by
  rcases h with ⟨rfl, rfl⟩ | ⟨id, rfl, b, c, d⟩
  · rfl
  · simp only [srcV, d]
theorem Own.len (h : Own v hp sz es lo nx) : lenV (blkAt hp) v = some es.length := by
  rcases h with ⟨rfl, rfl⟩ | ⟨id, rfl, b, c, d⟩
  · rfl
  · simp only [lenV, d]
theorem Own.app (h : Own v hp sz es lo nx) (hlo : lo ≤ nx) (es' : List (List PV)) (hl : es.length + es'.length ≤ 2 ^ 30) :
    ∃ v' W n, appV (blkAt hp) nx sz v es' = some (v', W, n) ∧ (∀ k, k < lo → blkAt (W ++ hp) k = blkAt hp k) ∧ Own v' (W ++ hp) sz (es ++ es') lo (nx + n) := by
  rcases h with ⟨rfl, rfl⟩ | ⟨id, rfl, b, c, d⟩
  · cases es' with
    | nil => exact ⟨.nils, [], 0, rfl, fun k _ => rfl, .inl ⟨rfl, rfl⟩⟩
    | cons e r =>
      have hl' : (e :: r).length ≤ 2 ^ 30 := by simpa using hl
      refine ⟨.ms nx, [(nx, .row sz (e :: r))], 1, by simp only [appV, hl', if_true], fun k hk => ?_, .inr ⟨nx, rfl, hlo, by omega, ?_⟩⟩
      · have : ¬ nx = k := by omega
        simp only [List.cons_append, List.nil_append, blkAt_if, this, if_false]
      · simp only [List.cons_append, List.nil_append, blkAt_if, if_true]
  · refine ⟨.ms nx, [(id, .dead), (nx, .row sz (es ++ es'))], 1, ?_, fun k hk => ?_, .inr ⟨nx, rfl, hlo, by omega, ?_⟩⟩
    · simp only [appV, baseV, d, beq_self, hl, if_true]
    · have h1 : ¬ nx = k := by omega
      have h2 : ¬ id = k := by omega
      simp only [List.cons_append, List.nil_append, blkAt_if, h1, h2, if_false]
    · have h2 : ¬ id = nx := by omega
      simp only [List.cons_append, List.nil_append, blkAt_if, h2, if_true, if_false]
theorem Own.app1 (h : Own v hp sz es lo nx) (hlo : lo ≤ nx) (e : List PV) (hl : es.length + 1 ≤ 2 ^ 30) :
    ∃ v' W n, appV (blkAt ((nx, .row sz [e]) :: hp)) (nx + 1) sz v [e] = some (v', W, n) ∧ (∀ k, k < lo → blkAt (W ++ (nx, .row sz [e]) :: hp) k = blkAt hp k) ∧ Own v' (W ++ (nx, .row sz [e]) :: hp) sz (es ++ [e]) lo (nx + 1 + n) := by
  obtain ⟨v', W, n, h1, h2, h3⟩ := (h.push (.row sz [e])).app (by omega) [e] hl
  refine ⟨v', W, n, h1, fun k hk => ?_, h3⟩
  have : ¬ nx = k := by omega
  rw [h2 k hk]
  simp only [blkAt_if, this, if_false]
end
end Go.Proofs.YtimkghkokfhfcaaDoor.Ab
set_option linter.unusedVariables false
namespace Go.Proofs.YtimkghkokfhfcaaDoor.Ab
open Go
def f16 : AFunc := ⟨49, [],
 (.seq (.seq (.ops [
   ⟨some 8, .mv (.t 0), none, []⟩,
   ⟨some 9, .nilchk (.t 8), none, [0]⟩,
   ⟨some 10, .fieldAddr 2 (.t 9), none, [1]⟩,
   ⟨some 11, .load false 1 (.t 10), none, [2]⟩,
   ⟨some 12, .bin .eql (some (.iface true)) (.t 11) (.c (.pv .nili)), none, [3]⟩])
  (.cond (.t 12)
   (.seq (.ops [
     ⟨some 13, .mv (.t 1), none, []⟩,
     ⟨some 14, .mv (.t 0), none, []⟩,
     ⟨some 15, .nilchk (.t 14), none, [1]⟩,
     ⟨some 16, .fieldAddr 1 (.t 15), none, [2]⟩,
     ⟨some 17, .load false 1 (.t 16), none, [3]⟩,
     ⟨some 18, .call 86 [(.t 13), (.t 17)], none, [0, 4]⟩,
     ⟨some 6, .mv (.t 18), none, [5, 5, 0, 1, 2, 3, 4, 5]⟩])
    (.seq (.seq (.ops [
     ⟨some 19, .mv (.t 6), none, []⟩,
     ⟨some 20, .bin .eql (some (.iface true)) (.t 19) (.c (.pv .nili)), none, [0]⟩])
    (.cond (.t 20)
     (.ops [
       ⟨some 21, .mv (.t 2), none, []⟩,
       ⟨some 22, .callv (.t 21) [], none, [0]⟩,
       ⟨some 6, .mv (.t 22), none, [1, 1, 0, 1]⟩])
     .skip))
    (.seq (.ops [
     ⟨some 7, .alloc [(.pv (.int .i64 0))], none, []⟩])
    (.seq (.ops [
     ⟨some 23, .mv (.t 6), none, []⟩,
     ⟨some 24, .mkI 3 (.t 7), none, []⟩,
     ⟨some 25, .call 266 [(.t 23), (.t 24)], none, [0, 1]⟩])
    (.cond (.t 25)
     (.draw [
       ⟨some 26, .mv (.t 0), none, []⟩,
       ⟨some 27, .mv (.t 0), none, []⟩,
       ⟨some 28, .nilchk (.t 27), none, [1]⟩,
       ⟨some 29, .fieldAddr 0 (.t 28), none, [2]⟩,
       ⟨some 30, .load false 1 (.t 29), none, [3]⟩,
       ⟨some 31, .load false 1 (.t 7), none, []⟩,
       ⟨some 32, .build [(.pv (.int .i64 0)), (.pv (.int .i64 0))] [(0, 1, (.t 30)), (1, 1, (.t 31))], none, [4, 5]⟩,
       ⟨some 33, .box (.t 32), none, [6]⟩,
       ⟨some 34, .mkI 1 (.t 33), none, [7]⟩,
       ⟨some 35, .nilchk (.t 26), none, [0, 0, 1, 2, 3, 4, 5, 6, 7, 8]⟩,
       ⟨some 36, .fieldAddr 2 (.t 35), none, [9, 0, 1, 2, 3, 4, 5, 6, 7, 8]⟩,
       ⟨none, .store 1 (.t 36) (.t 34), none, [10, 8, 0, 1, 2, 3, 4, 5, 6, 7, 8]⟩])
     .skip)))))
   .skip))
  (.ops [
   ⟨some 37, .mv (.t 0), none, []⟩,
   ⟨some 38, .mv (.t 0), none, []⟩,
   ⟨some 39, .mv (.t 0), none, []⟩,
   ⟨some 40, .nilchk (.t 39), none, [2]⟩,
   ⟨some 41, .fieldAddr 0 (.t 40), none, [3]⟩,
   ⟨some 42, .load false 1 (.t 41), none, [4]⟩,
   ⟨some 43, .bin .add none (.t 42) (.c (.pv (.int .i64 1))), none, [5]⟩,
   ⟨some 44, .mv (.t 1), none, []⟩,
   ⟨some 45, .nilchk (.t 37), none, [0, 0, 2, 3, 4, 5, 6]⟩,
   ⟨some 46, .fieldAddr 0 (.t 45), none, [8, 0, 2, 3, 4, 5, 6]⟩,
   ⟨none, .store 1 (.t 46) (.t 43), none, [9, 6, 0, 2, 3, 4, 5, 6]⟩,
   ⟨some 47, .nilchk (.t 38), none, [1, 0, 1, 2, 3, 4, 5, 6, 7, 8, 9, 10]⟩,
   ⟨some 48, .fieldAddr 1 (.t 47), none, [11, 0, 1, 2, 3, 4, 5, 6, 7, 8, 9, 10]⟩,
   ⟨none, .store 1 (.t 48) (.t 44), none, [12, 7, 10, 0, 1, 2, 3, 4, 5, 6, 7, 8, 9, 10]⟩]))⟩
def f76l0 : ACode :=
 (.seq (.ops [
   ⟨some 39, .bin .lss none (.t 38) (.t 37), none, []⟩])
  (.seq (.cond (.t 39)
   .skip
   (.exit 0))
  (.seq (.block 1
   (.seq (.ops [
     ⟨some 40, .idxAddr 10 (.t 36) (.t 38), none, []⟩,
     ⟨some 41, .load true 10 (.t 40), none, [0]⟩,
     ⟨some 5, .alloc [(.pv (.int .i64 0)), (.pv (.int .i64 0)), (.pv (.int .u64 0)), (.pv (.int .u64 0)), (.pv (.int .u64 0)), (.pv (.int .u64 0)), (.pv (.int .u64 0)), (.pv (.int .u64 0)), (.pv (.int .u64 0)), (.pv (.int .u64 0))], none, []⟩,
     ⟨none, .store 10 (.t 5) (.t 41), none, [2, 1, 0, 1, 2]⟩])
    (.ops [
     ⟨some 42, .mv (.t 3), none, []⟩,
     ⟨some 43, .fieldAddr 0 (.t 5), none, []⟩,
     ⟨some 44, .load false 1 (.t 43), none, [1]⟩,
     ⟨some 45, .mkF 77 [] [(.t 5)], none, []⟩,
     ⟨some 46, .call 16 [(.t 42), (.t 44), (.t 45)], none, [0, 2, 3]⟩])))
  (.ops [
   ⟨some 47, .bin .add none (.t 38) (.c (.pv (.int .i64 1))), none, []⟩,
   ⟨some 38, .mv (.t 47), none, [0]⟩]))))
def f76l1 : ACode :=
 (.seq (.ops [
   ⟨some 55, .bin .lss none (.t 54) (.t 53), none, []⟩])
  (.seq (.cond (.t 55)
   .skip
   (.exit 2))
  (.seq (.block 3
   (.seq (.ops [
     ⟨some 56, .idxAddr 5 (.t 52) (.t 54), none, []⟩,
     ⟨some 57, .load true 5 (.t 56), none, [0]⟩,
     ⟨some 7, .alloc [(.pv (.int .i64 0)), (.pv (.bool false)), (.pv (.int .i64 0)), (.pv (.int .i64 0)), (.pv (.int .i64 0))], none, []⟩,
     ⟨none, .store 5 (.t 7) (.t 57), none, [2, 1, 0, 1, 2]⟩])
    (.ops [
     ⟨some 58, .mv (.t 3), none, []⟩,
     ⟨some 59, .fieldAddr 0 (.t 7), none, []⟩,
     ⟨some 60, .load false 1 (.t 59), none, [1]⟩,
     ⟨some 61, .mkF 78 [] [(.t 7)], none, []⟩,
     ⟨some 62, .call 16 [(.t 58), (.t 60), (.t 61)], none, [0, 2, 3]⟩])))
  (.ops [
   ⟨some 63, .bin .add none (.t 54) (.c (.pv (.int .i64 1))), none, []⟩,
   ⟨some 54, .mv (.t 63), none, [0]⟩]))))
def f76l2 : ACode :=
 (.seq (.ops [
   ⟨some 71, .bin .lss none (.t 70) (.t 69), none, []⟩])
  (.seq (.cond (.t 71)
   .skip
   (.exit 4))
  (.seq (.block 5
   (.seq (.ops [
     ⟨some 72, .idxAddr 8 (.t 68) (.t 70), none, []⟩,
     ⟨some 73, .load true 8 (.t 72), none, [0]⟩,
     ⟨some 9, .alloc [(.pv (.int .i64 0)), (.pv (.int .i64 0)), (.pv (.int .i64 0)), (.pv (.int .u64 0)), (.pv (.int .u64 0)), (.pv (.int .u64 0)), (.pv (.int .u64 0)), (.pv (.int .i64 0))], none, []⟩,
     ⟨none, .store 8 (.t 9) (.t 73), none, [2, 1, 0, 1, 2]⟩])
    (.ops [
     ⟨some 74, .mv (.t 3), none, []⟩,
     ⟨some 75, .fieldAddr 0 (.t 9), none, []⟩,
     ⟨some 76, .load false 1 (.t 75), none, [1]⟩,
     ⟨some 77, .mkF 79 [] [(.t 1), (.t 9)], none, []⟩,
     ⟨some 78, .call 16 [(.t 74), (.t 76), (.t 77)], none, [0, 2, 3]⟩])))
  (.ops [
   ⟨some 79, .bin .add none (.t 70) (.c (.pv (.int .i64 1))), none, []⟩,
   ⟨some 70, .mv (.t 79), none, [0]⟩]))))
def f76 : AFunc := ⟨84, [.t 2],
 (.seq (.ops [
   ⟨some 1, .box (.t 0), none, []⟩,
   ⟨some 2, .mv (.c (.pv .nili)), none, []⟩])
  (.seq (.seq (.ops [
   ⟨some 10, .fieldAddr 0 (.t 1), none, []⟩,
   ⟨some 11, .load false 1 (.t 10), none, [0]⟩,
   ⟨some 12, .len (.t 11), none, [1]⟩,
   ⟨some 13, .bin .lss none (.t 12) (.c (.pv (.int .i64 1))), none, [2]⟩,
   ⟨some 14, .mv (.t 13), none, [3]⟩,
   ⟨some 15, .fieldAddr 0 (.t 1), some (14, false), [4]⟩,
   ⟨some 16, .load false 1 (.t 15), some (14, false), [5, 4]⟩,
   ⟨some 17, .len (.t 16), some (14, false), [6, 4]⟩,
   ⟨some 18, .bin .gtr none (.t 17) (.c (.pv (.int .i64 8))), some (14, false), [7, 4]⟩,
   ⟨some 19, .pick (.t 14) (.c (.pv (.bool true))) (.t 18), none, [4, 8]⟩,
   ⟨some 20, .mv (.t 19), none, [9, 4]⟩,
   ⟨some 21, .fieldAddr 1 (.t 1), some (20, false), [10]⟩,
   ⟨some 22, .load false 1 (.t 21), some (20, false), [11, 10]⟩,
   ⟨some 23, .len (.t 22), some (20, false), [12, 10]⟩,
   ⟨some 24, .bin .gtr none (.t 23) (.c (.pv (.int .i64 8))), some (20, false), [13, 10]⟩,
   ⟨some 25, .pick (.t 20) (.c (.pv (.bool true))) (.t 24), none, [10, 14]⟩,
   ⟨some 26, .mv (.t 25), none, [15, 10]⟩,
   ⟨some 27, .fieldAddr 2 (.t 1), some (26, false), [16]⟩,
   ⟨some 28, .load false 1 (.t 27), some (26, false), [17, 16]⟩,
   ⟨some 29, .len (.t 28), some (26, false), [18, 16]⟩,
   ⟨some 30, .bin .gtr none (.t 29) (.c (.pv (.int .i64 12))), some (26, false), [19, 16]⟩,
   ⟨some 31, .pick (.t 26) (.c (.pv (.bool true))) (.t 30), none, [16, 20]⟩])
  (.cond (.t 31)
   (.seq (.ops [
     ⟨some 32, .mkI 0 (.c (.pv (.int .i64 3))), none, []⟩,
     ⟨some 2, .mv (.t 32), none, [0, 0]⟩])
    .ret)
   .skip))
  (.seq (.ops [
   ⟨some 33, .build [(.pv (.int .i64 0)), (.pv (.int .i64 0)), (.pv .nili)] [], none, []⟩,
   ⟨some 34, .box (.t 33), none, [0]⟩,
   ⟨some 3, .mv (.t 34), none, [1, 0, 1]⟩])
  (.seq (.seq (.ops [
   ⟨some 35, .fieldAddr 0 (.t 1), none, []⟩,
   ⟨some 36, .load false 1 (.t 35), none, [0]⟩,
   ⟨some 37, .len (.t 36), none, [1]⟩,
   ⟨some 38, .mv (.c (.pv (.int .i64 0))), none, []⟩])
  (.block 0
   (.loop f76l0)))
  (.seq (.ops [
   ⟨some 48, .mv (.t 3), none, []⟩,
   ⟨some 49, .nilchk (.t 48), none, [0, 0]⟩,
   ⟨some 50, .fieldAddr 1 (.t 49), none, [1, 0]⟩,
   ⟨none, .store 1 (.t 50) (.c (.pv (.int .i64 0))), none, [2, 0]⟩])
  (.seq (.seq (.ops [
   ⟨some 51, .fieldAddr 1 (.t 1), none, []⟩,
   ⟨some 52, .load false 1 (.t 51), none, [0]⟩,
   ⟨some 53, .len (.t 52), none, [1]⟩,
   ⟨some 54, .mv (.c (.pv (.int .i64 0))), none, []⟩])
  (.block 2
   (.loop f76l1)))
  (.seq (.ops [
   ⟨some 64, .mv (.t 3), none, []⟩,
   ⟨some 65, .nilchk (.t 64), none, [0, 0]⟩,
   ⟨some 66, .fieldAddr 1 (.t 65), none, [1, 0]⟩,
   ⟨none, .store 1 (.t 66) (.c (.pv (.int .i64 0))), none, [2, 0]⟩])
  (.seq (.seq (.ops [
   ⟨some 67, .fieldAddr 2 (.t 1), none, []⟩,
   ⟨some 68, .load false 1 (.t 67), none, [0]⟩,
   ⟨some 69, .len (.t 68), none, [1]⟩,
   ⟨some 70, .mv (.c (.pv (.int .i64 0))), none, []⟩])
  (.block 4
   (.loop f76l2)))
  (.seq (.ops [
   ⟨some 80, .mv (.t 3), none, []⟩,
   ⟨some 81, .nilchk (.t 80), none, [0]⟩,
   ⟨some 82, .fieldAddr 2 (.t 81), none, [1]⟩,
   ⟨some 83, .load false 1 (.t 82), none, [2]⟩,
   ⟨some 2, .mv (.t 83), none, [3, 0, 1, 2, 3]⟩])
  .ret)))))))))⟩
def f77 : AFunc := ⟨4, [.t 1],
 (.seq (.ops [
   ⟨some 1, .mv (.c (.pv .nili)), none, []⟩])
  (.seq (.ops [
   ⟨some 2, .load true 10 (.t 0), none, []⟩,
   ⟨some 3, .call 88 [(.t 2)], none, [0]⟩,
   ⟨some 1, .mv (.t 3), none, [1, 1, 0, 1]⟩])
  .ret))⟩
def f78 : AFunc := ⟨4, [.t 1],
 (.seq (.ops [
   ⟨some 1, .mv (.c (.pv .nili)), none, []⟩])
  (.seq (.ops [
   ⟨some 2, .load true 5 (.t 0), none, []⟩,
   ⟨some 3, .call 87 [(.t 2)], none, [0]⟩,
   ⟨some 1, .mv (.t 3), none, [1, 1, 0, 1]⟩])
  .ret))⟩
def f79 : AFunc := ⟨6, [.t 2],
 (.seq (.ops [
   ⟨some 2, .mv (.c (.pv .nili)), none, []⟩])
  (.seq (.ops [
   ⟨some 3, .load true 3 (.t 0), none, []⟩,
   ⟨some 4, .load true 8 (.t 1), none, []⟩,
   ⟨some 5, .call 89 [(.t 3), (.t 4)], none, [0, 1]⟩,
   ⟨some 2, .mv (.t 5), none, [2, 2, 0, 1, 2]⟩])
  .ret))⟩
def f80l0 : ACode :=
 (.seq (.ops [
   ⟨some 36, .bin .lss none (.t 35) (.t 34), none, []⟩])
  (.seq (.cond (.t 36)
   .skip
   (.exit 0))
  (.seq (.block 1
   (.seq (.ops [
     ⟨some 37, .mv (.t 35), none, []⟩,
     ⟨some 6, .mv (.t 37), none, [0, 0]⟩])
    (.seq (.ops [
     ⟨some 7, .alloc [(.pv (.int .i64 0))], none, []⟩])
    (.seq (.ops [
     ⟨some 38, .load true 3 (.t 2), none, []⟩,
     ⟨some 39, .fieldAddr 0 (.t 3), none, []⟩,
     ⟨some 40, .load false 1 (.t 39), none, [1]⟩,
     ⟨some 41, .mv (.t 6), none, []⟩,
     ⟨some 42, .call 90 [(.t 38), (.t 40), (.t 41)], none, [0, 2, 3]⟩,
     ⟨some 43, .mkI 3 (.t 7), none, []⟩,
     ⟨some 44, .call 266 [(.t 42), (.t 43)], none, [4, 5, 4]⟩])
    (.cond (.t 44)
     (.seq (.ops [
       ⟨some 45, .mv (.t 6), none, []⟩,
       ⟨some 46, .load false 1 (.t 7), none, []⟩,
       ⟨some 47, .build [(.pv (.int .i64 0)), (.pv (.int .i64 0))] [(0, 1, (.t 45)), (1, 1, (.t 46))], none, [0, 1]⟩,
       ⟨some 48, .box (.t 47), none, [2]⟩,
       ⟨some 49, .mkI 1 (.t 48), none, [3]⟩,
       ⟨some 4, .mv (.t 49), none, [4, 0, 1, 2, 3, 4]⟩])
      .ret)
     .skip)))))
  (.ops [
   ⟨some 50, .bin .add none (.t 35) (.c (.pv (.int .i64 1))), none, []⟩,
   ⟨some 35, .mv (.t 50), none, [0]⟩]))))
def f80 : AFunc := ⟨51, [.t 4],
 (.seq (.ops [
   ⟨some 2, .box (.t 0), none, []⟩,
   ⟨some 3, .box (.t 1), none, []⟩,
   ⟨some 4, .mv (.c (.pv .nili)), none, []⟩])
  (.seq (.seq (.ops [
   ⟨some 8, .load true 3 (.t 2), none, []⟩,
   ⟨some 9, .call 76 [(.t 8)], none, [0]⟩,
   ⟨some 5, .mv (.t 9), none, [1, 1, 0, 1]⟩])
  (.seq (.ops [
   ⟨some 10, .mv (.t 5), none, []⟩,
   ⟨some 11, .bin .neq (some (.iface true)) (.t 10) (.c (.pv .nili)), none, [0]⟩])
  (.cond (.t 11)
   (.seq (.ops [
     ⟨some 12, .mv (.t 5), none, []⟩,
     ⟨some 4, .mv (.t 12), none, [0, 0]⟩])
    .ret)
   .skip)))
  (.seq (.seq (.ops [
   ⟨some 13, .fieldAddr 1 (.t 3), none, []⟩,
   ⟨some 14, .load false 1 (.t 13), none, [0]⟩,
   ⟨some 15, .bin .lss none (.t 14) (.c (.pv (.int .i64 0))), none, [1]⟩,
   ⟨some 16, .mv (.t 15), none, [2]⟩,
   ⟨some 17, .fieldAddr 1 (.t 3), some (16, false), [3]⟩,
   ⟨some 18, .load false 1 (.t 17), some (16, false), [4, 3]⟩,
   ⟨some 19, .bin .gtr none (.t 18) (.c (.pv (.int .i64 40))), some (16, false), [5, 3]⟩,
   ⟨some 20, .pick (.t 16) (.c (.pv (.bool true))) (.t 19), none, [3, 6]⟩,
   ⟨some 21, .mv (.t 20), none, [7, 3]⟩,
   ⟨some 22, .fieldAddr 2 (.t 3), some (21, false), [8]⟩,
   ⟨some 23, .load false 1 (.t 22), some (21, false), [9, 8]⟩,
   ⟨some 24, .bin .lss none (.t 23) (.c (.pv (.int .i64 0))), some (21, false), [10, 8]⟩,
   ⟨some 25, .pick (.t 21) (.c (.pv (.bool true))) (.t 24), none, [8, 11]⟩,
   ⟨some 26, .mv (.t 25), none, [12, 8]⟩,
   ⟨some 27, .fieldAddr 2 (.t 3), some (26, false), [13]⟩,
   ⟨some 28, .load false 1 (.t 27), some (26, false), [14, 13]⟩,
   ⟨some 29, .bin .gtr none (.t 28) (.c (.pv (.int .i64 40))), some (26, false), [15, 13]⟩,
   ⟨some 30, .pick (.t 26) (.c (.pv (.bool true))) (.t 29), none, [13, 16]⟩])
  (.cond (.t 30)
   (.seq (.ops [
     ⟨some 31, .mkI 0 (.c (.pv (.int .i64 3))), none, []⟩,
     ⟨some 4, .mv (.t 31), none, [0, 0]⟩])
    .ret)
   .skip))
  (.seq (.seq (.ops [
   ⟨some 32, .fieldAddr 0 (.t 3), none, []⟩,
   ⟨some 33, .load false 1 (.t 32), none, [0]⟩,
   ⟨some 34, .len (.t 33), none, [1]⟩,
   ⟨some 35, .mv (.c (.pv (.int .i64 0))), none, []⟩])
  (.block 0
   (.loop f80l0)))
  (.seq (.ops [
   ⟨some 4, .mv (.c (.pv .nili)), none, []⟩])
  .ret)))))⟩
def f85 : AFunc := ⟨9, [.t 2],
 (.seq (.ops [
   ⟨some 2, .mv (.c (.pv (.bool false))), none, []⟩])
  (.seq (.ops [
   ⟨some 3, .mv (.t 0), none, []⟩,
   ⟨some 4, .bin .geq none (.t 3) (.c (.pv (.int .i64 0))), none, [0]⟩,
   ⟨some 5, .mv (.t 4), none, [1]⟩,
   ⟨some 6, .mv (.t 0), some (5, true), [2]⟩,
   ⟨some 7, .bin .leq none (.t 6) (.c (.pv (.int .i64 100))), some (5, true), [3, 2]⟩,
   ⟨some 8, .pick (.t 5) (.t 7) (.c (.pv (.bool false))), none, [2, 4]⟩,
   ⟨some 2, .mv (.t 8), none, [5, 2, 0, 1, 2, 3, 4, 5]⟩])
  .ret))⟩
def f86 : AFunc := ⟨27, [.t 4],
 (.seq (.ops [
   ⟨some 4, .mv (.c (.pv .nili)), none, []⟩])
  (.seq (.block 0
   (.seq (.ops [
     ⟨some 6, .mv (.t 0), none, []⟩,
     ⟨some 7, .mv (.t 1), none, []⟩,
     ⟨some 8, .bin .eql none (.t 6) (.t 7), none, [0, 1]⟩,
     ⟨some 9, .mv (.t 8), none, [2]⟩,
     ⟨some 10, .mv (.t 0), some (9, true), [3]⟩,
     ⟨some 11, .bin .geq none (.t 10) (.c (.pv (.int .i64 1))), some (9, true), [4, 3]⟩,
     ⟨some 12, .pick (.t 9) (.t 11) (.c (.pv (.bool false))), none, [3, 5]⟩,
     ⟨some 5, .mv (.t 12), none, [6, 3]⟩])
    (.cond (.t 5)
     (.seq (.ops [
       ⟨some 13, .mkI 0 (.c (.pv (.int .i64 5))), none, []⟩,
       ⟨some 4, .mv (.t 13), none, [0, 0]⟩])
      .ret)
     (.seq (.ops [
       ⟨some 15, .mv (.t 0), none, []⟩,
       ⟨some 16, .bin .lss none (.t 15) (.c (.pv (.int .i64 1))), none, [0]⟩,
       ⟨some 17, .mv (.t 16), none, [1]⟩,
       ⟨some 18, .mv (.t 0), some (17, false), [2]⟩,
       ⟨some 19, .bin .gtr none (.t 18) (.c (.pv (.int .i64 2147483647))), some (17, false), [3, 2]⟩,
       ⟨some 20, .pick (.t 17) (.c (.pv (.bool true))) (.t 19), none, [2, 4]⟩,
       ⟨some 21, .mv (.t 20), none, [5, 2]⟩,
       ⟨some 22, .mv (.t 0), some (21, false), [6]⟩,
       ⟨some 23, .mv (.t 1), some (21, false), [6]⟩,
       ⟨some 24, .bin .lss none (.t 22) (.t 23), some (21, false), [7, 8, 6]⟩,
       ⟨some 25, .pick (.t 21) (.c (.pv (.bool true))) (.t 24), none, [6, 9]⟩,
       ⟨some 14, .mv (.t 25), none, [10, 6]⟩])
      (.cond (.t 14)
       (.seq (.ops [
         ⟨some 26, .mkI 0 (.c (.pv (.int .i64 1))), none, []⟩,
         ⟨some 4, .mv (.t 26), none, [0, 0]⟩])
        .ret)
       .skip)))))
  (.seq (.ops [
   ⟨some 4, .mv (.c (.pv .nili)), none, []⟩])
  .ret)))⟩
def f87 : AFunc := ⟨27, [.t 2],
 (.seq (.ops [
   ⟨some 1, .box (.t 0), none, []⟩,
   ⟨some 2, .mv (.c (.pv .nili)), none, []⟩])
  (.seq (.seq (.ops [
   ⟨some 3, .fieldAddr 2 (.t 1), none, []⟩,
   ⟨some 4, .load false 1 (.t 3), none, [0]⟩,
   ⟨some 5, .call 85 [(.t 4)], none, [1]⟩,
   ⟨some 6, .not (.t 5), none, [2]⟩,
   ⟨some 7, .mv (.t 6), none, [3, 2]⟩,
   ⟨some 8, .fieldAddr 3 (.t 1), some (7, false), [4]⟩,
   ⟨some 9, .load false 1 (.t 8), some (7, false), [5, 4]⟩,
   ⟨some 10, .call 85 [(.t 9)], some (7, false), [6, 4, 4]⟩,
   ⟨some 11, .not (.t 10), some (7, false), [7, 4]⟩,
   ⟨some 12, .pick (.t 7) (.c (.pv (.bool true))) (.t 11), none, [4, 8]⟩,
   ⟨some 13, .mv (.t 12), none, [9, 7]⟩,
   ⟨some 14, .fieldAddr 4 (.t 1), some (13, false), [10]⟩,
   ⟨some 15, .load false 1 (.t 14), some (13, false), [11, 10]⟩,
   ⟨some 16, .call 85 [(.t 15)], some (13, false), [12, 10, 10]⟩,
   ⟨some 17, .not (.t 16), some (13, false), [13, 10]⟩,
   ⟨some 18, .pick (.t 13) (.c (.pv (.bool true))) (.t 17), none, [10, 14]⟩,
   ⟨some 19, .mv (.t 18), none, [15, 13]⟩,
   ⟨some 20, .fieldAddr 3 (.t 1), some (19, false), [16]⟩,
   ⟨some 21, .load false 1 (.t 20), some (19, false), [17, 16]⟩,
   ⟨some 22, .fieldAddr 4 (.t 1), some (19, false), [16]⟩,
   ⟨some 23, .load false 1 (.t 22), some (19, false), [19, 16]⟩,
   ⟨some 24, .bin .gtr none (.t 21) (.t 23), some (19, false), [18, 20, 16]⟩,
   ⟨some 25, .pick (.t 19) (.c (.pv (.bool true))) (.t 24), none, [16, 21]⟩])
  (.cond (.t 25)
   (.seq (.ops [
     ⟨some 26, .mkI 0 (.c (.pv (.int .i64 1))), none, []⟩,
     ⟨some 2, .mv (.t 26), none, [0, 0]⟩])
    .ret)
   .skip))
  (.seq (.ops [
   ⟨some 2, .mv (.c (.pv .nili)), none, []⟩])
  .ret)))⟩
def f88 : AFunc := ⟨20, [.t 2],
 (.seq (.ops [
   ⟨some 1, .box (.t 0), none, []⟩,
   ⟨some 2, .mv (.c (.pv .nili)), none, []⟩])
  (.seq (.seq (.ops [
   ⟨some 3, .fieldAddr 1 (.t 1), none, []⟩,
   ⟨some 4, .load false 1 (.t 3), none, [0]⟩,
   ⟨some 5, .bin .lss none (.t 4) (.c (.pv (.int .i64 1))), none, [1]⟩,
   ⟨some 6, .mv (.t 5), none, [2]⟩,
   ⟨some 7, .fieldAddr 1 (.t 1), some (6, false), [3]⟩,
   ⟨some 8, .load false 1 (.t 7), some (6, false), [4, 3]⟩,
   ⟨some 9, .bin .gtr none (.t 8) (.c (.pv (.int .i64 8))), some (6, false), [5, 3]⟩,
   ⟨some 10, .pick (.t 6) (.c (.pv (.bool true))) (.t 9), none, [3, 6]⟩,
   ⟨some 11, .mv (.t 10), none, [7, 3]⟩,
   ⟨some 12, .fieldAddr 6 (.t 1), some (11, false), [8]⟩,
   ⟨some 13, .load true 4 (.t 12), some (11, false), [9, 8]⟩,
   ⟨some 14, .fieldAddr 2 (.t 1), some (11, false), [8]⟩,
   ⟨some 15, .load true 4 (.t 14), some (11, false), [11, 8]⟩,
   ⟨some 16, .call 257 [(.t 13), (.t 15)], some (11, false), [10, 12, 8, 8]⟩,
   ⟨some 17, .not (.t 16), some (11, false), [13, 8]⟩,
   ⟨some 18, .pick (.t 11) (.c (.pv (.bool true))) (.t 17), none, [8, 14]⟩])
  (.cond (.t 18)
   (.seq (.ops [
     ⟨some 19, .mkI 0 (.c (.pv (.int .i64 1))), none, []⟩,
     ⟨some 2, .mv (.t 19), none, [0, 0]⟩])
    .ret)
   .skip))
  (.seq (.ops [
   ⟨some 2, .mv (.c (.pv .nili)), none, []⟩])
  .ret)))⟩
def f89 : AFunc := ⟨40, [.t 4],
 (.seq (.ops [
   ⟨some 2, .box (.t 0), none, []⟩,
   ⟨some 3, .box (.t 1), none, []⟩,
   ⟨some 4, .mv (.c (.pv .nili)), none, []⟩])
  (.seq (.seq (.ops [
   ⟨some 9, .fieldAddr 2 (.t 3), none, []⟩,
   ⟨some 10, .load false 1 (.t 9), none, [0]⟩,
   ⟨some 11, .call 85 [(.t 10)], none, [1]⟩,
   ⟨some 12, .not (.t 11), none, [2]⟩])
  (.cond (.t 12)
   (.seq (.ops [
     ⟨some 13, .mkI 0 (.c (.pv (.int .i64 1))), none, []⟩,
     ⟨some 4, .mv (.t 13), none, [0, 0]⟩])
    .ret)
   .skip))
  (.seq (.ops [
   ⟨some 15, .load true 3 (.t 2), none, []⟩,
   ⟨some 16, .fieldAddr 1 (.t 3), none, []⟩,
   ⟨some 17, .load false 1 (.t 16), none, [1]⟩,
   ⟨some 18, .call 81 [(.t 15), (.t 17)], none, [0, 2]⟩,
   ⟨some 14, .mv (.t 18), none, [3]⟩,
   ⟨some 19, .extract (.t 14) 0, none, [4]⟩,
   ⟨some 20, .extract (.t 14) 1, none, [4]⟩,
   ⟨some 5, .alloc [(.pv (.int .i64 0)), (.pv (.bool false)), (.pv (.int .i64 0)), (.pv (.int .i64 0)), (.pv (.int .i64 0))], none, []⟩,
   ⟨none, .store 5 (.t 5) (.t 19), none, [7, 5, 3, 0, 1, 2, 3, 4, 5, 7]⟩,
   ⟨some 6, .mv (.t 20), none, [6, 8, 0, 1, 2, 3, 4, 5, 6, 7, 8]⟩])
  (.seq (.ops [
   ⟨some 22, .load true 3 (.t 2), none, []⟩,
   ⟨some 23, .fieldAddr 7 (.t 3), none, []⟩,
   ⟨some 24, .load false 1 (.t 23), none, [1]⟩,
   ⟨some 25, .call 82 [(.t 22), (.t 24)], none, [0, 2]⟩,
   ⟨some 21, .mv (.t 25), none, [3]⟩,
   ⟨some 26, .extract (.t 21) 0, none, [4]⟩,
   ⟨some 27, .extract (.t 21) 1, none, [4]⟩,
   ⟨some 7, .alloc [(.pv (.int .i64 0)), (.pv (.int .i64 0)), (.pv (.int .u64 0)), (.pv (.int .u64 0)), (.pv (.int .u64 0)), (.pv (.int .u64 0)), (.pv (.int .u64 0)), (.pv (.int .u64 0)), (.pv (.int .u64 0)), (.pv (.int .u64 0))], none, []⟩,
   ⟨none, .store 10 (.t 7) (.t 26), none, [7, 5, 3, 0, 1, 2, 3, 4, 5, 7]⟩,
   ⟨some 8, .mv (.t 27), none, [6, 8, 0, 1, 2, 3, 4, 5, 6, 7, 8]⟩])
  (.seq (.seq (.ops [
   ⟨some 28, .mv (.t 6), none, []⟩,
   ⟨some 29, .not (.t 28), none, [0]⟩,
   ⟨some 30, .mv (.t 29), none, [1]⟩,
   ⟨some 31, .fieldAddr 7 (.t 3), some (30, false), [2]⟩,
   ⟨some 32, .load false 1 (.t 31), some (30, false), [3, 2]⟩,
   ⟨some 33, .bin .neq none (.t 32) (.c (.pv (.int .i64 0))), some (30, false), [4, 2]⟩,
   ⟨some 34, .mv (.t 33), some (30, false), [5, 2, 2]⟩,
   ⟨some 35, .mv (.t 8), some (34, true), [6]⟩,
   ⟨some 36, .not (.t 35), some (34, true), [7, 6]⟩,
   ⟨some 37, .pick (.t 34) (.t 36) (.c (.pv (.bool false))), some (30, false), [6, 8, 2]⟩,
   ⟨some 38, .pick (.t 30) (.c (.pv (.bool true))) (.t 37), none, [2, 9]⟩])
  (.cond (.t 38)
   (.seq (.ops [
     ⟨some 39, .mkI 0 (.c (.pv (.int .i64 4))), none, []⟩,
     ⟨some 4, .mv (.t 39), none, [0, 0]⟩])
    .ret)
   .skip))
  (.seq (.ops [
   ⟨some 4, .mv (.c (.pv .nili)), none, []⟩])
  .ret))))))⟩
def f90 : AFunc := ⟨60, [.t 6],
 (.seq (.ops [
   ⟨some 3, .box (.t 0), none, []⟩,
   ⟨some 6, .mv (.c (.pv .nili)), none, []⟩])
  (.seq (.ops [
   ⟨some 8, .mv (.t 1), none, []⟩,
   ⟨some 9, .mv (.t 2), none, []⟩,
   ⟨some 10, .idxAddr 6 (.t 8) (.t 9), none, [0, 1]⟩,
   ⟨some 11, .load true 6 (.t 10), none, [2]⟩,
   ⟨some 7, .alloc [(.pv (.int .i64 0)), (.pv (.int .u64 0)), (.pv (.int .u64 0)), (.pv (.int .u64 0)), (.pv (.int .u64 0)), (.pv (.bool false))], none, []⟩,
   ⟨none, .store 6 (.t 7) (.t 11), none, [4, 3, 0, 1, 2, 3, 4]⟩])
  (.seq (.block 0
   (.seq (.draw [
     ⟨some 13, .mv (.t 2), none, []⟩,
     ⟨some 14, .bin .gtr none (.t 13) (.c (.pv (.int .i64 0))), none, [0]⟩,
     ⟨some 15, .mv (.t 14), none, [1]⟩,
     ⟨some 16, .fieldAddr 0 (.t 7), some (15, true), [2]⟩,
     ⟨some 17, .load false 1 (.t 16), some (15, true), [3, 2]⟩,
     ⟨some 18, .mv (.t 1), some (15, true), [2]⟩,
     ⟨some 19, .mv (.t 2), some (15, true), [2]⟩,
     ⟨some 20, .bin .sub none (.t 19) (.c (.pv (.int .i64 1))), some (15, true), [6, 2]⟩,
     ⟨some 21, .idxAddr 6 (.t 18) (.t 20), some (15, true), [5, 7, 2]⟩,
     ⟨some 22, .fieldAddr 0 (.t 21), some (15, true), [8, 2]⟩,
     ⟨some 23, .load false 1 (.t 22), some (15, true), [9, 2]⟩,
     ⟨some 24, .bin .eql none (.t 17) (.t 23), some (15, true), [4, 10, 2]⟩,
     ⟨some 25, .pick (.t 15) (.t 24) (.c (.pv (.bool false))), none, [2, 11]⟩,
     ⟨some 12, .mv (.t 25), none, [12, 2]⟩])
    (.cond (.t 12)
     (.seq (.ops [
       ⟨some 26, .mkI 0 (.c (.pv (.int .i64 5))), none, []⟩,
       ⟨some 6, .mv (.t 26), none, [0, 0]⟩])
      .ret)
     (.seq (.draw [
       ⟨some 28, .mv (.t 2), none, []⟩,
       ⟨some 29, .bin .gtr none (.t 28) (.c (.pv (.int .i64 0))), none, [0]⟩,
       ⟨some 30, .mv (.t 29), none, [1]⟩,
       ⟨some 31, .fieldAddr 0 (.t 7), some (30, true), [2]⟩,
       ⟨some 32, .load false 1 (.t 31), some (30, true), [3, 2]⟩,
       ⟨some 33, .mv (.t 1), some (30, true), [2]⟩,
       ⟨some 34, .mv (.t 2), some (30, true), [2]⟩,
       ⟨some 35, .bin .sub none (.t 34) (.c (.pv (.int .i64 1))), some (30, true), [6, 2]⟩,
       ⟨some 36, .idxAddr 6 (.t 33) (.t 35), some (30, true), [5, 7, 2]⟩,
       ⟨some 37, .fieldAddr 0 (.t 36), some (30, true), [8, 2]⟩,
       ⟨some 38, .load false 1 (.t 37), some (30, true), [9, 2]⟩,
       ⟨some 39, .bin .lss none (.t 32) (.t 38), some (30, true), [4, 10, 2]⟩,
       ⟨some 40, .pick (.t 30) (.t 39) (.c (.pv (.bool false))), none, [2, 11]⟩,
       ⟨some 27, .mv (.t 40), none, [12, 2]⟩])
      (.cond (.t 27)
       (.seq (.ops [
         ⟨some 41, .mkI 0 (.c (.pv (.int .i64 1))), none, []⟩,
         ⟨some 6, .mv (.t 41), none, [0, 0]⟩])
        .ret)
       (.seq (.ops [
         ⟨some 43, .fieldAddr 2 (.t 3), none, []⟩,
         ⟨some 44, .load false 1 (.t 43), none, [0]⟩,
         ⟨some 45, .mkF 91 [] [(.t 7)], none, []⟩,
         ⟨some 46, .call 282 [(.t 44), (.t 45)], none, [1, 2]⟩,
         ⟨some 47, .not (.t 46), none, [3]⟩,
         ⟨some 42, .mv (.t 47), none, [4, 3]⟩])
        (.cond (.t 42)
         (.seq (.ops [
           ⟨some 48, .mkI 0 (.c (.pv (.int .i64 4))), none, []⟩,
           ⟨some 6, .mv (.t 48), none, [0, 0]⟩])
          .ret)
         (.seq (.ops [
           ⟨some 50, .fieldAddr 5 (.t 7), none, []⟩,
           ⟨some 51, .load false 1 (.t 50), none, [0]⟩,
           ⟨some 52, .not (.t 51), none, [1]⟩,
           ⟨some 53, .mv (.t 52), none, [2]⟩,
           ⟨some 54, .fieldAddr 1 (.t 7), some (53, true), [3]⟩,
           ⟨some 55, .load true 4 (.t 54), some (53, true), [4, 3]⟩,
           ⟨some 56, .build [(.pv (.int .u64 0)), (.pv (.int .u64 0)), (.pv (.int .u64 0)), (.pv (.int .u64 0))] [], some (53, true), [3]⟩,
           ⟨some 57, .bin .neq (some (.plain [false, false, false, false])) (.t 55) (.t 56), some (53, true), [5, 6, 3]⟩,
           ⟨some 58, .pick (.t 53) (.t 57) (.c (.pv (.bool false))), none, [3, 7]⟩,
           ⟨some 49, .mv (.t 58), none, [8, 3]⟩])
          (.cond (.t 49)
           (.seq (.ops [
             ⟨some 59, .mkI 0 (.c (.pv (.int .i64 1))), none, []⟩,
             ⟨some 6, .mv (.t 59), none, [0, 0]⟩])
            .ret)
           .skip)))))))))
  (.seq (.ops [
   ⟨some 6, .mv (.c (.pv .nili)), none, []⟩])
  .ret))))⟩
def f91 : AFunc := ⟨9, [.t 3],
 (.seq (.ops [
   ⟨some 2, .box (.t 0), none, []⟩,
   ⟨some 3, .mv (.c (.pv (.bool false))), none, []⟩])
  (.seq (.ops [
   ⟨some 4, .fieldAddr 0 (.t 2), none, []⟩,
   ⟨some 5, .load false 1 (.t 4), none, [0]⟩,
   ⟨some 6, .fieldAddr 0 (.t 1), none, []⟩,
   ⟨some 7, .load false 1 (.t 6), none, [2]⟩,
   ⟨some 8, .bin .eql none (.t 5) (.t 7), none, [1, 3]⟩,
   ⟨some 3, .mv (.t 8), none, [4, 0, 1, 2, 3, 4]⟩])
  .ret))⟩
def f151l0 : ACode :=
 (.seq (.seq (.ops [
   ⟨some 42, .mv (.t 6), none, []⟩,
   ⟨some 43, .fieldAddr 0 (.t 1), none, []⟩,
   ⟨some 44, .load false 1 (.t 43), none, [1]⟩,
   ⟨some 45, .len (.t 44), none, [2]⟩,
   ⟨some 46, .bin .lss none (.t 42) (.t 45), none, [0, 3]⟩])
  (.cond (.t 46)
   .skip
   (.exit 0)))
  (.seq (.block 1
   (.seq (.ops [
     ⟨some 49, .fieldAddr 0 (.t 1), none, []⟩,
     ⟨some 50, .load false 1 (.t 49), none, [0]⟩,
     ⟨some 51, .mv (.t 6), none, []⟩,
     ⟨some 52, .idxAddr 10 (.t 50) (.t 51), none, [1, 2]⟩,
     ⟨some 53, .load true 10 (.t 52), none, [3]⟩,
     ⟨some 7, .alloc [(.pv (.int .i64 0)), (.pv (.int .i64 0)), (.pv (.int .u64 0)), (.pv (.int .u64 0)), (.pv (.int .u64 0)), (.pv (.int .u64 0)), (.pv (.int .u64 0)), (.pv (.int .u64 0)), (.pv (.int .u64 0)), (.pv (.int .u64 0))], none, []⟩,
     ⟨none, .store 10 (.t 7) (.t 53), none, [5, 4, 0, 1, 2, 3, 4, 5]⟩])
    (.seq (.ops [
     ⟨some 54, .fieldAddr 0 (.t 7), none, []⟩,
     ⟨some 55, .load false 1 (.t 54), none, [0]⟩,
     ⟨some 56, .mv (.t 4), none, []⟩,
     ⟨some 57, .call 160 [(.t 55), (.t 56)], none, [1, 2]⟩,
     ⟨some 8, .mv (.t 57), none, [3, 3, 0, 1, 2, 3]⟩])
    (.seq (.ops [
     ⟨some 58, .fieldAddr 6 (.t 7), none, []⟩,
     ⟨some 59, .load true 4 (.t 58), none, [0]⟩,
     ⟨some 60, .fieldAddr 2 (.t 7), none, []⟩,
     ⟨some 61, .load true 4 (.t 60), none, [2]⟩,
     ⟨some 62, .call 141 [(.t 59), (.t 61)], none, [1, 3]⟩,
     ⟨some 9, .mv (.t 62), none, [4, 4, 0, 1, 2, 3, 4]⟩])
    (.seq (.seq (.ops [
     ⟨some 63, .mv (.t 8), none, []⟩,
     ⟨some 64, .bin .eql none (.t 63) (.c (.pv (.int .i64 0))), none, [0]⟩,
     ⟨some 65, .mv (.t 64), none, [1]⟩,
     ⟨some 66, .fieldAddr 1 (.t 7), some (65, true), [2]⟩,
     ⟨some 67, .load false 1 (.t 66), some (65, true), [3, 2]⟩,
     ⟨some 68, .bin .lss none (.t 67) (.c (.pv (.int .i64 1))), some (65, true), [4, 2]⟩,
     ⟨some 69, .mv (.t 68), some (65, true), [5, 2, 2]⟩,
     ⟨some 70, .fieldAddr 1 (.t 7), some (69, false), [6]⟩,
     ⟨some 71, .load false 1 (.t 70), some (69, false), [7, 6]⟩,
     ⟨some 72, .bin .gtr none (.t 71) (.c (.pv (.int .i64 8))), some (69, false), [8, 6]⟩,
     ⟨some 73, .pick (.t 69) (.c (.pv (.bool true))) (.t 72), some (65, true), [6, 9, 2]⟩,
     ⟨some 74, .mv (.t 73), some (65, true), [10, 6, 2]⟩,
     ⟨some 75, .mv (.t 9), some (74, false), [11]⟩,
     ⟨some 76, .not (.t 75), some (74, false), [12, 11]⟩,
     ⟨some 77, .pick (.t 74) (.c (.pv (.bool true))) (.t 76), some (65, true), [11, 13, 2]⟩,
     ⟨some 78, .pick (.t 65) (.t 77) (.c (.pv (.bool false))), none, [2, 14]⟩])
    (.cond (.t 78)
     (.ops [
       ⟨some 8, .mv (.c (.pv (.int .i64 1))), none, []⟩])
     .skip))
    (.seq (.seq (.ops [
     ⟨some 79, .mv (.t 8), none, []⟩,
     ⟨some 80, .bin .neq none (.t 79) (.c (.pv (.int .i64 0))), none, [0]⟩])
    (.cond (.t 80)
     (.seq (.ops [
       ⟨some 81, .mv (.t 8), none, []⟩,
       ⟨some 82, .mv (.t 5), none, []⟩,
       ⟨some 2, .mv (.t 81), none, [0, 0]⟩,
       ⟨some 3, .mv (.t 82), none, [1, 2, 0, 1, 2]⟩])
      .ret)
     .skip))
    (.seq (.ops [
     ⟨some 83, .fieldAddr 0 (.t 7), none, []⟩,
     ⟨some 84, .load false 1 (.t 83), none, [0]⟩,
     ⟨some 4, .mv (.t 84), none, [1, 0, 1]⟩])
    (.ops [
     ⟨some 85, .mv (.t 5), none, []⟩,
     ⟨some 86, .bin .add none (.t 85) (.c (.pv (.int .i64 1))), none, [0]⟩,
     ⟨some 5, .mv (.t 86), none, [1, 0, 1]⟩]))))))))
  (.ops [
   ⟨some 47, .mv (.t 6), none, []⟩,
   ⟨some 48, .bin .add none (.t 47) (.c (.pv (.int .i64 1))), none, [0]⟩,
   ⟨some 6, .mv (.t 48), none, [1, 0, 1]⟩])))
def f151l1 : ACode :=
 (.seq (.seq (.ops [
   ⟨some 87, .mv (.t 10), none, []⟩,
   ⟨some 88, .fieldAddr 1 (.t 1), none, []⟩,
   ⟨some 89, .load false 1 (.t 88), none, [1]⟩,
   ⟨some 90, .len (.t 89), none, [2]⟩,
   ⟨some 91, .bin .lss none (.t 87) (.t 90), none, [0, 3]⟩])
  (.cond (.t 91)
   .skip
   (.exit 2)))
  (.seq (.block 3
   (.seq (.ops [
     ⟨some 94, .fieldAddr 1 (.t 1), none, []⟩,
     ⟨some 95, .load false 1 (.t 94), none, [0]⟩,
     ⟨some 96, .mv (.t 10), none, []⟩,
     ⟨some 97, .idxAddr 5 (.t 95) (.t 96), none, [1, 2]⟩,
     ⟨some 98, .load true 5 (.t 97), none, [3]⟩,
     ⟨some 11, .alloc [(.pv (.int .i64 0)), (.pv (.bool false)), (.pv (.int .i64 0)), (.pv (.int .i64 0)), (.pv (.int .i64 0))], none, []⟩,
     ⟨none, .store 5 (.t 11) (.t 98), none, [5, 4, 0, 1, 2, 3, 4, 5]⟩])
    (.seq (.ops [
     ⟨some 99, .fieldAddr 0 (.t 11), none, []⟩,
     ⟨some 100, .load false 1 (.t 99), none, [0]⟩,
     ⟨some 101, .mv (.t 4), none, []⟩,
     ⟨some 102, .call 160 [(.t 100), (.t 101)], none, [1, 2]⟩,
     ⟨some 12, .mv (.t 102), none, [3, 3, 0, 1, 2, 3]⟩])
    (.seq (.ops [
     ⟨some 103, .fieldAddr 2 (.t 11), none, []⟩,
     ⟨some 104, .load false 1 (.t 103), none, [0]⟩,
     ⟨some 105, .call 159 [(.t 104)], none, [1]⟩,
     ⟨some 13, .mv (.t 105), none, [2, 2, 0, 1, 2]⟩])
    (.seq (.ops [
     ⟨some 106, .fieldAddr 3 (.t 11), none, []⟩,
     ⟨some 107, .load false 1 (.t 106), none, [0]⟩,
     ⟨some 108, .call 159 [(.t 107)], none, [1]⟩,
     ⟨some 14, .mv (.t 108), none, [2, 2, 0, 1, 2]⟩])
    (.seq (.ops [
     ⟨some 109, .fieldAddr 4 (.t 11), none, []⟩,
     ⟨some 110, .load false 1 (.t 109), none, [0]⟩,
     ⟨some 111, .call 159 [(.t 110)], none, [1]⟩,
     ⟨some 15, .mv (.t 111), none, [2, 2, 0, 1, 2]⟩])
    (.seq (.seq (.ops [
     ⟨some 112, .mv (.t 12), none, []⟩,
     ⟨some 113, .bin .eql none (.t 112) (.c (.pv (.int .i64 0))), none, [0]⟩,
     ⟨some 114, .mv (.t 113), none, [1]⟩,
     ⟨some 115, .mv (.t 13), some (114, true), [2]⟩,
     ⟨some 116, .not (.t 115), some (114, true), [3, 2]⟩,
     ⟨some 117, .mv (.t 116), some (114, true), [4, 2, 2]⟩,
     ⟨some 118, .mv (.t 14), some (117, false), [5]⟩,
     ⟨some 119, .not (.t 118), some (117, false), [6, 5]⟩,
     ⟨some 120, .pick (.t 117) (.c (.pv (.bool true))) (.t 119), some (114, true), [5, 7, 2]⟩,
     ⟨some 121, .mv (.t 120), some (114, true), [8, 5, 2]⟩,
     ⟨some 122, .mv (.t 15), some (121, false), [9]⟩,
     ⟨some 123, .not (.t 122), some (121, false), [10, 9]⟩,
     ⟨some 124, .pick (.t 121) (.c (.pv (.bool true))) (.t 123), some (114, true), [9, 11, 2]⟩,
     ⟨some 125, .mv (.t 124), some (114, true), [12, 9, 2]⟩,
     ⟨some 126, .fieldAddr 3 (.t 11), some (125, false), [13]⟩,
     ⟨some 127, .load false 1 (.t 126), some (125, false), [14, 13]⟩,
     ⟨some 128, .fieldAddr 4 (.t 11), some (125, false), [13]⟩,
     ⟨some 129, .load false 1 (.t 128), some (125, false), [16, 13]⟩,
     ⟨some 130, .bin .gtr none (.t 127) (.t 129), some (125, false), [15, 17, 13]⟩,
     ⟨some 131, .pick (.t 125) (.c (.pv (.bool true))) (.t 130), some (114, true), [13, 18, 2]⟩,
     ⟨some 132, .pick (.t 114) (.t 131) (.c (.pv (.bool false))), none, [2, 19]⟩])
    (.cond (.t 132)
     (.ops [
       ⟨some 12, .mv (.c (.pv (.int .i64 1))), none, []⟩])
     .skip))
    (.seq (.seq (.ops [
     ⟨some 133, .mv (.t 12), none, []⟩,
     ⟨some 134, .bin .neq none (.t 133) (.c (.pv (.int .i64 0))), none, [0]⟩])
    (.cond (.t 134)
     (.seq (.ops [
       ⟨some 135, .mv (.t 12), none, []⟩,
       ⟨some 136, .mv (.t 5), none, []⟩,
       ⟨some 2, .mv (.t 135), none, [0, 0]⟩,
       ⟨some 3, .mv (.t 136), none, [1, 2, 0, 1, 2]⟩])
      .ret)
     .skip))
    (.seq (.ops [
     ⟨some 137, .fieldAddr 0 (.t 11), none, []⟩,
     ⟨some 138, .load false 1 (.t 137), none, [0]⟩,
     ⟨some 4, .mv (.t 138), none, [1, 0, 1]⟩])
    (.ops [
     ⟨some 139, .mv (.t 5), none, []⟩,
     ⟨some 140, .bin .add none (.t 139) (.c (.pv (.int .i64 1))), none, [0]⟩,
     ⟨some 5, .mv (.t 140), none, [1, 0, 1]⟩]))))))))))
  (.ops [
   ⟨some 92, .mv (.t 10), none, []⟩,
   ⟨some 93, .bin .add none (.t 92) (.c (.pv (.int .i64 1))), none, [0]⟩,
   ⟨some 10, .mv (.t 93), none, [1, 0, 1]⟩])))
def f151l2 : ACode :=
 (.seq (.seq (.ops [
   ⟨some 141, .mv (.t 16), none, []⟩,
   ⟨some 142, .fieldAddr 2 (.t 1), none, []⟩,
   ⟨some 143, .load false 1 (.t 142), none, [1]⟩,
   ⟨some 144, .len (.t 143), none, [2]⟩,
   ⟨some 145, .bin .lss none (.t 141) (.t 144), none, [0, 3]⟩])
  (.cond (.t 145)
   .skip
   (.exit 4)))
  (.seq (.block 5
   (.seq (.ops [
     ⟨some 148, .fieldAddr 2 (.t 1), none, []⟩,
     ⟨some 149, .load false 1 (.t 148), none, [0]⟩,
     ⟨some 150, .mv (.t 16), none, []⟩,
     ⟨some 151, .idxAddr 8 (.t 149) (.t 150), none, [1, 2]⟩,
     ⟨some 152, .load true 8 (.t 151), none, [3]⟩,
     ⟨some 17, .alloc [(.pv (.int .i64 0)), (.pv (.int .i64 0)), (.pv (.int .i64 0)), (.pv (.int .u64 0)), (.pv (.int .u64 0)), (.pv (.int .u64 0)), (.pv (.int .u64 0)), (.pv (.int .i64 0))], none, []⟩,
     ⟨none, .store 8 (.t 17) (.t 152), none, [5, 4, 0, 1, 2, 3, 4, 5]⟩])
    (.seq (.ops [
     ⟨some 153, .fieldAddr 0 (.t 17), none, []⟩,
     ⟨some 154, .load false 1 (.t 153), none, [0]⟩,
     ⟨some 155, .mv (.t 4), none, []⟩,
     ⟨some 156, .call 160 [(.t 154), (.t 155)], none, [1, 2]⟩,
     ⟨some 18, .mv (.t 156), none, [3, 3, 0, 1, 2, 3]⟩])
    (.seq (.ops [
     ⟨some 157, .fieldAddr 2 (.t 17), none, []⟩,
     ⟨some 158, .load false 1 (.t 157), none, [0]⟩,
     ⟨some 159, .call 159 [(.t 158)], none, [1]⟩,
     ⟨some 19, .mv (.t 159), none, [2, 2, 0, 1, 2]⟩])
    (.seq (.seq (.ops [
     ⟨some 160, .mv (.t 18), none, []⟩,
     ⟨some 161, .bin .eql none (.t 160) (.c (.pv (.int .i64 0))), none, [0]⟩,
     ⟨some 162, .mv (.t 161), none, [1]⟩,
     ⟨some 163, .mv (.t 19), some (162, true), [2]⟩,
     ⟨some 164, .not (.t 163), some (162, true), [3, 2]⟩,
     ⟨some 165, .pick (.t 162) (.t 164) (.c (.pv (.bool false))), none, [2, 4]⟩])
    (.cond (.t 165)
     (.ops [
       ⟨some 18, .mv (.c (.pv (.int .i64 1))), none, []⟩])
     .skip))
    (.seq (.seq (.ops [
     ⟨some 166, .mv (.t 18), none, []⟩,
     ⟨some 167, .bin .eql none (.t 166) (.c (.pv (.int .i64 0))), none, [0]⟩,
     ⟨some 168, .mv (.t 167), none, [1]⟩,
     ⟨some 169, .load true 3 (.t 1), some (168, true), [2]⟩,
     ⟨some 170, .fieldAddr 1 (.t 17), some (168, true), [2]⟩,
     ⟨some 171, .load false 1 (.t 170), some (168, true), [4, 2]⟩,
     ⟨some 172, .call 154 [(.t 169), (.t 171)], some (168, true), [3, 5, 2, 2]⟩,
     ⟨some 173, .bin .lss none (.t 172) (.c (.pv (.int .i64 0))), some (168, true), [6, 2]⟩,
     ⟨some 174, .mv (.t 173), some (168, true), [7, 6, 2]⟩,
     ⟨some 175, .fieldAddr 7 (.t 17), some (174, false), [8]⟩,
     ⟨some 176, .load false 1 (.t 175), some (174, false), [9, 8]⟩,
     ⟨some 177, .bin .neq none (.t 176) (.c (.pv (.int .i64 0))), some (174, false), [10, 8]⟩,
     ⟨some 178, .mv (.t 177), some (174, false), [11, 8, 8]⟩,
     ⟨some 179, .load true 3 (.t 1), some (178, true), [12]⟩,
     ⟨some 180, .fieldAddr 7 (.t 17), some (178, true), [12]⟩,
     ⟨some 181, .load false 1 (.t 180), some (178, true), [14, 12]⟩,
     ⟨some 182, .call 155 [(.t 179), (.t 181)], some (178, true), [13, 15, 12, 12]⟩,
     ⟨some 183, .bin .lss none (.t 182) (.c (.pv (.int .i64 0))), some (178, true), [16, 12]⟩,
     ⟨some 184, .pick (.t 178) (.t 183) (.c (.pv (.bool false))), some (174, false), [12, 17, 8]⟩,
     ⟨some 185, .pick (.t 174) (.c (.pv (.bool true))) (.t 184), some (168, true), [8, 18, 2]⟩,
     ⟨some 186, .pick (.t 168) (.t 185) (.c (.pv (.bool false))), none, [2, 19]⟩])
    (.cond (.t 186)
     (.ops [
       ⟨some 18, .mv (.c (.pv (.int .i64 4))), none, []⟩])
     .skip))
    (.seq (.seq (.ops [
     ⟨some 187, .mv (.t 18), none, []⟩,
     ⟨some 188, .bin .neq none (.t 187) (.c (.pv (.int .i64 0))), none, [0]⟩])
    (.cond (.t 188)
     (.seq (.ops [
       ⟨some 189, .mv (.t 18), none, []⟩,
       ⟨some 190, .mv (.t 5), none, []⟩,
       ⟨some 2, .mv (.t 189), none, [0, 0]⟩,
       ⟨some 3, .mv (.t 190), none, [1, 2, 0, 1, 2]⟩])
      .ret)
     .skip))
    (.seq (.ops [
     ⟨some 191, .fieldAddr 0 (.t 17), none, []⟩,
     ⟨some 192, .load false 1 (.t 191), none, [0]⟩,
     ⟨some 4, .mv (.t 192), none, [1, 0, 1]⟩])
    (.ops [
     ⟨some 193, .mv (.t 5), none, []⟩,
     ⟨some 194, .bin .add none (.t 193) (.c (.pv (.int .i64 1))), none, [0]⟩,
     ⟨some 5, .mv (.t 194), none, [1, 0, 1]⟩])))))))))
  (.ops [
   ⟨some 146, .mv (.t 16), none, []⟩,
   ⟨some 147, .bin .add none (.t 146) (.c (.pv (.int .i64 1))), none, [0]⟩,
   ⟨some 16, .mv (.t 147), none, [1, 0, 1]⟩])))
def f151 : AFunc := ⟨195, [.t 2, .t 3],
 (.seq (.ops [
   ⟨some 1, .box (.t 0), none, []⟩,
   ⟨some 2, .mv (.c (.pv (.int .i64 0))), none, []⟩,
   ⟨some 3, .mv (.c (.pv (.int .i64 0))), none, [1]⟩])
  (.seq (.seq (.ops [
   ⟨some 20, .fieldAddr 0 (.t 1), none, []⟩,
   ⟨some 21, .load false 1 (.t 20), none, [0]⟩,
   ⟨some 22, .len (.t 21), none, [1]⟩,
   ⟨some 23, .bin .eql none (.t 22) (.c (.pv (.int .i64 0))), none, [2]⟩,
   ⟨some 24, .mv (.t 23), none, [3]⟩,
   ⟨some 25, .fieldAddr 0 (.t 1), some (24, false), [4]⟩,
   ⟨some 26, .load false 1 (.t 25), some (24, false), [5, 4]⟩,
   ⟨some 27, .len (.t 26), some (24, false), [6, 4]⟩,
   ⟨some 28, .bin .gtr none (.t 27) (.c (.pv (.int .i64 8))), some (24, false), [7, 4]⟩,
   ⟨some 29, .pick (.t 24) (.c (.pv (.bool true))) (.t 28), none, [4, 8]⟩,
   ⟨some 30, .mv (.t 29), none, [9, 4]⟩,
   ⟨some 31, .fieldAddr 1 (.t 1), some (30, false), [10]⟩,
   ⟨some 32, .load false 1 (.t 31), some (30, false), [11, 10]⟩,
   ⟨some 33, .len (.t 32), some (30, false), [12, 10]⟩,
   ⟨some 34, .bin .gtr none (.t 33) (.c (.pv (.int .i64 8))), some (30, false), [13, 10]⟩,
   ⟨some 35, .pick (.t 30) (.c (.pv (.bool true))) (.t 34), none, [10, 14]⟩,
   ⟨some 36, .mv (.t 35), none, [15, 10]⟩,
   ⟨some 37, .fieldAddr 2 (.t 1), some (36, false), [16]⟩,
   ⟨some 38, .load false 1 (.t 37), some (36, false), [17, 16]⟩,
   ⟨some 39, .len (.t 38), some (36, false), [18, 16]⟩,
   ⟨some 40, .bin .gtr none (.t 39) (.c (.pv (.int .i64 12))), some (36, false), [19, 16]⟩,
   ⟨some 41, .pick (.t 36) (.c (.pv (.bool true))) (.t 40), none, [16, 20]⟩])
  (.cond (.t 41)
   (.seq (.ops [
     ⟨some 2, .mv (.c (.pv (.int .i64 3))), none, []⟩,
     ⟨some 3, .mv (.c (.pv (.int .i64 (-1)))), none, [0, 0]⟩])
    .ret)
   .skip))
  (.seq (.ops [
   ⟨some 4, .mv (.c (.pv (.int .i64 0))), none, []⟩])
  (.seq (.ops [
   ⟨some 5, .mv (.c (.pv (.int .i64 0))), none, []⟩])
  (.seq (.seq (.ops [
   ⟨some 6, .mv (.c (.pv (.int .i64 0))), none, []⟩])
  (.block 0
   (.loop f151l0)))
  (.seq (.ops [
   ⟨some 4, .mv (.c (.pv (.int .i64 0))), none, []⟩])
  (.seq (.seq (.ops [
   ⟨some 10, .mv (.c (.pv (.int .i64 0))), none, []⟩])
  (.block 2
   (.loop f151l1)))
  (.seq (.ops [
   ⟨some 4, .mv (.c (.pv (.int .i64 0))), none, []⟩])
  (.seq (.seq (.ops [
   ⟨some 16, .mv (.c (.pv (.int .i64 0))), none, []⟩])
  (.block 4
   (.loop f151l2)))
  (.seq (.ops [
   ⟨some 2, .mv (.c (.pv (.int .i64 0))), none, []⟩,
   ⟨some 3, .mv (.c (.pv (.int .i64 (-1)))), none, [0, 0]⟩])
  .ret))))))))))⟩
def f154l0 : ACode :=
 (.seq (.seq (.ops [
   ⟨some 6, .mv (.t 5), none, []⟩,
   ⟨some 7, .fieldAddr 1 (.t 2), none, []⟩,
   ⟨some 8, .load false 1 (.t 7), none, [1]⟩,
   ⟨some 9, .len (.t 8), none, [2]⟩,
   ⟨some 10, .bin .lss none (.t 6) (.t 9), none, [0, 3]⟩])
  (.cond (.t 10)
   .skip
   (.exit 0)))
  (.seq (.block 1
   (.seq (.ops [
     ⟨some 13, .fieldAddr 1 (.t 2), none, []⟩,
     ⟨some 14, .load false 1 (.t 13), none, [0]⟩,
     ⟨some 15, .mv (.t 5), none, []⟩,
     ⟨some 16, .idxAddr 5 (.t 14) (.t 15), none, [1, 2]⟩,
     ⟨some 17, .fieldAddr 0 (.t 16), none, [3]⟩,
     ⟨some 18, .load false 1 (.t 17), none, [4]⟩,
     ⟨some 19, .mv (.t 1), none, []⟩,
     ⟨some 20, .bin .eql none (.t 18) (.t 19), none, [5, 6]⟩])
    (.cond (.t 20)
     (.seq (.ops [
       ⟨some 21, .mv (.t 5), none, []⟩,
       ⟨some 4, .mv (.t 21), none, [0, 0]⟩])
      .ret)
     .skip)))
  (.ops [
   ⟨some 11, .mv (.t 5), none, []⟩,
   ⟨some 12, .bin .add none (.t 11) (.c (.pv (.int .i64 1))), none, [0]⟩,
   ⟨some 5, .mv (.t 12), none, [1, 0, 1]⟩])))
def f154 : AFunc := ⟨22, [.t 4],
 (.seq (.ops [
   ⟨some 2, .box (.t 0), none, []⟩,
   ⟨some 4, .mv (.c (.pv (.int .i64 0))), none, []⟩])
  (.seq (.seq (.ops [
   ⟨some 5, .mv (.c (.pv (.int .i64 0))), none, []⟩])
  (.block 0
   (.loop f154l0)))
  (.seq (.ops [
   ⟨some 4, .mv (.c (.pv (.int .i64 (-1)))), none, []⟩])
  .ret)))⟩
def f159 : AFunc := ⟨9, [.t 2],
 (.seq (.ops [
   ⟨some 2, .mv (.c (.pv (.bool false))), none, []⟩])
  (.seq (.ops [
   ⟨some 3, .mv (.t 0), none, []⟩,
   ⟨some 4, .bin .geq none (.t 3) (.c (.pv (.int .i64 0))), none, [0]⟩,
   ⟨some 5, .mv (.t 4), none, [1]⟩,
   ⟨some 6, .mv (.t 0), some (5, true), [2]⟩,
   ⟨some 7, .bin .leq none (.t 6) (.c (.pv (.int .i64 100))), some (5, true), [3, 2]⟩,
   ⟨some 8, .pick (.t 5) (.t 7) (.c (.pv (.bool false))), none, [2, 4]⟩,
   ⟨some 2, .mv (.t 8), none, [5, 2, 0, 1, 2, 3, 4, 5]⟩])
  .ret))⟩
def f160 : AFunc := ⟨17, [.t 4],
 (.seq (.ops [
   ⟨some 4, .mv (.c (.pv (.int .i64 0))), none, []⟩])
  (.seq (.seq (.ops [
   ⟨some 5, .mv (.t 0), none, []⟩,
   ⟨some 6, .bin .lss none (.t 5) (.c (.pv (.int .i64 1))), none, [0]⟩,
   ⟨some 7, .mv (.t 6), none, [1]⟩,
   ⟨some 8, .mv (.t 0), some (7, false), [2]⟩,
   ⟨some 9, .bin .gtr none (.t 8) (.c (.pv (.int .i64 2147483647))), some (7, false), [3, 2]⟩,
   ⟨some 10, .pick (.t 7) (.c (.pv (.bool true))) (.t 9), none, [2, 4]⟩])
  (.cond (.t 10)
   (.seq (.ops [
     ⟨some 4, .mv (.c (.pv (.int .i64 1))), none, []⟩])
    .ret)
   .skip))
  (.seq (.seq (.ops [
   ⟨some 11, .mv (.t 0), none, []⟩,
   ⟨some 12, .mv (.t 1), none, []⟩,
   ⟨some 13, .bin .eql none (.t 11) (.t 12), none, [0, 1]⟩])
  (.cond (.t 13)
   (.seq (.ops [
     ⟨some 4, .mv (.c (.pv (.int .i64 5))), none, []⟩])
    .ret)
   .skip))
  (.seq (.seq (.ops [
   ⟨some 14, .mv (.t 0), none, []⟩,
   ⟨some 15, .mv (.t 1), none, []⟩,
   ⟨some 16, .bin .lss none (.t 14) (.t 15), none, [0, 1]⟩])
  (.cond (.t 16)
   (.seq (.ops [
     ⟨some 4, .mv (.c (.pv (.int .i64 1))), none, []⟩])
    .ret)
   .skip))
  (.seq (.ops [
   ⟨some 4, .mv (.c (.pv (.int .i64 0))), none, []⟩])
  .ret)))))⟩
def f257 : AFunc := ⟨15, [.t 4],
 (.seq (.ops [
   ⟨some 2, .box (.t 0), none, []⟩,
   ⟨some 3, .box (.t 1), none, []⟩,
   ⟨some 4, .mv (.c (.pv (.bool false))), none, []⟩])
  (.seq (.ops [
   ⟨some 8, .load true 4 (.t 3), none, []⟩,
   ⟨some 9, .load true 4 (.t 2), none, []⟩,
   ⟨some 10, .call 258 [(.t 8), (.t 9)], none, [0, 1]⟩,
   ⟨some 7, .mv (.t 10), none, [2]⟩,
   ⟨some 11, .extract (.t 7) 0, none, [3]⟩,
   ⟨some 12, .extract (.t 7) 1, none, [3]⟩,
   ⟨some 5, .alloc [(.pv (.int .u64 0)), (.pv (.int .u64 0)), (.pv (.int .u64 0)), (.pv (.int .u64 0))], none, []⟩,
   ⟨none, .store 4 (.t 5) (.t 11), none, [6, 4, 2, 0, 1, 2, 3, 4, 6]⟩,
   ⟨some 6, .mv (.t 12), none, [5, 7, 0, 1, 2, 3, 4, 5, 6, 7]⟩])
  (.seq (.ops [
   ⟨some 13, .mv (.t 6), none, []⟩,
   ⟨some 14, .bin .eql (some (.iface true)) (.t 13) (.c (.pv .nili)), none, [0]⟩,
   ⟨some 4, .mv (.t 14), none, [1, 0, 1]⟩])
  .ret)))⟩
def f282 : AFunc := ⟨9, [.t 4],
 (.seq (.ops [
   ⟨some 4, .mv (.c (.pv (.bool false))), none, []⟩])
  (.seq (.ops [
   ⟨some 5, .mv (.t 0), none, []⟩,
   ⟨some 6, .mv (.t 1), none, []⟩,
   ⟨some 7, .call 287 [(.t 5), (.t 6)], none, [0, 1]⟩,
   ⟨some 8, .bin .geq none (.t 7) (.c (.pv (.int .i64 0))), none, [2]⟩,
   ⟨some 4, .mv (.t 8), none, [3, 2, 0, 1, 2, 3]⟩])
  .ret))⟩
def f341 : AFunc := ⟨26, [.t 0],
 (.seq (.ops [
   ⟨some 0, .mv (.c (.pv (.bool false))), none, []⟩])
  (.seq (.ops [
   ⟨some 4, .build [.nils, .nils, .nils] [], none, []⟩,
   ⟨some 5, .call 76 [(.t 4)], none, [0]⟩,
   ⟨some 1, .mv (.t 5), none, [1, 1, 0, 1]⟩])
  (.seq (.ops [
   ⟨some 6, .build [(.pv (.int .i64 0)), (.pv (.int .i64 0)), (.pv (.int .u64 0)), (.pv (.int .u64 0)), (.pv (.int .u64 0)), (.pv (.int .u64 0)), (.pv (.int .u64 0)), (.pv (.int .u64 0)), (.pv (.int .u64 0)), (.pv (.int .u64 0))] [(0, 1, (.c (.pv (.int .i64 3)))), (1, 1, (.c (.pv (.int .i64 1))))], none, []⟩,
   ⟨some 7, .bslice 10 1 [(.pv (.int .i64 0)), (.pv (.int .i64 0)), (.pv (.int .u64 0)), (.pv (.int .u64 0)), (.pv (.int .u64 0)), (.pv (.int .u64 0)), (.pv (.int .u64 0)), (.pv (.int .u64 0)), (.pv (.int .u64 0)), (.pv (.int .u64 0))] [(0, 10, (.t 6))], none, [0]⟩,
   ⟨some 8, .build [.nils, .nils, .nils] [(0, 1, (.t 7))], none, [1]⟩,
   ⟨some 9, .call 76 [(.t 8)], none, [2]⟩,
   ⟨some 2, .mv (.t 9), none, [3, 3, 0, 1, 2, 3]⟩])
  (.seq (.ops [
   ⟨some 10, .build [(.pv (.int .i64 0)), (.pv (.int .i64 0)), (.pv (.int .u64 0)), (.pv (.int .u64 0)), (.pv (.int .u64 0)), (.pv (.int .u64 0)), (.pv (.int .u64 0)), (.pv (.int .u64 0)), (.pv (.int .u64 0)), (.pv (.int .u64 0))] [(0, 1, (.c (.pv (.int .i64 3)))), (1, 1, (.c (.pv (.int .i64 1))))], none, []⟩,
   ⟨some 11, .build [(.pv (.int .i64 0)), (.pv (.int .i64 0)), (.pv (.int .u64 0)), (.pv (.int .u64 0)), (.pv (.int .u64 0)), (.pv (.int .u64 0)), (.pv (.int .u64 0)), (.pv (.int .u64 0)), (.pv (.int .u64 0)), (.pv (.int .u64 0))] [(0, 1, (.c (.pv (.int .i64 3)))), (1, 1, (.c (.pv (.int .i64 1))))], none, []⟩,
   ⟨some 12, .bslice 10 2 [(.pv (.int .i64 0)), (.pv (.int .i64 0)), (.pv (.int .u64 0)), (.pv (.int .u64 0)), (.pv (.int .u64 0)), (.pv (.int .u64 0)), (.pv (.int .u64 0)), (.pv (.int .u64 0)), (.pv (.int .u64 0)), (.pv (.int .u64 0)), (.pv (.int .i64 0)), (.pv (.int .i64 0)), (.pv (.int .u64 0)), (.pv (.int .u64 0)), (.pv (.int .u64 0)), (.pv (.int .u64 0)), (.pv (.int .u64 0)), (.pv (.int .u64 0)), (.pv (.int .u64 0)), (.pv (.int .u64 0))] [(0, 10, (.t 10)), (10, 10, (.t 11))], none, [0, 1]⟩,
   ⟨some 13, .build [.nils, .nils, .nils] [(0, 1, (.t 12))], none, [2]⟩,
   ⟨some 14, .call 76 [(.t 13)], none, [3]⟩,
   ⟨some 3, .mv (.t 14), none, [4, 4, 0, 1, 2, 3, 4]⟩])
  (.seq (.ops [
   ⟨some 15, .mv (.t 1), none, []⟩,
   ⟨some 16, .mkI 0 (.c (.pv (.int .i64 3))), none, []⟩,
   ⟨some 17, .bin .eql (some (.iface true)) (.t 15) (.t 16), none, [0, 1]⟩,
   ⟨some 18, .mv (.t 17), none, [2]⟩,
   ⟨some 19, .mv (.t 2), some (18, true), [3]⟩,
   ⟨some 20, .bin .eql (some (.iface true)) (.t 19) (.c (.pv .nili)), some (18, true), [4, 3]⟩,
   ⟨some 21, .pick (.t 18) (.t 20) (.c (.pv (.bool false))), none, [3, 5]⟩,
   ⟨some 22, .mv (.t 21), none, [6, 3]⟩,
   ⟨some 23, .mv (.t 3), some (22, true), [7]⟩,
   ⟨some 24, .call 103 [(.t 23), (.c (.pv (.int .i64 1))), (.c (.pv (.int .i64 5)))], some (22, true), [8, 7, 7]⟩,
   ⟨some 25, .pick (.t 22) (.t 24) (.c (.pv (.bool false))), none, [7, 9]⟩,
   ⟨some 0, .mv (.t 25), none, [10, 9, 0, 1, 2, 3, 4, 5, 6, 7, 8, 9, 10]⟩])
  .ret)))))⟩
end Go.Proofs.YtimkghkokfhfcaaDoor.Ab
set_option linter.unusedVariables false
set_option linter.unusedSimpArgs false
namespace Go.Proofs.YtimkghkokfhfcaaDoor.Ab
open Go
section
variable {T : Tab}
structure StdF (T : Tab) : Prop where
  h257 : Std T 257 f257
  h258 : Std T 258 f258
  h261 : Std T 261 f261
  h259 : Std T 259 f259
end
end Go.Proofs.YtimkghkokfhfcaaDoor.Ab
set_option linter.unusedVariables false
set_option linter.unusedSimpArgs false
namespace Go.Proofs.YtimkghkokfhfcaaDoor.Ab
open Go
def sIndep (x y : AOper) : Bool := disj (optL x.dst) (readsA y) && (disj (optL x.dst) (optL y.dst) && disj (optL y.dst) (readsA x))
def shyB (x y : AOper) : Bool := (quiet x.op && quiet y.op) || (dry x.op || dry y.op)
def pairRow (i : Nat) (x : AOper) : List Nat → Nat → List AOper → Option (List (Nat × Nat))
  | _, _, [] => some []
  | l, j, y :: r => cond (anyIn l y.deps) (pairRow i x (j :: l) (j + 1) r) (cond (sIndep x y) (match pairRow i x l (j + 1) r with
    | some ps => some (cond (shyB x y) ps ((i, j) :: ps))
    | none => none) none)
def pairsS (i : Nat) : List AOper → Option (List (Nat × Nat))
  | [] => some []
  | x :: r => cond (stOK x && allLt i x.deps) (match pairRow i x [i] (i + 1) r, pairsS (i + 1) r with
    | some a, some b => some (a ++ b)
    | _, _ => none) none
def dynB (e f : En) : Bool := disj (keys e.W) f.rd && (disj (keys e.W) (keys f.W) && (disj (keys f.W) e.rd && (Nat.beq e.n 0 || (Nat.beq f.n 0 || !(Nat.beq e.k f.k)))))
theorem indep_of {e f : En} (hs : sIndep e.x f.x = true) (hd : dynB e f = true) : indepB e f = true := by
  simp only [sIndep, dynB, Bool.and_eq_true, readsA] at hs hd
  obtain ⟨s1, s2, s3⟩ := hs
  obtain ⟨d1, d2, d3, d4⟩ := hd
  simp only [indepB, En.reads, s1, s2, s3, d1, d2, d3, d4, Bool.true_and]
theorem shy_dyn {e f : En} (he : Shy e) (hf : Shy f) (h : shyB e.x f.x = true) : dynB e f = true := by
  simp only [shyB, Bool.or_eq_true, Bool.and_eq_true] at h
  unfold dynB
  rcases h with ⟨q1, q2⟩ | q1 | q2
  · obtain ⟨a1, a2⟩ := he.1 q1
    obtain ⟨b1, b2⟩ := hf.1 q2
    simp only [a1, a2, b1, b2, keys, disj, beq_self, Bool.true_or, Bool.and_self]
  · obtain ⟨a1, a2, a3⟩ := he.2 q1
    simp only [a1, a2, a3, keys, disj, disj_nil, beq_self, Bool.true_or, Bool.and_self]
  · obtain ⟨b1, b2, b3⟩ := hf.2 q2
    simp only [b1, b2, b3, keys, disj, disj_nil, beq_self, Bool.true_or, Bool.or_true, Bool.and_self]
theorem pairRow_ok {i : Nat} {e : En} (he : Shy e) : ∀ {es : List En} {l : List Nat} {j : Nat} {ps : List (Nat × Nat)}, (∀ f ∈ es, Shy f) → pairRow i e.x l j (es.map (·.x)) = some ps →
    (∀ b f, (i, b) ∈ ps → j ≤ b → es[b - j]? = some f → dynB e f = true) → restT l j e es = true
  | [], l, j, ps, _, _, _ => rfl
  | f :: r, l, j, ps, hs, h, hd => by
    simp only [List.map_cons, pairRow] at h
    simp only [restT]
    have hs' : ∀ g ∈ r, Shy g := fun g hg => hs g (by simp [hg])
    have shift : ∀ {qs : List (Nat × Nat)}, (∀ b, (i, b) ∈ qs → (i, b) ∈ ps) → ∀ b g, (i, b) ∈ qs → j + 1 ≤ b → r[b - (j + 1)]? = some g → dynB e g = true := fun hsub b g hb hj hg => by
      refine hd b g (hsub b hb) (by omega) ?_
      rw [show b - j = (b - (j + 1)) + 1 by omega]
      simpa using hg
    cases ha : anyIn l f.x.deps with
    | true =>
      rw [ha] at h
      exact pairRow_ok he hs' h (shift fun b hb => hb)
    | false =>
      rw [ha] at h
      simp only [cond_false] at h ⊢
      cases hsi : sIndep e.x f.x with
      | false => rw [hsi] at h; simp at h
      | true =>
        rw [hsi] at h
        simp only [cond_true] at h
        cases hr : pairRow i e.x l (j + 1) (r.map (·.x)) with
        | none => rw [hr] at h; simp at h
        | some qs =>
          rw [hr] at h
          simp only [Option.some.injEq] at h
          have hdy : dynB e f = true := by
            cases hsh : shyB e.x f.x with
            | true => exact shy_dyn he (hs f (by simp)) hsh
            | false =>
              rw [hsh] at h
              exact hd j f (by rw [← h]; simp) (Nat.le_refl _) (by simp)
          rw [indep_of hsi hdy, Bool.true_and]
          exact pairRow_ok he hs' hr (shift fun b hb => by
            rw [← h]
            cases shyB e.x f.x <;> simp [hb])
theorem pairsS_ok : ∀ {es : List En} {i : Nat} {ps : List (Nat × Nat)}, (∀ f ∈ es, Shy f) → pairsS i (es.map (·.x)) = some ps →
    (∀ a b e f, (a, b) ∈ ps → i ≤ a → i ≤ b → es[a - i]? = some e → es[b - i]? = some f → dynB e f = true) → chkFrom i es = true
  | [], i, ps, _, _, _ => rfl
  | e :: r, i, ps, hs, h, hd => by
    simp only [List.map_cons, pairsS] at h
    cases h1 : (stOK e.x && allLt i e.x.deps) with
    | false => rw [h1] at h; simp at h
    | true =>
      rw [h1] at h
      simp only [cond_true] at h
      simp only [Bool.and_eq_true] at h1
      cases ha : pairRow i e.x [i] (i + 1) (r.map (·.x)) with
      | none => rw [ha] at h; simp at h
      | some as =>
        cases hb : pairsS (i + 1) (r.map (·.x)) with
        | none => rw [ha, hb] at h; simp at h
        | some bs =>
          rw [ha, hb] at h
          simp only [Option.some.injEq] at h
          have hst : storeB' e = true := h1.1
          have hrest := pairRow_ok (hs e (by simp)) (fun f hf => hs f (by simp [hf])) ha (fun b f hm hj hf => by
            refine hd i b e f (by rw [← h]; simp [hm]) (Nat.le_refl _) (by omega) (by simp) ?_
            rw [show b - i = (b - (i + 1)) + 1 by omega]
            simpa using hf)
          have hch := pairsS_ok (fun f hf => hs f (by simp [hf])) hb (fun a b f g hm ha' hb' hf hg => by
            refine hd a b f g (by rw [← h]; simp [hm]) (by omega) (by omega) ?_ ?_
            · rw [show a - i = (a - (i + 1)) + 1 by omega]
              simpa using hf
            · rw [show b - i = (b - (i + 1)) + 1 by omega]
              simpa using hg)
          simp only [chkFrom, h1.2, hst, hrest, hch, Bool.or_true, Bool.and_self]
theorem trcs_shy {T : Tab} {C : Cl} : ∀ {l : List AOper} {st st' : St} {es : List En}, trcs T C l st = some (es, st') → es.map (·.x) = l ∧ ∀ e ∈ es, Shy e
  | [], st, st', es, h => by simp [trcs] at h; obtain ⟨rfl, rfl⟩ := h; simp
  | x :: r, st, st', es, h => by
    simp only [trcs] at h
    split at h
    · rename_i e st1 h1
      split at h
      · rename_i es' st2 h2
        simp at h
        obtain ⟨rfl, rfl⟩ := h
        obtain ⟨k1, k2⟩ := trcO_shy h1
        obtain ⟨g2, g3⟩ := trcs_shy h2
        refine ⟨by simp [k1, g2], fun f hf => ?_⟩
        rcases List.mem_cons.1 hf with rfl | hf
        · exact k2
        · exact g3 f hf
      · simp at h
    · simp at h
theorem Wp_calmS {T : Tab} {st : St} {Q : Exit → St → Prop} {l : List AOper} (hp : pairsS 0 l = some []) : Wp T false (.draw l) st Q ↔ WpD T l st (Q .normal) := by
  constructor
  · rintro ⟨e, st', h, hq⟩
    cases h
    rename_i h
    unfold runDraw at h
    split at h
    · rename_i es st1 h1
      split at h
      · simp at h; subst h; exact ⟨es, _, h1, hq⟩
      · simp at h
    · simp at h
  · rintro ⟨es, st', h, hq⟩
    refine ⟨_, _, .draw ?_, hq⟩
    unfold runDraw
    have : trcs T (D T) l (frzAll false st) = some (es, st') := h
    rw [this]
    obtain ⟨g1, g2⟩ := trcs_shy h
    have hc : chkFrom 0 es = true := pairsS_ok g2 (by rw [g1]; exact hp) (fun a b e f hm => by simp at hm)
    simp only [hc]
end Go.Proofs.YtimkghkokfhfcaaDoor.Ab
set_option linter.unusedVariables false
set_option linter.unusedSimpArgs false
namespace Go.Proofs.YtimkghkokfhfcaaDoor.Ab
open Go
def ErrA (err : AV) (hp : Hl) (o : Option (Int × Int)) (kid nx : Nat) : Prop := match o with
  | none => err = .pv .nili
  | some (c, a) => ∃ b, err = .iface 1 (.ptr b 0 0) ∧ b < nx ∧ b ≠ kid ∧ blkAt hp b = .var [.pv (.int .i64 a), .pv (.int .i64 c)]
theorem ErrA.mono {err : AV} {hp hp' : Hl} {o : Option (Int × Int)} {kid nx nx' : Nat} (h : ErrA err hp o kid nx) (h1 : ∀ j, j < nx → j ≠ kid → blkAt hp' j = blkAt hp j) (h2 : nx ≤ nx') : ErrA err hp' o kid nx' := by
  cases o with
  | none => exact h
  | some q =>
    obtain ⟨c, a⟩ := q
    obtain ⟨b, e1, e2, e3, e4⟩ := h
    exact ⟨b, e1, by omega, e3, by rw [h1 b e2 e3, e4]⟩
section
variable {T : Tab}
end
end Go.Proofs.YtimkghkokfhfcaaDoor.Ab
set_option linter.unusedVariables false
set_option linter.unusedSimpArgs false
namespace Go.Proofs.YtimkghkokfhfcaaDoor.Ab
open Go
structure Std3 (T : Tab) : Prop where
  h16 : StdR T 16 f16
  h86 : Std T 86 f86
  hA : StdA T 266
  h77 : StdR T 77 f77
  h78 : StdR T 78 f78
  h79 : StdR T 79 f79
  h85 : Std T 85 f85
  h87 : Std T 87 f87
  h88 : Std T 88 f88
  h89 : Std T 89 f89
  h81 : Std T 81 f81
  h82 : Std T 82 f82
  hF : StdF T
  h76 : Std T 76 f76
section
variable {T : Tab}
end
end Go.Proofs.YtimkghkokfhfcaaDoor.Ab
set_option linter.unusedVariables false
set_option linter.unusedSimpArgs false
namespace Go.Proofs.YtimkghkokfhfcaaDoor.Ab
open Go
section
variable {T : Tab}
/-! ### Wants -/
structure StdC (T : Tab) : Prop where
  h282 : Std T 282 f282
  flat282 : T.flat 282 = true
  h287 : Std T 287 f287
  h91 : Std T 91 f91
end
end Go.Proofs.YtimkghkokfhfcaaDoor.Ab
set_option linter.unusedVariables false
set_option linter.unusedSimpArgs false
namespace Go.Proofs.YtimkghkokfhfcaaDoor.Ab
open Go
structure Std3f (T : Tab) : Prop where
  b : Std3 T
  h80 : Std T 80 f80
  h90 : Std T 90 f90
  c : StdC T
section
variable {T : Tab}
end
end Go.Proofs.YtimkghkokfhfcaaDoor.Ab
set_option linter.unusedVariables false
set_option linter.unusedSimpArgs false
namespace Go.Proofs.YtimkghkokfhfcaaDoor.Ab
open Go
def ixLoad (id : Int) : Nat → List Load → Int
  | _, [] => -1
  | i, p :: r => if p.id = id then i else ixLoad id (i + 1) r
structure Std3r (T : Tab) : Prop where
  h151 : Std T 151 f151
  h154 : Std T 154 f154
  h155 : Std T 155 f155
  h159 : Std T 159 f159
  h160 : Std T 160 f160
  h141 : Std T 141 f141
section
variable {T : Tab}
theorem load3_loop (s : Snap) (id : Int) (hl : s.loads.length ≤ 2 ^ 30) (Q : Exit → St → Prop) (o : Int)
    (hend : o = -1 → ∀ fr hp nx, Q (.exit 0) ⟨fr, hp, nx⟩) (hret : ∀ fr hp nx, look fr 4 = .pv (.int .i64 o) → Q .ret ⟨fr, hp, nx⟩) :
    ∀ (rest : List Load) (i : Nat), s.loads.drop i = rest → i ≤ s.loads.length → ixLoad id i rest = o → ∀ (fr : List (Nat × AV)) (hp : Hl) (nx : Nat), look fr 5 = .pv (.int .i64 i) → look fr 1 = .pv (.int .i64 id) → look fr 2 = .ptr 0 0 0 →
      blkAt hp 0 = .var [.pv (.slice (s.nodes.map nodeC)), .pv (.slice (s.loads.map loadC)), .pv (.slice (s.pods.map podC))] → Wp T false (.loop f154l0) ⟨fr, hp, nx⟩ Q := by
  intro rest
  induction rest with
  | nil =>
    intro i hd hi ho fr hp nx h5 h1 h2 b0
    have hlen := drop_nil hd hi
    rw [Wp_loop, Wp_eq f154l0.eq_1]
    simp only [runL, opQ, evOp, evO, evOs, guardV, argsA, pvs, putS, cellsOf, scals, scal, Nat.reduceEqDiff, Nat.reduceAdd, reduceCtorEq, fieldA, nonNil, cellsAt, mkAgg, allPV, storeB, patchL, Int.reduceToNat, Nat.reduceMul, Nat.reduceLT, stepA, Int.reduceNeg, Int.reduceLE, Int.reduceLT, Int.reduceEq, extractV, mkAgg, Nat.reduceLeDiff, fillA, pureVs, pureV, eqV, eqB, lenV.eq_1, lenV.eq_2, lenV.eq_3, lenV.eq_4, binV, intBin, intV, idxA, List.drop, List.take, RetP, retP, resV, resOne, snapV, snapVs, snapR, snapRs, ownSz, pickV, AO.isC, opE, opD, funV.eq_1, funV.eq_2, h5, h1, h2, b0, hlen, Int.lt_irrefl]
    exact hend ho.symm _ _ _
  | cons n r ih =>
    intro i hd hi ho fr hp nx h5 h1 h2 b0
    obtain ⟨hget, hlt, hw, hd', hi', hb⟩ := drop_cons hd hl
    simp only [ixLoad] at ho
    rw [Wp_loop, Wp_eq f154l0.eq_1]
    by_cases hk : n.id = id
    · rw [if_pos hk] at ho
      simp only [runL, opQ, evOp, evO, evOs, guardV, argsA, pvs, putS, cellsOf, scals, scal, Nat.reduceEqDiff, Nat.reduceAdd, reduceCtorEq, fieldA, nonNil, cellsAt, mkAgg, allPV, storeB, patchL, Int.reduceToNat, Nat.reduceMul, Nat.reduceLT, stepA, Int.reduceNeg, Int.reduceLE, Int.reduceLT, Int.reduceEq, extractV, mkAgg, Nat.reduceLeDiff, fillA, pureVs, pureV, eqV, eqB, lenV.eq_1, lenV.eq_2, lenV.eq_3, lenV.eq_4, binV, intBin, intV, idxA, List.drop, List.take, RetP, retP, resV, resOne, snapV, snapVs, snapR, snapRs, ownSz, pickV, AO.isC, opE, opD, funV.eq_1, funV.eq_2, h5, h1, h2, b0, hlt, hget, loadC, hk]
      exact hret _ _ _ (by simp only [look_if, Nat.reduceEqDiff, if_true, if_false, ← ho])
    · rw [if_neg hk] at ho
      simp only [runL, opQ, evOp, evO, evOs, guardV, argsA, pvs, putS, cellsOf, scals, scal, Nat.reduceEqDiff, Nat.reduceAdd, reduceCtorEq, fieldA, nonNil, cellsAt, mkAgg, allPV, storeB, patchL, Int.reduceToNat, Nat.reduceMul, Nat.reduceLT, stepA, Int.reduceNeg, Int.reduceLE, Int.reduceLT, Int.reduceEq, extractV, mkAgg, Nat.reduceLeDiff, fillA, pureVs, pureV, eqV, eqB, lenV.eq_1, lenV.eq_2, lenV.eq_3, lenV.eq_4, binV, intBin, intV, idxA, List.drop, List.take, RetP, retP, resV, resOne, snapV, snapVs, snapR, snapRs, ownSz, pickV, AO.isC, opE, opD, funV.eq_1, funV.eq_2, h5, h1, h2, b0, hlt, hget, loadC, hk, hw]
      refine ih (i + 1) hd' hi' ho _ _ _ ?_ ?_ ?_ b0
      all_goals try simp only [look_if, blkAt_if, Nat.reduceEqDiff, if_true, if_false, h1, h2]
theorem load3_ok (h154 : Std T 154 f154) (s : Snap) (id : Int) (hl : s.loads.length ≤ 2 ^ 30) : Gives T 154 [snapP s, .int .i64 id] (.int .i64 (ixLoad id 0 s.loads)) := by
  refine gives h154 rfl ?_
  simp only [f154, runL, opQ, evOp, evO, evOs, guardV, argsA, pvs, putS, cellsOf, scals, scal, Nat.reduceEqDiff, Nat.reduceAdd, reduceCtorEq, fieldA, nonNil, cellsAt, mkAgg, allPV, storeB, patchL, Int.reduceToNat, Nat.reduceMul, Nat.reduceLT, stepA, Int.reduceNeg, Int.reduceLE, Int.reduceLT, Int.reduceEq, extractV, mkAgg, Nat.reduceLeDiff, fillA, pureVs, pureV, eqV, eqB, lenV.eq_1, lenV.eq_2, lenV.eq_3, lenV.eq_4, binV, intBin, intV, idxA, List.drop, List.take, RetP, retP, resV, resOne, snapV, snapVs, snapR, snapRs, ownSz, pickV, AO.isC, opE, opD, funV.eq_1, funV.eq_2, snapP]
  refine load3_loop s id hl _ (ixLoad id 0 s.loads) (fun ho fr hp nx => ?_) (fun fr hp nx h4 => ?_) s.loads 0 rfl (Nat.zero_le _) rfl _ _ _ rfl rfl rfl rfl
  · simp only [runL, opQ, evOp, evO, evOs, guardV, argsA, pvs, putS, cellsOf, scals, scal, Nat.reduceEqDiff, Nat.reduceAdd, reduceCtorEq, fieldA, nonNil, cellsAt, mkAgg, allPV, storeB, patchL, Int.reduceToNat, Nat.reduceMul, Nat.reduceLT, stepA, Int.reduceNeg, Int.reduceLE, Int.reduceLT, Int.reduceEq, extractV, mkAgg, Nat.reduceLeDiff, fillA, pureVs, pureV, eqV, eqB, lenV.eq_1, lenV.eq_2, lenV.eq_3, lenV.eq_4, binV, intBin, intV, idxA, List.drop, List.take, RetP, retP, resV, resOne, snapV, snapVs, snapR, snapRs, ownSz, pickV, AO.isC, opE, opD, funV.eq_1, funV.eq_2, ho]
  · simp only [runL, opQ, evOp, evO, evOs, guardV, argsA, pvs, putS, cellsOf, scals, scal, Nat.reduceEqDiff, Nat.reduceAdd, reduceCtorEq, fieldA, nonNil, cellsAt, mkAgg, allPV, storeB, patchL, Int.reduceToNat, Nat.reduceMul, Nat.reduceLT, stepA, Int.reduceNeg, Int.reduceLE, Int.reduceLT, Int.reduceEq, extractV, mkAgg, Nat.reduceLeDiff, fillA, pureVs, pureV, eqV, eqB, lenV.eq_1, lenV.eq_2, lenV.eq_3, lenV.eq_4, binV, intBin, intV, idxA, List.drop, List.take, RetP, retP, resV, resOne, snapV, snapVs, snapR, snapRs, ownSz, pickV, AO.isC, opE, opD, funV.eq_1, funV.eq_2, h4]
end
end Go.Proofs.YtimkghkokfhfcaaDoor.Ab
set_option linter.unusedVariables false
set_option linter.unusedSimpArgs false
namespace Go.Proofs.YtimkghkokfhfcaaDoor.Ab
open Go
section
variable {T : Tab}
end
end Go.Proofs.YtimkghkokfhfcaaDoor.Ab
set_option linter.unusedVariables false
set_option linter.unusedSimpArgs false
namespace Go.Proofs.YtimkghkokfhfcaaDoor.Ab
open Go
end Go.Proofs.YtimkghkokfhfcaaDoor.Ab
set_option linter.unusedVariables false
set_option linter.unusedSimpArgs false
namespace Go.Proofs.YtimkghkokfhfcaaDoor.Ab
open Go
def i64C (n : Int) : List PV := [.int .i64 n]
def intsV : List (List PV) → Option (List Int)
  | [] => some []
  | [.int .i64 n] :: r => match intsV r with
    | some l => some (n :: l)
    | none => none
  | _ :: _ => none
theorem intsV_ok : ∀ {es : List (List PV)} {ns : List Int}, intsV es = some ns → es = ns.map i64C
  | [], ns, h => by simp [intsV] at h; subst h; rfl
  | e :: r, ns, h => by
    unfold intsV at h
    split at h
    · rename_i h1; simp at h1
    · rename_i n r' h1
      simp only [List.cons.injEq] at h1
      obtain ⟨rfl, rfl⟩ := h1
      split at h
      · rename_i l hl
        simp only [Option.some.injEq] at h
        subst h
        rw [intsV_ok hl]
        rfl
      · simp at h
    · simp at h
theorem intsV_map (ns : List Int) : intsV (ns.map i64C) = some ns := by
  induction ns with
  | nil => rfl
  | cons n r ih => simp only [List.map_cons, intsV, i64C, ih]
theorem velems_of {E : Env} {w : World} {ok : Nat → Prop} {b : Nat} : ∀ {ns : List Int} {o : Nat}, VElems E w ok (ns.map i64C) b o 1 → ∀ (j : Nat) (n : Int), ns[j]? = some n → w.cell? ⟨b, o + j, none⟩ = some (.int .i64 n)
  | [], o, h, j, n, hj => by simp at hj
  | m :: r, o, h, j, n, hj => by
    simp only [List.map_cons, VElems, i64C, VRun, VP, and_true] at h
    obtain ⟨_, ⟨u, h1, _, h2⟩, h3⟩ := h
    cases j with
    | zero => simp at hj; subst hj; rw [← h2]; exact h1
    | succ j =>
      have := velems_of h3 j n (by simpa using hj)
      rwa [show o + 1 + j = o + (j + 1) by omega] at this
theorem velems_mk {E : Env} {w : World} {ok : Nat → Prop} {b : Nat} : ∀ {ns : List Int} {o : Nat}, (∀ (j : Nat) (n : Int), ns[j]? = some n → w.cell? ⟨b, o + j, none⟩ = some (.int .i64 n)) → VElems E w ok (ns.map i64C) b o 1
  | [], o, _ => by simp only [List.map_nil, VElems]
  | m :: r, o, h => by
    simp only [List.map_cons, VElems, i64C, VRun, VP, and_true]
    refine ⟨rfl, ⟨_, h 0 m rfl, by simp [Scalar], rfl⟩, velems_mk fun j n hj => ?_⟩
    have := h (j + 1) n (by simpa using hj)
    rwa [show o + (j + 1) = o + 1 + j by omega] at this
theorem putRow_eq {w : World} {b : Nat} {c : Array Value} {t : TypeId} {f : Nat × Nat} (h : w.heap[b]? = some (.cells c t f)) (d : Array Int) :
    Sort.putRow (Value.int .i64) w b 0 d = setB w b (.cells (Sort.putCells (Value.int .i64) 0 d c) t f) := by
  unfold Sort.putRow Sort.mapBlock setB
  congr 1
  apply Array.ext_getElem?
  intro i
  by_cases hi : b = i
  · subst hi
    have hlt : b < w.heap.size := (Array.getElem?_eq_some_iff.1 h).1
    rw [Array.getElem?_modify, h]
    simp [hlt, Sort.onCells]
  · rw [Array.getElem?_modify, Array.getElem?_setIfInBounds_ne hi]
    simp [hi]
theorem keeps_ahead (w : World) (q : Nat) : Keeps (fun _ => False) w (Sort.ahead w q) := ⟨rfl, rfl, rfl, Nat.le_refl _, fun _ _ _ => rfl⟩
theorem keeps_grow (w : World) (os : Array Obj) : Keeps (fun _ => False) w (Sort.grow w os) := by
  refine ⟨rfl, rfl, rfl, by simp [Sort.grow], fun b hb _ => ?_⟩
  simp only [Sort.grow]
  rw [Array.getElem?_append_left hb]
section
variable {X : Ctx} {M : Nat → Nat} {F : Fr} {hp : Hl} {U : Nat → Prop} {a : Act} {w : World}
theorem Rel.putRow (R : Rel X M F (blkAt hp) U a w) {id : Nat} {ns : List Int} (hb : blkAt hp id = .row 1 (ns.map i64C)) (d : List Int) (hl : d.length = ns.length) (q : Nat) :
    Rel X M F (blkAt ((id, .row 1 (d.map i64C)) :: hp)) U a (Sort.putRow (Value.int .i64) (Sort.ahead w q) (M id) 0 d.toArray) := by
  have R1 := R.grown (keeps_ahead w q)
  have hB := R1.blk id
  rw [hb] at hB
  obtain ⟨c, t, h1, h2, h3⟩ := hB
  simp only [viewOf] at h1
  simp only [List.length_map, Nat.mul_one] at h2
  rw [putRow_eq h1]
  have e : blkAt ((id, .row 1 (d.map i64C)) :: hp) = wr (blkAt hp) [(id, .row 1 (d.map i64C))] := by
    funext i
    rw [← blkAt_wr]
    rfl
  rw [e]
  have hlt : M id < (Sort.ahead w q).heap.size := (Array.getElem?_eq_some_iff.1 h1).1
  refine R1.write _ _ id (by rw [hb]; simp) (by simp) (by rw [hb]; simp [Blk.info, hl]) ?_ ?_
  · simp only [World.shape?]
    rw [setB_same _ hlt, h1]
    simp [Sort.putCells]
  · refine ⟨_, t, setB_same _ hlt, by simp [Sort.putCells]; omega, velems_mk fun j n hj => ?_⟩
    have hjl : j < d.length := (List.getElem?_eq_some_iff.1 hj).1
    simp only [World.cell?, viewOf]
    rw [setB_same _ hlt]
    have hjc : j < c.size := by omega
    simp only [Sort.putCells, Nat.zero_add, Array.getElem?_mapIdx]
    rw [Array.getElem?_eq_getElem hjc]
    simp only [Option.map_some]
    have := (List.getElem?_eq_some_iff.1 hj).2
    simp [hjl, this]
theorem Rel.msHolds (R : Rel X M F (blkAt hp) U a w) {id : Nat} {ns : List Int} {u : Value} (hb : blkAt hp id = .row 1 (ns.map i64C)) (hu : VA (viewOf X w U M (blkAt hp)) (.ms id) u) :
    ∃ cap, u = .slice (some ⟨M id, 0, none⟩) ns.length cap ∧ ns.length ≤ cap ∧ M id < w.heap.size ∧ Sort.Holds (Value.int .i64) w (M id) 0 ns.toArray := by
  simp only [VA, viewOf] at hu
  obtain ⟨_, _, hu⟩ := hu
  obtain ⟨cap, t, tot, e1, e2, e3, e4⟩ := hu (1, ns.length) (by rw [hb]; simp [Blk.info])
  have hB := R.blk id
  rw [hb] at hB
  obtain ⟨c, t', h1, h2, h3⟩ := hB
  simp only [viewOf] at h1 h3
  refine ⟨cap, e1, e2, (Array.getElem?_eq_some_iff.1 h1).1, fun j hj => ?_⟩
  have hj' : j < ns.length := by simpa using hj
  refine ⟨?_, ?_⟩
  · have := velems_of h3 j ns[j] (by simp [hj'])
    rw [this]
    simp [hj']
  · simp only [World.frozen?, h1]
    simp
end
def insL (x : Int) : List Int → List Int
  | [] => [x]
  | y :: r => if x ≤ y then x :: y :: r else y :: insL x r
def sortL : List Int → List Int
  | [] => []
  | x :: r => insL x (sortL r)
theorem insL_perm (x : Int) : ∀ l, (insL x l).Perm (x :: l)
  | [] => List.Perm.refl _
  | y :: r => by
    unfold insL
    split
    · exact List.Perm.refl _
    · exact ((insL_perm x r).cons y).trans (List.Perm.swap x y r)
theorem sortL_perm : ∀ l, (sortL l).Perm l
  | [] => List.Perm.refl _
  | x :: r => (insL_perm x (sortL r)).trans ((sortL_perm r).cons x)
theorem insL_sorted (x : Int) : ∀ {l : List Int}, l.Pairwise (fun a b => a ≤ b) → (insL x l).Pairwise (fun a b => a ≤ b)
  | [], _ => by simp [insL]
  | y :: r, h => by
    have h' := List.pairwise_cons.1 h
    unfold insL
    split
    · rename_i hxy
      refine List.pairwise_cons.2 ⟨fun z hz => ?_, h⟩
      rcases List.mem_cons.1 hz with rfl | hz
      · exact hxy
      · exact Int.le_trans hxy (h'.1 z hz)
    · rename_i hxy
      refine List.pairwise_cons.2 ⟨fun z hz => ?_, insL_sorted x h'.2⟩
      rcases List.mem_cons.1 ((insL_perm x r).mem_iff.1 hz) with rfl | hz
      · omega
      · exact h'.1 z hz
theorem sortL_sorted : ∀ ns : List Int, (sortL ns).Pairwise (fun a b => a ≤ b)
  | [] => List.Pairwise.nil
  | x :: r => insL_sorted x (sortL_sorted r)
theorem sorted_eq : ∀ {a b : List Int}, a.Pairwise (fun x y => x ≤ y) → b.Pairwise (fun x y => x ≤ y) → a.Perm b → a = b
  | [], [], _, _, _ => rfl
  | [], y :: s, _, _, h => by have := h.length_eq; simp at this
  | x :: r, [], _, _, h => by have := h.length_eq; simp at this
  | x :: r, y :: s, ha, hb, h => by
    rw [List.pairwise_cons] at ha hb
    have hxy : x = y := by
      have h1 := h.mem_iff.1 (List.mem_cons_self (a := x) (l := r))
      have h2 := h.mem_iff.2 (List.mem_cons_self (a := y) (l := s))
      rcases List.mem_cons.1 h1 with h1 | h1
      · exact h1
      · rcases List.mem_cons.1 h2 with h2 | h2
        · exact h2.symm
        · have := ha.1 y h2
          have := hb.1 x h1
          omega
    subst hxy
    rw [sorted_eq ha.2 hb.2 h.cons_inv]
theorem sortL_merge (ns : List Int) : (ns.mergeSort fun x y => decide (x ≤ y)) = sortL ns := by
  refine sorted_eq ?_ (sortL_sorted ns) ((List.mergeSort_perm ns _).trans (sortL_perm ns).symm)
  have := List.pairwise_mergeSort (le := fun x y : Int => decide (x ≤ y)) (fun a b c h1 h2 => by simp at *; omega) (fun a b => by simp; omega) ns
  exact this.imp fun h => by simpa using h
theorem sortL_length (ns : List Int) : (sortL ns).length = ns.length := (sortL_perm ns).length_eq
theorem sortL_mem (ns : List Int) (x : Int) : x ∈ sortL ns ↔ x ∈ ns := (sortL_perm ns).mem_iff
def sortP (args : List AV) (hp : Hl) (nx : Nat) : Option (AV × Hl × Nat) :=
  match args with
  | [.nils] => some (.pv (.tuple []), hp, nx)
  | [.ms id] => match blkAt hp id with
    | .row 1 es => match intsV es with
      | some ns => if ns.length ≤ 2 ^ 30 then some (.pv (.tuple []), (id, .row 1 ((sortL ns).map i64C)) :: hp, nx) else none
      | none => none
    | _ => none
  | _ => none
theorem sortP_raw {E : Env} {n : Nat} (hent : Ent E n)
    (h1 : ∀ (blk off cap : Nat) (zs : List Int) (w : World), Sort.Holds (Value.int .i64) w blk off zs.toArray → blk < w.heap.size → zs.length < 4611686018427387904 →
      Calls E.P (E.ρ n) #[.slice (some ⟨blk, off, none⟩) zs.length cap] w fun e w' => e = .returned (.tuple #[]) ∧ ∃ n os, w' = Sort.grow (Sort.putRow (Value.int .i64) (Sort.ahead w n) blk off (zs.mergeSort fun x y => decide (x ≤ y)).toArray) os)
    (h2 : ∀ (p : Option Addr) (cap : Nat) (w : World), Calls E.P (E.ρ n) #[.slice p 0 cap] w fun e w' => e = .returned (.tuple #[]) ∧ w' = w)
    (args : List AV) (hp : Hl) (nx : Nat) (v : AV) (hp' : Hl) (nx' : Nat) (h : sortP args hp nx = some (v, hp', nx')) : RawC E n args hp nx v hp' nx' := by
  refine ⟨hent, fun X M F a w vs hX R hv => ?_⟩
  subst hX
  unfold sortP at h
  split at h
  · simp only [Option.some.injEq, Prod.mk.injEq] at h
    obtain ⟨rfl, rfl, rfl⟩ := h
    simp only [VAs, VA] at hv
    obtain ⟨_, _, rfl, rfl, rfl⟩ := hv
    refine (h2 none 0 w).mono fun e w' hh => ?_
    obtain ⟨rfl, rfl⟩ := hh
    exact ⟨_, M, rfl, R, by simp only [VA, VP, VPs]; exact ⟨[], rfl, rfl⟩⟩
  · rename_i id
    split at h
    · rename_i es hb
      split at h
      · rename_i ns hn
        split at h
        · rename_i hl
          obtain rfl := intsV_ok hn
          simp only [Option.some.injEq, Prod.mk.injEq] at h
          obtain ⟨rfl, rfl, rfl⟩ := h
          simp only [VAs] at hv
          obtain ⟨u, _, rfl, hu, rfl⟩ := hv
          obtain ⟨cap, rfl, c1, c2, c3⟩ := R.msHolds hb hu
          refine (h1 (M id) 0 cap ns w c3 c2 (by omega)).mono fun e w' hh => ?_
          obtain ⟨rfl, q, os, rfl⟩ := hh
          rw [sortL_merge]
          exact ⟨_, M, rfl, (R.putRow hb (sortL ns) (sortL_length ns) q).grown (keeps_grow _ os), by simp only [VA, VP, VPs]; exact ⟨[], rfl, rfl⟩⟩
        · simp at h
      · simp at h
    · simp at h
  · simp at h
def compL (ns : List Int) : List Int := Lib.compact ns
theorem compL_le (ns : List Int) : (compL ns).length ≤ ns.length := Lib.compact_length_le ns
def compP (args : List AV) (hp : Hl) (nx : Nat) : Option (AV × Hl × Nat) :=
  match args with
  | [.nils] => some (.nils, hp, nx)
  | [.ms id] => match blkAt hp id with
    | .row 1 es => match intsV es with
      | some ns => if ns.length ≤ 2 ^ 30 then some (.msub id 0 (compL ns).length, (id, .row 1 ((compL ns ++ List.replicate (ns.length - (compL ns).length) 0).map i64C)) :: hp, nx) else none
      | none => none
    | _ => none
  | _ => none
theorem compP_raw {E : Env} {n : Nat} (hent : Ent E n)
    (h1 : ∀ (blk off cap : Nat) (zs : List Int) (w : World), Sort.Holds (Value.int .i64) w blk off zs.toArray → zs.length ≤ 9223372036854775807 → zs.length ≤ cap →
      Calls E.P (E.ρ n) #[.slice (some ⟨blk, off, none⟩) zs.length cap] w fun e w' => e = .returned (.slice (some ⟨blk, off, none⟩) (Lib.compact zs).length cap) ∧ ∃ q, w' = Sort.putRow (Value.int .i64) (Sort.ahead w q) blk off (Lib.compact zs ++ List.replicate (zs.length - (Lib.compact zs).length) 0).toArray)
    (h2 : ∀ (p : Option Addr) (cap : Nat) (w : World), Calls E.P (E.ρ n) #[.slice p 0 cap] w fun e w' => e = .returned (.slice p 0 cap) ∧ w' = w)
    (args : List AV) (hp : Hl) (nx : Nat) (v : AV) (hp' : Hl) (nx' : Nat) (h : compP args hp nx = some (v, hp', nx')) : RawC E n args hp nx v hp' nx' := by
  refine ⟨hent, fun X M F a w vs hX R hv => ?_⟩
  subst hX
  unfold compP at h
  split at h
  · simp only [Option.some.injEq, Prod.mk.injEq] at h
    obtain ⟨rfl, rfl, rfl⟩ := h
    simp only [VAs, VA] at hv
    obtain ⟨_, _, rfl, rfl, rfl⟩ := hv
    refine (h2 none 0 w).mono fun e w' hh => ?_
    obtain ⟨rfl, rfl⟩ := hh
    exact ⟨_, M, rfl, R, by simp only [VA]⟩
  · rename_i id
    split at h
    · rename_i es hb
      split at h
      · rename_i ns hn
        split at h
        · rename_i hl
          obtain rfl := intsV_ok hn
          simp only [Option.some.injEq, Prod.mk.injEq] at h
          obtain ⟨rfl, rfl, rfl⟩ := h
          simp only [VAs] at hv
          obtain ⟨u, _, rfl, hu, rfl⟩ := hv
          have hu' := hu
          obtain ⟨cap, rfl, c1, c2, c3⟩ := R.msHolds hb hu
          refine (h1 (M id) 0 cap ns w c3 (by omega) c1).mono fun e w' hh => ?_
          obtain ⟨rfl, q, rfl⟩ := hh
          have hlen : (compL ns ++ List.replicate (ns.length - (compL ns).length) 0).length = ns.length := by
            have := compL_le ns
            simp
            omega
          have R2 := R.putRow hb (compL ns ++ List.replicate (ns.length - (compL ns).length) 0) hlen q
          refine ⟨_, M, rfl, R2, ?_⟩
          simp only [VA, viewOf] at hu' ⊢
          obtain ⟨g1, _, g3⟩ := hu'
          refine ⟨g1, by simp [Scalar], fun s hs => ?_⟩
          simp only [blkAt_if, if_true, Blk.info, List.length_map, Option.some.injEq] at hs
          subst hs
          obtain ⟨cap', t, tot, e1, e2, e3, e4⟩ := g3 (1, ns.length) (by rw [hb]; simp [Blk.info])
          simp only [Value.slice.injEq] at e1
          obtain ⟨_, _, rfl⟩ := e1
          refine ⟨_, cap, t, tot, rfl, Nat.le_trans (compL_le ns) c1, ?_, by simpa using e4, fun _ => by simp⟩
          have hB := (R.grown (keeps_ahead w q)).blk id
          rw [hb] at hB
          obtain ⟨c, t', f1, _, _⟩ := hB
          simp only [viewOf] at f1
          have hlt : M id < (Sort.ahead w q).heap.size := (Array.getElem?_eq_some_iff.1 f1).1
          have e5 : w.shape? (M id) = (Sort.putRow (Value.int .i64) (Sort.ahead w q) (M id) 0 (compL ns ++ List.replicate (ns.length - (compL ns).length) 0).toArray).shape? (M id) := by
            rw [putRow_eq f1]
            simp only [World.shape?]
            rw [setB_same _ hlt]
            have : w.heap[M id]? = some (.cells c t' (0, 0)) := f1
            rw [this]
            simp [Sort.putCells]
          have e6 := e3
          rw [e5] at e6
          exact e6
        · simp at h
      · simp at h
    · simp at h
  · simp at h
end Go.Proofs.YtimkghkokfhfcaaDoor.Ab
set_option linter.unusedVariables false
set_option linter.unusedSimpArgs false
namespace Go.Proofs.YtimkghkokfhfcaaDoor.Ab
open Go
def mostL (ns : List Int) : Int := Lib.maxOf ns
def leastL (ns : List Int) : Int := Lib.minOf ns
def foldP (f : List Int → Int) (args : List AV) (hp : Hl) (nx : Nat) : Option (AV × Hl × Nat) :=
  match args with
  | [.pv (.slice es)] => match intsV es with
    | some (n :: r) => if (n :: r).length ≤ 2 ^ 30 then some (.pv (.int .i64 (f (n :: r))), hp, nx) else none
    | _ => none
  | _ => none
/-! ### Rising, each once -/
def risesL (ns : List Int) : List Int := compL (sortL ns)
theorem comp_upTo (l : List Int) (hs : l.Pairwise (fun a b => a ≤ b)) : ∀ m, m ≤ l.length → (Lib.compactUpTo l.toArray m).Pairwise (fun a b => a < b) ∧ ∀ x, x ∈ Lib.compactUpTo l.toArray m ↔ ∃ j, j < m ∧ l[j]? = some x
  | 0, _ => by simp [Lib.compactUpTo]
  | m + 1, hm => by
    obtain ⟨h1, h2⟩ := comp_upTo l hs m (by omega)
    have hml : m < l.length := by omega
    have hg : l.toArray[m]! = l[m] := by simp [hml]
    rw [Lib.compactUpTo_succ]
    by_cases hk : Lib.keeps l.toArray m = true
    · rw [if_pos hk, hg]
      refine ⟨?_, fun x => ?_⟩
      · rw [List.pairwise_append]
        refine ⟨h1, by simp, fun a ha b hb => ?_⟩
        simp only [List.mem_singleton] at hb
        subst hb
        obtain ⟨j, hj, ha⟩ := (h2 a).1 ha
        have hjl : j < l.length := by omega
        have hja : a = l[j] := by
          have := (List.getElem?_eq_some_iff.1 ha).2
          exact this.symm
        have hpred : m - 1 < l.length := by omega
        have le1 : l[j] ≤ l[m - 1] := by
          by_cases e : j = m - 1
          · subst e; exact Int.le_refl _
          · exact List.pairwise_iff_getElem.1 hs j (m - 1) hjl hpred (by omega)
        have le2 : l[m - 1] ≤ l[m] := List.pairwise_iff_getElem.1 hs (m - 1) m hpred hml (by omega)
        have ne : l[m] ≠ l[m - 1] := by
          simp only [Lib.keeps, decide_eq_true_eq] at hk
          rcases hk with h | h
          · omega
          · rw [hg] at h
            simpa [hpred] using h
        omega
      · rw [List.mem_append, h2]
        simp only [List.mem_singleton]
        constructor
        · rintro (⟨j, hj, hx⟩ | rfl)
          · exact ⟨j, by omega, hx⟩
          · exact ⟨m, by omega, by simp [hml]⟩
        · rintro ⟨j, hj, hx⟩
          by_cases e : j = m
          · subst e
            right
            have := (List.getElem?_eq_some_iff.1 hx).2
            exact this.symm
          · exact .inl ⟨j, by omega, hx⟩
    · rw [if_neg hk, List.append_nil]
      refine ⟨h1, fun x => ?_⟩
      rw [h2]
      simp only [Lib.keeps, decide_eq_true_eq, not_or, Classical.not_not] at hk
      obtain ⟨hk1, hk2⟩ := hk
      have hpred : m - 1 < l.length := by omega
      rw [hg] at hk2
      have hk3 : l[m] = l[m - 1] := by simpa [hpred] using hk2
      constructor
      · rintro ⟨j, hj, hx⟩
        exact ⟨j, by omega, hx⟩
      · rintro ⟨j, hj, hx⟩
        by_cases e : j = m
        · subst e
          refine ⟨j - 1, by omega, ?_⟩
          have := (List.getElem?_eq_some_iff.1 hx).2
          rw [List.getElem?_eq_getElem hpred, ← hk3, this]
        · exact ⟨j, by omega, hx⟩
theorem risesL_lt (ns : List Int) : (risesL ns).Pairwise (fun a b => a < b) := (comp_upTo (sortL ns) (sortL_sorted ns) (sortL ns).length (Nat.le_refl _)).1
theorem risesL_mem (ns : List Int) (x : Int) : x ∈ risesL ns ↔ x ∈ ns := by
  unfold risesL compL Lib.compact
  rw [(comp_upTo (sortL ns) (sortL_sorted ns) (sortL ns).length (Nat.le_refl _)).2, ← sortL_mem ns x, List.mem_iff_getElem?]
  constructor
  · rintro ⟨j, _, h⟩; exact ⟨j, h⟩
  · rintro ⟨j, h⟩; exact ⟨j, (List.getElem?_eq_some_iff.1 h).1, h⟩
theorem risesL_le (ns : List Int) : (risesL ns).length ≤ ns.length := by
  have h1 := compL_le (sortL ns)
  rw [sortL_length] at h1
  exact h1
theorem rising_eq : ∀ {a b : List Int}, a.Pairwise (fun x y => x < y) → b.Pairwise (fun x y => x < y) → (∀ x, x ∈ a ↔ x ∈ b) → a = b
  | [], [], _, _, _ => rfl
  | [], y :: s, _, _, h => by have := (h y).2 (by simp); simp at this
  | x :: r, [], _, _, h => by have := (h x).1 (by simp); simp at this
  | x :: r, y :: s, ha, hb, h => by
    rw [List.pairwise_cons] at ha hb
    have hxy : x = y := by
      have h1 := (h x).1 (by simp)
      have h2 := (h y).2 (by simp)
      rcases List.mem_cons.1 h1 with h1 | h1
      · exact h1
      · rcases List.mem_cons.1 h2 with h2 | h2
        · exact h2.symm
        · have := ha.1 y h2
          have := hb.1 x h1
          omega
    subst hxy
    refine congrArg (x :: ·) (rising_eq ha.2 hb.2 fun z => ?_)
    constructor
    · intro hz
      have := ha.1 z hz
      rcases List.mem_cons.1 ((h z).1 (by simp [hz])) with h1 | h1
      · omega
      · exact h1
    · intro hz
      have := hb.1 z hz
      rcases List.mem_cons.1 ((h z).2 (by simp [hz])) with h1 | h1
      · omega
      · exact h1
end Go.Proofs.YtimkghkokfhfcaaDoor.Ab
