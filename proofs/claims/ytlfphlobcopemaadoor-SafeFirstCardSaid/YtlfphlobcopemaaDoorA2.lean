/- The layer, part 2: Ab48, Ab49, Ab51, Ab52, Ab57, Ab58, SpU, Co05, Sp5, Sp5b, Sp5d, Ab56, Co08, Sp8, Co09, Sp9, Sp8b, Co67, Sp7, Sp1, Sp1b, Ab54. -/
import Derived.Test.YtlfphlobcopemaaDoorA1
set_option linter.unusedVariables false
set_option linter.unusedSimpArgs false
namespace Go.Proofs.YtlfphlobcopemaaDoor.Ab
open Go
inductive Sh where
  | bo
  | nu (k : IntKind)
  | st
  | sl (es : List Sh)
def Sh.flat : Sh → Bool
  | .sl _ => false
  | _ => true
section
variable (P : Program)
def shFs (rec : TypeId → Option (List Sh)) : Nat → List Field → Option (List Sh)
  | _, [] => some []
  | off, f :: r => match rec f.type with
    | some s => if f.offset = off ∧ s.length = P.cellsOf f.type then match shFs rec (off + s.length) r with
        | some ss => some (s ++ ss)
        | none => none
      else none
    | none => none
def shRep (s : List Sh) : Nat → List Sh
  | 0 => []
  | n + 1 => s ++ shRep s n
def shOf : Nat → TypeId → Option (List Sh)
  | 0, _ => none
  | n + 1, t => match P.underlying t with
    | some .bool => some [.bo]
    | some (.int k) => some [.nu k]
    | some .string => some [.st]
    | some (.slice e) => match shOf n e with
      | some es => if es.all Sh.flat = true ∧ es.length = P.cellsOf e ∧ 0 < es.length then some [.sl es] else none
      | none => none
    | some (.struct fs) => match shFs P (shOf n) 0 fs.toList with
      | some ss => if ss.length = P.cellsOf t then some ss else none
      | none => none
    | some (.array m e) => match shOf n e with
      | some es => if es.length = P.cellsOf e ∧ m * P.cellsOf e = P.cellsOf t then some (shRep es m) else none
      | none => none
    | _ => none
end
mutual
def Fits : Sh → PV → Prop
  | .bo, p => ∃ x, p = .bool x
  | .nu k, p => ∃ n, p = .int k n ∧ (Lit.int k n).wf = true
  | .st, p => ∃ x, p = .str x ∧ x.size ≤ maxLen
  | .sl es, p => ∃ l : List (List PV), p = .slice l ∧ ∀ e ∈ l, FitsL es e
def FitsL : List Sh → List PV → Prop
  | [], ps => ps = []
  | s :: r, ps => ∃ p q, ps = p :: q ∧ Fits s p ∧ FitsL r q
end
theorem FitsL_append : ∀ {a b : List Sh} {p q : List PV}, FitsL a p → FitsL b q → FitsL (a ++ b) (p ++ q)
  | [], b, p, q, h1, h2 => by simp only [FitsL] at h1; subst h1; exact h2
  | s :: r, b, p, q, h1, h2 => by
    simp only [FitsL] at h1
    obtain ⟨x, y, rfl, h3, h4⟩ := h1
    simp only [List.cons_append, FitsL]
    exact ⟨x, y ++ q, rfl, h3, FitsL_append h4 h2⟩
theorem FitsL_length : ∀ {a : List Sh} {p : List PV}, FitsL a p → p.length = a.length
  | [], p, h => by simp only [FitsL] at h; subst h; rfl
  | s :: r, p, h => by
    simp only [FitsL] at h
    obtain ⟨x, y, rfl, h3, h4⟩ := h
    simp [FitsL_length h4]
theorem VPs_append {E : Env} {w : World} {ok : Nat → Prop} : ∀ {a b : List PV} {u v : List Value}, VPs E w ok a u → VPs E w ok b v → VPs E w ok (a ++ b) (u ++ v)
  | [], b, u, v, h1, h2 => by simp only [VPs] at h1; subst h1; exact h2
  | p :: r, b, u, v, h1, h2 => by
    simp only [VPs] at h1
    obtain ⟨x, y, rfl, h3, h4⟩ := h1
    simp only [List.cons_append, VPs]
    exact ⟨x, y ++ v, rfl, h3, VPs_append h4 h2⟩
section
variable {E : Env} {P : Program} {w : World} {H : Type} {enc : TypeId × Value → H} {base : Nat} {spare : Nat → Bool} {held : Bool}
def Opens (E : Env) (w : World) (shs : List Sh) (cs : List Value) : Prop :=
  ∃ ps, FitsL shs ps ∧ VPs E w (fun b => b < w.heap.size) ps cs ∧ (∀ v ∈ cs, Scalar v) ∧ (shs.all Sh.flat = true → ∀ v ∈ cs, ∀ a l c, v ≠ .slice a l c)
theorem Opens.nil : Opens E w [] [] := ⟨[], rfl, by simp [VPs], by simp, by simp⟩
theorem Opens.append {a b : List Sh} {u v : List Value} (h1 : Opens E w a u) (h2 : Opens E w b v) : Opens E w (a ++ b) (u ++ v) := by
  obtain ⟨p, f1, v1, s1, l1⟩ := h1
  obtain ⟨q, f2, v2, s2, l2⟩ := h2
  refine ⟨p ++ q, FitsL_append f1 f2, VPs_append v1 v2, fun x hx => ?_, fun hf x hx => ?_⟩
  · rcases List.mem_append.1 hx with h | h
    · exact s1 x h
    · exact s2 x h
  · simp only [List.all_append, Bool.and_eq_true] at hf
    rcases List.mem_append.1 hx with h | h
    · exact l1 hf.1 x h
    · exact l2 hf.2 x h
theorem Opens.length {a : List Sh} {u : List Value} (h : Opens E w a u) : u.length = a.length := by
  obtain ⟨p, f1, v1, _⟩ := h
  rw [← FitsL_length f1]
  clear f1
  rename_i hh
  clear hh
  induction p generalizing u with
  | nil => simp only [VPs] at v1; subst v1; rfl
  | cons x r ih =>
    simp only [VPs] at v1
    obtain ⟨y, z, rfl, _, h⟩ := v1
    simp [ih h]
def Spots (ss : List Sh) (cs : List Value) : Prop := ss.all Sh.flat = true ∨ ∀ v ∈ cs, ∀ a l c, v = .slice (some a) l c → a.spot = none
theorem open_fs {rec : TypeId → Option (List Sh)} {n : Nat} {cs : List Value}
    (hrec : ∀ t ss cs' x, rec t = some ss → DataW.trod enc P w base spare held n t cs' = some x → Spots ss cs' → Opens E w ss cs') :
    ∀ (fs : List Field) (off : Nat) (ss : List Sh), Spots ss cs → shFs P rec off fs = some ss → (∀ f ∈ fs, ∃ x, DataW.trod enc P w base spare held n f.type ((cs.drop f.offset).take (P.cellsOf f.type)) = some x) → Opens E w ss ((cs.drop off).take ss.length)
  | [], off, ss, _, h, _ => by
    simp only [shFs, Option.some.injEq] at h
    subst h
    simpa using Opens.nil
  | f :: r, off, ss, hsp, h, hall => by
    simp only [shFs] at h
    split at h
    · rename_i s hs
      split at h
      · rename_i hc
        split at h
        · rename_i ss' hss
          simp only [Option.some.injEq] at h
          subst h
          obtain ⟨x, hx⟩ := hall f (by simp)
          have hf : (s ++ ss').all Sh.flat = true → s.all Sh.flat = true ∧ ss'.all Sh.flat = true := by
            intro h; rw [List.all_append, Bool.and_eq_true] at h; exact h
          have h1 := hrec _ _ _ _ hs hx (hsp.elim (fun h => .inl (hf h).1) fun h => .inr fun v hv => h v (List.mem_of_mem_drop (List.mem_of_mem_take hv)))
          have h2 := open_fs hrec r (off + s.length) ss' (hsp.elim (fun h => .inl (hf h).2) .inr) hss (fun g hg => hall g (by simp [hg]))
          rw [hc.1, ← hc.2] at h1
          have : (cs.drop off).take (s ++ ss').length = (cs.drop off).take s.length ++ (cs.drop (off + s.length)).take ss'.length := by
            rw [List.length_append, List.take_add, List.drop_drop]
          rw [this]
          exact h1.append h2
        · simp at h
      · simp at h
    · simp at h
theorem open_rep {es : List Sh} {n : Nat} {e : TypeId} {cs : List Value}
    (hrec : ∀ cs' x, DataW.trod enc P w base spare held n e cs' = some x → Spots es cs' → Opens E w es cs') (hl : es.length = P.cellsOf e) :
    ∀ (m k : Nat), Spots (shRep es m) cs → (∀ i, i < m → ∃ x, DataW.trod enc P w base spare held n e ((cs.drop ((k + i) * P.cellsOf e)).take (P.cellsOf e)) = some x) → Opens E w (shRep es m) ((cs.drop (k * P.cellsOf e)).take (m * P.cellsOf e))
  | 0, k, _, _ => by simpa [shRep] using Opens.nil
  | m + 1, k, hsp, hall => by
    have hf : (es ++ shRep es m).all Sh.flat = true → es.all Sh.flat = true ∧ (shRep es m).all Sh.flat = true := by
      intro h; rw [List.all_append, Bool.and_eq_true] at h; exact h
    obtain ⟨x, hx⟩ := hall 0 (by omega)
    have h1 := hrec _ _ hx (hsp.elim (fun h => .inl (hf h).1) fun h => .inr fun v hv => h v (List.mem_of_mem_drop (List.mem_of_mem_take hv)))
    have h2 := open_rep hrec hl m (k + 1) (hsp.elim (fun h => .inl (hf h).2) .inr) (fun i hi => by
      have := hall (i + 1) (by omega)
      rwa [show k + (i + 1) = k + 1 + i by omega] at this)
    have : (cs.drop (k * P.cellsOf e)).take ((m + 1) * P.cellsOf e) = (cs.drop (k * P.cellsOf e)).take (P.cellsOf e) ++ (cs.drop ((k + 1) * P.cellsOf e)).take (m * P.cellsOf e) := by
      rw [Nat.succ_mul, Nat.add_comm (m * P.cellsOf e), List.take_add, List.drop_drop, Nat.succ_mul]
    rw [this]
    exact h1.append h2
theorem add_at (b o n : Nat) : (⟨b, o, none⟩ : Addr).add n = ⟨b, o + n, none⟩ := by
  unfold Addr.add
  split
  · rename_i h; subst h; rfl
  · rfl
theorem open_elems {P : Program} {es : List Sh} {e : TypeId} {ab : Nat} (hlen : es.length = P.cellsOf e) :
    ∀ (len ao : Nat), (∀ i, i < len → ∃ cs', w.cells? base ((⟨ab, ao, none⟩ : Addr).add (i * P.cellsOf e)) (P.cellsOf e) = some cs' ∧ Opens E w es cs') →
      ∃ rows : List (List PV), rows.length = len ∧ (∀ r ∈ rows, FitsL es r) ∧ VElems E w (fun b => b < w.heap.size) rows ab ao (P.cellsOf e)
  | 0, ao, _ => ⟨[], rfl, by simp, by simp [VElems]⟩
  | len + 1, ao, h => by
    obtain ⟨cs', h1, ps, f1, v1, s1, _⟩ := h 0 (by omega)
    obtain ⟨rows, g1, g2, g3⟩ := open_elems hlen len (ao + P.cellsOf e) (fun i hi => by
      have := h (i + 1) (by omega)
      rw [add_at] at this ⊢
      rwa [Nat.succ_mul, Nat.add_comm (i * P.cellsOf e), ← Nat.add_assoc] at this)
    obtain ⟨_, c1, c2⟩ := World.cells?_some h1
    refine ⟨ps :: rows, by simp [g1], fun r hr => ?_, ?_⟩
    · rcases List.mem_cons.1 hr with rfl | hr
      · exact f1
      · exact g2 r hr
    · simp only [VElems]
      refine ⟨by rw [FitsL_length f1, hlen], ?_, g3⟩
      have hcell : ∀ i, i < P.cellsOf e → w.cell? ⟨ab, ao + i, none⟩ = cs'[i]? := fun i hi => by
        have := c2 i hi
        rwa [Nat.zero_mul, add_at, add_at, Nat.add_zero] at this
      clear f1 h1 c2 g3
      rw [← c1] at hcell
      have key : ∀ (ps : List PV) (cs' : List Value) (o : Nat), VPs E w (fun b => b < w.heap.size) ps cs' → (∀ v ∈ cs', Scalar v) → (∀ i, i < cs'.length → w.cell? ⟨ab, o + i, none⟩ = cs'[i]?) → VRun E w (fun b => b < w.heap.size) ps ab o := by
        intro ps
        induction ps with
        | nil => intro cs' o _ _ _; simp [VRun]
        | cons p r ih =>
          intro cs' o hv hs hc
          simp only [VPs] at hv
          obtain ⟨u, us, rfl, k1, k2⟩ := hv
          simp only [VRun]
          refine ⟨⟨u, ?_, hs u (by simp), k1⟩, ih us (o + 1) k2 (fun v hv => hs v (by simp [hv])) fun i hi => ?_⟩
          · have := hc 0 (by simp)
            simpa using this
          · have := hc (i + 1) (by simpa using hi)
            rw [show o + (i + 1) = o + 1 + i by omega] at this
            simpa using this
      exact key ps cs' ao v1 s1 hcell
theorem open_sh {P : Program} : ∀ (d : Nat) (t : TypeId) (ss : List Sh), shOf P d t = some ss → ∀ (n : Nat) (cs : List Value) (x : DataW H × List MemPlace), DataW.trod enc P w base spare held n t cs = some x → Spots ss cs → Opens E w ss cs
  | 0, t, ss, hs, _, _, _, _, _ => by simp [shOf] at hs
  | d + 1, t, ss, hs, n, cs, x, h, hsp => by
    simp only [shOf] at hs
    split at hs
    · rename_i ht
      simp at hs; subst hs
      obtain ⟨b, rfl, _⟩ := DataW.trod_bool ht h
      exact ⟨[.bool b], ⟨_, _, rfl, ⟨b, rfl⟩, rfl⟩, by simp [VPs, VP], by simp [Scalar], by simp⟩
    · rename_i k ht
      simp at hs; subst hs
      obtain ⟨m, rfl, _, hw⟩ := DataW.trod_int ht h
      exact ⟨[.int k m], ⟨_, _, rfl, ⟨m, rfl, hw⟩, rfl⟩, by simp [VPs, VP], by simp [Scalar], by simp⟩
    · rename_i ht
      simp at hs; subst hs
      obtain ⟨s, rfl, _, hw⟩ := DataW.trod_string ht h
      exact ⟨[.str s], ⟨_, _, rfl, ⟨s, rfl, hw⟩, rfl⟩, by simp [VPs, VP], by simp [Scalar], by simp⟩
    · rename_i e ht
      split at hs
      · rename_i es he
        split at hs
        · rename_i hc
          simp at hs; subst hs
          obtain ⟨hflat, hlen, hpos⟩ := hc
          rcases DataW.trod_slice ht h with ⟨rfl, _⟩ | ⟨a, len, cap, elems, rest, m, _, rfl, _, hb, hl, hm, hel, hcs, _⟩
          · exact ⟨[.slice []], ⟨_, _, rfl, ⟨[], rfl, by simp⟩, rfl⟩, ⟨_, _, rfl, ⟨none, 0, 0, rfl, rfl, Nat.le_refl _, fun h => by simp at h⟩, rfl⟩, by simp [Scalar], by simp [Sh.flat]⟩
          · have hspot : a.spot = none := by
              rcases hsp with h | h
              · simp [Sh.flat] at h
              · exact h _ (List.mem_singleton.2 rfl) a len cap rfl
            obtain ⟨ab, ao, asp⟩ := a
            simp only at hspot
            subst hspot
            have each : ∀ i, i < len → ∃ cs', w.cells? base ((⟨ab, ao, none⟩ : Addr).add (i * P.cellsOf e)) (P.cellsOf e) = some cs' ∧ Opens E w es cs' := by
              intro i hi
              have h1 := hcs i hi
              have : ∃ y, elems[i]? = some y := ⟨elems[i]'(by omega), by simp [hel, hi]⟩
              obtain ⟨y, hy⟩ := this
              rw [hy, Option.bind_eq_some_iff] at h1
              obtain ⟨cs', hc1, hc2⟩ := h1
              exact ⟨cs', hc1, open_sh d e es he _ _ _ hc2 (.inl hflat)⟩
            obtain ⟨rows, r1, r2, r3⟩ := open_elems hlen len ao each
            refine ⟨[.slice rows], ⟨_, _, rfl, ⟨rows, rfl, r2⟩, rfl⟩, ?_, by simp [Scalar], by simp [Sh.flat]⟩
            simp only [VPs, VP]
            refine ⟨_, _, rfl, ⟨some ⟨ab, ao, none⟩, len, cap, rfl, r1.symm, hl, fun hp => ⟨ab, ao, P.cellsOf e, rfl, ?_, r3⟩⟩, rfl⟩
            obtain ⟨cs', c1, _⟩ := each 0 (by omega)
            have := World.cells?_block c1 (by omega)
            rwa [add_at] at this
        · simp at hs
      · simp at hs
    · rename_i fs ht
      split at hs
      · rename_i ss' hss
        split at hs
        · rename_i hc
          simp at hs; subst hs
          obtain ⟨xs, m, rfl, _, hlen, hxl, hall⟩ := DataW.trod_struct ht h
          have h1 := open_fs (E := E) (cs := cs) (rec := shOf P d) (n := m) (enc := enc) (base := base) (spare := spare) (held := held) (fun t ss cs' x hr hx hsp' => open_sh d t ss hr m cs' x hx hsp') fs.toList 0 ss' hsp hss (fun f hf => by
            obtain ⟨i, hi, rfl⟩ := List.getElem_of_mem hf
            have hi' : i < fs.size := by simpa using hi
            have := hall i fs[i] (by simp [hi'])
            refine ⟨xs[i]'(by omega), ?_⟩
            rw [Array.getElem_toList, this]
            simp [hxl, hi'])
          rwa [hc, ← hlen, List.drop_zero, List.take_length] at h1
        · simp at hs
      · simp at hs
    · rename_i m e ht
      split at hs
      · rename_i es he
        split at hs
        · rename_i hc
          simp at hs; subst hs
          obtain ⟨xs, k, rfl, _, hlen, hxl, hall⟩ := DataW.trod_array ht h
          have h1 := open_rep (E := E) (cs := cs) (es := es) (e := e) (n := k) (enc := enc) (base := base) (spare := spare) (held := held) (fun cs' x hx hsp' => open_sh d e es he k cs' x hx hsp') hc.1 m 0 hsp (fun i hi => by
            have := hall i hi
            rw [Nat.zero_add]
            exact ⟨xs[i]'(by omega), by rw [this]; simp [hxl, hi]⟩)
          rwa [hc.2, ← hlen, Nat.zero_mul, List.drop_zero, List.take_length] at h1
        · simp at hs
      · simp at hs
    · simp at hs
theorem spot_of_cell {r : Reach} {base : Nat} {u : TypeId} {a : Addr} {l c : Nat} (h : Cell.okWide P w r base u (.slice (some a) l c)) : a.spot = none := by
  unfold Cell.okWide at h
  split at h <;> rename_i h2 <;> first | (simp at h2; done) | skip
  unfold Cell.ok at h
  split at h <;> rename_i h3 h4 <;> first | (simp at h4; done) | skip
  all_goals first | exact h.elim | (simp at h4; obtain ⟨rfl, rfl, rfl⟩ := h4; exact h.2.2.2.1)
theorem open_agg {r : Reach} {d : Nat} {t : TypeId} {v : Value} {ss : List Sh} {x : DataW H} {ps : List MemPlace} (hagg : (match P.underlying t with | some (.struct _) => true | some (.array _ _) => true | _ => false) = true)
    (hs : shOf P d t = some ss) (hval : Value.okWide P w r base t v) (h : DataW.Trod enc P w 0 (fun _ => true) true t v x ps) : ∃ l, FitsL ss l ∧ VP E w (fun b => b < w.heap.size) (.agg l) v := by
  obtain ⟨n, h⟩ := h
  have : ∃ cs, v = .agg cs ∧ Row.okWide P w r base t cs := by
    unfold Value.okWide at hval
    split at hagg
    · rename_i hu; rw [hu] at hval; obtain ⟨cs, h1, _, h2⟩ := hval; exact ⟨cs, h1, h2⟩
    · rename_i hu; rw [hu] at hval; obtain ⟨cs, h1, _, h2⟩ := hval; exact ⟨cs, h1, h2⟩
    · simp at hagg
  obtain ⟨cs, rfl, ts, _, _, hcell⟩ := this
  obtain ⟨l, h1, h2, _, _⟩ := open_sh (E := E) d t ss hs n _ _ h (.inr fun v hv a l c hvv => by
    obtain ⟨i, hi, hiv⟩ := List.getElem_of_mem (show v ∈ cs.toList from hv)
    obtain ⟨u, _, h5⟩ := hcell i v (by rw [← Array.getElem?_toList, List.getElem?_eq_getElem hi, hiv])
    rw [hvv] at h5
    exact spot_of_cell h5)
  refine ⟨l, h1, ?_⟩
  simp only [VP]
  exact ⟨cs.toList, by simp, h2⟩
theorem open_one {r : Reach} {d : Nat} {t : TypeId} {v : Value} {s : Sh} {x : DataW H} {ps : List MemPlace} (hagg : (match P.underlying t with | some (.struct _) => true | some (.array _ _) => true | _ => false) = false)
    (hs : shOf P d t = some [s]) (hval : Value.okWide P w r base t v) (h : DataW.Trod enc P w 0 (fun _ => true) true t v x ps) : ∃ p, Fits s p ∧ VP E w (fun b => b < w.heap.size) p v := by
  obtain ⟨n, h⟩ := h
  have hc : Cell.okWide P w r base t v := by
    unfold Value.okWide at hval
    split at hval
    · rename_i hu; simp [hu] at hagg
    · rename_i hu; simp [hu] at hagg
    · exact hval
  have hv : v.cells.toList = [v] := by
    cases v <;> first | rfl | skip
    unfold Cell.okWide at hc
    split at hc <;> rename_i h2 <;> first | (simp at h2; done) | skip
    unfold Cell.ok at hc
    split at hc <;> rename_i h3 h4 <;> first | (simp at h4; done) | exact hc.elim
  rw [hv] at h
  obtain ⟨l, h1, h2, _, _⟩ := open_sh (E := E) d t [s] hs n _ _ h (.inr fun u hu a l c hvv => by
    simp only [List.mem_singleton] at hu
    subst hu
    rw [hvv] at hc
    exact spot_of_cell hc)
  simp only [FitsL] at h1
  obtain ⟨p, q, rfl, h3, rfl⟩ := h1
  simp only [VPs] at h2
  obtain ⟨u, us, h4, h5, rfl⟩ := h2
  simp only [List.cons.injEq] at h4
  exact ⟨p, h3, h4.1 ▸ h5⟩
end
end Go.Proofs.YtlfphlobcopemaaDoor.Ab
set_option linter.unusedVariables false
set_option linter.unusedSimpArgs false
namespace Go.Proofs.YtlfphlobcopemaaDoor.Ab
open Go
def lkN : List (Nat × Nat) → Nat → Option Nat
  | [], _ => none
  | (a, b) :: r, n => cond (Nat.beq a n) (some b) (lkN r n)
def lkR : List (Nat × Nat) → Nat → Option Nat
  | [], _ => none
  | (a, b) :: r, n => cond (Nat.beq b n) (some a) (lkR r n)
def envOf (P : Program) (fs ts : List (Nat × Nat)) (nt : Nat) (gl : List (Nat × Value)) : Env :=
  ⟨P, fun n => (lkN fs n).getD 1000000, fun n => (lkN ts n).getD (1000000 + n), lkR fs, lkR ts, nt, gl⟩
def okN (fs : List (Nat × Nat)) : Bool := fs.all fun p => Nat.beq ((lkN fs p.1).getD 1000000) p.2
def okT (ts : List (Nat × Nat)) (nt : Nat) : Bool := ts.all (fun p => Nat.beq ((lkN ts p.1).getD (1000000 + p.1)) p.2 && Nat.blt p.1 nt) &&
  (List.range nt).all fun n => (List.range nt).all fun m => Nat.beq n m || !(Nat.beq ((lkN ts n).getD (1000000 + n)) ((lkN ts m).getD (1000000 + m)))
theorem lkR_mem : ∀ {l : List (Nat × Nat)} {f n : Nat}, lkR l f = some n → (n, f) ∈ l
  | [], f, n, h => by simp [lkR] at h
  | (a, b) :: r, f, n, h => by
    simp only [lkR] at h
    by_cases hb : b = f
    · subst hb; rw [beq_self] at h; simp at h; subst h; simp
    · rw [beq_ne hb] at h; exact List.mem_cons_of_mem _ (lkR_mem h)
theorem envOf_ok {P : Program} {fs ts : List (Nat × Nat)} {nt : Nat} {gl : List (Nat × Value)} (h1 : okN fs = true) (h2 : okT ts nt = true) (h3 : P.follows .mixedOrders = true) : (envOf P fs ts nt gl).OK where
  rho := fun f n h => by
    have := List.all_eq_true.1 h1 _ (lkR_mem h)
    exact Nat.eq_of_beq_eq_true this
  tau := fun t n h => by
    unfold okT at h2
    rw [Bool.and_eq_true] at h2
    have := List.all_eq_true.1 h2.1 _ (lkR_mem h)
    rw [Bool.and_eq_true] at this
    exact ⟨Nat.eq_of_beq_eq_true this.1, Nat.le_of_ble_eq_true this.2⟩
  inj := fun n m hn hm h => by
    unfold okT at h2
    rw [Bool.and_eq_true] at h2
    have := List.all_eq_true.1 (List.all_eq_true.1 h2.2 n (List.mem_range.2 hn)) m (List.mem_range.2 hm)
    rw [Bool.or_eq_true] at this
    rcases this with h' | h'
    · exact Nat.eq_of_beq_eq_true h'
    · have h : (lkN ts n).getD (1000000 + n) = (lkN ts m).getD (1000000 + m) := h
      rw [h, beq_self] at h'
      simp at h'
  mixed := h3
abbrev Prm := List AV → Hl → Nat → Option (AV × Hl × Nat)
def lkF : List (Nat × AFunc) → Nat → Option AFunc
  | [], _ => none
  | (a, f) :: r, n => cond (Nat.beq a n) (some f) (lkF r n)
def lkP : List (Nat × Prm) → Nat → Option Prm
  | [], _ => none
  | (a, f) :: r, n => cond (Nat.beq a n) (some f) (lkP r n)
def inL (l : List Nat) (n : Nat) : Bool := l.any fun a => Nat.beq a n
def tabOf (l : List (Nat × AFunc)) (raw flat own still : List Nat) (ps : List (Nat × Prm)) : Tab := ⟨lkF l, inL raw, inL flat, inL own, inL still, lkP ps⟩
theorem lkF_mem : ∀ {l : List (Nat × AFunc)} {n : Nat} {f : AFunc}, lkF l n = some f → (n, f) ∈ l
  | [], n, f, h => by simp [lkF] at h
  | (a, b) :: r, n, f, h => by
    simp only [lkF] at h
    by_cases hb : a = n
    · subst hb; rw [beq_self] at h; simp at h; subst h; simp
    · rw [beq_ne hb] at h; exact List.mem_cons_of_mem _ (lkF_mem h)
theorem lkP_mem : ∀ {l : List (Nat × Prm)} {n : Nat} {f : Prm}, lkP l n = some f → (n, f) ∈ l
  | [], n, f, h => by simp [lkP] at h
  | (a, b) :: r, n, f, h => by
    simp only [lkP] at h
    by_cases hb : a = n
    · subst hb; rw [beq_self] at h; simp at h; subst h; simp
    · rw [beq_ne hb] at h; exact List.mem_cons_of_mem _ (lkP_mem h)
def TiesL (E : Env) : List (Nat × AFunc) → Prop
  | [] => True
  | (n, f) :: r => cFunc E n = some f ∧ TiesL E r
def PrimsL (E : Env) : List (Nat × Prm) → Prop
  | [] => True
  | (n, g) :: r => (∀ args hp nx v hp' nx', g args hp nx = some (v, hp', nx') → RawC E n args hp nx v hp' nx') ∧ PrimsL E r
theorem TiesL.mem {E : Env} : ∀ {l : List (Nat × AFunc)}, TiesL E l → ∀ {n : Nat} {f : AFunc}, (n, f) ∈ l → cFunc E n = some f
  | (a, b) :: r, h, n, f, hm => by
    rcases List.mem_cons.1 hm with hm | hm
    · simp only [Prod.mk.injEq] at hm
      obtain ⟨rfl, rfl⟩ := hm
      exact h.1
    · exact TiesL.mem h.2 hm
theorem PrimsL.mem {E : Env} : ∀ {l : List (Nat × Prm)}, PrimsL E l → ∀ {n : Nat} {g : Prm}, (n, g) ∈ l → ∀ args hp nx v hp' nx', g args hp nx = some (v, hp', nx') → RawC E n args hp nx v hp' nx'
  | (a, b) :: r, h, n, f, hm => by
    rcases List.mem_cons.1 hm with hm | hm
    · simp only [Prod.mk.injEq] at hm
      obtain ⟨rfl, rfl⟩ := hm
      exact h.1
    · exact PrimsL.mem h.2 hm
theorem tied_of {E : Env} {l : List (Nat × AFunc)} {raw flat own still : List Nat} {ps : List (Nat × Prm)} (h1 : TiesL E l) (h2 : PrimsL E ps) : Tied E (tabOf l raw flat own still ps) where
  fn := fun n f _ h => h1.mem (lkF_mem h)
  prim := fun n g h => h2.mem (lkP_mem h)
theorem law_calls {E : Env} {T : Tab} (hE : E.OK) (hT : Tied E T) {n : Nat} {ps : List PV} (h : Gives T n ps (.bool true)) {w : World} {vs : List Value} (hI : E.inv w) (hv : VPs E w (fun b => b < w.heap.size) ps vs) :
    Calls E.P (E.ρ n) vs.toArray w fun e w' => e = .returned (.bool true) ∧ Go.RowKit.Below w.heap.size w w' := by
  obtain ⟨_, _, o, hc⟩ := h
  obtain ⟨v, hp, nx, h1, h2, _⟩ := callP_spec hc
  have hP := (D_sound hE hT _ _ _ _ _ _ _ h1).pure h2
  refine (hP.2 (fun _ => False) w vs hI (fun b hb => hb.elim) (VPs_mono ⟨fun b hb => ⟨hb, fun h => h⟩, fun _ _ => rfl⟩ _ _ hv)).mono fun e w' hh => ?_
  obtain ⟨u, rfl, h3, h4⟩ := hh
  simp only [VP] at h3
  subst h3
  exact ⟨rfl, h4.os, h4.tape, h4.output, h4.size, fun k hk => h4.block k hk (fun h => h)⟩
/-! ### What the laws are handed -/
def inI (n : Int) : Prop := -9223372036854775808 ≤ n ∧ n ≤ 9223372036854775807
def inU (n : Int) : Prop := 0 ≤ n ∧ n ≤ 18446744073709551615
theorem wf_i64 {n : Int} (h : (Lit.int .i64 n).wf = true) : inI n := by
  simp only [Lit.wf, Bool.and_eq_true, decide_eq_true_eq] at h
  exact h
theorem wf_u64 {n : Int} (h : (Lit.int .u64 n).wf = true) : inU n := by
  simp only [Lit.wf, Bool.and_eq_true, decide_eq_true_eq] at h
  exact h
theorem rows_map {α : Type} {enc : α → List PV} {W : α → Prop} : ∀ {l : List (List PV)}, (∀ e ∈ l, ∃ x, e = enc x ∧ W x) → ∃ xs : List α, l = xs.map enc ∧ ∀ x ∈ xs, W x
  | [], _ => ⟨[], rfl, by simp⟩
  | e :: r, h => by
    obtain ⟨x, rfl, hx⟩ := h e (by simp)
    obtain ⟨xs, rfl, hxs⟩ := rows_map (fun e he => h e (List.mem_cons_of_mem _ he))
    exact ⟨x :: xs, rfl, by simpa using ⟨hx, hxs⟩⟩
def Vec.wf (v : Vec) : Prop := inU v.a ∧ inU v.b ∧ inU v.c ∧ inU v.d
def Node.wf (n : Node) : Prop := inI n.id ∧ inI n.zone ∧ n.cap.wf ∧ n.held.wf
def Load.wf (l : Load) : Prop := inI l.id ∧ inI l.skew ∧ inI l.min ∧ inI l.max
def Pod.wf (p : Pod) : Prop := inI p.id ∧ inI p.load ∧ inI p.prio ∧ p.req.wf ∧ inI p.node
def Want.wf (w : Want) : Prop := inI w.pod ∧ w.req.wf
def Move.wf (m : Move) : Prop := inI m.kind ∧ inI m.pod ∧ inI m.node ∧ inI m.over
def Snap.wf (s : Snap) : Prop := (∀ n ∈ s.nodes, n.wf) ∧ (∀ l ∈ s.loads, l.wf) ∧ ∀ p ∈ s.pods, p.wf
def Spec.wf (x : Spec) : Prop := (∀ w ∈ x.wants, w.wf) ∧ inI x.pre ∧ inI x.shi
def State.wf (t : State) : Prop := (∀ p ∈ t.pods, p.wf) ∧ inI t.pre ∧ inI t.shi
def nodeS : List Sh := [.nu .i64, .nu .i64, .nu .u64, .nu .u64, .nu .u64, .nu .u64, .nu .u64, .nu .u64, .nu .u64, .nu .u64]
def loadS : List Sh := [.nu .i64, .bo, .nu .i64, .nu .i64, .nu .i64]
def podS : List Sh := [.nu .i64, .nu .i64, .nu .i64, .nu .u64, .nu .u64, .nu .u64, .nu .u64, .nu .i64]
def wantS : List Sh := [.nu .i64, .nu .u64, .nu .u64, .nu .u64, .nu .u64, .bo]
theorem fits_node {e : List PV} (h : FitsL nodeS e) : ∃ n : Node, e = nodeC n ∧ n.wf := by
  simp only [nodeS, FitsL, Fits] at h
  obtain ⟨_, _, rfl, ⟨a, rfl, h1⟩, _, _, rfl, ⟨b, rfl, h2⟩, _, _, rfl, ⟨c, rfl, h3⟩, _, _, rfl, ⟨d, rfl, h4⟩, _, _, rfl, ⟨f, rfl, h5⟩, _, _, rfl, ⟨g, rfl, h6⟩, _, _, rfl, ⟨i, rfl, h7⟩, _, _, rfl, ⟨j, rfl, h8⟩, _, _, rfl, ⟨k, rfl, h9⟩, _, _, rfl, ⟨l, rfl, h10⟩, rfl⟩ := h
  exact ⟨⟨a, b, ⟨c, d, f, g⟩, ⟨i, j, k, l⟩⟩, rfl, wf_i64 h1, wf_i64 h2, ⟨wf_u64 h3, wf_u64 h4, wf_u64 h5, wf_u64 h6⟩, wf_u64 h7, wf_u64 h8, wf_u64 h9, wf_u64 h10⟩
theorem fits_load {e : List PV} (h : FitsL loadS e) : ∃ n : Load, e = loadC n ∧ n.wf := by
  simp only [loadS, FitsL, Fits] at h
  obtain ⟨_, _, rfl, ⟨a, rfl, h1⟩, _, _, rfl, ⟨b, rfl⟩, _, _, rfl, ⟨c, rfl, h3⟩, _, _, rfl, ⟨d, rfl, h4⟩, _, _, rfl, ⟨f, rfl, h5⟩, rfl⟩ := h
  exact ⟨⟨a, b, c, d, f⟩, rfl, wf_i64 h1, wf_i64 h3, wf_i64 h4, wf_i64 h5⟩
theorem fits_pod {e : List PV} (h : FitsL podS e) : ∃ n : Pod, e = podC n ∧ n.wf := by
  simp only [podS, FitsL, Fits] at h
  obtain ⟨_, _, rfl, ⟨a, rfl, h1⟩, _, _, rfl, ⟨b, rfl, h2⟩, _, _, rfl, ⟨c, rfl, h3⟩, _, _, rfl, ⟨d, rfl, h4⟩, _, _, rfl, ⟨f, rfl, h5⟩, _, _, rfl, ⟨g, rfl, h6⟩, _, _, rfl, ⟨i, rfl, h7⟩, _, _, rfl, ⟨j, rfl, h8⟩, rfl⟩ := h
  exact ⟨⟨a, b, c, ⟨d, f, g, i⟩, j⟩, rfl, wf_i64 h1, wf_i64 h2, wf_i64 h3, ⟨wf_u64 h4, wf_u64 h5, wf_u64 h6, wf_u64 h7⟩, wf_i64 h8⟩
theorem fits_want {e : List PV} (h : FitsL wantS e) : ∃ n : Want, e = wantC n ∧ n.wf := by
  simp only [wantS, FitsL, Fits] at h
  obtain ⟨_, _, rfl, ⟨a, rfl, h1⟩, _, _, rfl, ⟨b, rfl, h2⟩, _, _, rfl, ⟨c, rfl, h3⟩, _, _, rfl, ⟨d, rfl, h4⟩, _, _, rfl, ⟨f, rfl, h5⟩, _, _, rfl, ⟨g, rfl⟩, rfl⟩ := h
  exact ⟨⟨a, ⟨b, c, d, f⟩, g⟩, rfl, wf_i64 h1, wf_u64 h2, wf_u64 h3, wf_u64 h4, wf_u64 h5⟩
theorem fits_snap {e : List PV} (h : FitsL [.sl nodeS, .sl loadS, .sl podS] e) : ∃ s : Snap, .agg e = snapP s ∧ s.wf := by
  simp only [FitsL, Fits] at h
  obtain ⟨_, _, rfl, ⟨a, rfl, h1⟩, _, _, rfl, ⟨b, rfl, h2⟩, _, _, rfl, ⟨c, rfl, h3⟩, rfl⟩ := h
  obtain ⟨x, rfl, k1⟩ := rows_map (fun e he => fits_node (h1 e he))
  obtain ⟨y, rfl, k2⟩ := rows_map (fun e he => fits_load (h2 e he))
  obtain ⟨z, rfl, k3⟩ := rows_map (fun e he => fits_pod (h3 e he))
  exact ⟨⟨x, y, z⟩, rfl, k1, k2, k3⟩
theorem fits_spec {e : List PV} (h : FitsL [.sl wantS, .nu .i64, .nu .i64] e) : ∃ s : Spec, .agg e = specP s ∧ s.wf := by
  simp only [FitsL, Fits] at h
  obtain ⟨_, _, rfl, ⟨a, rfl, h1⟩, _, _, rfl, ⟨b, rfl, h2⟩, _, _, rfl, ⟨c, rfl, h3⟩, rfl⟩ := h
  obtain ⟨x, rfl, k1⟩ := rows_map (fun e he => fits_want (h1 e he))
  exact ⟨⟨x, b, c⟩, rfl, k1, wf_i64 h2, wf_i64 h3⟩
theorem fits_state {e : List PV} (h : FitsL [.sl podS, .nu .i64, .nu .i64] e) : ∃ s : State, .agg e = stateP s ∧ s.wf := by
  simp only [FitsL, Fits] at h
  obtain ⟨_, _, rfl, ⟨a, rfl, h1⟩, _, _, rfl, ⟨b, rfl, h2⟩, _, _, rfl, ⟨c, rfl, h3⟩, rfl⟩ := h
  obtain ⟨x, rfl, k1⟩ := rows_map (fun e he => fits_pod (h1 e he))
  exact ⟨⟨x, b, c⟩, rfl, k1, wf_i64 h2, wf_i64 h3⟩
end Go.Proofs.YtlfphlobcopemaaDoor.Ab
set_option linter.unusedVariables false
set_option linter.unusedSimpArgs false
namespace Go.Proofs.YtlfphlobcopemaaDoor.Ab
open Go
section
variable {P : Program} {w : World} {t : TypeId}
end
end Go.Proofs.YtlfphlobcopemaaDoor.Ab
set_option linter.unusedVariables false
set_option linter.unusedSimpArgs false
namespace Go.Proofs.YtlfphlobcopemaaDoor.Ab
open Go
theorem keeps_of {w w' : World} (h : Go.RowKit.Below w.heap.size w w') : Keeps (fun _ => False) w w' := ⟨h.os, h.tape, h.output, h.size, fun b hb _ => h.block b hb⟩
structure StdP (T : Tab) (n : Nat) (g : Prm) : Prop where
  prim : T.prim n = some g
  raw : T.raw n = false
  own : T.own n = false
end Go.Proofs.YtlfphlobcopemaaDoor.Ab
set_option linter.unusedVariables false
set_option linter.unusedSimpArgs false
namespace Go.Proofs.YtlfphlobcopemaaDoor.Ab
open Go
def i64C (n : Int) : List PV := [.int .i64 n]
def intsV : List (List PV) → Option (List Int)
  | [] => some []
  | [.int .i64 n] :: r => match intsV r with
    | some l => some (n :: l)
    | none => none
  | _ :: _ => none
theorem intsV_ok : ∀ {es : List (List PV)} {ns : List Int}, intsV es = some ns → es = ns.map i64C
  | [], ns, h => by simp [intsV] at h; subst h; rfl
  | e :: r, ns, h => by
    unfold intsV at h
    split at h
    · rename_i h1; simp at h1
    · rename_i n r' h1
      simp only [List.cons.injEq] at h1
      obtain ⟨rfl, rfl⟩ := h1
      split at h
      · rename_i l hl
        simp only [Option.some.injEq] at h
        subst h
        rw [intsV_ok hl]
        rfl
      · simp at h
    · simp at h
theorem intsV_map (ns : List Int) : intsV (ns.map i64C) = some ns := by
  induction ns with
  | nil => rfl
  | cons n r ih => simp only [List.map_cons, intsV, i64C, ih]
theorem velems_of {E : Env} {w : World} {ok : Nat → Prop} {b : Nat} : ∀ {ns : List Int} {o : Nat}, VElems E w ok (ns.map i64C) b o 1 → ∀ (j : Nat) (n : Int), ns[j]? = some n → w.cell? ⟨b, o + j, none⟩ = some (.int .i64 n)
  | [], o, h, j, n, hj => by simp at hj
  | m :: r, o, h, j, n, hj => by
    simp only [List.map_cons, VElems, i64C, VRun, VP, and_true] at h
    obtain ⟨_, ⟨u, h1, _, h2⟩, h3⟩ := h
    cases j with
    | zero => simp at hj; subst hj; rw [← h2]; exact h1
    | succ j =>
      have := velems_of h3 j n (by simpa using hj)
      rwa [show o + 1 + j = o + (j + 1) by omega] at this
theorem velems_mk {E : Env} {w : World} {ok : Nat → Prop} {b : Nat} : ∀ {ns : List Int} {o : Nat}, (∀ (j : Nat) (n : Int), ns[j]? = some n → w.cell? ⟨b, o + j, none⟩ = some (.int .i64 n)) → VElems E w ok (ns.map i64C) b o 1
  | [], o, _ => by simp only [List.map_nil, VElems]
  | m :: r, o, h => by
    simp only [List.map_cons, VElems, i64C, VRun, VP, and_true]
    refine ⟨rfl, ⟨_, h 0 m rfl, by simp [Scalar], rfl⟩, velems_mk fun j n hj => ?_⟩
    have := h (j + 1) n (by simpa using hj)
    rwa [show o + (j + 1) = o + 1 + j by omega] at this
theorem putRow_eq {w : World} {b : Nat} {c : Array Value} {t : TypeId} {f : Nat × Nat} (h : w.heap[b]? = some (.cells c t f)) (d : Array Int) :
    Sort.putRow (Value.int .i64) w b 0 d = setB w b (.cells (Sort.putCells (Value.int .i64) 0 d c) t f) := by
  unfold Sort.putRow Sort.mapBlock setB
  congr 1
  apply Array.ext_getElem?
  intro i
  by_cases hi : b = i
  · subst hi
    have hlt : b < w.heap.size := (Array.getElem?_eq_some_iff.1 h).1
    rw [Array.getElem?_modify, h]
    simp [hlt, Sort.onCells]
  · rw [Array.getElem?_modify, Array.getElem?_setIfInBounds_ne hi]
    simp [hi]
theorem keeps_ahead (w : World) (q : Nat) : Keeps (fun _ => False) w (Sort.ahead w q) := ⟨rfl, rfl, rfl, Nat.le_refl _, fun _ _ _ => rfl⟩
theorem keeps_grow (w : World) (os : Array Obj) : Keeps (fun _ => False) w (Sort.grow w os) := by
  refine ⟨rfl, rfl, rfl, by simp [Sort.grow], fun b hb _ => ?_⟩
  simp only [Sort.grow]
  rw [Array.getElem?_append_left hb]
section
variable {X : Ctx} {M : Nat → Nat} {F : Fr} {hp : Hl} {U : Nat → Prop} {a : Act} {w : World}
theorem Rel.putRow (R : Rel X M F (blkAt hp) U a w) {id : Nat} {ns : List Int} (hb : blkAt hp id = .row 1 (ns.map i64C)) (d : List Int) (hl : d.length = ns.length) (q : Nat) :
    Rel X M F (blkAt ((id, .row 1 (d.map i64C)) :: hp)) U a (Sort.putRow (Value.int .i64) (Sort.ahead w q) (M id) 0 d.toArray) := by
  have R1 := R.grown (keeps_ahead w q)
  have hB := R1.blk id
  rw [hb] at hB
  obtain ⟨c, t, h1, h2, h3⟩ := hB
  simp only [viewOf] at h1
  simp only [List.length_map, Nat.mul_one] at h2
  rw [putRow_eq h1]
  have e : blkAt ((id, .row 1 (d.map i64C)) :: hp) = wr (blkAt hp) [(id, .row 1 (d.map i64C))] := by
    funext i
    rw [← blkAt_wr]
    rfl
  rw [e]
  have hlt : M id < (Sort.ahead w q).heap.size := (Array.getElem?_eq_some_iff.1 h1).1
  refine R1.write _ _ id (by rw [hb]; simp) (by simp) (by rw [hb]; simp [Blk.info, hl]) ?_ ?_
  · simp only [World.shape?]
    rw [setB_same _ hlt, h1]
    simp [Sort.putCells]
  · refine ⟨_, t, setB_same _ hlt, by simp [Sort.putCells]; omega, velems_mk fun j n hj => ?_⟩
    have hjl : j < d.length := (List.getElem?_eq_some_iff.1 hj).1
    simp only [World.cell?, viewOf]
    rw [setB_same _ hlt]
    have hjc : j < c.size := by omega
    simp only [Sort.putCells, Nat.zero_add, Array.getElem?_mapIdx]
    rw [Array.getElem?_eq_getElem hjc]
    simp only [Option.map_some]
    have := (List.getElem?_eq_some_iff.1 hj).2
    simp [hjl, this]
theorem Rel.msHolds (R : Rel X M F (blkAt hp) U a w) {id : Nat} {ns : List Int} {u : Value} (hb : blkAt hp id = .row 1 (ns.map i64C)) (hu : VA (viewOf X w U M (blkAt hp)) (.ms id) u) :
    ∃ cap, u = .slice (some ⟨M id, 0, none⟩) ns.length cap ∧ ns.length ≤ cap ∧ M id < w.heap.size ∧ Sort.Holds (Value.int .i64) w (M id) 0 ns.toArray := by
  simp only [VA, viewOf] at hu
  obtain ⟨_, _, hu⟩ := hu
  obtain ⟨cap, t, tot, e1, e2, e3, e4⟩ := hu (1, ns.length) (by rw [hb]; simp [Blk.info])
  have hB := R.blk id
  rw [hb] at hB
  obtain ⟨c, t', h1, h2, h3⟩ := hB
  simp only [viewOf] at h1 h3
  refine ⟨cap, e1, e2, (Array.getElem?_eq_some_iff.1 h1).1, fun j hj => ?_⟩
  have hj' : j < ns.length := by simpa using hj
  refine ⟨?_, ?_⟩
  · have := velems_of h3 j ns[j] (by simp [hj'])
    rw [this]
    simp [hj']
  · simp only [World.frozen?, h1]
    simp
end
def insL (x : Int) : List Int → List Int
  | [] => [x]
  | y :: r => if x ≤ y then x :: y :: r else y :: insL x r
def sortL : List Int → List Int
  | [] => []
  | x :: r => insL x (sortL r)
theorem insL_perm (x : Int) : ∀ l, (insL x l).Perm (x :: l)
  | [] => List.Perm.refl _
  | y :: r => by
    unfold insL
    split
    · exact List.Perm.refl _
    · exact ((insL_perm x r).cons y).trans (List.Perm.swap x y r)
theorem sortL_perm : ∀ l, (sortL l).Perm l
  | [] => List.Perm.refl _
  | x :: r => (insL_perm x (sortL r)).trans ((sortL_perm r).cons x)
theorem insL_sorted (x : Int) : ∀ {l : List Int}, l.Pairwise (fun a b => a ≤ b) → (insL x l).Pairwise (fun a b => a ≤ b)
  | [], _ => by simp [insL]
  | y :: r, h => by
    have h' := List.pairwise_cons.1 h
    unfold insL
    split
    · rename_i hxy
      refine List.pairwise_cons.2 ⟨fun z hz => ?_, h⟩
      rcases List.mem_cons.1 hz with rfl | hz
      · exact hxy
      · exact Int.le_trans hxy (h'.1 z hz)
    · rename_i hxy
      refine List.pairwise_cons.2 ⟨fun z hz => ?_, insL_sorted x h'.2⟩
      rcases List.mem_cons.1 ((insL_perm x r).mem_iff.1 hz) with rfl | hz
      · omega
      · exact h'.1 z hz
theorem sortL_sorted : ∀ ns : List Int, (sortL ns).Pairwise (fun a b => a ≤ b)
  | [] => List.Pairwise.nil
  | x :: r => insL_sorted x (sortL_sorted r)
theorem sorted_eq : ∀ {a b : List Int}, a.Pairwise (fun x y => x ≤ y) → b.Pairwise (fun x y => x ≤ y) → a.Perm b → a = b
  | [], [], _, _, _ => rfl
  | [], y :: s, _, _, h => by have := h.length_eq; simp at this
  | x :: r, [], _, _, h => by have := h.length_eq; simp at this
  | x :: r, y :: s, ha, hb, h => by
    rw [List.pairwise_cons] at ha hb
    have hxy : x = y := by
      have h1 := h.mem_iff.1 (List.mem_cons_self (a := x) (l := r))
      have h2 := h.mem_iff.2 (List.mem_cons_self (a := y) (l := s))
      rcases List.mem_cons.1 h1 with h1 | h1
      · exact h1
      · rcases List.mem_cons.1 h2 with h2 | h2
        · exact h2.symm
        · have := ha.1 y h2
          have := hb.1 x h1
          omega
    subst hxy
    rw [sorted_eq ha.2 hb.2 h.cons_inv]
theorem sortL_merge (ns : List Int) : (ns.mergeSort fun x y => decide (x ≤ y)) = sortL ns := by
  refine sorted_eq ?_ (sortL_sorted ns) ((List.mergeSort_perm ns _).trans (sortL_perm ns).symm)
  have := List.pairwise_mergeSort (le := fun x y : Int => decide (x ≤ y)) (fun a b c h1 h2 => by simp at *; omega) (fun a b => by simp; omega) ns
  exact this.imp fun h => by simpa using h
theorem sortL_length (ns : List Int) : (sortL ns).length = ns.length := (sortL_perm ns).length_eq
def sortP (args : List AV) (hp : Hl) (nx : Nat) : Option (AV × Hl × Nat) :=
  match args with
  | [.nils] => some (.pv (.tuple []), hp, nx)
  | [.ms id] => match blkAt hp id with
    | .row 1 es => match intsV es with
      | some ns => if ns.length ≤ 2 ^ 30 then some (.pv (.tuple []), (id, .row 1 ((sortL ns).map i64C)) :: hp, nx) else none
      | none => none
    | _ => none
  | _ => none
theorem sortP_raw {E : Env} {n : Nat} (hent : Ent E n)
    (h1 : ∀ (blk off cap : Nat) (zs : List Int) (w : World), Sort.Holds (Value.int .i64) w blk off zs.toArray → blk < w.heap.size → zs.length < 4611686018427387904 →
      Calls E.P (E.ρ n) #[.slice (some ⟨blk, off, none⟩) zs.length cap] w fun e w' => e = .returned (.tuple #[]) ∧ ∃ n os, w' = Sort.grow (Sort.putRow (Value.int .i64) (Sort.ahead w n) blk off (zs.mergeSort fun x y => decide (x ≤ y)).toArray) os)
    (h2 : ∀ (p : Option Addr) (cap : Nat) (w : World), Calls E.P (E.ρ n) #[.slice p 0 cap] w fun e w' => e = .returned (.tuple #[]) ∧ w' = w)
    (args : List AV) (hp : Hl) (nx : Nat) (v : AV) (hp' : Hl) (nx' : Nat) (h : sortP args hp nx = some (v, hp', nx')) : RawC E n args hp nx v hp' nx' := by
  refine ⟨hent, fun X M F a w vs hX R hv => ?_⟩
  subst hX
  unfold sortP at h
  split at h
  · simp only [Option.some.injEq, Prod.mk.injEq] at h
    obtain ⟨rfl, rfl, rfl⟩ := h
    simp only [VAs, VA] at hv
    obtain ⟨_, _, rfl, rfl, rfl⟩ := hv
    refine (h2 none 0 w).mono fun e w' hh => ?_
    obtain ⟨rfl, rfl⟩ := hh
    exact ⟨_, M, rfl, R, by simp only [VA, VP, VPs]; exact ⟨[], rfl, rfl⟩⟩
  · rename_i id
    split at h
    · rename_i es hb
      split at h
      · rename_i ns hn
        split at h
        · rename_i hl
          obtain rfl := intsV_ok hn
          simp only [Option.some.injEq, Prod.mk.injEq] at h
          obtain ⟨rfl, rfl, rfl⟩ := h
          simp only [VAs] at hv
          obtain ⟨u, _, rfl, hu, rfl⟩ := hv
          obtain ⟨cap, rfl, c1, c2, c3⟩ := R.msHolds hb hu
          refine (h1 (M id) 0 cap ns w c3 c2 (by omega)).mono fun e w' hh => ?_
          obtain ⟨rfl, q, os, rfl⟩ := hh
          rw [sortL_merge]
          exact ⟨_, M, rfl, (R.putRow hb (sortL ns) (sortL_length ns) q).grown (keeps_grow _ os), by simp only [VA, VP, VPs]; exact ⟨[], rfl, rfl⟩⟩
        · simp at h
      · simp at h
    · simp at h
  · simp at h
def compL (ns : List Int) : List Int := Lib.compact ns
theorem compL_le (ns : List Int) : (compL ns).length ≤ ns.length := Lib.compact_length_le ns
def compP (args : List AV) (hp : Hl) (nx : Nat) : Option (AV × Hl × Nat) :=
  match args with
  | [.nils] => some (.nils, hp, nx)
  | [.ms id] => match blkAt hp id with
    | .row 1 es => match intsV es with
      | some ns => if ns.length ≤ 2 ^ 30 then some (.msub id 0 (compL ns).length, (id, .row 1 ((compL ns ++ List.replicate (ns.length - (compL ns).length) 0).map i64C)) :: hp, nx) else none
      | none => none
    | _ => none
  | _ => none
theorem compP_raw {E : Env} {n : Nat} (hent : Ent E n)
    (h1 : ∀ (blk off cap : Nat) (zs : List Int) (w : World), Sort.Holds (Value.int .i64) w blk off zs.toArray → zs.length ≤ 9223372036854775807 → zs.length ≤ cap →
      Calls E.P (E.ρ n) #[.slice (some ⟨blk, off, none⟩) zs.length cap] w fun e w' => e = .returned (.slice (some ⟨blk, off, none⟩) (Lib.compact zs).length cap) ∧ ∃ q, w' = Sort.putRow (Value.int .i64) (Sort.ahead w q) blk off (Lib.compact zs ++ List.replicate (zs.length - (Lib.compact zs).length) 0).toArray)
    (h2 : ∀ (p : Option Addr) (cap : Nat) (w : World), Calls E.P (E.ρ n) #[.slice p 0 cap] w fun e w' => e = .returned (.slice p 0 cap) ∧ w' = w)
    (args : List AV) (hp : Hl) (nx : Nat) (v : AV) (hp' : Hl) (nx' : Nat) (h : compP args hp nx = some (v, hp', nx')) : RawC E n args hp nx v hp' nx' := by
  refine ⟨hent, fun X M F a w vs hX R hv => ?_⟩
  subst hX
  unfold compP at h
  split at h
  · simp only [Option.some.injEq, Prod.mk.injEq] at h
    obtain ⟨rfl, rfl, rfl⟩ := h
    simp only [VAs, VA] at hv
    obtain ⟨_, _, rfl, rfl, rfl⟩ := hv
    refine (h2 none 0 w).mono fun e w' hh => ?_
    obtain ⟨rfl, rfl⟩ := hh
    exact ⟨_, M, rfl, R, by simp only [VA]⟩
  · rename_i id
    split at h
    · rename_i es hb
      split at h
      · rename_i ns hn
        split at h
        · rename_i hl
          obtain rfl := intsV_ok hn
          simp only [Option.some.injEq, Prod.mk.injEq] at h
          obtain ⟨rfl, rfl, rfl⟩ := h
          simp only [VAs] at hv
          obtain ⟨u, _, rfl, hu, rfl⟩ := hv
          have hu' := hu
          obtain ⟨cap, rfl, c1, c2, c3⟩ := R.msHolds hb hu
          refine (h1 (M id) 0 cap ns w c3 (by omega) c1).mono fun e w' hh => ?_
          obtain ⟨rfl, q, rfl⟩ := hh
          have hlen : (compL ns ++ List.replicate (ns.length - (compL ns).length) 0).length = ns.length := by
            have := compL_le ns
            simp
            omega
          have R2 := R.putRow hb (compL ns ++ List.replicate (ns.length - (compL ns).length) 0) hlen q
          refine ⟨_, M, rfl, R2, ?_⟩
          simp only [VA, viewOf] at hu' ⊢
          obtain ⟨g1, _, g3⟩ := hu'
          refine ⟨g1, by simp [Scalar], fun s hs => ?_⟩
          simp only [blkAt_if, if_true, Blk.info, List.length_map, Option.some.injEq] at hs
          subst hs
          obtain ⟨cap', t, tot, e1, e2, e3, e4⟩ := g3 (1, ns.length) (by rw [hb]; simp [Blk.info])
          simp only [Value.slice.injEq] at e1
          obtain ⟨_, _, rfl⟩ := e1
          refine ⟨_, cap, t, tot, rfl, Nat.le_trans (compL_le ns) c1, ?_, by simpa using e4, fun _ => by simp⟩
          have hB := (R.grown (keeps_ahead w q)).blk id
          rw [hb] at hB
          obtain ⟨c, t', f1, _, _⟩ := hB
          simp only [viewOf] at f1
          have hlt : M id < (Sort.ahead w q).heap.size := (Array.getElem?_eq_some_iff.1 f1).1
          have e5 : w.shape? (M id) = (Sort.putRow (Value.int .i64) (Sort.ahead w q) (M id) 0 (compL ns ++ List.replicate (ns.length - (compL ns).length) 0).toArray).shape? (M id) := by
            rw [putRow_eq f1]
            simp only [World.shape?]
            rw [setB_same _ hlt]
            have : w.heap[M id]? = some (.cells c t' (0, 0)) := f1
            rw [this]
            simp [Sort.putCells]
          have e6 := e3
          rw [e5] at e6
          exact e6
        · simp at h
      · simp at h
    · simp at h
  · simp at h
end Go.Proofs.YtlfphlobcopemaaDoor.Ab
set_option linter.unusedVariables false
set_option linter.unusedSimpArgs false
namespace Go.Proofs.YtlfphlobcopemaaDoor.Ab
open Go
def mostL (ns : List Int) : Int := Lib.maxOf ns
def leastL (ns : List Int) : Int := Lib.minOf ns
def foldP (f : List Int → Int) (args : List AV) (hp : Hl) (nx : Nat) : Option (AV × Hl × Nat) :=
  match args with
  | [.pv (.slice es)] => match intsV es with
    | some (n :: r) => if (n :: r).length ≤ 2 ^ 30 then some (.pv (.int .i64 (f (n :: r))), hp, nx) else none
    | _ => none
  | _ => none
theorem foldP_raw {E : Env} {n : Nat} (f : List Int → Int) (hent : Ent E n)
    (h1 : ∀ (b off n' c : Nat) (zs : List Int) (w : World), 0 < n' → n' ≤ zs.length → n' ≤ 9223372036854775807 → (∀ j, j < zs.length → w.cell? ⟨b, off + j, none⟩ = some (.int .i64 (zs.getD j 0))) →
      Calls E.P (E.ρ n) #[.slice (some ⟨b, off, none⟩) n' c] w fun e w' => e = .returned (.int .i64 (f (zs.take n'))) ∧ w' = w)
    (args : List AV) (hp : Hl) (nx : Nat) (v : AV) (hp' : Hl) (nx' : Nat) (h : foldP f args hp nx = some (v, hp', nx')) : RawC E n args hp nx v hp' nx' := by
  refine ⟨hent, fun X M F a w vs hX R hv => ?_⟩
  subst hX
  unfold foldP at h
  split at h
  · rename_i es
    split at h
    · rename_i m r hn
      split at h
      · rename_i hl
        obtain rfl := intsV_ok hn
        simp only [Option.some.injEq, Prod.mk.injEq] at h
        obtain ⟨rfl, rfl, rfl⟩ := h
        simp only [VAs, VA, VP] at hv
        obtain ⟨u, _, rfl, ⟨ad, len, cap, rfl, rfl, e2, e3⟩, rfl⟩ := hv
        obtain ⟨b, o, sz, rfl, _, e4⟩ := e3 (by simp)
        have hsz : sz = 1 := by
          simp only [List.map_cons, VElems, i64C] at e4
          exact e4.1.symm
        subst hsz
        have hc : ∀ (j : Nat) (n : Int), (m :: r)[j]? = some n → w.cell? ⟨b, o + j, none⟩ = some (.int .i64 n) := velems_of e4
        have hlen : ((m :: r).map i64C).length = (m :: r).length := List.length_map ..
        rw [hlen] at *
        refine (h1 b o (m :: r).length cap (m :: r) w (by simp) (Nat.le_refl _) (by omega) (fun j hj => ?_)).mono fun e w' hh => ?_
        · have hj' : j < (m :: r).length := hj
          rw [hc j (m :: r)[j] (List.getElem?_eq_getElem hj'), List.getD_eq_getElem?_getD, List.getElem?_eq_getElem hj']
          rfl
        · obtain ⟨rfl, rfl⟩ := hh
          rw [List.take_length]
          exact ⟨_, M, rfl, R, by simp only [VA, VP]⟩
      · simp at h
    · simp at h
  · simp at h
theorem fold_ok {T : Tab} {n : Nat} {f : List Int → Int} (S : StdP T n (foldP f)) (ns : List Int) (h : ns ≠ []) (hl : ns.length ≤ 2 ^ 30) : Gives T n [.slice (ns.map i64C)] (.int .i64 (f ns)) := by
  refine ⟨S.raw, S.own, none, ?_⟩
  have : foldP f (pvs [.slice (ns.map i64C)]) [] 0 = some (.pv (.int .i64 (f ns)), [], 0) := by
    cases ns with
    | nil => exact absurd rfl h
    | cons m r => simp only [pvs, foldP, intsV_map]; rw [if_pos hl]
  unfold callP
  rw [D_prim S.prim this]
  simp only [snapV, snapR, ownSz]
/-! ### Rising, each once -/
def risesL (ns : List Int) : List Int := compL (sortL ns)
theorem risesL_le (ns : List Int) : (risesL ns).length ≤ ns.length := by
  have h1 := compL_le (sortL ns)
  rw [sortL_length] at h1
  exact h1
end Go.Proofs.YtlfphlobcopemaaDoor.Ab
set_option linter.unusedVariables false
set_option linter.unusedSimpArgs false
namespace Go.Proofs.YtlfphlobcopemaaDoor.Ab
open Go
def Own (v : AV) (hp : Hl) (sz : Nat) (es : List (List PV)) (lo nx : Nat) : Prop := (es = [] ∧ v = .nils) ∨ ∃ id, v = .ms id ∧ lo ≤ id ∧ id < nx ∧ blkAt hp id = .row sz es
section
variable {v : AV} {hp hp' : Hl} {sz lo nx nx' : Nat} {es : List (List PV)}
theorem Own.nil : Own .nils hp sz [] lo nx := .inl ⟨rfl, rfl⟩
theorem Own.mono (h : Own v hp sz es lo nx) (h1 : ∀ k, lo ≤ k → k < nx → blkAt hp' k = blkAt hp k) (h2 : nx ≤ nx') : Own v hp' sz es lo nx' := by
  rcases h with h | ⟨id, a, b, c, d⟩
  · exact .inl h
  · exact .inr ⟨id, a, b, by omega, by rw [h1 id b c, d]⟩
theorem Own.push (h : Own v hp sz es lo nx) (b : Blk) : Own v ((nx, b) :: hp) sz es lo (nx + 1) := by
  refine h.mono (fun k h1 h2 => ?_) (Nat.le_succ _)
  have : ¬ nx = k := by omega
  simp only [blkAt_if, this, if_false]
theorem Own.over (h : Own v hp sz es lo nx) {i : Nat} {b : Blk} (hi : i < lo ∨ nx ≤ i) : Own v ((i, b) :: hp) sz es lo nx := by
  refine h.mono (fun k h1 h2 => ?_) (Nat.le_refl _)
  have : ¬ i = k := by omega
  simp only [blkAt_if, this, if_false]
theorem Own.up (h : Own v hp sz es lo nx) (h2 : nx ≤ nx') : Own v hp sz es lo nx' := h.mono (fun k _ _ => rfl) h2
theorem Own.snap (h : Own v hp sz es lo nx) : snapV (blkAt hp) v = some (.slice es) := by
  rcases h with ⟨rfl, rfl⟩ | ⟨id, rfl, b, c, d⟩
  · rfl
  · simp only [snapV, snapR, d]
theorem Own.src (h : Own v hp sz es lo nx) : srcV (blkAt hp) v = some es := by
  rcases h with ⟨rfl, rfl⟩ | ⟨id, rfl, b, c, d⟩
  · rfl
  · simp only [srcV, d]
theorem Own.len (h : Own v hp sz es lo nx) : lenV (blkAt hp) v = some es.length := by
  rcases h with ⟨rfl, rfl⟩ | ⟨id, rfl, b, c, d⟩
  · rfl
  · simp only [lenV, d]
theorem Own.app (h : Own v hp sz es lo nx) (hlo : lo ≤ nx) (es' : List (List PV)) (hl : es.length + es'.length ≤ 2 ^ 30) :
    ∃ v' W n, appV (blkAt hp) nx sz v es' = some (v', W, n) ∧ (∀ k, k < lo → blkAt (W ++ hp) k = blkAt hp k) ∧ Own v' (W ++ hp) sz (es ++ es') lo (nx + n) := by
  rcases h with ⟨rfl, rfl⟩ | ⟨id, rfl, b, c, d⟩
  · cases es' with
    | nil => exact ⟨.nils, [], 0, rfl, fun k _ => rfl, .inl ⟨rfl, rfl⟩⟩
    | cons e r =>
      have hl' : (e :: r).length ≤ 2 ^ 30 := by simpa using hl
      refine ⟨.ms nx, [(nx, .row sz (e :: r))], 1, by simp only [appV, hl', if_true], fun k hk => ?_, .inr ⟨nx, rfl, hlo, by omega, ?_⟩⟩
      · have : ¬ nx = k := by omega
        simp only [List.cons_append, List.nil_append, blkAt_if, this, if_false]
      · simp only [List.cons_append, List.nil_append, blkAt_if, if_true]
  · refine ⟨.ms nx, [(id, .dead), (nx, .row sz (es ++ es'))], 1, ?_, fun k hk => ?_, .inr ⟨nx, rfl, hlo, by omega, ?_⟩⟩
    · simp only [appV, baseV, d, beq_self, hl, if_true]
    · have h1 : ¬ nx = k := by omega
      have h2 : ¬ id = k := by omega
      simp only [List.cons_append, List.nil_append, blkAt_if, h1, h2, if_false]
    · have h2 : ¬ id = nx := by omega
      simp only [List.cons_append, List.nil_append, blkAt_if, h2, if_true, if_false]
theorem Own.app1 (h : Own v hp sz es lo nx) (hlo : lo ≤ nx) (e : List PV) (hl : es.length + 1 ≤ 2 ^ 30) :
    ∃ v' W n, appV (blkAt ((nx, .row sz [e]) :: hp)) (nx + 1) sz v [e] = some (v', W, n) ∧ (∀ k, k < lo → blkAt (W ++ (nx, .row sz [e]) :: hp) k = blkAt hp k) ∧ Own v' (W ++ (nx, .row sz [e]) :: hp) sz (es ++ [e]) lo (nx + 1 + n) := by
  obtain ⟨v', W, n, h1, h2, h3⟩ := (h.push (.row sz [e])).app (by omega) [e] hl
  refine ⟨v', W, n, h1, fun k hk => ?_, h3⟩
  have : ¬ nx = k := by omega
  rw [h2 k hk]
  simp only [blkAt_if, this, if_false]
end
end Go.Proofs.YtlfphlobcopemaaDoor.Ab
set_option linter.unusedVariables false
namespace Go.Proofs.YtlfphlobcopemaaDoor.Ab
def f82l0 : ACode :=
 (.seq (.ops [
   ⟨some 12, .bin .lss none (.t 11) (.t 10), none, []⟩])
  (.seq (.cond (.t 12)
   .skip
   (.exit 0))
  (.seq (.block 1
   (.seq (.ops [
     ⟨some 13, .idxAddr 10 (.t 9) (.t 11), none, []⟩,
     ⟨some 14, .load true 10 (.t 13), none, [0]⟩,
     ⟨some 7, .alloc [(.pv (.int .i64 0)), (.pv (.int .i64 0)), (.pv (.int .u64 0)), (.pv (.int .u64 0)), (.pv (.int .u64 0)), (.pv (.int .u64 0)), (.pv (.int .u64 0)), (.pv (.int .u64 0)), (.pv (.int .u64 0)), (.pv (.int .u64 0))], none, []⟩,
     ⟨none, .store 10 (.t 7) (.t 14), none, [2, 1, 0, 1, 2]⟩])
    (.seq (.ops [
     ⟨some 15, .fieldAddr 0 (.t 7), none, []⟩,
     ⟨some 16, .load false 1 (.t 15), none, [0]⟩,
     ⟨some 17, .mv (.t 1), none, []⟩,
     ⟨some 18, .bin .eql none (.t 16) (.t 17), none, [1, 2]⟩])
    (.cond (.t 18)
     (.seq (.ops [
       ⟨some 19, .load true 10 (.t 7), none, []⟩,
       ⟨none, .store 10 (.t 4) (.t 19), none, [0, 0]⟩,
       ⟨some 5, .mv (.c (.pv (.bool true))), none, [1, 0, 1]⟩])
      .ret)
     .skip))))
  (.ops [
   ⟨some 20, .bin .add none (.t 11) (.c (.pv (.int .i64 1))), none, []⟩,
   ⟨some 11, .mv (.t 20), none, [0]⟩]))))
def f82 : AFunc := ⟨22, [.cell 4 true 10, .t 5],
 (.seq (.ops [
   ⟨some 2, .box (.t 0), none, []⟩,
   ⟨some 4, .alloc [(.pv (.int .i64 0)), (.pv (.int .i64 0)), (.pv (.int .u64 0)), (.pv (.int .u64 0)), (.pv (.int .u64 0)), (.pv (.int .u64 0)), (.pv (.int .u64 0)), (.pv (.int .u64 0)), (.pv (.int .u64 0)), (.pv (.int .u64 0))], none, []⟩,
   ⟨some 5, .mv (.c (.pv (.bool false))), none, []⟩])
  (.seq (.seq (.ops [
   ⟨some 8, .fieldAddr 0 (.t 2), none, []⟩,
   ⟨some 9, .load false 1 (.t 8), none, [0]⟩,
   ⟨some 10, .len (.t 9), none, [1]⟩,
   ⟨some 11, .mv (.c (.pv (.int .i64 0))), none, []⟩])
  (.block 0
   (.loop f82l0)))
  (.seq (.ops [
   ⟨some 21, .build [(.pv (.int .i64 0)), (.pv (.int .i64 0)), (.pv (.int .u64 0)), (.pv (.int .u64 0)), (.pv (.int .u64 0)), (.pv (.int .u64 0)), (.pv (.int .u64 0)), (.pv (.int .u64 0)), (.pv (.int .u64 0)), (.pv (.int .u64 0))] [], none, []⟩,
   ⟨none, .store 10 (.t 4) (.t 21), none, [0, 0]⟩,
   ⟨some 5, .mv (.c (.pv (.bool false))), none, [1, 0, 1]⟩])
  .ret)))⟩
def f153 : AFunc := ⟨19, [.t 2],
 (.seq (.ops [
   ⟨some 1, .box (.t 0), none, []⟩,
   ⟨some 2, .mv (.c (.pv (.bool false))), none, []⟩])
  (.seq (.ops [
   ⟨some 3, .fieldAddr 0 (.t 1), none, []⟩,
   ⟨some 4, .load false 1 (.t 3), none, [0]⟩,
   ⟨some 5, .len (.t 4), none, [1]⟩,
   ⟨some 6, .bin .leq none (.t 5) (.c (.pv (.int .i64 40))), none, [2]⟩,
   ⟨some 7, .mv (.t 6), none, [3]⟩,
   ⟨some 8, .fieldAddr 1 (.t 1), some (7, true), [4]⟩,
   ⟨some 9, .load false 1 (.t 8), some (7, true), [5, 4]⟩,
   ⟨some 10, .len (.t 9), some (7, true), [6, 4]⟩,
   ⟨some 11, .bin .leq none (.t 10) (.c (.pv (.int .i64 40))), some (7, true), [7, 4]⟩,
   ⟨some 12, .pick (.t 7) (.t 11) (.c (.pv (.bool false))), none, [4, 8]⟩,
   ⟨some 13, .mv (.t 12), none, [9, 4]⟩,
   ⟨some 14, .fieldAddr 2 (.t 1), some (13, true), [10]⟩,
   ⟨some 15, .load false 1 (.t 14), some (13, true), [11, 10]⟩,
   ⟨some 16, .len (.t 15), some (13, true), [12, 10]⟩,
   ⟨some 17, .bin .leq none (.t 16) (.c (.pv (.int .i64 40))), some (13, true), [13, 10]⟩,
   ⟨some 18, .pick (.t 13) (.t 17) (.c (.pv (.bool false))), none, [10, 14]⟩,
   ⟨some 2, .mv (.t 18), none, [15, 10, 0, 1, 2, 3, 4, 5, 6, 7, 8, 9, 10, 11, 12, 13, 14, 15]⟩])
  .ret))⟩
def f163 : AFunc := ⟨23, [.t 6],
 (.seq (.ops [
   ⟨some 3, .box (.t 0), none, []⟩,
   ⟨some 4, .box (.t 1), none, []⟩,
   ⟨some 5, .box (.t 2), none, []⟩,
   ⟨some 6, .mv (.c (.pv (.bool false))), none, []⟩])
  (.seq (.ops [
   ⟨some 8, .load true 3 (.t 3), none, []⟩,
   ⟨some 9, .call 153 [(.t 8)], none, [0]⟩,
   ⟨some 7, .mv (.t 9), none, [1, 1, 0, 1]⟩])
  (.seq (.ops [
   ⟨some 10, .mv (.t 7), none, []⟩,
   ⟨some 11, .mv (.t 10), none, [0]⟩,
   ⟨some 12, .fieldAddr 0 (.t 4), some (11, true), [1]⟩,
   ⟨some 13, .load false 1 (.t 12), some (11, true), [2, 1]⟩,
   ⟨some 14, .len (.t 13), some (11, true), [3, 1]⟩,
   ⟨some 15, .bin .leq none (.t 14) (.c (.pv (.int .i64 40))), some (11, true), [4, 1]⟩,
   ⟨some 16, .pick (.t 11) (.t 15) (.c (.pv (.bool false))), none, [1, 5]⟩,
   ⟨some 17, .mv (.t 16), none, [6, 1]⟩,
   ⟨some 18, .fieldAddr 0 (.t 5), some (17, true), [7]⟩,
   ⟨some 19, .load false 1 (.t 18), some (17, true), [8, 7]⟩,
   ⟨some 20, .len (.t 19), some (17, true), [9, 7]⟩,
   ⟨some 21, .bin .leq none (.t 20) (.c (.pv (.int .i64 40))), some (17, true), [10, 7]⟩,
   ⟨some 22, .pick (.t 17) (.t 21) (.c (.pv (.bool false))), none, [7, 11]⟩,
   ⟨some 6, .mv (.t 22), none, [12, 7, 0, 1, 2, 3, 4, 5, 6, 7, 8, 9, 10, 11, 12]⟩])
  .ret)))⟩
end Go.Proofs.YtlfphlobcopemaaDoor.Ab
set_option linter.unusedVariables false
set_option linter.unusedSimpArgs false
namespace Go.Proofs.YtlfphlobcopemaaDoor.Ab
open Go
def few3 (s : Snap) : Bool := decide ((s.nodes.length : Int) ≤ 40) && (decide ((s.loads.length : Int) ≤ 40) && decide ((s.pods.length : Int) ≤ 40))
theorem few3_ok {T : Tab} (h153 : Std T 153 f153) (s : Snap) : Gives T 153 [snapP s] (.bool (few3 s)) := by
  refine gives h153 rfl ?_
  unfold few3
  by_cases h1 : (s.nodes.length : Int) ≤ 40 <;> by_cases h2 : (s.loads.length : Int) ≤ 40 <;> by_cases h3 : (s.pods.length : Int) ≤ 40 <;>
    simp only [f153, runL, opQ, evOp, evO, evOs, guardV, argsA, pvs, putS, cellsOf, scals, scal, Nat.reduceEqDiff, Nat.reduceAdd, reduceCtorEq, fieldA, nonNil, cellsAt, mkAgg, allPV, storeB, patchL, Int.reduceToNat, Nat.reduceMul, Nat.reduceLT, stepA, Int.reduceNeg, Int.reduceLE, Int.reduceLT, Int.reduceEq, extractV, mkAgg, Nat.reduceLeDiff, fillA, pureVs, pureV, eqV, eqB, lenV, binV, intBin, intV, idxA, List.drop, List.take, RetP, retP, resV, resOne, snapV, snapVs, snapR, snapRs, ownSz, pickV, AO.isC, opE, opD, funV, snapP, List.length_map, h1, h2, h3, decide_true, decide_false, Bool.and_true, Bool.true_and, Bool.and_false, Bool.false_and]
def few5 (s : Snap) (x : Spec) (t : State) : Bool := few3 s && (decide ((x.wants.length : Int) ≤ 40) && decide ((t.pods.length : Int) ≤ 40))
theorem few5_ok {T : Tab} (h163 : Std T 163 f163) (h153 : Std T 153 f153) (s : Snap) (x : Spec) (t : State) : Gives T 163 [snapP s, specP x, stateP t] (.bool (few5 s x t)) := by
  refine gives h163 rfl ?_
  unfold few5
  cases hc : few3 s <;> by_cases h1 : (x.wants.length : Int) ≤ 40 <;> by_cases h2 : (t.pods.length : Int) ≤ 40 <;>
    simp only [f163, runL, opQ, evOp, evO, evOs, guardV, argsA, pvs, putS, cellsOf, scals, scal, Nat.reduceEqDiff, Nat.reduceAdd, reduceCtorEq, fieldA, nonNil, cellsAt, mkAgg, allPV, storeB, patchL, Int.reduceToNat, Nat.reduceMul, Nat.reduceLT, stepA, Int.reduceNeg, Int.reduceLE, Int.reduceLT, Int.reduceEq, extractV, mkAgg, Nat.reduceLeDiff, fillA, pureVs, pureV, eqV, eqB, lenV, binV, intBin, intV, idxA, List.drop, List.take, RetP, retP, resV, resOne, snapV, snapVs, snapR, snapRs, ownSz, pickV, AO.isC, opE, opD, funV, snapP, specP, stateP, (few3_ok h153 s).call, hc, List.length_map, h1, h2, decide_true, decide_false, Bool.and_true, Bool.true_and, Bool.and_false, Bool.false_and]
end Go.Proofs.YtlfphlobcopemaaDoor.Ab
set_option linter.unusedVariables false
set_option linter.unusedSimpArgs false
namespace Go.Proofs.YtlfphlobcopemaaDoor.Ab
open Go
section
variable {T : Tab}
structure Cln (T : Tab) (n sz : Nat) : Prop where
  prim : T.prim n = some (cloneP sz)
  raw : T.raw n = false
  own : T.own n = true
theorem Cln.call {n sz : Nat} (S : Cln T n sz) {es : List (List PV)} (h : allLen sz es = true) (hl : es.length ≤ 2 ^ 30) (d : Option Nat) (l : List AOper) (st : St) (K : St → Prop) :
    callQ T n [.pv (.slice es)] d l st K ↔ WpO T l (match es with | [] => ⟨putS st d (.pv (.slice [])), st.hp, st.nx⟩ | e :: r => ⟨putS st d (.ms st.nx), (st.nx, .row sz (e :: r)) :: st.hp, st.nx + 1⟩) K := by
  cases es with
  | nil =>
    have hc : callP (D T) n [.slice []] = some (none, .slice []) := by
      unfold callP
      rw [D_prim S.prim (show cloneP sz (pvs [.slice []]) [] 0 = some (.pv (.slice []), [], 2) from rfl)]
      rfl
    rw [callQ_pure S.raw rfl hc, S.own]
    rfl
  | cons e r =>
    have hc : callP (D T) n [.slice (e :: r)] = some (some sz, .slice (e :: r)) := by
      unfold callP
      rw [D_prim S.prim (show cloneP sz (pvs [.slice (e :: r)]) [] 0 = some (.ms 1, [(1, .row sz (e :: r))], 2) from by
        simp only [cloneP, pvs]; rw [if_pos ⟨h, hl⟩])]
      rfl
    rw [callQ_pure S.raw rfl hc, S.own]
    rfl
theorem allLen_pods (l : List Pod) : allLen 8 (l.map podC) = true := by
  simp [allLen, podC]
end
end Go.Proofs.YtlfphlobcopemaaDoor.Ab
set_option linter.unusedVariables false
set_option linter.unusedSimpArgs false
namespace Go.Proofs.YtlfphlobcopemaaDoor.Ab
open Go
/-! ### Calls in the caller's blocks -/
theorem callQ_raw {T : Tab} {n : Nat} {args : List AV} {d : Option Nat} {l : List AOper} {st : St} {K : St → Prop} {v : AV} {hp : Hl} {nx : Nat} (hr : T.raw n = true) (h : D T n args st.hp st.nx = some (v, hp, nx)) :
    callQ T n args d l st K ↔ WpO T l ⟨putS st d v, hp, nx⟩ K := by
  unfold callQ doCall
  simp only [hr, h, Option.some.injEq]
  constructor
  · rintro ⟨_, rfl, h⟩; exact h
  · exact fun h => ⟨_, rfl, h⟩
structure StdR (T : Tab) (n : Nat) (f : AFunc) : Prop where
  prim : T.prim n = none
  fn : T.fn n = some f
  still : T.still n = false
  raw : T.raw n = true
def node0 : Node := ⟨0, 0, ⟨0, 0, 0, 0⟩, ⟨0, 0, 0, 0⟩⟩
def nodeOf (id : Int) (l : List Node) : Option Node := l.find? (fun n => decide (n.id = id))
def nodeR : Option Node → PV
  | some n => .tuple [.agg (nodeC n), .bool true]
  | none => .tuple [.agg (nodeC node0), .bool false]
theorem node_loop {T : Tab} (l : List Node) (id : Int) (hl : l.length ≤ 2 ^ 30) (Q : Exit → St → Prop) (o : Option Node)
    (hend : o = none → ∀ fr hp nx, look fr 4 = .ptr 1 0 0 → blkAt hp 1 = .var (pvs (nodeC node0)) → Q (.exit 0) ⟨fr, hp, nx⟩)
    (hret : ∀ n, o = some n → ∀ fr hp nx, look fr 4 = .ptr 1 0 0 → look fr 5 = .pv (.bool true) → blkAt hp 1 = .var (pvs (nodeC n)) → Q .ret ⟨fr, hp, nx⟩) :
    ∀ (rest : List Node) (i : Nat), l.drop i = rest → i ≤ l.length → nodeOf id rest = o → ∀ (fr : List (Nat × AV)) (hp : Hl) (nx : Nat), 2 ≤ nx → look fr 4 = .ptr 1 0 0 → blkAt hp 1 = .var (pvs (nodeC node0)) →
      look fr 1 = .pv (.int .i64 id) → look fr 9 = .pv (.slice (l.map nodeC)) → look fr 10 = .pv (.int .i64 l.length) → look fr 11 = .pv (.int .i64 i) → Wp T false (.loop f82l0) ⟨fr, hp, nx⟩ Q := by
  intro rest
  induction rest with
  | nil =>
    intro i hd hi ho fr hp nx hn h4 b1 h1 h9 h10 h11
    have hlen := drop_nil hd hi
    rw [Wp_loop, Wp_eq f82l0.eq_1]
    simp only [runL, opQ, evOp, evO, evOs, guardV, argsA, pvs, putS, cellsOf, scals, scal, Nat.reduceEqDiff, Nat.reduceAdd, reduceCtorEq, fieldA, nonNil, cellsAt, mkAgg, allPV, storeB, patchL, Int.reduceToNat, Nat.reduceMul, Nat.reduceLT, stepA, Int.reduceNeg, Int.reduceLE, Int.reduceLT, Int.reduceEq, extractV, mkAgg, Nat.reduceLeDiff, fillA, pureVs, pureV, eqV, eqB, lenV, binV, intBin, intV, idxA, List.drop, List.take, RetP, retP, resV, resOne, snapV, snapVs, snapR, snapRs, ownSz, pickV, AO.isC, opE, opD, funV, h4, h1, h9, h10, h11, hlen, Int.lt_irrefl]
    refine hend ho.symm _ _ _ ?_ b1
    simp only [look_if, Nat.reduceEqDiff, if_false, h4]
  | cons n r ih =>
    intro i hd hi ho fr hp nx hn h4 b1 h1 h9 h10 h11
    obtain ⟨hget, hlt, hw, hd', hi', hb⟩ := drop_cons hd hl
    have n1 : ¬ nx = 1 := by omega
    have b1' := b1
    simp only [nodeC, node0, pvs] at b1'
    rw [Wp_loop, Wp_eq f82l0.eq_1]
    by_cases hk : n.id = id
    · simp only [runL, opQ, evOp, evO, evOs, guardV, argsA, pvs, putS, cellsOf, scals, scal, Nat.reduceEqDiff, Nat.reduceAdd, reduceCtorEq, fieldA, nonNil, cellsAt, mkAgg, allPV, storeB, patchL, Int.reduceToNat, Nat.reduceMul, Nat.reduceLT, stepA, Int.reduceNeg, Int.reduceLE, Int.reduceLT, Int.reduceEq, extractV, mkAgg, Nat.reduceLeDiff, fillA, pureVs, pureV, eqV, eqB, lenV, binV, intBin, intV, idxA, List.drop, List.take, RetP, retP, resV, resOne, snapV, snapVs, snapR, snapRs, ownSz, pickV, AO.isC, opE, opD, funV, h4, b1', h1, h9, h10, h11, hlt, hget, nodeC, n1, hk]
      refine hret n (by rw [← ho]; simp [nodeOf, hk]) _ _ _ ?_ ?_ ?_
      all_goals simp only [look_if, blkAt_if, Nat.reduceEqDiff, if_true, if_false, h4, n1, nodeC, pvs, hk]
    · simp only [runL, opQ, evOp, evO, evOs, guardV, argsA, pvs, putS, cellsOf, scals, scal, Nat.reduceEqDiff, Nat.reduceAdd, reduceCtorEq, fieldA, nonNil, cellsAt, mkAgg, allPV, storeB, patchL, Int.reduceToNat, Nat.reduceMul, Nat.reduceLT, stepA, Int.reduceNeg, Int.reduceLE, Int.reduceLT, Int.reduceEq, extractV, mkAgg, Nat.reduceLeDiff, fillA, pureVs, pureV, eqV, eqB, lenV, binV, intBin, intV, idxA, List.drop, List.take, RetP, retP, resV, resOne, snapV, snapVs, snapR, snapRs, ownSz, pickV, AO.isC, opE, opD, funV, h4, b1', h1, h9, h10, h11, hlt, hget, nodeC, n1, hk, hw]
      refine ih (i + 1) hd' hi' (by rw [← ho]; simp [nodeOf, hk]) _ _ _ (by omega) ?_ ?_ ?_ ?_ ?_ ?_
      all_goals simp only [look_if, blkAt_if, Nat.reduceEqDiff, if_true, if_false, h4, b1, n1, h1, h9, h10]
theorem node_ok {T : Tab} (h : Std T 82 f82) (s : Snap) (id : Int) (hl : s.nodes.length ≤ 2 ^ 30) : Gives T 82 [snapP s, .int .i64 id] (nodeR (nodeOf id s.nodes)) := by
  refine gives h rfl ?_
  simp only [f82, runL, opQ, evOp, evO, evOs, guardV, argsA, pvs, putS, cellsOf, scals, scal, Nat.reduceEqDiff, Nat.reduceAdd, reduceCtorEq, fieldA, nonNil, cellsAt, mkAgg, allPV, storeB, patchL, Int.reduceToNat, Nat.reduceMul, Nat.reduceLT, stepA, Int.reduceNeg, Int.reduceLE, Int.reduceLT, Int.reduceEq, extractV, mkAgg, Nat.reduceLeDiff, fillA, pureVs, pureV, eqV, eqB, lenV, binV, intBin, intV, idxA, List.drop, List.take, RetP, retP, resV, resOne, snapV, snapVs, snapR, snapRs, ownSz, pickV, AO.isC, opE, opD, funV, snapP]
  refine node_loop s.nodes id hl _ (nodeOf id s.nodes) (fun ho fr hp nx h4 b1 => ?_) (fun n ho fr hp nx h4 h5 b1 => ?_) s.nodes 0 rfl (Nat.zero_le _) rfl _ _ _ (Nat.le_refl _) rfl rfl rfl rfl rfl rfl
  · simp only [nodeC, node0, pvs] at b1
    simp only [runL, opQ, evOp, evO, evOs, guardV, argsA, pvs, putS, cellsOf, scals, scal, Nat.reduceEqDiff, Nat.reduceAdd, reduceCtorEq, fieldA, nonNil, cellsAt, mkAgg, allPV, storeB, patchL, Int.reduceToNat, Nat.reduceMul, Nat.reduceLT, stepA, Int.reduceNeg, Int.reduceLE, Int.reduceLT, Int.reduceEq, extractV, mkAgg, Nat.reduceLeDiff, fillA, pureVs, pureV, eqV, eqB, lenV, binV, intBin, intV, idxA, List.drop, List.take, RetP, retP, resV, resOne, snapV, snapVs, snapR, snapRs, ownSz, pickV, AO.isC, opE, opD, funV, ho, nodeR, h4, b1, nodeC, node0]
  · simp only [nodeC, pvs] at b1
    simp only [runL, opQ, evOp, evO, evOs, guardV, argsA, pvs, putS, cellsOf, scals, scal, Nat.reduceEqDiff, Nat.reduceAdd, reduceCtorEq, fieldA, nonNil, cellsAt, mkAgg, allPV, storeB, patchL, Int.reduceToNat, Nat.reduceMul, Nat.reduceLT, stepA, Int.reduceNeg, Int.reduceLE, Int.reduceLT, Int.reduceEq, extractV, mkAgg, Nat.reduceLeDiff, fillA, pureVs, pureV, eqV, eqB, lenV, binV, intBin, intV, idxA, List.drop, List.take, RetP, retP, resV, resOne, snapV, snapVs, snapR, snapRs, ownSz, pickV, AO.isC, opE, opD, funV, ho, nodeR, h4, h5, b1, nodeC]
end Go.Proofs.YtlfphlobcopemaaDoor.Ab
set_option linter.unusedVariables false
set_option linter.unusedSimpArgs false
namespace Go.Proofs.YtlfphlobcopemaaDoor.Ab
open Go
end Go.Proofs.YtlfphlobcopemaaDoor.Ab
set_option linter.unusedVariables false
namespace Go.Proofs.YtlfphlobcopemaaDoor.Ab
open Go
def f62 : AFunc := ⟨33, [.t 2],
 (.seq (.ops [
   ⟨some 2, .mv (.c (.pv (.int .u64 0))), none, []⟩])
  (.seq (.draw [
   ⟨some 3, .mv (.t 0), none, []⟩,
   ⟨some 4, .nilchk (.t 3), none, [0]⟩,
   ⟨some 5, .load false 1 (.t 4), none, [1]⟩,
   ⟨some 6, .mv (.t 0), none, []⟩,
   ⟨some 7, .nilchk (.t 6), none, [3]⟩,
   ⟨some 8, .load false 1 (.t 7), none, [4]⟩,
   ⟨some 9, .bin .shl none (.t 8) (.c (.pv (.int .u64 13))), none, [5]⟩,
   ⟨some 10, .bin .xor none (.t 5) (.t 9), none, [2, 6]⟩,
   ⟨some 11, .nilchk (.t 3), none, [0, 0, 1, 2, 3, 4, 5, 6, 7]⟩,
   ⟨none, .store 1 (.t 11) (.t 10), none, [8, 7, 0, 1, 2, 3, 4, 5, 6, 7]⟩])
  (.seq (.draw [
   ⟨some 12, .mv (.t 0), none, []⟩,
   ⟨some 13, .nilchk (.t 12), none, [0]⟩,
   ⟨some 14, .load false 1 (.t 13), none, [1]⟩,
   ⟨some 15, .mv (.t 0), none, []⟩,
   ⟨some 16, .nilchk (.t 15), none, [3]⟩,
   ⟨some 17, .load false 1 (.t 16), none, [4]⟩,
   ⟨some 18, .bin .shr none (.t 17) (.c (.pv (.int .u64 7))), none, [5]⟩,
   ⟨some 19, .bin .xor none (.t 14) (.t 18), none, [2, 6]⟩,
   ⟨some 20, .nilchk (.t 12), none, [0, 0, 1, 2, 3, 4, 5, 6, 7]⟩,
   ⟨none, .store 1 (.t 20) (.t 19), none, [8, 7, 0, 1, 2, 3, 4, 5, 6, 7]⟩])
  (.seq (.draw [
   ⟨some 21, .mv (.t 0), none, []⟩,
   ⟨some 22, .nilchk (.t 21), none, [0]⟩,
   ⟨some 23, .load false 1 (.t 22), none, [1]⟩,
   ⟨some 24, .mv (.t 0), none, []⟩,
   ⟨some 25, .nilchk (.t 24), none, [3]⟩,
   ⟨some 26, .load false 1 (.t 25), none, [4]⟩,
   ⟨some 27, .bin .shl none (.t 26) (.c (.pv (.int .u64 17))), none, [5]⟩,
   ⟨some 28, .bin .xor none (.t 23) (.t 27), none, [2, 6]⟩,
   ⟨some 29, .nilchk (.t 21), none, [0, 0, 1, 2, 3, 4, 5, 6, 7]⟩,
   ⟨none, .store 1 (.t 29) (.t 28), none, [8, 7, 0, 1, 2, 3, 4, 5, 6, 7]⟩])
  (.seq (.ops [
   ⟨some 30, .mv (.t 0), none, []⟩,
   ⟨some 31, .nilchk (.t 30), none, [0]⟩,
   ⟨some 32, .load false 1 (.t 31), none, [1]⟩,
   ⟨some 2, .mv (.t 32), none, [2, 0, 1, 2]⟩])
  .ret)))))⟩
def f65 : AFunc := ⟨17, [.t 4],
 (.seq (.ops [
   ⟨some 4, .mv (.c (.pv (.bool false))), none, []⟩])
  (.seq (.ops [
   ⟨some 5, .mv (.t 0), none, []⟩,
   ⟨some 6, .call 66 [(.t 5)], none, [0]⟩,
   ⟨some 7, .mv (.t 6), none, [1, 1]⟩,
   ⟨some 8, .mv (.t 1), some (7, true), [2]⟩,
   ⟨some 9, .call 66 [(.t 8)], some (7, true), [3, 2, 2]⟩,
   ⟨some 10, .not (.t 9), some (7, true), [4, 2]⟩,
   ⟨some 11, .pick (.t 7) (.t 10) (.c (.pv (.bool false))), none, [2, 5]⟩,
   ⟨some 12, .mv (.t 11), none, [6, 4]⟩,
   ⟨some 13, .mv (.t 0), some (12, false), [7]⟩,
   ⟨some 14, .mv (.t 1), some (12, false), [7]⟩,
   ⟨some 15, .bin .lss none (.t 13) (.t 14), some (12, false), [8, 9, 7]⟩,
   ⟨some 16, .pick (.t 12) (.c (.pv (.bool true))) (.t 15), none, [7, 10]⟩,
   ⟨some 4, .mv (.t 16), none, [11, 7, 0, 1, 2, 3, 4, 5, 6, 7, 8, 9, 10, 11]⟩])
  .ret))⟩
def f84l0 : ACode :=
 (.seq (.ops [
   ⟨some 10, .bin .lss none (.t 9) (.t 8), none, []⟩])
  (.seq (.cond (.t 10)
   .skip
   (.exit 0))
  (.seq (.block 1
   (.seq (.ops [
     ⟨some 11, .idxAddr 10 (.t 7) (.t 9), none, []⟩,
     ⟨some 12, .load true 10 (.t 11), none, [0]⟩,
     ⟨some 5, .alloc [(.pv (.int .i64 0)), (.pv (.int .i64 0)), (.pv (.int .u64 0)), (.pv (.int .u64 0)), (.pv (.int .u64 0)), (.pv (.int .u64 0)), (.pv (.int .u64 0)), (.pv (.int .u64 0)), (.pv (.int .u64 0)), (.pv (.int .u64 0))], none, []⟩,
     ⟨none, .store 10 (.t 5) (.t 12), none, [2, 1, 0, 1, 2]⟩])
    (.ops [
     ⟨some 13, .mv (.t 3), none, []⟩,
     ⟨some 14, .fieldAddr 1 (.t 5), none, []⟩,
     ⟨some 15, .load false 1 (.t 14), none, [1]⟩,
     ⟨some 16, .bslice 1 1 [(.pv (.int .i64 0))] [(0, 1, (.t 15))], none, [2]⟩,
     ⟨some 17, .append 1 8 (.t 13) (.t 16), none, [0, 3]⟩,
     ⟨some 3, .mv (.t 17), none, [4, 4, 0, 1, 2, 3, 4]⟩])))
  (.ops [
   ⟨some 18, .bin .add none (.t 9) (.c (.pv (.int .i64 1))), none, []⟩,
   ⟨some 9, .mv (.t 18), none, [0]⟩]))))
def f84 : AFunc := ⟨23, [.t 2],
 (.seq (.ops [
   ⟨some 1, .box (.t 0), none, []⟩,
   ⟨some 2, .mv (.c .nils), none, []⟩])
  (.seq (.ops [
   ⟨some 3, .mv (.c .nils), none, []⟩])
  (.seq (.seq (.ops [
   ⟨some 6, .fieldAddr 0 (.t 1), none, []⟩,
   ⟨some 7, .load false 1 (.t 6), none, [0]⟩,
   ⟨some 8, .len (.t 7), none, [1]⟩,
   ⟨some 9, .mv (.c (.pv (.int .i64 0))), none, []⟩])
  (.block 0
   (.loop f84l0)))
  (.seq (.ops [
   ⟨some 19, .mv (.t 3), none, []⟩,
   ⟨some 20, .call 293 [(.t 19)], none, [0]⟩])
  (.seq (.ops [
   ⟨some 21, .mv (.t 3), none, []⟩,
   ⟨some 22, .call 281 [(.t 21)], none, [0]⟩,
   ⟨some 2, .mv (.t 22), none, [1, 1, 0, 1]⟩])
  .ret)))))⟩
def f234l0 : ACode :=
 (.seq (.ops [
   ⟨some 11, .bin .lss none (.t 10) (.t 9), none, []⟩])
  (.seq (.cond (.t 11)
   .skip
   (.exit 0))
  (.seq (.block 1
   (.seq (.ops [
     ⟨some 12, .mv (.t 10), none, []⟩,
     ⟨some 13, .idxAddr 5 (.t 8) (.t 10), none, []⟩,
     ⟨some 14, .load true 5 (.t 13), none, [1]⟩,
     ⟨some 6, .alloc [(.pv (.int .i64 0)), (.pv (.bool false)), (.pv (.int .i64 0)), (.pv (.int .i64 0)), (.pv (.int .i64 0))], none, []⟩,
     ⟨some 5, .mv (.t 12), none, [0, 0, 1, 2, 3]⟩,
     ⟨none, .store 5 (.t 6) (.t 14), none, [3, 2, 4, 0, 1, 2, 3, 4]⟩])
    (.seq (.draw [
     ⟨some 15, .fieldAddr 2 (.t 6), none, []⟩,
     ⟨some 16, .load false 1 (.t 15), none, [0]⟩,
     ⟨some 17, .bin .gtr none (.t 16) (.c (.pv (.int .i64 0))), none, [1]⟩,
     ⟨some 18, .mv (.t 17), none, [2]⟩,
     ⟨some 19, .load true 3 (.t 2), some (18, true), [3]⟩,
     ⟨some 20, .load true 3 (.t 3), some (18, true), [3]⟩,
     ⟨some 21, .fieldAddr 0 (.t 6), some (18, true), [3]⟩,
     ⟨some 22, .load false 1 (.t 21), some (18, true), [6, 3]⟩,
     ⟨some 23, .call 236 [(.t 19), (.t 20), (.t 22)], some (18, true), [4, 5, 7, 3, 3]⟩,
     ⟨some 24, .fieldAddr 2 (.t 6), some (18, true), [3]⟩,
     ⟨some 25, .load false 1 (.t 24), some (18, true), [9, 3]⟩,
     ⟨some 26, .bin .gtr none (.t 23) (.t 25), some (18, true), [8, 10, 3]⟩,
     ⟨some 27, .pick (.t 18) (.t 26) (.c (.pv (.bool false))), none, [3, 11]⟩])
    (.cond (.t 27)
     (.seq (.ops [
       ⟨some 28, .mv (.t 5), none, []⟩,
       ⟨some 29, .build [(.pv (.int .i64 0)), (.pv (.int .i64 0))] [(0, 1, (.t 28)), (1, 1, (.c (.pv (.int .i64 11))))], none, [0]⟩,
       ⟨some 30, .box (.t 29), none, [1]⟩,
       ⟨some 31, .mkI 1 (.t 30), none, [2]⟩,
       ⟨some 4, .mv (.t 31), none, [3, 0, 1, 2, 3]⟩])
      .ret)
     .skip))))
  (.ops [
   ⟨some 32, .bin .add none (.t 10) (.c (.pv (.int .i64 1))), none, []⟩,
   ⟨some 10, .mv (.t 32), none, [0]⟩]))))
def f234 : AFunc := ⟨33, [.t 4],
 (.seq (.ops [
   ⟨some 2, .box (.t 0), none, []⟩,
   ⟨some 3, .box (.t 1), none, []⟩,
   ⟨some 4, .mv (.c (.pv .nili)), none, []⟩])
  (.seq (.seq (.ops [
   ⟨some 7, .fieldAddr 1 (.t 2), none, []⟩,
   ⟨some 8, .load false 1 (.t 7), none, [0]⟩,
   ⟨some 9, .len (.t 8), none, [1]⟩,
   ⟨some 10, .mv (.c (.pv (.int .i64 0))), none, []⟩])
  (.block 0
   (.loop f234l0)))
  (.seq (.ops [
   ⟨some 4, .mv (.c (.pv .nili)), none, []⟩])
  .ret)))⟩
def f235l0 : ACode :=
 (.seq (.ops [
   ⟨some 18, .bin .lss none (.t 17) (.t 16), none, []⟩])
  (.seq (.cond (.t 18)
   .skip
   (.exit 0))
  (.seq (.block 1
   (.seq (.ops [
     ⟨some 19, .idxAddr 8 (.t 15) (.t 17), none, []⟩,
     ⟨some 20, .load true 8 (.t 19), none, [0]⟩,
     ⟨some 11, .alloc [(.pv (.int .i64 0)), (.pv (.int .i64 0)), (.pv (.int .i64 0)), (.pv (.int .u64 0)), (.pv (.int .u64 0)), (.pv (.int .u64 0)), (.pv (.int .u64 0)), (.pv (.int .i64 0))], none, []⟩,
     ⟨none, .store 8 (.t 11) (.t 20), none, [2, 1, 0, 1, 2]⟩])
    (.seq (.ops [
     ⟨some 22, .load true 3 (.t 4), none, []⟩,
     ⟨some 23, .fieldAddr 7 (.t 11), none, []⟩,
     ⟨some 24, .load false 1 (.t 23), none, [1]⟩,
     ⟨some 25, .call 82 [(.t 22), (.t 24)], none, [0, 2]⟩,
     ⟨some 21, .mv (.t 25), none, [3]⟩,
     ⟨some 26, .extract (.t 21) 0, none, [4]⟩,
     ⟨some 27, .extract (.t 21) 1, none, [4]⟩,
     ⟨some 12, .alloc [(.pv (.int .i64 0)), (.pv (.int .i64 0)), (.pv (.int .u64 0)), (.pv (.int .u64 0)), (.pv (.int .u64 0)), (.pv (.int .u64 0)), (.pv (.int .u64 0)), (.pv (.int .u64 0)), (.pv (.int .u64 0)), (.pv (.int .u64 0))], none, []⟩,
     ⟨none, .store 10 (.t 12) (.t 26), none, [7, 5, 3, 0, 1, 2, 3, 4, 5, 7]⟩,
     ⟨some 13, .mv (.t 27), none, [6, 8, 0, 1, 2, 3, 4, 5, 6, 7, 8]⟩])
    (.seq (.ops [
     ⟨some 28, .fieldAddr 1 (.t 11), none, []⟩,
     ⟨some 29, .load false 1 (.t 28), none, [0]⟩,
     ⟨some 30, .mv (.t 2), none, []⟩,
     ⟨some 31, .bin .eql none (.t 29) (.t 30), none, [1, 2]⟩,
     ⟨some 32, .mv (.t 31), none, [3]⟩,
     ⟨some 33, .fieldAddr 7 (.t 11), some (32, true), [4]⟩,
     ⟨some 34, .load false 1 (.t 33), some (32, true), [5, 4]⟩,
     ⟨some 35, .bin .neq none (.t 34) (.c (.pv (.int .i64 0))), some (32, true), [6, 4]⟩,
     ⟨some 36, .pick (.t 32) (.t 35) (.c (.pv (.bool false))), none, [4, 7]⟩,
     ⟨some 37, .mv (.t 36), none, [8, 4]⟩,
     ⟨some 38, .mv (.t 13), some (37, true), [9]⟩,
     ⟨some 39, .pick (.t 37) (.t 38) (.c (.pv (.bool false))), none, [9, 10]⟩,
     ⟨some 40, .mv (.t 39), none, [11, 9]⟩,
     ⟨some 41, .fieldAddr 1 (.t 12), some (40, true), [12]⟩,
     ⟨some 42, .load false 1 (.t 41), some (40, true), [13, 12]⟩,
     ⟨some 43, .mv (.t 3), some (40, true), [12]⟩,
     ⟨some 44, .bin .eql none (.t 42) (.t 43), some (40, true), [14, 15, 12]⟩,
     ⟨some 45, .pick (.t 40) (.t 44) (.c (.pv (.bool false))), none, [12, 16]⟩])
    (.cond (.t 45)
     (.ops [
       ⟨some 46, .mv (.t 9), none, []⟩,
       ⟨some 47, .bin .add none (.t 46) (.c (.pv (.int .i64 1))), none, [0]⟩,
       ⟨some 9, .mv (.t 47), none, [1, 0, 1]⟩])
     .skip)))))
  (.ops [
   ⟨some 48, .bin .add none (.t 17) (.c (.pv (.int .i64 1))), none, []⟩,
   ⟨some 17, .mv (.t 48), none, [0]⟩]))))
def f235 : AFunc := ⟨50, [.t 8],
 (.seq (.ops [
   ⟨some 4, .box (.t 0), none, []⟩,
   ⟨some 5, .box (.t 1), none, []⟩,
   ⟨some 8, .mv (.c (.pv (.int .i64 0))), none, []⟩])
  (.seq (.ops [
   ⟨some 9, .mv (.c (.pv (.int .i64 0))), none, []⟩])
  (.seq (.seq (.ops [
   ⟨some 14, .fieldAddr 0 (.t 5), none, []⟩,
   ⟨some 15, .load false 1 (.t 14), none, [0]⟩,
   ⟨some 16, .len (.t 15), none, [1]⟩,
   ⟨some 17, .mv (.c (.pv (.int .i64 0))), none, []⟩])
  (.block 0
   (.loop f235l0)))
  (.seq (.ops [
   ⟨some 49, .mv (.t 9), none, []⟩,
   ⟨some 8, .mv (.t 49), none, [0, 0]⟩])
  .ret))))⟩
def f236l0 : ACode :=
 (.seq (.ops [
   ⟨some 14, .bin .lss none (.t 13) (.t 12), none, []⟩])
  (.seq (.cond (.t 14)
   .skip
   (.exit 0))
  (.seq (.block 1
   (.seq (.ops [
     ⟨some 15, .idxAddr 1 (.t 11) (.t 13), none, []⟩,
     ⟨some 16, .load false 1 (.t 15), none, [0]⟩,
     ⟨some 9, .mv (.t 16), none, [1, 0, 1]⟩])
    (.ops [
     ⟨some 17, .mv (.t 7), none, []⟩,
     ⟨some 18, .load true 3 (.t 3), none, []⟩,
     ⟨some 19, .load true 3 (.t 4), none, []⟩,
     ⟨some 20, .mv (.t 2), none, []⟩,
     ⟨some 21, .mv (.t 9), none, []⟩,
     ⟨some 22, .call 235 [(.t 18), (.t 19), (.t 20), (.t 21)], none, [1, 2, 3, 4]⟩,
     ⟨some 23, .bslice 1 1 [(.pv (.int .i64 0))] [(0, 1, (.t 22))], none, [5]⟩,
     ⟨some 24, .append 1 8 (.t 17) (.t 23), none, [0, 6, 5]⟩,
     ⟨some 7, .mv (.t 24), none, [7, 7, 0, 1, 2, 3, 4, 5, 6, 7]⟩])))
  (.ops [
   ⟨some 25, .bin .add none (.t 13) (.c (.pv (.int .i64 1))), none, []⟩,
   ⟨some 13, .mv (.t 25), none, [0]⟩]))))
def f236 : AFunc := ⟨34, [.t 6],
 (.seq (.ops [
   ⟨some 3, .box (.t 0), none, []⟩,
   ⟨some 4, .box (.t 1), none, []⟩,
   ⟨some 6, .mv (.c (.pv (.int .i64 0))), none, []⟩])
  (.seq (.ops [
   ⟨some 7, .mv (.c .nils), none, []⟩])
  (.seq (.seq (.ops [
   ⟨some 10, .load true 3 (.t 3), none, []⟩,
   ⟨some 11, .call 84 [(.t 10)], none, [0]⟩,
   ⟨some 12, .len (.t 11), none, [1]⟩,
   ⟨some 13, .mv (.c (.pv (.int .i64 0))), none, []⟩])
  (.block 0
   (.loop f236l0)))
  (.seq (.seq (.ops [
   ⟨some 26, .mv (.t 7), none, []⟩,
   ⟨some 27, .len (.t 26), none, [0]⟩,
   ⟨some 28, .bin .eql none (.t 27) (.c (.pv (.int .i64 0))), none, [1]⟩])
  (.cond (.t 28)
   (.seq (.ops [
     ⟨some 6, .mv (.c (.pv (.int .i64 0))), none, []⟩])
    .ret)
   .skip))
  (.seq (.ops [
   ⟨some 29, .mv (.t 7), none, []⟩,
   ⟨some 30, .call 290 [(.t 29)], none, [0]⟩,
   ⟨some 31, .mv (.t 7), none, []⟩,
   ⟨some 32, .call 291 [(.t 31)], none, [2, 1]⟩,
   ⟨some 33, .bin .sub none (.t 30) (.t 32), none, [1, 3]⟩,
   ⟨some 6, .mv (.t 33), none, [4, 3, 0, 1, 2, 3, 4]⟩])
  .ret)))))⟩
end Go.Proofs.YtlfphlobcopemaaDoor.Ab
set_option linter.unusedVariables false
set_option linter.unusedSimpArgs false
namespace Go.Proofs.YtlfphlobcopemaaDoor.Ab
open Go
def zonesL (s : Snap) : List Int := risesL (s.nodes.map Node.zone)
structure StdZ (T : Tab) : Prop where
  p293 : T.prim 293 = some sortP
  r293 : T.raw 293 = true
  p281 : T.prim 281 = some compP
  r281 : T.raw 281 = true
  h84 : Std T 84 f84
section
variable {T : Tab}
theorem zones_loop (s : Snap) (hl : s.nodes.length ≤ 2 ^ 29) (Q : Exit → St → Prop)
    (hend : ∀ fr hp nx, Own (look fr 3) hp 1 ((s.nodes.map Node.zone).map i64C) 1 nx → Q (.exit 0) ⟨fr, hp, nx⟩) :
    ∀ (rest : List Node) (i : Nat) (acc : List Int), s.nodes.drop i = rest → i ≤ s.nodes.length → acc ++ rest.map Node.zone = s.nodes.map Node.zone → ∀ (fr : List (Nat × AV)) (hp : Hl) (nx : Nat), 1 ≤ nx → look fr 7 = .pv (.slice (s.nodes.map nodeC)) → look fr 8 = .pv (.int .i64 s.nodes.length) → look fr 9 = .pv (.int .i64 i) →
      Own (look fr 3) hp 1 (acc.map i64C) 1 nx → Wp T false (.loop f84l0) ⟨fr, hp, nx⟩ Q := by
  intro rest
  induction rest with
  | nil =>
    intro i acc hd hi ho fr hp nx hnx h7 h8 h9 h3
    have hlen := drop_nil hd hi
    simp only [List.map_nil, List.append_nil] at ho
    subst ho
    rw [Wp_loop, Wp_eq f84l0.eq_1]
    simp only [runL, opQ, evOp, evO, evOs, guardV, argsA, pvs, putS, cellsOf, scals, scal, Nat.reduceEqDiff, Nat.reduceAdd, reduceCtorEq, fieldA, nonNil, cellsAt, mkAgg, allPV, storeB, patchL, Int.reduceToNat, Nat.reduceMul, Nat.reduceLT, stepA, Int.reduceNeg, Int.reduceLE, Int.reduceLT, Int.reduceEq, extractV, mkAgg, Nat.reduceLeDiff, fillA, pureVs, pureV, eqV, eqB, lenV.eq_1, lenV.eq_2, lenV.eq_3, lenV.eq_4, binV, intBin, intV, idxA, List.drop, List.take, RetP, retP, resV, resOne, snapV, snapVs, snapR, snapRs, ownSz, pickV, AO.isC, opE, opD, funV.eq_1, funV.eq_2, h7, h8, h9, hlen, Int.lt_irrefl]
    exact hend _ _ _ (by simp only [look_if, blkAt_if, Nat.reduceEqDiff, if_true, if_false]; exact h3)
  | cons n r ih =>
    intro i acc hd hi ho fr hp nx hnx h7 h8 h9 h3
    obtain ⟨hget, hlt, hw, hd', hi', hb⟩ := drop_cons hd (by omega)
    have hlen : acc.length + 1 ≤ 2 ^ 30 := by
      have := congrArg List.length ho
      simp at this
      omega
    have hp1 := ((h3.over (i := nx) (b := .var [.pv (.int .i64 0), .pv (.int .i64 0), .pv (.int .u64 0), .pv (.int .u64 0), .pv (.int .u64 0), .pv (.int .u64 0), .pv (.int .u64 0), .pv (.int .u64 0), .pv (.int .u64 0), .pv (.int .u64 0)]) (.inr (Nat.le_refl _))).over (i := nx) (b := .var (pvs (nodeC n))) (.inr (Nat.le_refl _))).up (Nat.le_succ nx)
    obtain ⟨v', W, k, a1, a2, a3⟩ := hp1.app1 (by omega) (i64C n.zone) (by rw [List.length_map]; omega)
    simp only [i64C, nodeC, pvs] at a1 a3
    rw [Wp_loop, Wp_eq f84l0.eq_1]
    simp only [runL, opQ, evOp, evO, evOs, guardV, argsA, pvs, putS, cellsOf, scals, scal, Nat.reduceEqDiff, Nat.reduceAdd, reduceCtorEq, fieldA, nonNil, cellsAt, mkAgg, allPV, storeB, patchL, Int.reduceToNat, Nat.reduceMul, Nat.reduceLT, stepA, Int.reduceNeg, Int.reduceLE, Int.reduceLT, Int.reduceEq, extractV, mkAgg, Nat.reduceLeDiff, fillA, pureVs, pureV, eqV, eqB, lenV.eq_1, lenV.eq_2, lenV.eq_3, lenV.eq_4, binV, intBin, intV, idxA, List.drop, List.take, RetP, retP, resV, resOne, snapV, snapVs, snapR, snapRs, ownSz, pickV, AO.isC, opE, opD, funV.eq_1, funV.eq_2, h7, h8, h9, hlt, hget, nodeC, partsScal, srcV, chunk, allLen, List.all_cons, List.all_nil, a1, hw]
    refine ih (i + 1) (acc ++ [n.zone]) hd' hi' (by rw [← ho]; simp) _ _ _ (by omega) ?_ ?_ ?_ ?_
    all_goals try simp only [look_if, blkAt_if, Nat.reduceEqDiff, if_true, if_false, h7, h8]
    simpa only [List.map_append, List.map_cons, List.map_nil, i64C] using a3
theorem zones_ok (S : StdZ T) (s : Snap) (hl : s.nodes.length ≤ 2 ^ 29) : Gives T 84 [snapP s] (.slice ((zonesL s).map i64C)) := by
  refine gives S.h84 rfl ?_
  simp only [f84, runL, opQ, evOp, evO, evOs, guardV, argsA, pvs, putS, cellsOf, scals, scal, Nat.reduceEqDiff, Nat.reduceAdd, reduceCtorEq, fieldA, nonNil, cellsAt, mkAgg, allPV, storeB, patchL, Int.reduceToNat, Nat.reduceMul, Nat.reduceLT, stepA, Int.reduceNeg, Int.reduceLE, Int.reduceLT, Int.reduceEq, extractV, mkAgg, Nat.reduceLeDiff, fillA, pureVs, pureV, eqV, eqB, lenV.eq_1, lenV.eq_2, lenV.eq_3, lenV.eq_4, binV, intBin, intV, idxA, List.drop, List.take, RetP, retP, resV, resOne, snapV, snapVs, snapR, snapRs, ownSz, pickV, AO.isC, opE, opD, funV.eq_1, funV.eq_2, snapP]
  refine zones_loop s hl _ (fun fr hp nx h3 => ?_) s.nodes 0 [] rfl (Nat.zero_le _) rfl _ _ _ (Nat.le_refl _) rfl rfl rfl Own.nil
  rcases h3 with ⟨he, h3⟩ | ⟨id, h3, i1, i2, i3⟩
  · have hz : s.nodes.map Node.zone = [] := by simpa using he
    simp only [runL, opQ, evOp, evO, evOs, guardV, argsA, pvs, putS, cellsOf, scals, scal, Nat.reduceEqDiff, Nat.reduceAdd, reduceCtorEq, fieldA, nonNil, cellsAt, mkAgg, allPV, storeB, patchL, Int.reduceToNat, Nat.reduceMul, Nat.reduceLT, stepA, Int.reduceNeg, Int.reduceLE, Int.reduceLT, Int.reduceEq, extractV, mkAgg, Nat.reduceLeDiff, fillA, pureVs, pureV, eqV, eqB, lenV.eq_1, lenV.eq_2, lenV.eq_3, lenV.eq_4, binV, intBin, intV, idxA, List.drop, List.take, RetP, retP, resV, resOne, snapV, snapVs, snapR, snapRs, ownSz, pickV, AO.isC, opE, opD, funV.eq_1, funV.eq_2, h3]
    rw [callQ_raw S.r293 (D_prim S.p293 (show sortP [.nils] hp nx = some (.pv (.tuple []), hp, nx) from rfl))]
    simp only [runL, opQ, evOp, evO, evOs, guardV, argsA, pvs, putS, cellsOf, scals, scal, Nat.reduceEqDiff, Nat.reduceAdd, reduceCtorEq, fieldA, nonNil, cellsAt, mkAgg, allPV, storeB, patchL, Int.reduceToNat, Nat.reduceMul, Nat.reduceLT, stepA, Int.reduceNeg, Int.reduceLE, Int.reduceLT, Int.reduceEq, extractV, mkAgg, Nat.reduceLeDiff, fillA, pureVs, pureV, eqV, eqB, lenV.eq_1, lenV.eq_2, lenV.eq_3, lenV.eq_4, binV, intBin, intV, idxA, List.drop, List.take, RetP, retP, resV, resOne, snapV, snapVs, snapR, snapRs, ownSz, pickV, AO.isC, opE, opD, funV.eq_1, funV.eq_2, h3]
    rw [callQ_raw S.r281 (D_prim S.p281 (show compP [.nils] hp nx = some (.nils, hp, nx) from rfl))]
    have hn : risesL [] = [] := List.eq_nil_of_length_eq_zero (by have := risesL_le []; simpa using this)
    simp only [runL, opQ, evOp, evO, evOs, guardV, argsA, pvs, putS, cellsOf, scals, scal, Nat.reduceEqDiff, Nat.reduceAdd, reduceCtorEq, fieldA, nonNil, cellsAt, mkAgg, allPV, storeB, patchL, Int.reduceToNat, Nat.reduceMul, Nat.reduceLT, stepA, Int.reduceNeg, Int.reduceLE, Int.reduceLT, Int.reduceEq, extractV, mkAgg, Nat.reduceLeDiff, fillA, pureVs, pureV, eqV, eqB, lenV.eq_1, lenV.eq_2, lenV.eq_3, lenV.eq_4, binV, intBin, intV, idxA, List.drop, List.take, RetP, retP, resV, resOne, snapV, snapVs, snapR, snapRs, ownSz, pickV, AO.isC, opE, opD, funV.eq_1, funV.eq_2, zonesL, hz, hn, List.map_nil]
  · have hlen : (s.nodes.map Node.zone).length ≤ 2 ^ 30 := by rw [List.length_map]; omega
    have e1 : sortP [.ms id] hp nx = some (.pv (.tuple []), (id, .row 1 ((sortL (s.nodes.map Node.zone)).map i64C)) :: hp, nx) := by
      simp only [sortP, i3, intsV_map, hlen, if_true]
    simp only [runL, opQ, evOp, evO, evOs, guardV, argsA, pvs, putS, cellsOf, scals, scal, Nat.reduceEqDiff, Nat.reduceAdd, reduceCtorEq, fieldA, nonNil, cellsAt, mkAgg, allPV, storeB, patchL, Int.reduceToNat, Nat.reduceMul, Nat.reduceLT, stepA, Int.reduceNeg, Int.reduceLE, Int.reduceLT, Int.reduceEq, extractV, mkAgg, Nat.reduceLeDiff, fillA, pureVs, pureV, eqV, eqB, lenV.eq_1, lenV.eq_2, lenV.eq_3, lenV.eq_4, binV, intBin, intV, idxA, List.drop, List.take, RetP, retP, resV, resOne, snapV, snapVs, snapR, snapRs, ownSz, pickV, AO.isC, opE, opD, funV.eq_1, funV.eq_2, h3]
    rw [callQ_raw S.r293 (D_prim S.p293 e1)]
    simp only [runL, opQ, evOp, evO, evOs, guardV, argsA, pvs, putS, cellsOf, scals, scal, Nat.reduceEqDiff, Nat.reduceAdd, reduceCtorEq, fieldA, nonNil, cellsAt, mkAgg, allPV, storeB, patchL, Int.reduceToNat, Nat.reduceMul, Nat.reduceLT, stepA, Int.reduceNeg, Int.reduceLE, Int.reduceLT, Int.reduceEq, extractV, mkAgg, Nat.reduceLeDiff, fillA, pureVs, pureV, eqV, eqB, lenV.eq_1, lenV.eq_2, lenV.eq_3, lenV.eq_4, binV, intBin, intV, idxA, List.drop, List.take, RetP, retP, resV, resOne, snapV, snapVs, snapR, snapRs, ownSz, pickV, AO.isC, opE, opD, funV.eq_1, funV.eq_2, h3]
    have hlen2 : (sortL (s.nodes.map Node.zone)).length ≤ 2 ^ 30 := by rw [sortL_length]; exact hlen
    have e2 : compP [.ms id] ((id, .row 1 ((sortL (s.nodes.map Node.zone)).map i64C)) :: hp) nx = some (.msub id 0 (zonesL s).length, (id, .row 1 (((zonesL s) ++ List.replicate ((sortL (s.nodes.map Node.zone)).length - (zonesL s).length) 0).map i64C)) :: (id, .row 1 ((sortL (s.nodes.map Node.zone)).map i64C)) :: hp, nx) := by
      simp only [compP, blkAt_if, if_true, intsV_map, hlen2]
      rfl
    rw [callQ_raw S.r281 (D_prim S.p281 e2)]
    have hle : (zonesL s).length ≤ (zonesL s).length + (List.replicate ((sortL (s.nodes.map Node.zone)).length - (zonesL s).length) (0 : Int)).length := Nat.le_add_right _ _
    simp only [runL, opQ, evOp, evO, evOs, guardV, argsA, pvs, putS, cellsOf, scals, scal, Nat.reduceEqDiff, Nat.reduceAdd, reduceCtorEq, fieldA, nonNil, cellsAt, mkAgg, allPV, storeB, patchL, Int.reduceToNat, Nat.reduceMul, Nat.reduceLT, stepA, Int.reduceNeg, Int.reduceLE, Int.reduceLT, Int.reduceEq, extractV, mkAgg, Nat.reduceLeDiff, fillA, pureVs, pureV, eqV, eqB, lenV.eq_1, lenV.eq_2, lenV.eq_3, lenV.eq_4, binV, intBin, intV, idxA, List.drop, List.take, RetP, retP, resV, resOne, snapV, snapVs, snapR, snapRs, ownSz, pickV, AO.isC, opE, opD, funV.eq_1, funV.eq_2, List.map_append, List.length_append, hle, List.take_append_of_le_length, List.length_map, Nat.le_refl, List.take_length]
    rw [List.take_of_length_le (by rw [List.length_map]; exact Nat.le_refl _)]
/-! ### Counts -/
def zoneIs (s : Snap) (node zone : Int) : Bool := match nodeOf node s.nodes with
  | some x => decide (x.zone = zone)
  | none => false
def inZ (s : Snap) (load zone : Int) (p : Pod) : Bool := decide (p.load = load) && (decide (p.node ≠ 0) && zoneIs s p.node zone)
def cntZ (s : Snap) (load zone : Int) : List Pod → Nat
  | [] => 0
  | p :: r => (if inZ s load zone p = true then 1 else 0) + cntZ s load zone r
theorem cntZ_le (s : Snap) (load zone : Int) : ∀ l, cntZ s load zone l ≤ l.length
  | [] => Nat.le_refl _
  | p :: r => by
    have := cntZ_le s load zone r
    simp only [cntZ, List.length_cons]
    split <;> omega
structure Std8 (T : Tab) : Prop where
  z : StdZ T
  h82 : Std T 82 f82
  h235 : Std T 235 f235
  h236 : Std T 236 f236
  m290 : StdP T 290 (foldP mostL)
  m291 : StdP T 291 (foldP leastL)
  fl290 : T.flat 290 = true
  fl291 : T.flat 291 = true
theorem count_loop (S : Std8 T) (s : Snap) (t : State) (load zone : Int) (hn : s.nodes.length ≤ 2 ^ 29) (hl : t.pods.length ≤ 2 ^ 29) (Q : Exit → St → Prop)
    (hend : ∀ fr hp nx, look fr 9 = .pv (.int .i64 (cntZ s load zone t.pods : Nat)) → Q (.exit 0) ⟨fr, hp, nx⟩) :
    ∀ (rest : List Pod) (i acc : Nat), t.pods.drop i = rest → i ≤ t.pods.length → acc + cntZ s load zone rest = cntZ s load zone t.pods → ∀ (fr : List (Nat × AV)) (hp : Hl) (nx : Nat), 2 ≤ nx → look fr 2 = .pv (.int .i64 load) → look fr 3 = .pv (.int .i64 zone) → look fr 4 = .ptr 0 0 0 →
      blkAt hp 0 = .var [.pv (.slice (s.nodes.map nodeC)), .pv (.slice (s.loads.map loadC)), .pv (.slice (s.pods.map podC))] → look fr 9 = .pv (.int .i64 (acc : Int)) → look fr 15 = .pv (.slice (t.pods.map podC)) → look fr 16 = .pv (.int .i64 t.pods.length) → look fr 17 = .pv (.int .i64 i) → Wp T false (.loop f235l0) ⟨fr, hp, nx⟩ Q := by
  intro rest
  induction rest with
  | nil =>
    intro i acc hd hi ho fr hp nx hnx g2 g3 g4 b0 g9 g15 g16 g17
    have hlen := drop_nil hd hi
    simp only [cntZ, Nat.add_zero] at ho
    subst ho
    rw [Wp_loop, Wp_eq f235l0.eq_1]
    simp only [runL, opQ, evOp, evO, evOs, guardV, argsA, pvs, putS, cellsOf, scals, scal, Nat.reduceEqDiff, Nat.reduceAdd, reduceCtorEq, fieldA, nonNil, cellsAt, mkAgg, allPV, storeB, patchL, Int.reduceToNat, Nat.reduceMul, Nat.reduceLT, stepA, Int.reduceNeg, Int.reduceLE, Int.reduceLT, Int.reduceEq, extractV, mkAgg, Nat.reduceLeDiff, fillA, pureVs, pureV, eqV, eqB, lenV.eq_1, lenV.eq_2, lenV.eq_3, lenV.eq_4, binV, intBin, intV, idxA, List.drop, List.take, RetP, retP, resV, resOne, snapV, snapVs, snapR, snapRs, ownSz, pickV, AO.isC, opE, opD, funV.eq_1, funV.eq_2, g15, g16, g17, hlen, Int.lt_irrefl]
    exact hend _ _ _ (by simp only [look_if, blkAt_if, Nat.reduceEqDiff, if_true, if_false]; exact g9)
  | cons p r ih =>
    intro i acc hd hi ho fr hp nx hnx g2 g3 g4 b0 g9 g15 g16 g17
    obtain ⟨hget, hlt, hw, hd', hi', hb⟩ := drop_cons hd (by omega)
    have n0 : ¬ nx = 0 := by omega
    have hacc : acc + 1 ≤ 2 ^ 30 := by
      have h1 := cntZ_le s load zone t.pods
      have h2 := cntZ_le s load zone (p :: r)
      omega
    have k := node_ok S.h82 s p.node (by omega)
    simp only [snapP] at k
    have skip : inZ s load zone p = false → ∀ fr' hp' nx', 2 ≤ nx' → look fr' 2 = look fr 2 → look fr' 3 = look fr 3 → look fr' 4 = look fr 4 → blkAt hp' 0 = blkAt hp 0 → look fr' 9 = look fr 9 → look fr' 15 = look fr 15 → look fr' 16 = look fr 16 → look fr' 17 = .pv (.int .i64 ((i + 1 : Nat) : Int)) → Wp T false (.loop f235l0) ⟨fr', hp', nx'⟩ Q := by
      intro h fr' hp' nx' q1 q2 q3 q4 q5 q6 q7 q8 q9
      exact ih (i + 1) acc hd' hi' (by rw [← ho, cntZ, h]; simp) _ _ _ q1 (q2.trans g2) (q3.trans g3) (q4.trans g4) (q5.trans b0) (q6.trans g9) (q7.trans g15) (q8.trans g16) q9
    rw [Wp_loop, Wp_eq f235l0.eq_1]
    by_cases c1 : p.load = load
    · have d1 := decide_eq_true c1
      by_cases c2 : p.node = 0
      · have d2 := decide_eq_true c2
        have hz : inZ s load zone p = false := by simp [inZ, c2]
        cases hno : nodeOf p.node s.nodes with
        | none =>
          rw [hno] at k
          simp only [nodeR, nodeC, node0] at k
          simp only [runL, opQ, evOp, evO, evOs, guardV, argsA, pvs, putS, cellsOf, scals, scal, Nat.reduceEqDiff, Nat.reduceAdd, reduceCtorEq, fieldA, nonNil, cellsAt, mkAgg, allPV, storeB, patchL, Int.reduceToNat, Nat.reduceMul, Nat.reduceLT, stepA, Int.reduceNeg, Int.reduceLE, Int.reduceLT, Int.reduceEq, extractV, mkAgg, Nat.reduceLeDiff, fillA, pureVs, pureV, eqV, eqB, lenV.eq_1, lenV.eq_2, lenV.eq_3, lenV.eq_4, binV, intBin, intV, idxA, List.drop, List.take, RetP, retP, resV, resOne, snapV, snapVs, snapR, snapRs, ownSz, pickV, AO.isC, opE, opD, funV.eq_1, funV.eq_2, g2, g3, g4, b0, g15, g16, g17, hlt, hget, podC, n0, k.call, d1, d2, hw]
          refine skip hz _ _ _ (by omega) ?_ ?_ ?_ ?_ ?_ ?_ ?_ ?_
          all_goals try simp only [look_if, blkAt_if, Nat.reduceEqDiff, if_true, if_false, n0]
        | some x =>
          rw [hno] at k
          simp only [nodeR, nodeC] at k
          simp only [runL, opQ, evOp, evO, evOs, guardV, argsA, pvs, putS, cellsOf, scals, scal, Nat.reduceEqDiff, Nat.reduceAdd, reduceCtorEq, fieldA, nonNil, cellsAt, mkAgg, allPV, storeB, patchL, Int.reduceToNat, Nat.reduceMul, Nat.reduceLT, stepA, Int.reduceNeg, Int.reduceLE, Int.reduceLT, Int.reduceEq, extractV, mkAgg, Nat.reduceLeDiff, fillA, pureVs, pureV, eqV, eqB, lenV.eq_1, lenV.eq_2, lenV.eq_3, lenV.eq_4, binV, intBin, intV, idxA, List.drop, List.take, RetP, retP, resV, resOne, snapV, snapVs, snapR, snapRs, ownSz, pickV, AO.isC, opE, opD, funV.eq_1, funV.eq_2, g2, g3, g4, b0, g15, g16, g17, hlt, hget, podC, n0, k.call, d1, d2, hw]
          refine skip hz _ _ _ (by omega) ?_ ?_ ?_ ?_ ?_ ?_ ?_ ?_
          all_goals try simp only [look_if, blkAt_if, Nat.reduceEqDiff, if_true, if_false, n0]
      · cases hno : nodeOf p.node s.nodes with
        | none =>
          have hz : inZ s load zone p = false := by simp [inZ, zoneIs, hno]
          rw [hno] at k
          simp only [nodeR, nodeC, node0] at k
          simp only [runL, opQ, evOp, evO, evOs, guardV, argsA, pvs, putS, cellsOf, scals, scal, Nat.reduceEqDiff, Nat.reduceAdd, reduceCtorEq, fieldA, nonNil, cellsAt, mkAgg, allPV, storeB, patchL, Int.reduceToNat, Nat.reduceMul, Nat.reduceLT, stepA, Int.reduceNeg, Int.reduceLE, Int.reduceLT, Int.reduceEq, extractV, mkAgg, Nat.reduceLeDiff, fillA, pureVs, pureV, eqV, eqB, lenV.eq_1, lenV.eq_2, lenV.eq_3, lenV.eq_4, binV, intBin, intV, idxA, List.drop, List.take, RetP, retP, resV, resOne, snapV, snapVs, snapR, snapRs, ownSz, pickV, AO.isC, opE, opD, funV.eq_1, funV.eq_2, g2, g3, g4, b0, g15, g16, g17, hlt, hget, podC, n0, k.call, d1, c2, hw]
          refine skip hz _ _ _ (by omega) ?_ ?_ ?_ ?_ ?_ ?_ ?_ ?_
          all_goals try simp only [look_if, blkAt_if, Nat.reduceEqDiff, if_true, if_false, n0]
        | some x =>
          rw [hno] at k
          simp only [nodeR, nodeC] at k
          by_cases c3 : x.zone = zone
          · have d3 := decide_eq_true c3
            have hz : inZ s load zone p = true := by simp [inZ, zoneIs, hno, c1, c2, c3]
            have hw2 : IntKind.i64.wrap ((acc : Int) + 1) = ((acc + 1 : Nat) : Int) := by rw [wrap6] <;> omega
            simp only [runL, opQ, evOp, evO, evOs, guardV, argsA, pvs, putS, cellsOf, scals, scal, Nat.reduceEqDiff, Nat.reduceAdd, reduceCtorEq, fieldA, nonNil, cellsAt, mkAgg, allPV, storeB, patchL, Int.reduceToNat, Nat.reduceMul, Nat.reduceLT, stepA, Int.reduceNeg, Int.reduceLE, Int.reduceLT, Int.reduceEq, extractV, mkAgg, Nat.reduceLeDiff, fillA, pureVs, pureV, eqV, eqB, lenV.eq_1, lenV.eq_2, lenV.eq_3, lenV.eq_4, binV, intBin, intV, idxA, List.drop, List.take, RetP, retP, resV, resOne, snapV, snapVs, snapR, snapRs, ownSz, pickV, AO.isC, opE, opD, funV.eq_1, funV.eq_2, g2, g3, g4, b0, g9, g15, g16, g17, hlt, hget, podC, n0, k.call, d1, c2, d3, hw, hw2]
            refine ih (i + 1) (acc + 1) hd' hi' (by rw [← ho, cntZ, hz]; simp; omega) _ _ _ (by omega) ?_ ?_ ?_ ?_ ?_ ?_ ?_ ?_
            all_goals try simp only [look_if, blkAt_if, Nat.reduceEqDiff, if_true, if_false, n0, g2, g3, g4, b0, g15, g16]
          · have hz : inZ s load zone p = false := by simp [inZ, zoneIs, hno, c3]
            simp only [runL, opQ, evOp, evO, evOs, guardV, argsA, pvs, putS, cellsOf, scals, scal, Nat.reduceEqDiff, Nat.reduceAdd, reduceCtorEq, fieldA, nonNil, cellsAt, mkAgg, allPV, storeB, patchL, Int.reduceToNat, Nat.reduceMul, Nat.reduceLT, stepA, Int.reduceNeg, Int.reduceLE, Int.reduceLT, Int.reduceEq, extractV, mkAgg, Nat.reduceLeDiff, fillA, pureVs, pureV, eqV, eqB, lenV.eq_1, lenV.eq_2, lenV.eq_3, lenV.eq_4, binV, intBin, intV, idxA, List.drop, List.take, RetP, retP, resV, resOne, snapV, snapVs, snapR, snapRs, ownSz, pickV, AO.isC, opE, opD, funV.eq_1, funV.eq_2, g2, g3, g4, b0, g15, g16, g17, hlt, hget, podC, n0, k.call, d1, c2, c3, hw]
            refine skip hz _ _ _ (by omega) ?_ ?_ ?_ ?_ ?_ ?_ ?_ ?_
            all_goals try simp only [look_if, blkAt_if, Nat.reduceEqDiff, if_true, if_false, n0]
    · have hz : inZ s load zone p = false := by simp [inZ, c1]
      cases hno : nodeOf p.node s.nodes with
      | none =>
        rw [hno] at k
        simp only [nodeR, nodeC, node0] at k
        simp only [runL, opQ, evOp, evO, evOs, guardV, argsA, pvs, putS, cellsOf, scals, scal, Nat.reduceEqDiff, Nat.reduceAdd, reduceCtorEq, fieldA, nonNil, cellsAt, mkAgg, allPV, storeB, patchL, Int.reduceToNat, Nat.reduceMul, Nat.reduceLT, stepA, Int.reduceNeg, Int.reduceLE, Int.reduceLT, Int.reduceEq, extractV, mkAgg, Nat.reduceLeDiff, fillA, pureVs, pureV, eqV, eqB, lenV.eq_1, lenV.eq_2, lenV.eq_3, lenV.eq_4, binV, intBin, intV, idxA, List.drop, List.take, RetP, retP, resV, resOne, snapV, snapVs, snapR, snapRs, ownSz, pickV, AO.isC, opE, opD, funV.eq_1, funV.eq_2, g2, g3, g4, b0, g15, g16, g17, hlt, hget, podC, n0, k.call, c1, hw]
        refine skip hz _ _ _ (by omega) ?_ ?_ ?_ ?_ ?_ ?_ ?_ ?_
        all_goals try simp only [look_if, blkAt_if, Nat.reduceEqDiff, if_true, if_false, n0]
      | some x =>
        rw [hno] at k
        simp only [nodeR, nodeC] at k
        simp only [runL, opQ, evOp, evO, evOs, guardV, argsA, pvs, putS, cellsOf, scals, scal, Nat.reduceEqDiff, Nat.reduceAdd, reduceCtorEq, fieldA, nonNil, cellsAt, mkAgg, allPV, storeB, patchL, Int.reduceToNat, Nat.reduceMul, Nat.reduceLT, stepA, Int.reduceNeg, Int.reduceLE, Int.reduceLT, Int.reduceEq, extractV, mkAgg, Nat.reduceLeDiff, fillA, pureVs, pureV, eqV, eqB, lenV.eq_1, lenV.eq_2, lenV.eq_3, lenV.eq_4, binV, intBin, intV, idxA, List.drop, List.take, RetP, retP, resV, resOne, snapV, snapVs, snapR, snapRs, ownSz, pickV, AO.isC, opE, opD, funV.eq_1, funV.eq_2, g2, g3, g4, b0, g15, g16, g17, hlt, hget, podC, n0, k.call, c1, hw]
        refine skip hz _ _ _ (by omega) ?_ ?_ ?_ ?_ ?_ ?_ ?_ ?_
        all_goals try simp only [look_if, blkAt_if, Nat.reduceEqDiff, if_true, if_false, n0]
theorem count8_ok (S : Std8 T) (s : Snap) (t : State) (load zone : Int) (hn : s.nodes.length ≤ 2 ^ 29) (hl : t.pods.length ≤ 2 ^ 29) : Gives T 235 [snapP s, stateP t, .int .i64 load, .int .i64 zone] (.int .i64 (cntZ s load zone t.pods : Nat)) := by
  refine gives S.h235 rfl ?_
  simp only [f235, runL, opQ, evOp, evO, evOs, guardV, argsA, pvs, putS, cellsOf, scals, scal, Nat.reduceEqDiff, Nat.reduceAdd, reduceCtorEq, fieldA, nonNil, cellsAt, mkAgg, allPV, storeB, patchL, Int.reduceToNat, Nat.reduceMul, Nat.reduceLT, stepA, Int.reduceNeg, Int.reduceLE, Int.reduceLT, Int.reduceEq, extractV, mkAgg, Nat.reduceLeDiff, fillA, pureVs, pureV, eqV, eqB, lenV.eq_1, lenV.eq_2, lenV.eq_3, lenV.eq_4, binV, intBin, intV, idxA, List.drop, List.take, RetP, retP, resV, resOne, snapV, snapVs, snapR, snapRs, ownSz, pickV, AO.isC, opE, opD, funV.eq_1, funV.eq_2, snapP, stateP]
  refine count_loop S s t load zone hn hl _ (fun fr hp nx g9 => ?_) t.pods 0 0 rfl (Nat.zero_le _) (Nat.zero_add _) _ _ _ (Nat.le_refl _) rfl rfl rfl rfl rfl rfl rfl rfl
  simp only [runL, opQ, evOp, evO, evOs, guardV, argsA, pvs, putS, cellsOf, scals, scal, Nat.reduceEqDiff, Nat.reduceAdd, reduceCtorEq, fieldA, nonNil, cellsAt, mkAgg, allPV, storeB, patchL, Int.reduceToNat, Nat.reduceMul, Nat.reduceLT, stepA, Int.reduceNeg, Int.reduceLE, Int.reduceLT, Int.reduceEq, extractV, mkAgg, Nat.reduceLeDiff, fillA, pureVs, pureV, eqV, eqB, lenV.eq_1, lenV.eq_2, lenV.eq_3, lenV.eq_4, binV, intBin, intV, idxA, List.drop, List.take, RetP, retP, resV, resOne, snapV, snapVs, snapR, snapRs, ownSz, pickV, AO.isC, opE, opD, funV.eq_1, funV.eq_2, g9]
/-! ### Skews -/
def cntsL (s : Snap) (load : Int) (pods : List Pod) : List Int := (zonesL s).map fun z => ((cntZ s load z pods : Nat) : Int)
def skewOf (l : List Int) : Int := match l with
  | [] => 0
  | n :: r => mostL (n :: r) - leastL (n :: r)
def skewZ (s : Snap) (load : Int) (pods : List Pod) : Int := skewOf (cntsL s load pods)
theorem skew_loop (S : Std8 T) (s : Snap) (t : State) (load : Int) (hn : s.nodes.length ≤ 2 ^ 29) (hl : t.pods.length ≤ 2 ^ 29) (Q : Exit → St → Prop)
    (hend : ∀ fr hp nx, Own (look fr 7) hp 1 ((cntsL s load t.pods).map i64C) 2 nx → Q (.exit 0) ⟨fr, hp, nx⟩) :
    ∀ (rest : List Int) (i : Nat) (acc : List Int), (zonesL s).drop i = rest → i ≤ (zonesL s).length → acc ++ rest.map (fun z => ((cntZ s load z t.pods : Nat) : Int)) = cntsL s load t.pods → ∀ (fr : List (Nat × AV)) (hp : Hl) (nx : Nat), 2 ≤ nx → look fr 2 = .pv (.int .i64 load) → look fr 3 = .ptr 0 0 0 → look fr 4 = .ptr 1 0 0 →
      blkAt hp 0 = .var [.pv (.slice (s.nodes.map nodeC)), .pv (.slice (s.loads.map loadC)), .pv (.slice (s.pods.map podC))] → blkAt hp 1 = .var [.pv (.slice (t.pods.map podC)), .pv (.int .i64 t.pre), .pv (.int .i64 t.shi)] →
      look fr 11 = .pv (.slice ((zonesL s).map i64C)) → look fr 12 = .pv (.int .i64 (zonesL s).length) → look fr 13 = .pv (.int .i64 i) → Own (look fr 7) hp 1 (acc.map i64C) 2 nx → Wp T false (.loop f236l0) ⟨fr, hp, nx⟩ Q := by
  intro rest
  have hzl : (zonesL s).length ≤ 2 ^ 29 := by
    have := risesL_le (s.nodes.map Node.zone)
    rw [List.length_map] at this
    exact Nat.le_trans this hn
  induction rest with
  | nil =>
    intro i acc hd hi ho fr hp nx hnx g2 g3 g4 b0 b1 g11 g12 g13 h7
    have hlen := drop_nil hd hi
    simp only [List.map_nil, List.append_nil] at ho
    subst ho
    rw [Wp_loop, Wp_eq f236l0.eq_1]
    simp only [runL, opQ, evOp, evO, evOs, guardV, argsA, pvs, putS, cellsOf, scals, scal, Nat.reduceEqDiff, Nat.reduceAdd, reduceCtorEq, fieldA, nonNil, cellsAt, mkAgg, allPV, storeB, patchL, Int.reduceToNat, Nat.reduceMul, Nat.reduceLT, stepA, Int.reduceNeg, Int.reduceLE, Int.reduceLT, Int.reduceEq, extractV, mkAgg, Nat.reduceLeDiff, fillA, pureVs, pureV, eqV, eqB, lenV.eq_1, lenV.eq_2, lenV.eq_3, lenV.eq_4, binV, intBin, intV, idxA, List.drop, List.take, RetP, retP, resV, resOne, snapV, snapVs, snapR, snapRs, ownSz, pickV, AO.isC, opE, opD, funV.eq_1, funV.eq_2, g11, g12, g13, hlen, Int.lt_irrefl]
    exact hend _ _ _ (by simp only [look_if, blkAt_if, Nat.reduceEqDiff, if_true, if_false]; exact h7)
  | cons z r ih =>
    intro i acc hd hi ho fr hp nx hnx g2 g3 g4 b0 b1 g11 g12 g13 h7
    obtain ⟨hget, hlt, hw, hd', hi', hb⟩ := drop_cons hd (by omega)
    have hlen : acc.length + 1 ≤ 2 ^ 30 := by
      have := congrArg List.length ho
      simp [cntsL] at this
      omega
    have k := count8_ok S s t load z hn hl
    simp only [snapP, stateP] at k
    obtain ⟨v', W, m, a1, a2, a3⟩ := h7.app1 (by omega) (i64C (cntZ s load z t.pods : Nat)) (by rw [List.length_map]; omega)
    simp only [i64C] at a1 a3
    rw [Wp_loop, Wp_eq f236l0.eq_1]
    simp only [runL, opQ, evOp, evO, evOs, guardV, argsA, pvs, putS, cellsOf, scals, scal, Nat.reduceEqDiff, Nat.reduceAdd, reduceCtorEq, fieldA, nonNil, cellsAt, mkAgg, allPV, storeB, patchL, Int.reduceToNat, Nat.reduceMul, Nat.reduceLT, stepA, Int.reduceNeg, Int.reduceLE, Int.reduceLT, Int.reduceEq, extractV, mkAgg, Nat.reduceLeDiff, fillA, pureVs, pureV, eqV, eqB, lenV.eq_1, lenV.eq_2, lenV.eq_3, lenV.eq_4, binV, intBin, intV, idxA, List.drop, List.take, RetP, retP, resV, resOne, snapV, snapVs, snapR, snapRs, ownSz, pickV, AO.isC, opE, opD, funV.eq_1, funV.eq_2, g2, g3, g4, b0, b1, g11, g12, g13, hlt, hget, i64C, k.call, partsScal, srcV, chunk, allLen, List.all_cons, List.all_nil, a1, hw]
    have z0 := a2 0 (by omega)
    have z1 := a2 1 (by omega)
    simp only [i64C] at z0 z1
    refine ih (i + 1) (acc ++ [((cntZ s load z t.pods : Nat) : Int)]) hd' hi' (by rw [← ho]; simp) _ _ _ (by omega) ?_ ?_ ?_ ?_ ?_ ?_ ?_ ?_ ?_
    all_goals try simp only [look_if, blkAt_if, Nat.reduceEqDiff, if_true, if_false, g2, g3, g4, g11, g12]
    · exact z0.trans b0
    · exact z1.trans b1
    · simpa only [List.map_append, List.map_cons, List.map_nil, i64C] using a3
theorem foldl_max_range (lo hi : Int) : ∀ (l : List Int) (a : Int), lo ≤ a → a ≤ hi → (∀ x ∈ l, lo ≤ x ∧ x ≤ hi) → lo ≤ l.foldl max a ∧ l.foldl max a ≤ hi
  | [], a, h1, h2, _ => ⟨h1, h2⟩
  | x :: r, a, h1, h2, h => by
    have hx := h x (List.mem_cons_self ..)
    exact foldl_max_range lo hi r (max a x) (by omega) (by omega) (fun y hy => h y (List.mem_cons_of_mem _ hy))
theorem foldl_min_range (lo hi : Int) : ∀ (l : List Int) (a : Int), lo ≤ a → a ≤ hi → (∀ x ∈ l, lo ≤ x ∧ x ≤ hi) → lo ≤ l.foldl min a ∧ l.foldl min a ≤ hi
  | [], a, h1, h2, _ => ⟨h1, h2⟩
  | x :: r, a, h1, h2, h => by
    have hx := h x (List.mem_cons_self ..)
    exact foldl_min_range lo hi r (min a x) (by omega) (by omega) (fun y hy => h y (List.mem_cons_of_mem _ hy))
theorem mostL_range {lo hi : Int} {n : Int} {r : List Int} (h : ∀ x ∈ n :: r, lo ≤ x ∧ x ≤ hi) : lo ≤ mostL (n :: r) ∧ mostL (n :: r) ≤ hi := foldl_max_range lo hi _ _ (h n (by simp)).1 (h n (by simp)).2 h
theorem leastL_range {lo hi : Int} {n : Int} {r : List Int} (h : ∀ x ∈ n :: r, lo ≤ x ∧ x ≤ hi) : lo ≤ leastL (n :: r) ∧ leastL (n :: r) ≤ hi := foldl_min_range lo hi _ _ (h n (by simp)).1 (h n (by simp)).2 h
theorem cntsL_range (s : Snap) (load : Int) (pods : List Pod) : ∀ x ∈ cntsL s load pods, 0 ≤ x ∧ x ≤ pods.length := by
  intro x hx
  simp only [cntsL, List.mem_map] at hx
  obtain ⟨z, _, rfl⟩ := hx
  have := cntZ_le s load z pods
  omega
theorem skew8_ok (S : Std8 T) (s : Snap) (t : State) (load : Int) (hn : s.nodes.length ≤ 2 ^ 29) (hl : t.pods.length ≤ 2 ^ 29) : Gives T 236 [snapP s, stateP t, .int .i64 load] (.int .i64 (skewZ s load t.pods)) := by
  refine gives S.h236 rfl ?_
  have k := zones_ok S.z s hn
  simp only [snapP] at k
  simp only [f236, runL, opQ, evOp, evO, evOs, guardV, argsA, pvs, putS, cellsOf, scals, scal, Nat.reduceEqDiff, Nat.reduceAdd, reduceCtorEq, fieldA, nonNil, cellsAt, mkAgg, allPV, storeB, patchL, Int.reduceToNat, Nat.reduceMul, Nat.reduceLT, stepA, Int.reduceNeg, Int.reduceLE, Int.reduceLT, Int.reduceEq, extractV, mkAgg, Nat.reduceLeDiff, fillA, pureVs, pureV, eqV, eqB, lenV.eq_1, lenV.eq_2, lenV.eq_3, lenV.eq_4, binV, intBin, intV, idxA, List.drop, List.take, RetP, retP, resV, resOne, snapV, snapVs, snapR, snapRs, ownSz, pickV, AO.isC, opE, opD, funV.eq_1, funV.eq_2, snapP, stateP, k.call]
  refine skew_loop S s t load hn hl _ (fun fr hp nx h7 => ?_) (zonesL s) 0 [] rfl (Nat.zero_le _) rfl _ _ _ (Nat.le_refl _) rfl rfl rfl rfl rfl rfl ?_ rfl Own.nil
  · have hr := cntsL_range s load t.pods
    have hcl : (cntsL s load t.pods).length ≤ 2 ^ 30 := by
      have := risesL_le (s.nodes.map Node.zone)
      rw [List.length_map] at this
      simp only [cntsL, List.length_map]
      exact Nat.le_trans this (by omega)
    have e7 := h7.len
    rw [List.length_map] at e7
    simp only [skewZ]
    cases hc : cntsL s load t.pods with
    | nil =>
      rw [hc] at e7
      have z0 : ((0 : Nat) : Int) = 0 := rfl
      simp only [runL, opQ, evOp, evO, evOs, guardV, argsA, pvs, putS, cellsOf, scals, scal, Nat.reduceEqDiff, Nat.reduceAdd, reduceCtorEq, fieldA, nonNil, cellsAt, mkAgg, allPV, storeB, patchL, Int.reduceToNat, Nat.reduceMul, Nat.reduceLT, stepA, Int.reduceNeg, Int.reduceLE, Int.reduceLT, Int.reduceEq, extractV, mkAgg, Nat.reduceLeDiff, fillA, pureVs, pureV, eqV, eqB, lenV.eq_1, lenV.eq_2, lenV.eq_3, lenV.eq_4, binV, intBin, intV, idxA, List.drop, List.take, RetP, retP, resV, resOne, snapV, snapVs, snapR, snapRs, ownSz, pickV, AO.isC, opE, opD, funV.eq_1, funV.eq_2, e7, z0, skewOf]
    | cons n r =>
      rw [hc] at e7 hr h7 hcl
      have k1 := (fold_ok S.m290 (n :: r) (by simp) hcl).callF S.fl290 rfl
      have k2 := (fold_ok S.m291 (n :: r) (by simp) hcl).callF S.fl291 rfl
      rcases h7 with ⟨he, h7⟩ | ⟨id, h7, i1, i2, i3⟩
      · simp at he
      · have r1 := mostL_range hr
        have r2 := leastL_range hr
        have hwr : IntKind.i64.wrap (mostL (n :: r) - leastL (n :: r)) = mostL (n :: r) - leastL (n :: r) := by rw [wrap6] <;> omega
        have hne : ¬ ((r.length + 1 : Nat) : Int) = 0 := by omega
        simp only [runL, opQ, evOp, evO, evOs, guardV, argsA, pvs, putS, cellsOf, scals, scal, Nat.reduceEqDiff, Nat.reduceAdd, reduceCtorEq, fieldA, nonNil, cellsAt, mkAgg, allPV, storeB, patchL, Int.reduceToNat, Nat.reduceMul, Nat.reduceLT, stepA, Int.reduceNeg, Int.reduceLE, Int.reduceLT, Int.reduceEq, extractV, mkAgg, Nat.reduceLeDiff, fillA, pureVs, pureV, eqV, eqB, lenV.eq_1, lenV.eq_2, lenV.eq_3, lenV.eq_4, binV, intBin, intV, idxA, List.drop, List.take, RetP, retP, resV, resOne, snapV, snapVs, snapR, snapRs, ownSz, pickV, AO.isC, opE, opD, funV.eq_1, funV.eq_2, h7, i3, hne, k1, k2, hwr, skewOf]
  · simp only [runL, opQ, evOp, evO, evOs, guardV, argsA, pvs, putS, cellsOf, scals, scal, Nat.reduceEqDiff, Nat.reduceAdd, reduceCtorEq, fieldA, nonNil, cellsAt, mkAgg, allPV, storeB, patchL, Int.reduceToNat, Nat.reduceMul, Nat.reduceLT, stepA, Int.reduceNeg, Int.reduceLE, Int.reduceLT, Int.reduceEq, extractV, mkAgg, Nat.reduceLeDiff, fillA, pureVs, pureV, eqV, eqB, lenV.eq_1, lenV.eq_2, lenV.eq_3, lenV.eq_4, binV, intBin, intV, idxA, List.drop, List.take, RetP, retP, resV, resOne, snapV, snapVs, snapR, snapRs, ownSz, pickV, AO.isC, opE, opD, funV.eq_1, funV.eq_2]
end
end Go.Proofs.YtlfphlobcopemaaDoor.Ab
set_option linter.unusedVariables false
namespace Go.Proofs.YtlfphlobcopemaaDoor.Ab
open Go
def f4 : AFunc := ⟨8, [.t 2],
 (.seq (.ops [
   ⟨some 2, .mv (.c (.pv .nili)), none, []⟩])
  (.seq (.ops [
   ⟨some 3, .mv (.t 0), none, []⟩,
   ⟨some 4, .nilchk (.t 3), none, [0]⟩,
   ⟨some 5, .fieldAddr 1 (.t 4), none, [1]⟩,
   ⟨some 6, .load false 1 (.t 5), none, [2]⟩,
   ⟨some 7, .mkI 0 (.t 6), none, [3]⟩,
   ⟨some 2, .mv (.t 7), none, [4, 0, 1, 2, 3, 4]⟩])
  .ret))⟩
def f70l0 : ACode :=
 (.seq (.ops [
   ⟨some 12, .bin .lss none (.t 11) (.t 10), none, []⟩])
  (.seq (.cond (.t 12)
   .skip
   (.exit 0))
  (.seq (.block 1
   (.seq (.ops [
     ⟨some 13, .mv (.t 11), none, []⟩,
     ⟨some 14, .idxAddr 5 (.t 9) (.t 11), none, []⟩,
     ⟨some 15, .load true 5 (.t 14), none, [1]⟩,
     ⟨some 6, .alloc [(.pv (.int .i64 0)), (.pv (.bool false)), (.pv (.int .i64 0)), (.pv (.int .i64 0)), (.pv (.int .i64 0))], none, []⟩,
     ⟨some 5, .mv (.t 13), none, [0, 0, 1, 2, 3]⟩,
     ⟨none, .store 5 (.t 6) (.t 15), none, [3, 2, 4, 0, 1, 2, 3, 4]⟩])
    (.seq (.ops [
     ⟨some 16, .load true 3 (.t 3), none, []⟩,
     ⟨some 17, .fieldAddr 0 (.t 6), none, []⟩,
     ⟨some 18, .load false 1 (.t 17), none, [1]⟩,
     ⟨some 19, .call 71 [(.t 16), (.t 18)], none, [0, 2]⟩,
     ⟨some 7, .mv (.t 19), none, [3, 3, 0, 1, 2, 3]⟩])
    (.block 2
     (.seq (.ops [
       ⟨some 21, .mv (.t 7), none, []⟩,
       ⟨some 22, .fieldAddr 3 (.t 6), none, []⟩,
       ⟨some 23, .load false 1 (.t 22), none, [1]⟩,
       ⟨some 24, .bin .lss none (.t 21) (.t 23), none, [0, 2]⟩,
       ⟨some 20, .mv (.t 24), none, [3]⟩])
      (.cond (.t 20)
       (.seq (.ops [
         ⟨some 25, .mv (.t 5), none, []⟩,
         ⟨some 26, .build [(.pv (.int .i64 0)), (.pv (.int .i64 0))] [(0, 1, (.t 25)), (1, 1, (.c (.pv (.int .i64 12))))], none, [0]⟩,
         ⟨some 27, .box (.t 26), none, [1]⟩,
         ⟨some 28, .mkI 1 (.t 27), none, [2]⟩,
         ⟨some 4, .mv (.t 28), none, [3, 0, 1, 2, 3]⟩])
        .ret)
       (.seq (.ops [
         ⟨some 30, .mv (.t 7), none, []⟩,
         ⟨some 31, .fieldAddr 4 (.t 6), none, []⟩,
         ⟨some 32, .load false 1 (.t 31), none, [1]⟩,
         ⟨some 33, .bin .gtr none (.t 30) (.t 32), none, [0, 2]⟩,
         ⟨some 29, .mv (.t 33), none, [3]⟩])
        (.cond (.t 29)
         (.seq (.ops [
           ⟨some 34, .mv (.t 5), none, []⟩,
           ⟨some 35, .build [(.pv (.int .i64 0)), (.pv (.int .i64 0))] [(0, 1, (.t 34)), (1, 1, (.c (.pv (.int .i64 13))))], none, [0]⟩,
           ⟨some 36, .box (.t 35), none, [1]⟩,
           ⟨some 37, .mkI 1 (.t 36), none, [2]⟩,
           ⟨some 4, .mv (.t 37), none, [3, 0, 1, 2, 3]⟩])
          .ret)
         .skip))))))))
  (.ops [
   ⟨some 38, .bin .add none (.t 11) (.c (.pv (.int .i64 1))), none, []⟩,
   ⟨some 11, .mv (.t 38), none, [0]⟩]))))
def f70 : AFunc := ⟨39, [.t 4],
 (.seq (.ops [
   ⟨some 2, .box (.t 0), none, []⟩,
   ⟨some 3, .box (.t 1), none, []⟩,
   ⟨some 4, .mv (.c (.pv .nili)), none, []⟩])
  (.seq (.seq (.ops [
   ⟨some 8, .fieldAddr 1 (.t 2), none, []⟩,
   ⟨some 9, .load false 1 (.t 8), none, [0]⟩,
   ⟨some 10, .len (.t 9), none, [1]⟩,
   ⟨some 11, .mv (.c (.pv (.int .i64 0))), none, []⟩])
  (.block 0
   (.loop f70l0)))
  (.seq (.ops [
   ⟨some 4, .mv (.c (.pv .nili)), none, []⟩])
  .ret)))⟩
def f71l0 : ACode :=
 (.seq (.ops [
   ⟨some 12, .bin .lss none (.t 11) (.t 10), none, []⟩])
  (.seq (.cond (.t 12)
   .skip
   (.exit 0))
  (.seq (.block 1
   (.seq (.ops [
     ⟨some 13, .idxAddr 8 (.t 9) (.t 11), none, []⟩,
     ⟨some 14, .load true 8 (.t 13), none, [0]⟩,
     ⟨some 7, .alloc [(.pv (.int .i64 0)), (.pv (.int .i64 0)), (.pv (.int .i64 0)), (.pv (.int .u64 0)), (.pv (.int .u64 0)), (.pv (.int .u64 0)), (.pv (.int .u64 0)), (.pv (.int .i64 0))], none, []⟩,
     ⟨none, .store 8 (.t 7) (.t 14), none, [2, 1, 0, 1, 2]⟩])
    (.seq (.ops [
     ⟨some 15, .fieldAddr 1 (.t 7), none, []⟩,
     ⟨some 16, .load false 1 (.t 15), none, [0]⟩,
     ⟨some 17, .mv (.t 1), none, []⟩,
     ⟨some 18, .bin .eql none (.t 16) (.t 17), none, [1, 2]⟩,
     ⟨some 19, .mv (.t 18), none, [3]⟩,
     ⟨some 20, .fieldAddr 7 (.t 7), some (19, true), [4]⟩,
     ⟨some 21, .load false 1 (.t 20), some (19, true), [5, 4]⟩,
     ⟨some 22, .bin .neq none (.t 21) (.c (.pv (.int .i64 0))), some (19, true), [6, 4]⟩,
     ⟨some 23, .pick (.t 19) (.t 22) (.c (.pv (.bool false))), none, [4, 7]⟩])
    (.cond (.t 23)
     (.ops [
       ⟨some 24, .mv (.t 5), none, []⟩,
       ⟨some 25, .bin .add none (.t 24) (.c (.pv (.int .i64 1))), none, [0]⟩,
       ⟨some 5, .mv (.t 25), none, [1, 0, 1]⟩])
     .skip))))
  (.ops [
   ⟨some 26, .bin .add none (.t 11) (.c (.pv (.int .i64 1))), none, []⟩,
   ⟨some 11, .mv (.t 26), none, [0]⟩]))))
def f71 : AFunc := ⟨28, [.t 4],
 (.seq (.ops [
   ⟨some 2, .box (.t 0), none, []⟩,
   ⟨some 4, .mv (.c (.pv (.int .i64 0))), none, []⟩])
  (.seq (.ops [
   ⟨some 5, .mv (.c (.pv (.int .i64 0))), none, []⟩])
  (.seq (.seq (.ops [
   ⟨some 8, .fieldAddr 0 (.t 2), none, []⟩,
   ⟨some 9, .load false 1 (.t 8), none, [0]⟩,
   ⟨some 10, .len (.t 9), none, [1]⟩,
   ⟨some 11, .mv (.c (.pv (.int .i64 0))), none, []⟩])
  (.block 0
   (.loop f71l0)))
  (.seq (.ops [
   ⟨some 27, .mv (.t 5), none, []⟩,
   ⟨some 4, .mv (.t 27), none, [0, 0]⟩])
  .ret))))⟩
def f72 : AFunc := ⟨18, [.t 4],
 (.seq (.ops [
   ⟨some 2, .box (.t 0), none, []⟩,
   ⟨some 3, .box (.t 1), none, []⟩,
   ⟨some 4, .mv (.c (.pv .nili)), none, []⟩])
  (.seq (.seq (.ops [
   ⟨some 5, .fieldAddr 1 (.t 3), none, []⟩,
   ⟨some 6, .load false 1 (.t 5), none, [0]⟩,
   ⟨some 7, .fieldAddr 1 (.t 2), none, []⟩,
   ⟨some 8, .load false 1 (.t 7), none, [2]⟩,
   ⟨some 9, .bin .gtr none (.t 6) (.t 8), none, [1, 3]⟩,
   ⟨some 10, .mv (.t 9), none, [4]⟩,
   ⟨some 11, .fieldAddr 2 (.t 3), some (10, false), [5]⟩,
   ⟨some 12, .load false 1 (.t 11), some (10, false), [6, 5]⟩,
   ⟨some 13, .fieldAddr 2 (.t 2), some (10, false), [5]⟩,
   ⟨some 14, .load false 1 (.t 13), some (10, false), [8, 5]⟩,
   ⟨some 15, .bin .gtr none (.t 12) (.t 14), some (10, false), [7, 9, 5]⟩,
   ⟨some 16, .pick (.t 10) (.c (.pv (.bool true))) (.t 15), none, [5, 10]⟩])
  (.cond (.t 16)
   (.seq (.ops [
     ⟨some 17, .mkI 0 (.c (.pv (.int .i64 15))), none, []⟩,
     ⟨some 4, .mv (.t 17), none, [0, 0]⟩])
    .ret)
   .skip))
  (.seq (.ops [
   ⟨some 4, .mv (.c (.pv .nili)), none, []⟩])
  .ret)))⟩
def f102l0 : ACode :=
 (.seq (.seq (.ops [
   ⟨some 6, .mv (.t 3), none, []⟩,
   ⟨some 7, .bin .leq none (.t 6) (.c (.pv (.int .i64 17))), none, [0]⟩])
  (.cond (.t 7)
   .skip
   (.exit 0)))
  (.seq (.block 1
   (.seq (.ops [
     ⟨some 10, .mv (.t 0), none, []⟩,
     ⟨some 11, .mv (.t 3), none, []⟩,
     ⟨some 12, .mkI 0 (.t 11), none, [1]⟩,
     ⟨some 13, .bin .eql (some (.iface true)) (.t 10) (.t 12), none, [0, 2]⟩])
    (.cond (.t 13)
     (.seq (.ops [
       ⟨some 14, .mv (.t 3), none, []⟩,
       ⟨some 2, .mv (.t 14), none, [0, 0]⟩])
      .ret)
     .skip)))
  (.ops [
   ⟨some 8, .mv (.t 3), none, []⟩,
   ⟨some 9, .bin .add none (.t 8) (.c (.pv (.int .i64 1))), none, [0]⟩,
   ⟨some 3, .mv (.t 9), none, [1, 0, 1]⟩])))
def f102 : AFunc := ⟨15, [.t 2],
 (.seq (.ops [
   ⟨some 2, .mv (.c (.pv (.int .i64 0))), none, []⟩])
  (.seq (.seq (.ops [
   ⟨some 4, .mv (.t 0), none, []⟩,
   ⟨some 5, .bin .eql (some (.iface true)) (.t 4) (.c (.pv .nili)), none, [0]⟩])
  (.cond (.t 5)
   (.seq (.ops [
     ⟨some 2, .mv (.c (.pv (.int .i64 0))), none, []⟩])
    .ret)
   .skip))
  (.seq (.seq (.ops [
   ⟨some 3, .mv (.c (.pv (.int .i64 1))), none, []⟩])
  (.block 0
   (.loop f102l0)))
  (.seq (.ops [
   ⟨some 2, .mv (.c (.pv (.int .i64 (-1)))), none, []⟩])
  .ret))))⟩
end Go.Proofs.YtlfphlobcopemaaDoor.Ab
set_option linter.unusedVariables false
set_option linter.unusedSimpArgs false
namespace Go.Proofs.YtlfphlobcopemaaDoor.Ab
open Go
section
variable {T : Tab}
def sizeN (load : Int) : List Pod → Nat
  | [] => 0
  | p :: r => (if p.load = load ∧ p.node ≠ 0 then 1 else 0) + sizeN load r
theorem size_loop (load : Int) (pods : List Pod) (hl : pods.length ≤ 2 ^ 30) (Q : Exit → St → Prop) (total : Nat) (hQ : ∀ fr hp nx, look fr 5 = .pv (.int .i64 total) → Q (.exit 0) ⟨fr, hp, nx⟩) :
    ∀ (rest : List Pod) (i k : Nat), pods.drop i = rest → i ≤ pods.length → k ≤ i → k + sizeN load rest = total → ∀ (fr : List (Nat × AV)) (hp : Hl) (nx : Nat), look fr 5 = .pv (.int .i64 k) → look fr 1 = .pv (.int .i64 load) →
      look fr 9 = .pv (.slice (pods.map podC)) → look fr 10 = .pv (.int .i64 pods.length) → look fr 11 = .pv (.int .i64 i) → Wp T false (.loop f71l0) ⟨fr, hp, nx⟩ Q := by
  intro rest
  induction rest with
  | nil =>
    intro i k hd hi hk ht fr hp nx h5 h1 h9 h10 h11
    have hlen := drop_nil hd hi
    simp only [sizeN, Nat.add_zero] at ht
    subst ht
    rw [Wp_loop, Wp_eq f71l0.eq_1]
    simp only [runL, opQ, evOp, evO, evOs, guardV, argsA, pvs, putS, cellsOf, scals, scal, Nat.reduceEqDiff, Nat.reduceAdd, reduceCtorEq, fieldA, nonNil, cellsAt, mkAgg, allPV, storeB, patchL, Int.reduceToNat, Nat.reduceMul, Nat.reduceLT, stepA, Int.reduceNeg, Int.reduceLE, Int.reduceLT, Int.reduceEq, extractV, mkAgg, Nat.reduceLeDiff, fillA, pureVs, pureV, eqV, eqB, lenV, binV, intBin, intV, idxA, List.drop, List.take, RetP, retP, resV, resOne, snapV, snapVs, snapR, snapRs, ownSz, pickV, AO.isC, opE, opD, funV, h5, h1, h9, h10, h11, hlen, Int.lt_irrefl]
    exact hQ _ _ _ (by simp only [look_if, Nat.reduceEqDiff, if_false, h5])
  | cons p r ih =>
    intro i k hd hi hk ht fr hp nx h5 h1 h9 h10 h11
    obtain ⟨hget, hlt, hw, hd', hi', hb⟩ := drop_cons hd hl
    have hwk : IntKind.i64.wrap ((k : Int) + 1) = ((k + 1 : Nat) : Int) := by rw [wrap6] <;> omega
    rw [Wp_loop, Wp_eq f71l0.eq_1]
    by_cases hp1 : p.load = load
    · by_cases hp2 : p.node = 0
      · simp only [runL, opQ, evOp, evO, evOs, guardV, argsA, pvs, putS, cellsOf, scals, scal, Nat.reduceEqDiff, Nat.reduceAdd, reduceCtorEq, fieldA, nonNil, cellsAt, mkAgg, allPV, storeB, patchL, Int.reduceToNat, Nat.reduceMul, Nat.reduceLT, stepA, Int.reduceNeg, Int.reduceLE, Int.reduceLT, Int.reduceEq, extractV, mkAgg, Nat.reduceLeDiff, fillA, pureVs, pureV, eqV, eqB, lenV, binV, intBin, intV, idxA, List.drop, List.take, RetP, retP, resV, resOne, snapV, snapVs, snapR, snapRs, ownSz, pickV, AO.isC, opE, opD, funV, h5, h1, h9, h10, h11, hlt, hget, podC, hp1, hp2, hw]
        refine ih (i + 1) k hd' hi' (by omega) (by simpa [sizeN, hp2] using ht) _ _ _ ?_ ?_ ?_ ?_ ?_
        all_goals simp only [look_if, Nat.reduceEqDiff, if_true, if_false, h5, h1, h9, h10]
      · simp only [runL, opQ, evOp, evO, evOs, guardV, argsA, pvs, putS, cellsOf, scals, scal, Nat.reduceEqDiff, Nat.reduceAdd, reduceCtorEq, fieldA, nonNil, cellsAt, mkAgg, allPV, storeB, patchL, Int.reduceToNat, Nat.reduceMul, Nat.reduceLT, stepA, Int.reduceNeg, Int.reduceLE, Int.reduceLT, Int.reduceEq, extractV, mkAgg, Nat.reduceLeDiff, fillA, pureVs, pureV, eqV, eqB, lenV, binV, intBin, intV, idxA, List.drop, List.take, RetP, retP, resV, resOne, snapV, snapVs, snapR, snapRs, ownSz, pickV, AO.isC, opE, opD, funV, h5, h1, h9, h10, h11, hlt, hget, podC, hp1, hp2, hw, hwk]
        refine ih (i + 1) (k + 1) hd' hi' (by omega) (by simp [sizeN, hp1, hp2] at ht; omega) _ _ _ ?_ ?_ ?_ ?_ ?_
        all_goals simp only [look_if, Nat.reduceEqDiff, if_true, if_false, h5, h1, h9, h10]
    · simp only [runL, opQ, evOp, evO, evOs, guardV, argsA, pvs, putS, cellsOf, scals, scal, Nat.reduceEqDiff, Nat.reduceAdd, reduceCtorEq, fieldA, nonNil, cellsAt, mkAgg, allPV, storeB, patchL, Int.reduceToNat, Nat.reduceMul, Nat.reduceLT, stepA, Int.reduceNeg, Int.reduceLE, Int.reduceLT, Int.reduceEq, extractV, mkAgg, Nat.reduceLeDiff, fillA, pureVs, pureV, eqV, eqB, lenV, binV, intBin, intV, idxA, List.drop, List.take, RetP, retP, resV, resOne, snapV, snapVs, snapR, snapRs, ownSz, pickV, AO.isC, opE, opD, funV, h5, h1, h9, h10, h11, hlt, hget, podC, hp1, hw]
      refine ih (i + 1) k hd' hi' (by omega) (by simpa [sizeN, hp1] using ht) _ _ _ ?_ ?_ ?_ ?_ ?_
      all_goals simp only [look_if, Nat.reduceEqDiff, if_true, if_false, h5, h1, h9, h10]
theorem size_ok (h71 : Std T 71 f71) (t : State) (load : Int) (h : t.pods.length ≤ 2 ^ 30) : Gives T 71 [stateP t, .int .i64 load] (.int .i64 (sizeN load t.pods)) := by
  refine gives h71 rfl ?_
  simp only [f71, runL, opQ, evOp, evO, evOs, guardV, argsA, pvs, putS, cellsOf, scals, scal, Nat.reduceEqDiff, Nat.reduceAdd, reduceCtorEq, fieldA, nonNil, cellsAt, mkAgg, allPV, storeB, patchL, Int.reduceToNat, Nat.reduceMul, Nat.reduceLT, stepA, Int.reduceNeg, Int.reduceLE, Int.reduceLT, Int.reduceEq, extractV, mkAgg, Nat.reduceLeDiff, fillA, pureVs, pureV, eqV, eqB, lenV, binV, intBin, intV, idxA, List.drop, List.take, RetP, retP, resV, resOne, snapV, snapVs, snapR, snapRs, ownSz, pickV, AO.isC, opE, opD, funV, stateP]
  refine size_loop load t.pods h _ (sizeN load t.pods) (fun fr hp nx h5 => ?_) t.pods 0 0 rfl (Nat.zero_le _) (Nat.le_refl _) (Nat.zero_add _) _ _ _ rfl rfl rfl rfl rfl
  simp only [runL, opQ, evOp, evO, evOs, guardV, argsA, pvs, putS, cellsOf, scals, scal, Nat.reduceEqDiff, Nat.reduceAdd, reduceCtorEq, fieldA, nonNil, cellsAt, mkAgg, allPV, storeB, patchL, Int.reduceToNat, Nat.reduceMul, Nat.reduceLT, stepA, Int.reduceNeg, Int.reduceLE, Int.reduceLT, Int.reduceEq, extractV, mkAgg, Nat.reduceLeDiff, fillA, pureVs, pureV, eqV, eqB, lenV, binV, intBin, intV, idxA, List.drop, List.take, RetP, retP, resV, resOne, snapV, snapVs, snapR, snapRs, ownSz, pickV, AO.isC, opE, opD, funV, h5]
def badLoad (pods : List Pod) : Nat → List Load → Option (Int × Int)
  | _, [] => none
  | i, l :: r => if (sizeN l.id pods : Int) < l.min then some (12, i) else if (sizeN l.id pods : Int) > l.max then some (13, i) else badLoad pods (i + 1) r
theorem check9_loop (s : Snap) (t : State) (ht : t.pods.length ≤ 2 ^ 30) (hl : s.loads.length ≤ 2 ^ 30) (h71 : Std T 71 f71) (Q : Exit → St → Prop) (o : Option (Int × Int))
    (hend : o = none → ∀ fr hp nx, Q (.exit 0) ⟨fr, hp, nx⟩)
    (hret : ∀ c i, o = some (c, i) → ∀ fr hp nx id, look fr 4 = .iface 1 (.ptr id 0 0) → blkAt hp id = .var [.pv (.int .i64 i), .pv (.int .i64 c)] → Q .ret ⟨fr, hp, nx⟩) :
    ∀ (rest : List Load) (i : Nat), s.loads.drop i = rest → i ≤ s.loads.length → badLoad t.pods i rest = o → ∀ (fr : List (Nat × AV)) (hp : Hl) (nx : Nat), 2 ≤ nx →
      look fr 3 = .ptr 1 0 0 → blkAt hp 1 = .var [.pv (.slice (t.pods.map podC)), .pv (.int .i64 t.pre), .pv (.int .i64 t.shi)] →
      look fr 9 = .pv (.slice (s.loads.map loadC)) → look fr 10 = .pv (.int .i64 s.loads.length) → look fr 11 = .pv (.int .i64 i) → Wp T false (.loop f70l0) ⟨fr, hp, nx⟩ Q := by
  intro rest
  induction rest with
  | nil =>
    intro i hd hi ho fr hp nx hn h3 b1 h9 h10 h11
    have hlen := drop_nil hd hi
    rw [Wp_loop, Wp_eq f70l0.eq_1]
    simp only [runL, opQ, evOp, evO, evOs, guardV, argsA, pvs, putS, cellsOf, scals, scal, Nat.reduceEqDiff, Nat.reduceAdd, reduceCtorEq, fieldA, nonNil, cellsAt, mkAgg, allPV, storeB, patchL, Int.reduceToNat, Nat.reduceMul, Nat.reduceLT, stepA, Int.reduceNeg, Int.reduceLE, Int.reduceLT, Int.reduceEq, extractV, mkAgg, Nat.reduceLeDiff, fillA, pureVs, pureV, eqV, eqB, lenV, binV, intBin, intV, idxA, List.drop, List.take, RetP, retP, resV, resOne, snapV, snapVs, snapR, snapRs, ownSz, pickV, AO.isC, opE, opD, funV, h3, h9, h10, h11, hlen, Int.lt_irrefl]
    exact hend ho.symm _ _ _
  | cons l r ih =>
    intro i hd hi ho fr hp nx hn h3 b1 h9 h10 h11
    obtain ⟨hget, hlt, hw, hd', hi', hb⟩ := drop_cons hd hl
    have n1 : ¬ nx = 1 := by omega
    have k := size_ok h71 t l.id ht
    rw [Wp_loop, Wp_eq f70l0.eq_1]
    simp only [badLoad] at ho
    by_cases c1 : (sizeN l.id t.pods : Int) < l.min
    · rw [if_pos c1] at ho
      simp only [runL, opQ, evOp, evO, evOs, guardV, argsA, pvs, putS, cellsOf, scals, scal, Nat.reduceEqDiff, Nat.reduceAdd, reduceCtorEq, fieldA, nonNil, cellsAt, mkAgg, allPV, storeB, patchL, Int.reduceToNat, Nat.reduceMul, Nat.reduceLT, stepA, Int.reduceNeg, Int.reduceLE, Int.reduceLT, Int.reduceEq, extractV, mkAgg, Nat.reduceLeDiff, fillA, pureVs, pureV, eqV, eqB, lenV, binV, intBin, intV, idxA, List.drop, List.take, RetP, retP, resV, resOne, snapV, snapVs, snapR, snapRs, ownSz, pickV, AO.isC, opE, opD, funV, h3, b1, h9, h10, h11, hlt, hget, loadC, n1, k.call, stateP, c1]
      refine hret 12 i ho.symm _ _ _ (nx + 1) ?_ ?_
      · simp only [look_if, Nat.reduceEqDiff, if_true, if_false]
      · simp only [blkAt_if, if_true]
    · rw [if_neg c1] at ho
      by_cases c2 : (sizeN l.id t.pods : Int) > l.max
      · rw [if_pos c2] at ho
        have c2' : l.max < (sizeN l.id t.pods : Int) := c2
        simp only [runL, opQ, evOp, evO, evOs, guardV, argsA, pvs, putS, cellsOf, scals, scal, Nat.reduceEqDiff, Nat.reduceAdd, reduceCtorEq, fieldA, nonNil, cellsAt, mkAgg, allPV, storeB, patchL, Int.reduceToNat, Nat.reduceMul, Nat.reduceLT, stepA, Int.reduceNeg, Int.reduceLE, Int.reduceLT, Int.reduceEq, extractV, mkAgg, Nat.reduceLeDiff, fillA, pureVs, pureV, eqV, eqB, lenV, binV, intBin, intV, idxA, List.drop, List.take, RetP, retP, resV, resOne, snapV, snapVs, snapR, snapRs, ownSz, pickV, AO.isC, opE, opD, funV, h3, b1, h9, h10, h11, hlt, hget, loadC, n1, k.call, stateP, c1, c2']
        refine hret 13 i ho.symm _ _ _ (nx + 1) ?_ ?_
        · simp only [look_if, Nat.reduceEqDiff, if_true, if_false]
        · simp only [blkAt_if, if_true]
      · rw [if_neg c2] at ho
        have c2' : ¬ l.max < (sizeN l.id t.pods : Int) := c2
        simp only [runL, opQ, evOp, evO, evOs, guardV, argsA, pvs, putS, cellsOf, scals, scal, Nat.reduceEqDiff, Nat.reduceAdd, reduceCtorEq, fieldA, nonNil, cellsAt, mkAgg, allPV, storeB, patchL, Int.reduceToNat, Nat.reduceMul, Nat.reduceLT, stepA, Int.reduceNeg, Int.reduceLE, Int.reduceLT, Int.reduceEq, extractV, mkAgg, Nat.reduceLeDiff, fillA, pureVs, pureV, eqV, eqB, lenV, binV, intBin, intV, idxA, List.drop, List.take, RetP, retP, resV, resOne, snapV, snapVs, snapR, snapRs, ownSz, pickV, AO.isC, opE, opD, funV, h3, b1, h9, h10, h11, hlt, hget, loadC, n1, k.call, stateP, c1, c2', hw]
        refine ih (i + 1) hd' hi' ho _ _ _ (by omega) ?_ ?_ ?_ ?_ ?_
        all_goals simp only [look_if, blkAt_if, Nat.reduceEqDiff, if_true, if_false, h3, b1, h9, h10, n1]
def errO : Option (Int × Int) → PV
  | none => .nili
  | some (c, i) => spotE i c
theorem check9_ok (h70 : Std T 70 f70) (h71 : Std T 71 f71) (s : Snap) (t : State) (ht : t.pods.length ≤ 2 ^ 30) (hl : s.loads.length ≤ 2 ^ 30) : Gives T 70 [snapP s, stateP t] (errO (badLoad t.pods 0 s.loads)) := by
  refine gives h70 rfl ?_
  simp only [f70, runL, opQ, evOp, evO, evOs, guardV, argsA, pvs, putS, cellsOf, scals, scal, Nat.reduceEqDiff, Nat.reduceAdd, reduceCtorEq, fieldA, nonNil, cellsAt, mkAgg, allPV, storeB, patchL, Int.reduceToNat, Nat.reduceMul, Nat.reduceLT, stepA, Int.reduceNeg, Int.reduceLE, Int.reduceLT, Int.reduceEq, extractV, mkAgg, Nat.reduceLeDiff, fillA, pureVs, pureV, eqV, eqB, lenV, binV, intBin, intV, idxA, List.drop, List.take, RetP, retP, resV, resOne, snapV, snapVs, snapR, snapRs, ownSz, pickV, AO.isC, opE, opD, funV, snapP, stateP]
  refine check9_loop s t ht hl h71 _ (badLoad t.pods 0 s.loads) (fun ho fr hp nx => ?_) (fun c i ho fr hp nx id h4 hb => ?_) s.loads 0 rfl (Nat.zero_le _) rfl _ _ _ (Nat.le_refl _) rfl rfl rfl rfl rfl
  · simp only [runL, opQ, evOp, evO, evOs, guardV, argsA, pvs, putS, cellsOf, scals, scal, Nat.reduceEqDiff, Nat.reduceAdd, reduceCtorEq, fieldA, nonNil, cellsAt, mkAgg, allPV, storeB, patchL, Int.reduceToNat, Nat.reduceMul, Nat.reduceLT, stepA, Int.reduceNeg, Int.reduceLE, Int.reduceLT, Int.reduceEq, extractV, mkAgg, Nat.reduceLeDiff, fillA, pureVs, pureV, eqV, eqB, lenV, binV, intBin, intV, idxA, List.drop, List.take, RetP, retP, resV, resOne, snapV, snapVs, snapR, snapRs, ownSz, pickV, AO.isC, opE, opD, funV, ho, errO]
  · simp only [runL, opQ, evOp, evO, evOs, guardV, argsA, pvs, putS, cellsOf, scals, scal, Nat.reduceEqDiff, Nat.reduceAdd, reduceCtorEq, fieldA, nonNil, cellsAt, mkAgg, allPV, storeB, patchL, Int.reduceToNat, Nat.reduceMul, Nat.reduceLT, stepA, Int.reduceNeg, Int.reduceLE, Int.reduceLT, Int.reduceEq, extractV, mkAgg, Nat.reduceLeDiff, fillA, pureVs, pureV, eqV, eqB, lenV, binV, intBin, intV, idxA, List.drop, List.take, RetP, retP, resV, resOne, snapV, snapVs, snapR, snapRs, ownSz, pickV, AO.isC, opE, opD, funV, ho, errO, h4, hb, spotE]
def usedB (x : Spec) (t : State) : Bool := decide (t.pre > x.pre) || decide (t.shi > x.shi)
theorem used9_ok (h72 : Std T 72 f72) (x : Spec) (t : State) : Gives T 72 [specP x, stateP t] (cond (usedB x t) (codeE 15) .nili) := by
  refine gives h72 rfl ?_
  unfold usedB
  by_cases c1 : x.pre < t.pre <;> by_cases c2 : x.shi < t.shi <;>
    simp only [f72, runL, opQ, evOp, evO, evOs, guardV, argsA, pvs, putS, cellsOf, scals, scal, Nat.reduceEqDiff, Nat.reduceAdd, reduceCtorEq, fieldA, nonNil, cellsAt, mkAgg, allPV, storeB, patchL, Int.reduceToNat, Nat.reduceMul, Nat.reduceLT, stepA, Int.reduceNeg, Int.reduceLE, Int.reduceLT, Int.reduceEq, extractV, mkAgg, Nat.reduceLeDiff, fillA, pureVs, pureV, eqV, eqB, lenV, binV, intBin, intV, idxA, List.drop, List.take, RetP, retP, resV, resOne, snapV, snapVs, snapR, snapRs, ownSz, pickV, AO.isC, opE, opD, funV, specP, stateP, c1, c2, codeE, Bool.true_or, Bool.or_true, Bool.or_false, Bool.false_or]
/-! ### The laws' own helpers -/
theorem code_nil (h102 : Std T 102 f102) : Gives T 102 [.nili] (.int .i64 0) := by
  refine gives h102 rfl ?_
  simp only [f102, runL, opQ, evOp, evO, evOs, guardV, argsA, pvs, putS, cellsOf, scals, scal, Nat.reduceEqDiff, Nat.reduceAdd, reduceCtorEq, fieldA, nonNil, cellsAt, mkAgg, allPV, storeB, patchL, Int.reduceToNat, Nat.reduceMul, Nat.reduceLT, stepA, Int.reduceNeg, Int.reduceLE, Int.reduceLT, Int.reduceEq, extractV, mkAgg, Nat.reduceLeDiff, fillA, pureVs, pureV, eqV, eqB, lenV, binV, intBin, intV, idxA, List.drop, List.take, RetP, retP, resV, resOne, snapV, snapVs, snapR, snapRs, ownSz, pickV, AO.isC, opE, opD, funV, AO.isC, Bool.or_true]
end
end Go.Proofs.YtlfphlobcopemaaDoor.Ab
set_option linter.unusedVariables false
set_option linter.unusedSimpArgs false
namespace Go.Proofs.YtlfphlobcopemaaDoor.Ab
open Go
/-! ### Plain: all counts together -/
section
variable {T : Tab}
end
end Go.Proofs.YtlfphlobcopemaaDoor.Ab
set_option linter.unusedVariables false
namespace Go.Proofs.YtlfphlobcopemaaDoor.Ab
open Go
def f68l0 : ACode :=
 (.seq (.ops [
   ⟨some 23, .bin .lss none (.t 22) (.t 21), none, []⟩])
  (.seq (.cond (.t 23)
   .skip
   (.exit 2))
  (.seq (.block 3
   (.seq (.ops [
     ⟨some 24, .idxAddr 8 (.t 20) (.t 22), none, []⟩,
     ⟨some 25, .load true 8 (.t 24), none, [0]⟩,
     ⟨some 8, .alloc [(.pv (.int .i64 0)), (.pv (.int .i64 0)), (.pv (.int .i64 0)), (.pv (.int .u64 0)), (.pv (.int .u64 0)), (.pv (.int .u64 0)), (.pv (.int .u64 0)), (.pv (.int .i64 0))], none, []⟩,
     ⟨none, .store 8 (.t 8) (.t 25), none, [2, 1, 0, 1, 2]⟩])
    (.seq (.ops [
     ⟨some 26, .load true 3 (.t 2), none, []⟩,
     ⟨some 27, .load true 8 (.t 6), none, []⟩,
     ⟨some 28, .load true 8 (.t 8), none, []⟩,
     ⟨some 29, .call 69 [(.t 26), (.t 27), (.t 28)], none, [0, 1, 2]⟩])
    (.cond (.t 29)
     (.seq (.ops [
       ⟨some 30, .mv (.t 5), none, []⟩,
       ⟨some 31, .build [(.pv (.int .i64 0)), (.pv (.int .i64 0))] [(0, 1, (.t 30)), (1, 1, (.c (.pv (.int .i64 10))))], none, [0]⟩,
       ⟨some 32, .box (.t 31), none, [1]⟩,
       ⟨some 33, .mkI 1 (.t 32), none, [2]⟩,
       ⟨some 4, .mv (.t 33), none, [3, 0, 1, 2, 3]⟩])
      .ret)
     .skip))))
  (.ops [
   ⟨some 34, .bin .add none (.t 22) (.c (.pv (.int .i64 1))), none, []⟩,
   ⟨some 22, .mv (.t 34), none, [0]⟩]))))
def f68l1 : ACode :=
 (.seq (.ops [
   ⟨some 13, .bin .lss none (.t 12) (.t 11), none, []⟩])
  (.seq (.cond (.t 13)
   .skip
   (.exit 0))
  (.seq (.block 1
   (.seq (.ops [
     ⟨some 14, .mv (.t 12), none, []⟩,
     ⟨some 15, .idxAddr 8 (.t 10) (.t 12), none, []⟩,
     ⟨some 16, .load true 8 (.t 15), none, [1]⟩,
     ⟨some 6, .alloc [(.pv (.int .i64 0)), (.pv (.int .i64 0)), (.pv (.int .i64 0)), (.pv (.int .u64 0)), (.pv (.int .u64 0)), (.pv (.int .u64 0)), (.pv (.int .u64 0)), (.pv (.int .i64 0))], none, []⟩,
     ⟨some 5, .mv (.t 14), none, [0, 0, 1, 2, 3]⟩,
     ⟨none, .store 8 (.t 6) (.t 16), none, [3, 2, 4, 0, 1, 2, 3, 4]⟩])
    (.seq (.ops [
     ⟨some 17, .fieldAddr 0 (.t 3), none, []⟩,
     ⟨some 18, .load false 1 (.t 17), none, [0]⟩,
     ⟨some 19, .mv (.t 5), none, []⟩,
     ⟨some 20, .slice 8 (.t 18) none (some (.t 19)), none, [1, 2]⟩,
     ⟨some 21, .len (.t 20), none, [3]⟩,
     ⟨some 22, .mv (.c (.pv (.int .i64 0))), none, []⟩])
    (.block 2
     (.loop f68l0)))))
  (.ops [
   ⟨some 35, .bin .add none (.t 12) (.c (.pv (.int .i64 1))), none, []⟩,
   ⟨some 12, .mv (.t 35), none, [0]⟩]))))
def f68 : AFunc := ⟨36, [.t 4],
 (.seq (.ops [
   ⟨some 2, .box (.t 0), none, []⟩,
   ⟨some 3, .box (.t 1), none, []⟩,
   ⟨some 4, .mv (.c (.pv .nili)), none, []⟩])
  (.seq (.seq (.ops [
   ⟨some 9, .fieldAddr 0 (.t 3), none, []⟩,
   ⟨some 10, .load false 1 (.t 9), none, [0]⟩,
   ⟨some 11, .len (.t 10), none, [1]⟩,
   ⟨some 12, .mv (.c (.pv (.int .i64 0))), none, []⟩])
  (.block 0
   (.loop f68l1)))
  (.seq (.ops [
   ⟨some 4, .mv (.c (.pv .nili)), none, []⟩])
  .ret)))⟩
def f69 : AFunc := ⟨40, [.t 6],
 (.seq (.ops [
   ⟨some 3, .box (.t 0), none, []⟩,
   ⟨some 4, .box (.t 1), none, []⟩,
   ⟨some 5, .box (.t 2), none, []⟩,
   ⟨some 6, .mv (.c (.pv (.bool false))), none, []⟩])
  (.seq (.ops [
   ⟨some 10, .load true 3 (.t 3), none, []⟩,
   ⟨some 11, .fieldAddr 1 (.t 4), none, []⟩,
   ⟨some 12, .load false 1 (.t 11), none, [1]⟩,
   ⟨some 13, .call 81 [(.t 10), (.t 12)], none, [0, 2]⟩,
   ⟨some 9, .mv (.t 13), none, [3]⟩,
   ⟨some 14, .extract (.t 9) 0, none, [4]⟩,
   ⟨some 15, .extract (.t 9) 1, none, [4]⟩,
   ⟨some 7, .alloc [(.pv (.int .i64 0)), (.pv (.bool false)), (.pv (.int .i64 0)), (.pv (.int .i64 0)), (.pv (.int .i64 0))], none, []⟩,
   ⟨none, .store 5 (.t 7) (.t 14), none, [7, 5, 3, 0, 1, 2, 3, 4, 5, 7]⟩,
   ⟨some 8, .mv (.t 15), none, [6, 8, 0, 1, 2, 3, 4, 5, 6, 7, 8]⟩])
  (.seq (.ops [
   ⟨some 16, .fieldAddr 1 (.t 4), none, []⟩,
   ⟨some 17, .load false 1 (.t 16), none, [0]⟩,
   ⟨some 18, .fieldAddr 1 (.t 5), none, []⟩,
   ⟨some 19, .load false 1 (.t 18), none, [2]⟩,
   ⟨some 20, .bin .eql none (.t 17) (.t 19), none, [1, 3]⟩,
   ⟨some 21, .mv (.t 20), none, [4]⟩,
   ⟨some 22, .fieldAddr 7 (.t 4), some (21, true), [5]⟩,
   ⟨some 23, .load false 1 (.t 22), some (21, true), [6, 5]⟩,
   ⟨some 24, .fieldAddr 7 (.t 5), some (21, true), [5]⟩,
   ⟨some 25, .load false 1 (.t 24), some (21, true), [8, 5]⟩,
   ⟨some 26, .bin .eql none (.t 23) (.t 25), some (21, true), [7, 9, 5]⟩,
   ⟨some 27, .pick (.t 21) (.t 26) (.c (.pv (.bool false))), none, [5, 10]⟩,
   ⟨some 28, .mv (.t 27), none, [11, 5]⟩,
   ⟨some 29, .fieldAddr 7 (.t 4), some (28, true), [12]⟩,
   ⟨some 30, .load false 1 (.t 29), some (28, true), [13, 12]⟩,
   ⟨some 31, .bin .neq none (.t 30) (.c (.pv (.int .i64 0))), some (28, true), [14, 12]⟩,
   ⟨some 32, .pick (.t 28) (.t 31) (.c (.pv (.bool false))), none, [12, 15]⟩,
   ⟨some 33, .mv (.t 32), none, [16, 12]⟩,
   ⟨some 34, .mv (.t 8), some (33, true), [17]⟩,
   ⟨some 35, .pick (.t 33) (.t 34) (.c (.pv (.bool false))), none, [17, 18]⟩,
   ⟨some 36, .mv (.t 35), none, [19, 17]⟩,
   ⟨some 37, .fieldAddr 1 (.t 7), some (36, true), [20]⟩,
   ⟨some 38, .load false 1 (.t 37), some (36, true), [21, 20]⟩,
   ⟨some 39, .pick (.t 36) (.t 38) (.c (.pv (.bool false))), none, [20, 22]⟩,
   ⟨some 6, .mv (.t 39), none, [23, 20, 0, 1, 2, 3, 4, 5, 6, 7, 8, 9, 10, 11, 12, 13, 14, 15, 16, 17, 18, 19, 20, 21, 22, 23]⟩])
  .ret)))⟩
def f81l0 : ACode :=
 (.seq (.ops [
   ⟨some 12, .bin .lss none (.t 11) (.t 10), none, []⟩])
  (.seq (.cond (.t 12)
   .skip
   (.exit 0))
  (.seq (.block 1
   (.seq (.ops [
     ⟨some 13, .idxAddr 5 (.t 9) (.t 11), none, []⟩,
     ⟨some 14, .load true 5 (.t 13), none, [0]⟩,
     ⟨some 7, .alloc [(.pv (.int .i64 0)), (.pv (.bool false)), (.pv (.int .i64 0)), (.pv (.int .i64 0)), (.pv (.int .i64 0))], none, []⟩,
     ⟨none, .store 5 (.t 7) (.t 14), none, [2, 1, 0, 1, 2]⟩])
    (.seq (.ops [
     ⟨some 15, .fieldAddr 0 (.t 7), none, []⟩,
     ⟨some 16, .load false 1 (.t 15), none, [0]⟩,
     ⟨some 17, .mv (.t 1), none, []⟩,
     ⟨some 18, .bin .eql none (.t 16) (.t 17), none, [1, 2]⟩])
    (.cond (.t 18)
     (.seq (.ops [
       ⟨some 19, .load true 5 (.t 7), none, []⟩,
       ⟨none, .store 5 (.t 4) (.t 19), none, [0, 0]⟩,
       ⟨some 5, .mv (.c (.pv (.bool true))), none, [1, 0, 1]⟩])
      .ret)
     .skip))))
  (.ops [
   ⟨some 20, .bin .add none (.t 11) (.c (.pv (.int .i64 1))), none, []⟩,
   ⟨some 11, .mv (.t 20), none, [0]⟩]))))
def f81 : AFunc := ⟨22, [.cell 4 true 5, .t 5],
 (.seq (.ops [
   ⟨some 2, .box (.t 0), none, []⟩,
   ⟨some 4, .alloc [(.pv (.int .i64 0)), (.pv (.bool false)), (.pv (.int .i64 0)), (.pv (.int .i64 0)), (.pv (.int .i64 0))], none, []⟩,
   ⟨some 5, .mv (.c (.pv (.bool false))), none, []⟩])
  (.seq (.seq (.ops [
   ⟨some 8, .fieldAddr 1 (.t 2), none, []⟩,
   ⟨some 9, .load false 1 (.t 8), none, [0]⟩,
   ⟨some 10, .len (.t 9), none, [1]⟩,
   ⟨some 11, .mv (.c (.pv (.int .i64 0))), none, []⟩])
  (.block 0
   (.loop f81l0)))
  (.seq (.ops [
   ⟨some 21, .build [(.pv (.int .i64 0)), (.pv (.bool false)), (.pv (.int .i64 0)), (.pv (.int .i64 0)), (.pv (.int .i64 0))] [], none, []⟩,
   ⟨none, .store 5 (.t 4) (.t 21), none, [0, 0]⟩,
   ⟨some 5, .mv (.c (.pv (.bool false))), none, [1, 0, 1]⟩])
  .ret)))⟩
def f219l0 : ACode :=
 (.seq (.ops [
   ⟨some 14, .bin .lss none (.t 13) (.t 12), none, []⟩])
  (.seq (.cond (.t 14)
   .skip
   (.exit 0))
  (.seq (.block 1
   (.seq (.ops [
     ⟨some 15, .mv (.t 13), none, []⟩,
     ⟨some 16, .idxAddr 10 (.t 11) (.t 13), none, []⟩,
     ⟨some 17, .load true 10 (.t 16), none, [1]⟩,
     ⟨some 6, .alloc [(.pv (.int .i64 0)), (.pv (.int .i64 0)), (.pv (.int .u64 0)), (.pv (.int .u64 0)), (.pv (.int .u64 0)), (.pv (.int .u64 0)), (.pv (.int .u64 0)), (.pv (.int .u64 0)), (.pv (.int .u64 0)), (.pv (.int .u64 0))], none, []⟩,
     ⟨some 5, .mv (.t 15), none, [0, 0, 1, 2, 3]⟩,
     ⟨none, .store 10 (.t 6) (.t 17), none, [3, 2, 4, 0, 1, 2, 3, 4]⟩])
    (.seq (.ops [
     ⟨some 19, .load true 3 (.t 2), none, []⟩,
     ⟨some 20, .load true 3 (.t 3), none, []⟩,
     ⟨some 21, .fieldAddr 0 (.t 6), none, []⟩,
     ⟨some 22, .load false 1 (.t 21), none, [2]⟩,
     ⟨some 23, .call 220 [(.t 19), (.t 20), (.t 22)], none, [0, 1, 3]⟩,
     ⟨some 18, .mv (.t 23), none, [4]⟩,
     ⟨some 24, .extract (.t 18) 0, none, [5]⟩,
     ⟨some 25, .extract (.t 18) 1, none, [5]⟩,
     ⟨some 7, .alloc [(.pv (.int .u64 0)), (.pv (.int .u64 0)), (.pv (.int .u64 0)), (.pv (.int .u64 0))], none, []⟩,
     ⟨none, .store 4 (.t 7) (.t 24), none, [8, 6, 4, 0, 1, 2, 3, 4, 5, 6, 8]⟩,
     ⟨some 8, .mv (.t 25), none, [7, 9, 0, 1, 2, 3, 4, 5, 6, 7, 8, 9]⟩])
    (.seq (.ops [
     ⟨some 9, .alloc [(.pv (.int .i64 0))], none, []⟩])
    (.seq (.ops [
     ⟨some 26, .mv (.t 8), none, []⟩,
     ⟨some 27, .mkI 3 (.t 9), none, []⟩,
     ⟨some 28, .call 266 [(.t 26), (.t 27)], none, [0, 1]⟩])
    (.cond (.t 28)
     (.seq (.ops [
       ⟨some 29, .mv (.t 5), none, []⟩,
       ⟨some 30, .load false 1 (.t 9), none, []⟩,
       ⟨some 31, .build [(.pv (.int .i64 0)), (.pv (.int .i64 0))] [(0, 1, (.t 29)), (1, 1, (.t 30))], none, [0, 1]⟩,
       ⟨some 32, .box (.t 31), none, [2]⟩,
       ⟨some 33, .mkI 1 (.t 32), none, [3]⟩,
       ⟨some 4, .mv (.t 33), none, [4, 0, 1, 2, 3, 4]⟩])
      .ret)
     .skip))))))
  (.ops [
   ⟨some 34, .bin .add none (.t 13) (.c (.pv (.int .i64 1))), none, []⟩,
   ⟨some 13, .mv (.t 34), none, [0]⟩]))))
def f219 : AFunc := ⟨35, [.t 4],
 (.seq (.ops [
   ⟨some 2, .box (.t 0), none, []⟩,
   ⟨some 3, .box (.t 1), none, []⟩,
   ⟨some 4, .mv (.c (.pv .nili)), none, []⟩])
  (.seq (.seq (.ops [
   ⟨some 10, .fieldAddr 0 (.t 2), none, []⟩,
   ⟨some 11, .load false 1 (.t 10), none, [0]⟩,
   ⟨some 12, .len (.t 11), none, [1]⟩,
   ⟨some 13, .mv (.c (.pv (.int .i64 0))), none, []⟩])
  (.block 0
   (.loop f219l0)))
  (.seq (.ops [
   ⟨some 4, .mv (.c (.pv .nili)), none, []⟩])
  .ret)))⟩
def f220 : AFunc := ⟨54, [.cell 6 true 4, .t 7],
 (.seq (.ops [
   ⟨some 3, .box (.t 0), none, []⟩,
   ⟨some 4, .box (.t 1), none, []⟩,
   ⟨some 6, .alloc [(.pv (.int .u64 0)), (.pv (.int .u64 0)), (.pv (.int .u64 0)), (.pv (.int .u64 0))], none, []⟩,
   ⟨some 7, .mv (.c (.pv .nili)), none, []⟩])
  (.seq (.ops [
   ⟨some 14, .load true 3 (.t 3), none, []⟩,
   ⟨some 15, .mv (.t 2), none, []⟩,
   ⟨some 16, .call 82 [(.t 14), (.t 15)], none, [0, 1]⟩,
   ⟨some 13, .mv (.t 16), none, [2]⟩,
   ⟨some 17, .extract (.t 13) 0, none, [3]⟩,
   ⟨some 18, .extract (.t 13) 1, none, [3]⟩,
   ⟨some 8, .alloc [(.pv (.int .i64 0)), (.pv (.int .i64 0)), (.pv (.int .u64 0)), (.pv (.int .u64 0)), (.pv (.int .u64 0)), (.pv (.int .u64 0)), (.pv (.int .u64 0)), (.pv (.int .u64 0)), (.pv (.int .u64 0)), (.pv (.int .u64 0))], none, []⟩,
   ⟨none, .store 10 (.t 8) (.t 17), none, [6, 4, 2, 0, 1, 2, 3, 4, 6]⟩,
   ⟨some 9, .mv (.t 18), none, [5, 7, 0, 1, 2, 3, 4, 5, 6, 7]⟩])
  (.seq (.seq (.ops [
   ⟨some 19, .mv (.t 9), none, []⟩,
   ⟨some 20, .not (.t 19), none, [0]⟩])
  (.cond (.t 20)
   (.seq (.ops [
     ⟨some 21, .build [(.pv (.int .u64 0)), (.pv (.int .u64 0)), (.pv (.int .u64 0)), (.pv (.int .u64 0))] [], none, []⟩,
     ⟨some 22, .mkI 0 (.c (.pv (.int .i64 4))), none, []⟩,
     ⟨none, .store 4 (.t 6) (.t 21), none, [0, 0]⟩,
     ⟨some 7, .mv (.t 22), none, [1, 2, 0, 1, 2]⟩])
    .ret)
   .skip))
  (.seq (.ops [
   ⟨some 24, .load true 3 (.t 4), none, []⟩,
   ⟨some 25, .mv (.t 2), none, []⟩,
   ⟨some 26, .call 221 [(.t 24), (.t 25)], none, [0, 1]⟩,
   ⟨some 23, .mv (.t 26), none, [2]⟩,
   ⟨some 27, .extract (.t 23) 0, none, [3]⟩,
   ⟨some 28, .extract (.t 23) 1, none, [3]⟩,
   ⟨some 10, .alloc [(.pv (.int .u64 0)), (.pv (.int .u64 0)), (.pv (.int .u64 0)), (.pv (.int .u64 0))], none, []⟩,
   ⟨none, .store 4 (.t 10) (.t 27), none, [6, 4, 2, 0, 1, 2, 3, 4, 6]⟩,
   ⟨some 11, .mv (.t 28), none, [5, 7, 0, 1, 2, 3, 4, 5, 6, 7]⟩])
  (.seq (.seq (.ops [
   ⟨some 29, .mv (.t 11), none, []⟩,
   ⟨some 30, .bin .neq (some (.iface true)) (.t 29) (.c (.pv .nili)), none, [0]⟩])
  (.cond (.t 30)
   (.seq (.ops [
     ⟨some 31, .build [(.pv (.int .u64 0)), (.pv (.int .u64 0)), (.pv (.int .u64 0)), (.pv (.int .u64 0))] [], none, []⟩,
     ⟨some 32, .mv (.t 11), none, []⟩,
     ⟨none, .store 4 (.t 6) (.t 31), none, [0, 0]⟩,
     ⟨some 7, .mv (.t 32), none, [1, 2, 0, 1, 2]⟩])
    .ret)
   .skip))
  (.seq (.ops [
   ⟨some 34, .fieldAddr 2 (.t 8), none, []⟩,
   ⟨some 35, .load true 4 (.t 34), none, [0]⟩,
   ⟨some 36, .fieldAddr 6 (.t 8), none, []⟩,
   ⟨some 37, .load true 4 (.t 36), none, [2]⟩,
   ⟨some 38, .call 258 [(.t 35), (.t 37)], none, [1, 3]⟩,
   ⟨some 33, .mv (.t 38), none, [4]⟩,
   ⟨some 39, .extract (.t 33) 0, none, [5]⟩,
   ⟨some 40, .extract (.t 33) 1, none, [5]⟩,
   ⟨some 12, .alloc [(.pv (.int .u64 0)), (.pv (.int .u64 0)), (.pv (.int .u64 0)), (.pv (.int .u64 0))], none, []⟩,
   ⟨none, .store 4 (.t 12) (.t 39), none, [8, 6, 4, 0, 1, 2, 3, 4, 5, 6, 8]⟩,
   ⟨some 11, .mv (.t 40), none, [7, 9, 0, 1, 2, 3, 4, 5, 6, 7, 8, 9]⟩])
  (.seq (.seq (.ops [
   ⟨some 41, .mv (.t 11), none, []⟩,
   ⟨some 42, .bin .eql (some (.iface true)) (.t 41) (.c (.pv .nili)), none, [0]⟩])
  (.cond (.t 42)
   (.ops [
     ⟨some 44, .load true 4 (.t 12), none, []⟩,
     ⟨some 45, .load true 4 (.t 10), none, []⟩,
     ⟨some 46, .call 258 [(.t 44), (.t 45)], none, [0, 1]⟩,
     ⟨some 43, .mv (.t 46), none, [2]⟩,
     ⟨some 47, .extract (.t 43) 0, none, [3]⟩,
     ⟨some 48, .extract (.t 43) 1, none, [3]⟩,
     ⟨none, .store 4 (.t 12) (.t 47), none, [4, 2, 0, 1, 2, 3, 4]⟩,
     ⟨some 11, .mv (.t 48), none, [5, 6, 0, 1, 2, 3, 4, 5, 6]⟩])
   .skip))
  (.seq (.seq (.ops [
   ⟨some 49, .mv (.t 11), none, []⟩,
   ⟨some 50, .bin .neq (some (.iface true)) (.t 49) (.c (.pv .nili)), none, [0]⟩])
  (.cond (.t 50)
   (.seq (.ops [
     ⟨some 51, .build [(.pv (.int .u64 0)), (.pv (.int .u64 0)), (.pv (.int .u64 0)), (.pv (.int .u64 0))] [], none, []⟩,
     ⟨some 52, .mkI 0 (.c (.pv (.int .i64 9))), none, []⟩,
     ⟨none, .store 4 (.t 6) (.t 51), none, [0, 0]⟩,
     ⟨some 7, .mv (.t 52), none, [1, 2, 0, 1, 2]⟩])
    .ret)
   .skip))
  (.seq (.ops [
   ⟨some 53, .load true 4 (.t 12), none, []⟩,
   ⟨none, .store 4 (.t 6) (.t 53), none, [0, 0]⟩,
   ⟨some 7, .mv (.c (.pv .nili)), none, [1, 0, 1]⟩])
  .ret)))))))))⟩
def f221l0 : ACode :=
 (.seq (.ops [
   ⟨some 13, .bin .lss none (.t 12) (.t 11), none, []⟩])
  (.seq (.cond (.t 13)
   .skip
   (.exit 0))
  (.seq (.block 1
   (.seq (.ops [
     ⟨some 14, .idxAddr 8 (.t 10) (.t 12), none, []⟩,
     ⟨some 15, .load true 8 (.t 14), none, [0]⟩,
     ⟨some 8, .alloc [(.pv (.int .i64 0)), (.pv (.int .i64 0)), (.pv (.int .i64 0)), (.pv (.int .u64 0)), (.pv (.int .u64 0)), (.pv (.int .u64 0)), (.pv (.int .u64 0)), (.pv (.int .i64 0))], none, []⟩,
     ⟨none, .store 8 (.t 8) (.t 15), none, [2, 1, 0, 1, 2]⟩])
    (.seq (.ops [
     ⟨some 16, .fieldAddr 7 (.t 8), none, []⟩,
     ⟨some 17, .load false 1 (.t 16), none, [0]⟩,
     ⟨some 18, .mv (.t 1), none, []⟩,
     ⟨some 19, .bin .eql none (.t 17) (.t 18), none, [1, 2]⟩])
    (.cond (.t 19)
     (.ops [
       ⟨some 20, .mv (.t 6), none, []⟩,
       ⟨some 21, .fieldAddr 3 (.t 8), none, []⟩,
       ⟨some 22, .load true 4 (.t 21), none, [1]⟩,
       ⟨some 23, .bslice 4 1 [(.pv (.int .u64 0)), (.pv (.int .u64 0)), (.pv (.int .u64 0)), (.pv (.int .u64 0))] [(0, 4, (.t 22))], none, [2]⟩,
       ⟨some 24, .append 4 32 (.t 20) (.t 23), none, [0, 3]⟩,
       ⟨some 6, .mv (.t 24), none, [4, 4, 0, 1, 2, 3, 4]⟩])
     .skip))))
  (.ops [
   ⟨some 25, .bin .add none (.t 12) (.c (.pv (.int .i64 1))), none, []⟩,
   ⟨some 12, .mv (.t 25), none, [0]⟩]))))
def f221 : AFunc := ⟨30, [.cell 4 true 4, .t 5],
 (.seq (.ops [
   ⟨some 2, .box (.t 0), none, []⟩,
   ⟨some 4, .alloc [(.pv (.int .u64 0)), (.pv (.int .u64 0)), (.pv (.int .u64 0)), (.pv (.int .u64 0))], none, []⟩,
   ⟨some 5, .mv (.c (.pv .nili)), none, []⟩])
  (.seq (.ops [
   ⟨some 6, .mv (.c .nils), none, []⟩])
  (.seq (.seq (.ops [
   ⟨some 9, .fieldAddr 0 (.t 2), none, []⟩,
   ⟨some 10, .load false 1 (.t 9), none, [0]⟩,
   ⟨some 11, .len (.t 10), none, [1]⟩,
   ⟨some 12, .mv (.c (.pv (.int .i64 0))), none, []⟩])
  (.block 0
   (.loop f221l0)))
  (.seq (.ops [
   ⟨some 26, .mv (.t 6), none, []⟩,
   ⟨some 27, .call 260 [(.t 26)], none, [0]⟩,
   ⟨some 28, .extract (.t 27) 0, none, [1]⟩,
   ⟨some 29, .extract (.t 27) 1, none, [1]⟩,
   ⟨none, .store 4 (.t 4) (.t 28), none, [2, 1, 0, 1, 2, 3]⟩,
   ⟨some 5, .mv (.t 29), none, [3, 4, 0, 1, 2, 3, 4]⟩])
  .ret))))⟩
def f255 : AFunc := ⟨11, [.cell 4 true 4, .t 5],
 (.seq (.ops [
   ⟨some 2, .box (.t 0), none, []⟩,
   ⟨some 3, .box (.t 1), none, []⟩,
   ⟨some 4, .alloc [(.pv (.int .u64 0)), (.pv (.int .u64 0)), (.pv (.int .u64 0)), (.pv (.int .u64 0))], none, []⟩,
   ⟨some 5, .mv (.c (.pv .nili)), none, []⟩])
  (.seq (.ops [
   ⟨some 6, .load true 4 (.t 2), none, []⟩,
   ⟨some 7, .load true 4 (.t 3), none, []⟩,
   ⟨some 8, .call 261 [(.t 6), (.t 7), (.f 256)], none, [0, 1]⟩,
   ⟨some 9, .extract (.t 8) 0, none, [2]⟩,
   ⟨some 10, .extract (.t 8) 1, none, [2]⟩,
   ⟨none, .store 4 (.t 4) (.t 9), none, [3, 2, 0, 1, 2, 3, 4]⟩,
   ⟨some 5, .mv (.t 10), none, [4, 5, 0, 1, 2, 3, 4, 5]⟩])
  .ret))⟩
def f258 : AFunc := ⟨11, [.cell 4 true 4, .t 5],
 (.seq (.ops [
   ⟨some 2, .box (.t 0), none, []⟩,
   ⟨some 3, .box (.t 1), none, []⟩,
   ⟨some 4, .alloc [(.pv (.int .u64 0)), (.pv (.int .u64 0)), (.pv (.int .u64 0)), (.pv (.int .u64 0))], none, []⟩,
   ⟨some 5, .mv (.c (.pv .nili)), none, []⟩])
  (.seq (.ops [
   ⟨some 6, .load true 4 (.t 2), none, []⟩,
   ⟨some 7, .load true 4 (.t 3), none, []⟩,
   ⟨some 8, .call 261 [(.t 6), (.t 7), (.f 259)], none, [0, 1]⟩,
   ⟨some 9, .extract (.t 8) 0, none, [2]⟩,
   ⟨some 10, .extract (.t 8) 1, none, [2]⟩,
   ⟨none, .store 4 (.t 4) (.t 9), none, [3, 2, 0, 1, 2, 3, 4]⟩,
   ⟨some 5, .mv (.t 10), none, [4, 5, 0, 1, 2, 3, 4, 5]⟩])
  .ret))⟩
def f259 : AFunc := ⟨12, [.t 4, .t 5],
 (.seq (.ops [
   ⟨some 4, .mv (.c (.pv (.int .u64 0))), none, []⟩,
   ⟨some 5, .mv (.c (.pv (.bool false))), none, [0]⟩])
  (.seq (.ops [
   ⟨some 6, .mv (.t 0), none, []⟩,
   ⟨some 7, .mv (.t 1), none, []⟩,
   ⟨some 8, .bin .sub none (.t 6) (.t 7), none, [0, 1]⟩,
   ⟨some 9, .mv (.t 0), none, []⟩,
   ⟨some 10, .mv (.t 1), none, []⟩,
   ⟨some 11, .bin .geq none (.t 9) (.t 10), none, [3, 4]⟩,
   ⟨some 4, .mv (.t 8), none, [2, 0, 1, 2]⟩,
   ⟨some 5, .mv (.t 11), none, [5, 6, 0, 1, 2, 3, 4, 5, 6]⟩])
  .ret))⟩
def f260l0 : ACode :=
 (.seq (.ops [
   ⟨some 12, .bin .lss none (.t 11) (.t 10), none, []⟩])
  (.seq (.cond (.t 12)
   .skip
   (.exit 0))
  (.seq (.block 1
   (.seq (.ops [
     ⟨some 13, .idxAddr 4 (.t 9) (.t 11), none, []⟩,
     ⟨some 14, .load true 4 (.t 13), none, [0]⟩,
     ⟨some 6, .alloc [(.pv (.int .u64 0)), (.pv (.int .u64 0)), (.pv (.int .u64 0)), (.pv (.int .u64 0))], none, []⟩,
     ⟨none, .store 4 (.t 6) (.t 14), none, [2, 1, 0, 1, 2]⟩])
    (.seq (.ops [
     ⟨some 16, .load true 4 (.t 4), none, []⟩,
     ⟨some 17, .load true 4 (.t 6), none, []⟩,
     ⟨some 18, .call 255 [(.t 16), (.t 17)], none, [0, 1]⟩,
     ⟨some 15, .mv (.t 18), none, [2]⟩,
     ⟨some 19, .extract (.t 15) 0, none, [3]⟩,
     ⟨some 20, .extract (.t 15) 1, none, [3]⟩,
     ⟨some 7, .alloc [(.pv (.int .u64 0)), (.pv (.int .u64 0)), (.pv (.int .u64 0)), (.pv (.int .u64 0))], none, []⟩,
     ⟨none, .store 4 (.t 7) (.t 19), none, [6, 4, 2, 0, 1, 2, 3, 4, 6]⟩,
     ⟨some 8, .mv (.t 20), none, [5, 7, 0, 1, 2, 3, 4, 5, 6, 7]⟩])
    (.seq (.seq (.ops [
     ⟨some 21, .mv (.t 8), none, []⟩,
     ⟨some 22, .bin .neq (some (.iface true)) (.t 21) (.c (.pv .nili)), none, [0]⟩])
    (.cond (.t 22)
     (.seq (.ops [
       ⟨some 23, .build [(.pv (.int .u64 0)), (.pv (.int .u64 0)), (.pv (.int .u64 0)), (.pv (.int .u64 0))] [], none, []⟩,
       ⟨some 24, .mv (.t 8), none, []⟩,
       ⟨none, .store 4 (.t 2) (.t 23), none, [0, 0]⟩,
       ⟨some 3, .mv (.t 24), none, [1, 2, 0, 1, 2]⟩])
      .ret)
     .skip))
    (.ops [
     ⟨some 25, .load true 4 (.t 7), none, []⟩,
     ⟨none, .store 4 (.t 4) (.t 25), none, [0, 0]⟩])))))
  (.ops [
   ⟨some 26, .bin .add none (.t 11) (.c (.pv (.int .i64 1))), none, []⟩,
   ⟨some 11, .mv (.t 26), none, [0]⟩]))))
def f260 : AFunc := ⟨28, [.cell 2 true 4, .t 3],
 (.seq (.ops [
   ⟨some 2, .alloc [(.pv (.int .u64 0)), (.pv (.int .u64 0)), (.pv (.int .u64 0)), (.pv (.int .u64 0))], none, []⟩,
   ⟨some 3, .mv (.c (.pv .nili)), none, []⟩])
  (.seq (.ops [
   ⟨some 4, .alloc [(.pv (.int .u64 0)), (.pv (.int .u64 0)), (.pv (.int .u64 0)), (.pv (.int .u64 0))], none, []⟩])
  (.seq (.seq (.ops [
   ⟨some 9, .mv (.t 0), none, []⟩,
   ⟨some 10, .len (.t 9), none, [0]⟩,
   ⟨some 11, .mv (.c (.pv (.int .i64 0))), none, []⟩])
  (.block 0
   (.loop f260l0)))
  (.seq (.ops [
   ⟨some 27, .load true 4 (.t 4), none, []⟩,
   ⟨none, .store 4 (.t 2) (.t 27), none, [0, 0]⟩,
   ⟨some 3, .mv (.c (.pv .nili)), none, [1, 0, 1]⟩])
  .ret))))⟩
def f261l0 : ACode :=
 (.seq (.ops [
   ⟨some 13, .bin .lss none (.t 12) (.c (.pv (.int .i64 4))), none, []⟩])
  (.seq (.cond (.t 13)
   .skip
   (.exit 0))
  (.seq (.block 1
   (.seq (.ops [
     ⟨some 14, .mv (.t 12), none, []⟩,
     ⟨some 9, .mv (.t 14), none, [0, 0]⟩])
    (.seq (.draw [
     ⟨some 16, .mv (.t 2), none, []⟩,
     ⟨some 17, .mv (.t 9), none, []⟩,
     ⟨some 18, .idxArr 4 1 (.t 3) (.t 17), none, [1]⟩,
     ⟨some 19, .load false 1 (.t 18), none, [2]⟩,
     ⟨some 20, .mv (.t 9), none, []⟩,
     ⟨some 21, .idxArr 4 1 (.t 4) (.t 20), none, [4]⟩,
     ⟨some 22, .load false 1 (.t 21), none, [5]⟩,
     ⟨some 23, .callv (.t 16) [(.t 19), (.t 22)], none, [0, 3, 6]⟩,
     ⟨some 15, .mv (.t 23), none, [7]⟩,
     ⟨some 24, .extract (.t 15) 0, none, [8]⟩,
     ⟨some 25, .extract (.t 15) 1, none, [8]⟩,
     ⟨some 10, .mv (.t 24), none, [9, 7, 0, 1, 2, 3, 4, 5, 6, 7, 8, 9]⟩,
     ⟨some 11, .mv (.t 25), none, [10, 11, 0, 1, 2, 3, 4, 5, 6, 7, 8, 9, 10, 11]⟩])
    (.seq (.seq (.ops [
     ⟨some 26, .mv (.t 11), none, []⟩,
     ⟨some 27, .not (.t 26), none, [0]⟩])
    (.cond (.t 27)
     (.seq (.ops [
       ⟨some 28, .build [(.pv (.int .u64 0)), (.pv (.int .u64 0)), (.pv (.int .u64 0)), (.pv (.int .u64 0))] [], none, []⟩,
       ⟨some 29, .mkI 0 (.c (.pv (.int .i64 8))), none, []⟩,
       ⟨none, .store 4 (.t 6) (.t 28), none, [0, 0]⟩,
       ⟨some 7, .mv (.t 29), none, [1, 2, 0, 1, 2]⟩])
      .ret)
     .skip))
    (.ops [
     ⟨some 30, .mv (.t 9), none, []⟩,
     ⟨some 31, .mv (.t 10), none, []⟩,
     ⟨some 32, .idxArr 4 1 (.t 8) (.t 30), none, [0, 0, 1]⟩,
     ⟨none, .store 1 (.t 32) (.t 31), none, [2, 1, 0, 1]⟩])))))
  (.ops [
   ⟨some 33, .bin .add none (.t 12) (.c (.pv (.int .i64 1))), none, []⟩,
   ⟨some 12, .mv (.t 33), none, [0]⟩]))))
def f261 : AFunc := ⟨35, [.cell 6 true 4, .t 7],
 (.seq (.ops [
   ⟨some 3, .box (.t 0), none, []⟩,
   ⟨some 4, .box (.t 1), none, []⟩,
   ⟨some 6, .alloc [(.pv (.int .u64 0)), (.pv (.int .u64 0)), (.pv (.int .u64 0)), (.pv (.int .u64 0))], none, []⟩,
   ⟨some 7, .mv (.c (.pv .nili)), none, []⟩])
  (.seq (.ops [
   ⟨some 8, .alloc [(.pv (.int .u64 0)), (.pv (.int .u64 0)), (.pv (.int .u64 0)), (.pv (.int .u64 0))], none, []⟩])
  (.seq (.seq (.ops [
   ⟨some 12, .mv (.c (.pv (.int .i64 0))), none, []⟩])
  (.block 0
   (.loop f261l0)))
  (.seq (.ops [
   ⟨some 34, .load true 4 (.t 8), none, []⟩,
   ⟨none, .store 4 (.t 6) (.t 34), none, [0, 0]⟩,
   ⟨some 7, .mv (.c (.pv .nili)), none, [1, 0, 1]⟩])
  .ret))))⟩
end Go.Proofs.YtlfphlobcopemaaDoor.Ab
set_option linter.unusedVariables false
set_option linter.unusedSimpArgs false
namespace Go.Proofs.YtlfphlobcopemaaDoor.Ab
open Go
def load0 : Load := ⟨0, false, 0, 0, 0⟩
def loadOf (id : Int) (l : List Load) : Option Load := l.find? (fun n => decide (n.id = id))
def loadR : Option Load → PV
  | some n => .tuple [.agg (loadC n), .bool true]
  | none => .tuple [.agg (loadC load0), .bool false]
theorem load_loop {T : Tab} (l : List Load) (id : Int) (hl : l.length ≤ 2 ^ 30) (Q : Exit → St → Prop) (o : Option Load)
    (hend : o = none → ∀ fr hp nx, look fr 4 = .ptr 1 0 0 → blkAt hp 1 = .var (pvs (loadC load0)) → Q (.exit 0) ⟨fr, hp, nx⟩)
    (hret : ∀ n, o = some n → ∀ fr hp nx, look fr 4 = .ptr 1 0 0 → look fr 5 = .pv (.bool true) → blkAt hp 1 = .var (pvs (loadC n)) → Q .ret ⟨fr, hp, nx⟩) :
    ∀ (rest : List Load) (i : Nat), l.drop i = rest → i ≤ l.length → loadOf id rest = o → ∀ (fr : List (Nat × AV)) (hp : Hl) (nx : Nat), 2 ≤ nx → look fr 4 = .ptr 1 0 0 → blkAt hp 1 = .var (pvs (loadC load0)) →
      look fr 1 = .pv (.int .i64 id) → look fr 9 = .pv (.slice (l.map loadC)) → look fr 10 = .pv (.int .i64 l.length) → look fr 11 = .pv (.int .i64 i) → Wp T false (.loop f81l0) ⟨fr, hp, nx⟩ Q := by
  intro rest
  induction rest with
  | nil =>
    intro i hd hi ho fr hp nx hn h4 b1 h1 h9 h10 h11
    have hlen := drop_nil hd hi
    rw [Wp_loop, Wp_eq f81l0.eq_1]
    simp only [runL, opQ, evOp, evO, evOs, guardV, argsA, pvs, putS, cellsOf, scals, scal, Nat.reduceEqDiff, Nat.reduceAdd, reduceCtorEq, fieldA, nonNil, cellsAt, mkAgg, allPV, storeB, patchL, Int.reduceToNat, Nat.reduceMul, Nat.reduceLT, stepA, Int.reduceNeg, Int.reduceLE, Int.reduceLT, Int.reduceEq, extractV, mkAgg, Nat.reduceLeDiff, fillA, pureVs, pureV, eqV, eqB, lenV, binV, intBin, intV, idxA, List.drop, List.take, RetP, retP, resV, resOne, snapV, snapVs, snapR, snapRs, ownSz, pickV, AO.isC, opE, opD, funV, h4, h1, h9, h10, h11, hlen, Int.lt_irrefl]
    refine hend ho.symm _ _ _ ?_ b1
    simp only [look_if, Nat.reduceEqDiff, if_false, h4]
  | cons n r ih =>
    intro i hd hi ho fr hp nx hn h4 b1 h1 h9 h10 h11
    obtain ⟨hget, hlt, hw, hd', hi', hb⟩ := drop_cons hd hl
    have n1 : ¬ nx = 1 := by omega
    have b1' := b1
    simp only [loadC, load0, pvs] at b1'
    rw [Wp_loop, Wp_eq f81l0.eq_1]
    by_cases hk : n.id = id
    · simp only [runL, opQ, evOp, evO, evOs, guardV, argsA, pvs, putS, cellsOf, scals, scal, Nat.reduceEqDiff, Nat.reduceAdd, reduceCtorEq, fieldA, nonNil, cellsAt, mkAgg, allPV, storeB, patchL, Int.reduceToNat, Nat.reduceMul, Nat.reduceLT, stepA, Int.reduceNeg, Int.reduceLE, Int.reduceLT, Int.reduceEq, extractV, mkAgg, Nat.reduceLeDiff, fillA, pureVs, pureV, eqV, eqB, lenV, binV, intBin, intV, idxA, List.drop, List.take, RetP, retP, resV, resOne, snapV, snapVs, snapR, snapRs, ownSz, pickV, AO.isC, opE, opD, funV, h4, b1', h1, h9, h10, h11, hlt, hget, loadC, n1, hk]
      refine hret n (by rw [← ho]; simp [loadOf, hk]) _ _ _ ?_ ?_ ?_
      all_goals simp only [look_if, blkAt_if, Nat.reduceEqDiff, if_true, if_false, h4, n1, loadC, pvs, hk]
    · simp only [runL, opQ, evOp, evO, evOs, guardV, argsA, pvs, putS, cellsOf, scals, scal, Nat.reduceEqDiff, Nat.reduceAdd, reduceCtorEq, fieldA, nonNil, cellsAt, mkAgg, allPV, storeB, patchL, Int.reduceToNat, Nat.reduceMul, Nat.reduceLT, stepA, Int.reduceNeg, Int.reduceLE, Int.reduceLT, Int.reduceEq, extractV, mkAgg, Nat.reduceLeDiff, fillA, pureVs, pureV, eqV, eqB, lenV, binV, intBin, intV, idxA, List.drop, List.take, RetP, retP, resV, resOne, snapV, snapVs, snapR, snapRs, ownSz, pickV, AO.isC, opE, opD, funV, h4, b1', h1, h9, h10, h11, hlt, hget, loadC, n1, hk, hw]
      refine ih (i + 1) hd' hi' (by rw [← ho]; simp [loadOf, hk]) _ _ _ (by omega) ?_ ?_ ?_ ?_ ?_ ?_
      all_goals simp only [look_if, blkAt_if, Nat.reduceEqDiff, if_true, if_false, h4, b1, n1, h1, h9, h10]
theorem load_ok {T : Tab} (h : Std T 81 f81) (s : Snap) (id : Int) (hl : s.loads.length ≤ 2 ^ 30) : Gives T 81 [snapP s, .int .i64 id] (loadR (loadOf id s.loads)) := by
  refine gives h rfl ?_
  simp only [f81, runL, opQ, evOp, evO, evOs, guardV, argsA, pvs, putS, cellsOf, scals, scal, Nat.reduceEqDiff, Nat.reduceAdd, reduceCtorEq, fieldA, nonNil, cellsAt, mkAgg, allPV, storeB, patchL, Int.reduceToNat, Nat.reduceMul, Nat.reduceLT, stepA, Int.reduceNeg, Int.reduceLE, Int.reduceLT, Int.reduceEq, extractV, mkAgg, Nat.reduceLeDiff, fillA, pureVs, pureV, eqV, eqB, lenV, binV, intBin, intV, idxA, List.drop, List.take, RetP, retP, resV, resOne, snapV, snapVs, snapR, snapRs, ownSz, pickV, AO.isC, opE, opD, funV, snapP]
  refine load_loop s.loads id hl _ (loadOf id s.loads) (fun ho fr hp nx h4 b1 => ?_) (fun n ho fr hp nx h4 h5 b1 => ?_) s.loads 0 rfl (Nat.zero_le _) rfl _ _ _ (Nat.le_refl _) rfl rfl rfl rfl rfl rfl
  · simp only [loadC, load0, pvs] at b1
    simp only [runL, opQ, evOp, evO, evOs, guardV, argsA, pvs, putS, cellsOf, scals, scal, Nat.reduceEqDiff, Nat.reduceAdd, reduceCtorEq, fieldA, nonNil, cellsAt, mkAgg, allPV, storeB, patchL, Int.reduceToNat, Nat.reduceMul, Nat.reduceLT, stepA, Int.reduceNeg, Int.reduceLE, Int.reduceLT, Int.reduceEq, extractV, mkAgg, Nat.reduceLeDiff, fillA, pureVs, pureV, eqV, eqB, lenV, binV, intBin, intV, idxA, List.drop, List.take, RetP, retP, resV, resOne, snapV, snapVs, snapR, snapRs, ownSz, pickV, AO.isC, opE, opD, funV, ho, loadR, h4, b1, loadC, load0]
  · simp only [loadC, pvs] at b1
    simp only [runL, opQ, evOp, evO, evOs, guardV, argsA, pvs, putS, cellsOf, scals, scal, Nat.reduceEqDiff, Nat.reduceAdd, reduceCtorEq, fieldA, nonNil, cellsAt, mkAgg, allPV, storeB, patchL, Int.reduceToNat, Nat.reduceMul, Nat.reduceLT, stepA, Int.reduceNeg, Int.reduceLE, Int.reduceLT, Int.reduceEq, extractV, mkAgg, Nat.reduceLeDiff, fillA, pureVs, pureV, eqV, eqB, lenV, binV, intBin, intV, idxA, List.drop, List.take, RetP, retP, resV, resOne, snapV, snapVs, snapR, snapRs, ownSz, pickV, AO.isC, opE, opD, funV, ho, loadR, h4, h5, b1, loadC]
def twoB (ls : List Load) (a b : Pod) : Bool := decide (a.load = b.load) && (decide (a.node = b.node) && (decide (a.node ≠ 0) && (match loadOf a.load ls with | some l => l.apart | none => false)))
theorem two_ok {T : Tab} (h69 : Std T 69 f69) (h81 : Std T 81 f81) (s : Snap) (hs : s.loads.length ≤ 2 ^ 30) (a b : Pod) : Gives T 69 [snapP s, .agg (podC a), .agg (podC b)] (.bool (twoB s.loads a b)) := by
  refine gives h69 rfl ?_
  have k := load_ok h81 s a.load hs
  unfold twoB
  cases hl : loadOf a.load s.loads with
  | none =>
    rw [hl] at k
    by_cases c1 : a.load = b.load
    · by_cases c2 : a.node = b.node
      · by_cases c3 : b.node = 0
        · simp only [f69, runL, opQ, evOp, evO, evOs, guardV, argsA, pvs, putS, cellsOf, scals, scal, Nat.reduceEqDiff, Nat.reduceAdd, reduceCtorEq, fieldA, nonNil, cellsAt, mkAgg, allPV, storeB, patchL, Int.reduceToNat, Nat.reduceMul, Nat.reduceLT, stepA, Int.reduceNeg, Int.reduceLE, Int.reduceLT, Int.reduceEq, extractV, mkAgg, Nat.reduceLeDiff, fillA, pureVs, pureV, eqV, eqB, lenV, binV, intBin, intV, idxA, List.drop, List.take, RetP, retP, resV, resOne, snapV, snapVs, snapR, snapRs, ownSz, pickV, AO.isC, opE, opD, funV, snapP, podC, k.call, loadR, loadC, load0, c1, c2, c3, Bool.and_false, Bool.false_and, Bool.true_and, Bool.and_true]
        · simp only [f69, runL, opQ, evOp, evO, evOs, guardV, argsA, pvs, putS, cellsOf, scals, scal, Nat.reduceEqDiff, Nat.reduceAdd, reduceCtorEq, fieldA, nonNil, cellsAt, mkAgg, allPV, storeB, patchL, Int.reduceToNat, Nat.reduceMul, Nat.reduceLT, stepA, Int.reduceNeg, Int.reduceLE, Int.reduceLT, Int.reduceEq, extractV, mkAgg, Nat.reduceLeDiff, fillA, pureVs, pureV, eqV, eqB, lenV, binV, intBin, intV, idxA, List.drop, List.take, RetP, retP, resV, resOne, snapV, snapVs, snapR, snapRs, ownSz, pickV, AO.isC, opE, opD, funV, snapP, podC, k.call, loadR, loadC, load0, c1, c2, c3, Bool.and_false, Bool.false_and, Bool.true_and, Bool.and_true]
      · simp only [f69, runL, opQ, evOp, evO, evOs, guardV, argsA, pvs, putS, cellsOf, scals, scal, Nat.reduceEqDiff, Nat.reduceAdd, reduceCtorEq, fieldA, nonNil, cellsAt, mkAgg, allPV, storeB, patchL, Int.reduceToNat, Nat.reduceMul, Nat.reduceLT, stepA, Int.reduceNeg, Int.reduceLE, Int.reduceLT, Int.reduceEq, extractV, mkAgg, Nat.reduceLeDiff, fillA, pureVs, pureV, eqV, eqB, lenV, binV, intBin, intV, idxA, List.drop, List.take, RetP, retP, resV, resOne, snapV, snapVs, snapR, snapRs, ownSz, pickV, AO.isC, opE, opD, funV, snapP, podC, k.call, loadR, loadC, load0, c1, c2, Bool.and_false, Bool.false_and, Bool.true_and, Bool.and_true]
    · simp only [f69, runL, opQ, evOp, evO, evOs, guardV, argsA, pvs, putS, cellsOf, scals, scal, Nat.reduceEqDiff, Nat.reduceAdd, reduceCtorEq, fieldA, nonNil, cellsAt, mkAgg, allPV, storeB, patchL, Int.reduceToNat, Nat.reduceMul, Nat.reduceLT, stepA, Int.reduceNeg, Int.reduceLE, Int.reduceLT, Int.reduceEq, extractV, mkAgg, Nat.reduceLeDiff, fillA, pureVs, pureV, eqV, eqB, lenV, binV, intBin, intV, idxA, List.drop, List.take, RetP, retP, resV, resOne, snapV, snapVs, snapR, snapRs, ownSz, pickV, AO.isC, opE, opD, funV, snapP, podC, k.call, loadR, loadC, load0, c1, Bool.and_false, Bool.false_and, Bool.true_and, Bool.and_true]
  | some l =>
    rw [hl] at k
    by_cases c1 : a.load = b.load
    · by_cases c2 : a.node = b.node
      · by_cases c3 : b.node = 0
        · simp only [f69, runL, opQ, evOp, evO, evOs, guardV, argsA, pvs, putS, cellsOf, scals, scal, Nat.reduceEqDiff, Nat.reduceAdd, reduceCtorEq, fieldA, nonNil, cellsAt, mkAgg, allPV, storeB, patchL, Int.reduceToNat, Nat.reduceMul, Nat.reduceLT, stepA, Int.reduceNeg, Int.reduceLE, Int.reduceLT, Int.reduceEq, extractV, mkAgg, Nat.reduceLeDiff, fillA, pureVs, pureV, eqV, eqB, lenV, binV, intBin, intV, idxA, List.drop, List.take, RetP, retP, resV, resOne, snapV, snapVs, snapR, snapRs, ownSz, pickV, AO.isC, opE, opD, funV, snapP, podC, k.call, loadR, loadC, load0, c1, c2, c3, Bool.and_false, Bool.false_and, Bool.true_and, Bool.and_true]
        · cases c4 : l.apart
          · simp only [f69, runL, opQ, evOp, evO, evOs, guardV, argsA, pvs, putS, cellsOf, scals, scal, Nat.reduceEqDiff, Nat.reduceAdd, reduceCtorEq, fieldA, nonNil, cellsAt, mkAgg, allPV, storeB, patchL, Int.reduceToNat, Nat.reduceMul, Nat.reduceLT, stepA, Int.reduceNeg, Int.reduceLE, Int.reduceLT, Int.reduceEq, extractV, mkAgg, Nat.reduceLeDiff, fillA, pureVs, pureV, eqV, eqB, lenV, binV, intBin, intV, idxA, List.drop, List.take, RetP, retP, resV, resOne, snapV, snapVs, snapR, snapRs, ownSz, pickV, AO.isC, opE, opD, funV, snapP, podC, k.call, loadR, loadC, load0, c1, c2, c3, c4, Bool.and_false, Bool.false_and, Bool.true_and, Bool.and_true]
          · simp only [f69, runL, opQ, evOp, evO, evOs, guardV, argsA, pvs, putS, cellsOf, scals, scal, Nat.reduceEqDiff, Nat.reduceAdd, reduceCtorEq, fieldA, nonNil, cellsAt, mkAgg, allPV, storeB, patchL, Int.reduceToNat, Nat.reduceMul, Nat.reduceLT, stepA, Int.reduceNeg, Int.reduceLE, Int.reduceLT, Int.reduceEq, extractV, mkAgg, Nat.reduceLeDiff, fillA, pureVs, pureV, eqV, eqB, lenV, binV, intBin, intV, idxA, List.drop, List.take, RetP, retP, resV, resOne, snapV, snapVs, snapR, snapRs, ownSz, pickV, AO.isC, opE, opD, funV, snapP, podC, k.call, loadR, loadC, load0, c1, c2, c3, c4, Bool.and_false, Bool.false_and, Bool.true_and, Bool.and_true]
      · simp only [f69, runL, opQ, evOp, evO, evOs, guardV, argsA, pvs, putS, cellsOf, scals, scal, Nat.reduceEqDiff, Nat.reduceAdd, reduceCtorEq, fieldA, nonNil, cellsAt, mkAgg, allPV, storeB, patchL, Int.reduceToNat, Nat.reduceMul, Nat.reduceLT, stepA, Int.reduceNeg, Int.reduceLE, Int.reduceLT, Int.reduceEq, extractV, mkAgg, Nat.reduceLeDiff, fillA, pureVs, pureV, eqV, eqB, lenV, binV, intBin, intV, idxA, List.drop, List.take, RetP, retP, resV, resOne, snapV, snapVs, snapR, snapRs, ownSz, pickV, AO.isC, opE, opD, funV, snapP, podC, k.call, loadR, loadC, load0, c1, c2, Bool.and_false, Bool.false_and, Bool.true_and, Bool.and_true]
    · simp only [f69, runL, opQ, evOp, evO, evOs, guardV, argsA, pvs, putS, cellsOf, scals, scal, Nat.reduceEqDiff, Nat.reduceAdd, reduceCtorEq, fieldA, nonNil, cellsAt, mkAgg, allPV, storeB, patchL, Int.reduceToNat, Nat.reduceMul, Nat.reduceLT, stepA, Int.reduceNeg, Int.reduceLE, Int.reduceLT, Int.reduceEq, extractV, mkAgg, Nat.reduceLeDiff, fillA, pureVs, pureV, eqV, eqB, lenV, binV, intBin, intV, idxA, List.drop, List.take, RetP, retP, resV, resOne, snapV, snapVs, snapR, snapRs, ownSz, pickV, AO.isC, opE, opD, funV, snapP, podC, k.call, loadR, loadC, load0, c1, Bool.and_false, Bool.false_and, Bool.true_and, Bool.and_true]
def apartFrom (ls : List Load) : List Pod → List Pod → Option (Int × Int)
  | _, [] => none
  | prev, p :: r => if prev.any (fun q => twoB ls p q) = true then some (10, prev.length) else apartFrom ls (prev ++ [p]) r
theorem apart_in {T : Tab} (h69 : Std T 69 f69) (h81 : Std T 81 f81) (s : Snap) (t : State) (hs : s.loads.length ≤ 2 ^ 30) (qs : List Pod) (hq : qs.length ≤ 2 ^ 30) (p : Pod) (i : Nat) (idp : Nat) (hidp : 2 ≤ idp) (Q : Exit → St → Prop) (b : Bool)
    (hend : b = false → ∀ fr hp nx, 2 ≤ nx → look fr 2 = .ptr 0 0 0 → look fr 3 = .ptr 1 0 0 → look fr 10 = .pv (.slice (t.pods.map podC)) → look fr 11 = .pv (.int .i64 t.pods.length) → look fr 12 = .pv (.int .i64 i) →
      blkAt hp 0 = .var [.pv (.slice (s.nodes.map nodeC)), .pv (.slice (s.loads.map loadC)), .pv (.slice (s.pods.map podC))] → blkAt hp 1 = .var [.pv (.slice (t.pods.map podC)), .pv (.int .i64 t.pre), .pv (.int .i64 t.shi)] → Q (.exit 2) ⟨fr, hp, nx⟩)
    (hret : b = true → ∀ fr hp nx id, look fr 4 = .iface 1 (.ptr id 0 0) → blkAt hp id = .var [.pv (.int .i64 i), .pv (.int .i64 10)] → Q .ret ⟨fr, hp, nx⟩) :
    ∀ (rest : List Pod) (k : Nat), qs.drop k = rest → k ≤ qs.length → rest.any (fun q => twoB s.loads p q) = b → ∀ (fr : List (Nat × AV)) (hp : Hl) (nx : Nat), idp < nx →
      look fr 2 = .ptr 0 0 0 → look fr 3 = .ptr 1 0 0 → look fr 10 = .pv (.slice (t.pods.map podC)) → look fr 11 = .pv (.int .i64 t.pods.length) → look fr 12 = .pv (.int .i64 i) →
      blkAt hp 0 = .var [.pv (.slice (s.nodes.map nodeC)), .pv (.slice (s.loads.map loadC)), .pv (.slice (s.pods.map podC))] → blkAt hp 1 = .var [.pv (.slice (t.pods.map podC)), .pv (.int .i64 t.pre), .pv (.int .i64 t.shi)] →
      look fr 5 = .pv (.int .i64 i) → look fr 6 = .ptr idp 0 0 → blkAt hp idp = .var (pvs (podC p)) → look fr 20 = .pv (.slice (qs.map podC)) → look fr 21 = .pv (.int .i64 qs.length) → look fr 22 = .pv (.int .i64 k) →
      Wp T false (.loop f68l0) ⟨fr, hp, nx⟩ Q := by
  intro rest
  induction rest with
  | nil =>
    intro k hd hi hb fr hp nx hn h2 h3 h10 h11 h12 b0 b1 h5 h6 bp h20 h21 h22
    have hlen := drop_nil hd hi
    rw [Wp_loop, Wp_eq f68l0.eq_1]
    simp only [runL, opQ, evOp, evO, evOs, guardV, argsA, pvs, putS, cellsOf, scals, scal, Nat.reduceEqDiff, Nat.reduceAdd, reduceCtorEq, fieldA, nonNil, cellsAt, mkAgg, allPV, storeB, patchL, Int.reduceToNat, Nat.reduceMul, Nat.reduceLT, stepA, Int.reduceNeg, Int.reduceLE, Int.reduceLT, Int.reduceEq, extractV, mkAgg, Nat.reduceLeDiff, fillA, pureVs, pureV, eqV, eqB, lenV, binV, intBin, intV, idxA, List.drop, List.take, RetP, retP, resV, resOne, snapV, snapVs, snapR, snapRs, ownSz, pickV, AO.isC, opE, opD, funV, h20, h21, h22, hlen, Int.lt_irrefl]
    refine hend (by rw [← hb]; rfl) _ _ _ (by omega) ?_ ?_ ?_ ?_ ?_ b0 b1
    all_goals simp only [look_if, Nat.reduceEqDiff, if_false, h2, h3, h10, h11, h12]
  | cons q r ih =>
    intro k hd hi hb fr hp nx hn h2 h3 h10 h11 h12 b0 b1 h5 h6 bp h20 h21 h22
    obtain ⟨hget, hlt, hw, hd', hi', hbb⟩ := drop_cons hd hq
    have n0 : ¬ nx = 0 := by omega
    have n1 : ¬ nx = 1 := by omega
    have np : ¬ nx = idp := by omega
    have kt := two_ok h69 h81 s hs p q
    have bp' := bp
    simp only [podC, pvs] at bp'
    simp only [podC] at kt
    rw [Wp_loop, Wp_eq f68l0.eq_1]
    cases ht : twoB s.loads p q
    · rw [ht] at kt
      simp only [runL, opQ, evOp, evO, evOs, guardV, argsA, pvs, putS, cellsOf, scals, scal, Nat.reduceEqDiff, Nat.reduceAdd, reduceCtorEq, fieldA, nonNil, cellsAt, mkAgg, allPV, storeB, patchL, Int.reduceToNat, Nat.reduceMul, Nat.reduceLT, stepA, Int.reduceNeg, Int.reduceLE, Int.reduceLT, Int.reduceEq, extractV, mkAgg, Nat.reduceLeDiff, fillA, pureVs, pureV, eqV, eqB, lenV, binV, intBin, intV, idxA, List.drop, List.take, RetP, retP, resV, resOne, snapV, snapVs, snapR, snapRs, ownSz, pickV, AO.isC, opE, opD, funV, h2, b0, h6, bp', h20, h21, h22, hlt, hget, podC, n0, n1, np, kt.call, snapP, hw]
      refine ih (k + 1) hd' hi' (by rw [← hb]; simp [ht]) _ _ _ (by omega) ?_ ?_ ?_ ?_ ?_ ?_ ?_ ?_ ?_ ?_ ?_ ?_ ?_
      all_goals simp only [look_if, blkAt_if, Nat.reduceEqDiff, if_true, if_false, h2, h3, h10, h11, h12, b0, b1, h5, h6, bp, h20, h21, n0, n1, np]
    · rw [ht] at kt
      simp only [runL, opQ, evOp, evO, evOs, guardV, argsA, pvs, putS, cellsOf, scals, scal, Nat.reduceEqDiff, Nat.reduceAdd, reduceCtorEq, fieldA, nonNil, cellsAt, mkAgg, allPV, storeB, patchL, Int.reduceToNat, Nat.reduceMul, Nat.reduceLT, stepA, Int.reduceNeg, Int.reduceLE, Int.reduceLT, Int.reduceEq, extractV, mkAgg, Nat.reduceLeDiff, fillA, pureVs, pureV, eqV, eqB, lenV, binV, intBin, intV, idxA, List.drop, List.take, RetP, retP, resV, resOne, snapV, snapVs, snapR, snapRs, ownSz, pickV, AO.isC, opE, opD, funV, h2, b0, h5, h6, bp', h20, h21, h22, hlt, hget, podC, n0, n1, np, kt.call, snapP]
      refine hret (by rw [← hb]; simp [ht]) _ _ _ (nx + 1) ?_ ?_
      · simp only [look_if, Nat.reduceEqDiff, if_true, if_false]
      · simp only [blkAt_if, if_true]
theorem apart_out {T : Tab} (h69 : Std T 69 f69) (h81 : Std T 81 f81) (s : Snap) (t : State) (hs : s.loads.length ≤ 2 ^ 30) (ht : t.pods.length ≤ 2 ^ 30) (Q : Exit → St → Prop) (o : Option (Int × Int))
    (hend : o = none → ∀ fr hp nx, Q (.exit 0) ⟨fr, hp, nx⟩)
    (hret : ∀ c i, o = some (c, i) → ∀ fr hp nx id, look fr 4 = .iface 1 (.ptr id 0 0) → blkAt hp id = .var [.pv (.int .i64 i), .pv (.int .i64 c)] → Q .ret ⟨fr, hp, nx⟩) :
    ∀ (rest : List Pod) (i : Nat), t.pods.drop i = rest → i ≤ t.pods.length → apartFrom s.loads (t.pods.take i) rest = o → ∀ (fr : List (Nat × AV)) (hp : Hl) (nx : Nat), 2 ≤ nx →
      look fr 2 = .ptr 0 0 0 → look fr 3 = .ptr 1 0 0 → look fr 10 = .pv (.slice (t.pods.map podC)) → look fr 11 = .pv (.int .i64 t.pods.length) → look fr 12 = .pv (.int .i64 i) →
      blkAt hp 0 = .var [.pv (.slice (s.nodes.map nodeC)), .pv (.slice (s.loads.map loadC)), .pv (.slice (s.pods.map podC))] → blkAt hp 1 = .var [.pv (.slice (t.pods.map podC)), .pv (.int .i64 t.pre), .pv (.int .i64 t.shi)] →
      Wp T false (.loop f68l1) ⟨fr, hp, nx⟩ Q := by
  intro rest
  induction rest with
  | nil =>
    intro i hd hi ho fr hp nx hn h2 h3 h10 h11 h12 b0 b1
    have hlen := drop_nil hd hi
    rw [Wp_loop, Wp_eq f68l1.eq_1]
    simp only [runL, opQ, evOp, evO, evOs, guardV, argsA, pvs, putS, cellsOf, scals, scal, Nat.reduceEqDiff, Nat.reduceAdd, reduceCtorEq, fieldA, nonNil, cellsAt, mkAgg, allPV, storeB, patchL, Int.reduceToNat, Nat.reduceMul, Nat.reduceLT, stepA, Int.reduceNeg, Int.reduceLE, Int.reduceLT, Int.reduceEq, extractV, mkAgg, Nat.reduceLeDiff, fillA, pureVs, pureV, eqV, eqB, lenV, binV, intBin, intV, idxA, List.drop, List.take, RetP, retP, resV, resOne, snapV, snapVs, snapR, snapRs, ownSz, pickV, AO.isC, opE, opD, funV, h10, h11, h12, hlen, Int.lt_irrefl]
    exact hend ho.symm _ _ _
  | cons p r ih =>
    intro i hd hi ho fr hp nx hn h2 h3 h10 h11 h12 b0 b1
    obtain ⟨hget, hlt, hw, hd', hi', hbb⟩ := drop_cons hd ht
    have n0 : ¬ nx = 0 := by omega
    have n1 : ¬ nx = 1 := by omega
    have hlt' : i ≤ t.pods.length := by omega
    have htk : (t.pods.take i).length = i := List.length_take_of_le hlt'
    simp only [apartFrom, htk] at ho
    rw [Wp_loop, Wp_eq f68l1.eq_1]
    simp only [runL, opQ, evOp, evO, evOs, guardV, argsA, pvs, putS, cellsOf, scals, scal, Nat.reduceEqDiff, Nat.reduceAdd, reduceCtorEq, fieldA, nonNil, cellsAt, mkAgg, allPV, storeB, patchL, Int.reduceToNat, Nat.reduceMul, Nat.reduceLT, stepA, Int.reduceNeg, Int.reduceLE, Int.reduceLT, Int.reduceEq, extractV, mkAgg, Nat.reduceLeDiff, fillA, pureVs, pureV, eqV, eqB, lenV, binV, intBin, intV, idxA, List.drop, List.take, RetP, retP, resV, resOne, snapV, snapVs, snapR, snapRs, ownSz, pickV, AO.isC, opE, opD, funV, h3, b1, h10, h11, h12, hlt, hget, podC, n0, n1, subV, bndO, Option.getD_some, Option.getD_none, allLen_pods, Nat.zero_le, hlt']
    simp only [Nat.sub_zero, ← List.map_take, List.length_map, htk]
    refine apart_in h69 h81 s t hs (t.pods.take i) (by omega) p i nx hn _ ((t.pods.take i).any (fun q => twoB s.loads p q)) ?_ ?_ (t.pods.take i) 0 rfl (Nat.zero_le _) rfl _ _ _ (Nat.lt_succ_self _) ?_ ?_ ?_ ?_ ?_ ?_ ?_ ?_ ?_ ?_ ?_ ?_ ?_
    · intro hb fr' hp' nx' g0 g2 g3 g10 g11 g12 gb0 gb1
      simp only [runL, opQ, evOp, evO, evOs, guardV, argsA, pvs, putS, cellsOf, scals, scal, Nat.reduceEqDiff, Nat.reduceAdd, reduceCtorEq, fieldA, nonNil, cellsAt, mkAgg, allPV, storeB, patchL, Int.reduceToNat, Nat.reduceMul, Nat.reduceLT, stepA, Int.reduceNeg, Int.reduceLE, Int.reduceLT, Int.reduceEq, extractV, mkAgg, Nat.reduceLeDiff, fillA, pureVs, pureV, eqV, eqB, lenV, binV, intBin, intV, idxA, List.drop, List.take, RetP, retP, resV, resOne, snapV, snapVs, snapR, snapRs, ownSz, pickV, AO.isC, opE, opD, funV, g12, hw]
      rw [if_neg (by rw [hb]; simp)] at ho
      refine ih (i + 1) hd' hi' ?_ _ _ _ g0 ?_ ?_ ?_ ?_ ?_ gb0 gb1
      · rw [← ho, List.take_add_one, hget]; rfl
      all_goals simp only [look_if, Nat.reduceEqDiff, if_true, if_false, g2, g3, g10, g11, g12]
    · intro hb fr' hp' nx' id g4 gb
      rw [if_pos hb] at ho
      simp only [runL, opQ, evOp, evO, evOs, guardV, argsA, pvs, putS, cellsOf, scals, scal, Nat.reduceEqDiff, Nat.reduceAdd, reduceCtorEq, fieldA, nonNil, cellsAt, mkAgg, allPV, storeB, patchL, Int.reduceToNat, Nat.reduceMul, Nat.reduceLT, stepA, Int.reduceNeg, Int.reduceLE, Int.reduceLT, Int.reduceEq, extractV, mkAgg, Nat.reduceLeDiff, fillA, pureVs, pureV, eqV, eqB, lenV, binV, intBin, intV, idxA, List.drop, List.take, RetP, retP, resV, resOne, snapV, snapVs, snapR, snapRs, ownSz, pickV, AO.isC, opE, opD, funV]
      exact hret 10 i ho.symm _ _ _ id g4 gb
    all_goals simp only [look_if, blkAt_if, Nat.reduceEqDiff, if_true, if_false, h2, h3, h10, h11, h12, b0, b1, n0, n1, podC, pvs, htk]
    all_goals rfl
theorem apart_ok {T : Tab} (h68 : Std T 68 f68) (h69 : Std T 69 f69) (h81 : Std T 81 f81) (s : Snap) (t : State) (hs : s.loads.length ≤ 2 ^ 30) (ht : t.pods.length ≤ 2 ^ 30) : Gives T 68 [snapP s, stateP t] (errO (apartFrom s.loads [] t.pods)) := by
  refine gives h68 rfl ?_
  simp only [f68, runL, opQ, evOp, evO, evOs, guardV, argsA, pvs, putS, cellsOf, scals, scal, Nat.reduceEqDiff, Nat.reduceAdd, reduceCtorEq, fieldA, nonNil, cellsAt, mkAgg, allPV, storeB, patchL, Int.reduceToNat, Nat.reduceMul, Nat.reduceLT, stepA, Int.reduceNeg, Int.reduceLE, Int.reduceLT, Int.reduceEq, extractV, mkAgg, Nat.reduceLeDiff, fillA, pureVs, pureV, eqV, eqB, lenV, binV, intBin, intV, idxA, List.drop, List.take, RetP, retP, resV, resOne, snapV, snapVs, snapR, snapRs, ownSz, pickV, AO.isC, opE, opD, funV, snapP, stateP]
  refine apart_out h69 h81 s t hs ht _ (apartFrom s.loads [] t.pods) (fun ho fr hp nx => ?_) (fun c i ho fr hp nx id h4 hb => ?_) t.pods 0 rfl (Nat.zero_le _) rfl _ _ _ (Nat.le_refl _) rfl rfl rfl rfl rfl rfl rfl
  · simp only [runL, opQ, evOp, evO, evOs, guardV, argsA, pvs, putS, cellsOf, scals, scal, Nat.reduceEqDiff, Nat.reduceAdd, reduceCtorEq, fieldA, nonNil, cellsAt, mkAgg, allPV, storeB, patchL, Int.reduceToNat, Nat.reduceMul, Nat.reduceLT, stepA, Int.reduceNeg, Int.reduceLE, Int.reduceLT, Int.reduceEq, extractV, mkAgg, Nat.reduceLeDiff, fillA, pureVs, pureV, eqV, eqB, lenV, binV, intBin, intV, idxA, List.drop, List.take, RetP, retP, resV, resOne, snapV, snapVs, snapR, snapRs, ownSz, pickV, AO.isC, opE, opD, funV, ho, errO]
  · simp only [runL, opQ, evOp, evO, evOs, guardV, argsA, pvs, putS, cellsOf, scals, scal, Nat.reduceEqDiff, Nat.reduceAdd, reduceCtorEq, fieldA, nonNil, cellsAt, mkAgg, allPV, storeB, patchL, Int.reduceToNat, Nat.reduceMul, Nat.reduceLT, stepA, Int.reduceNeg, Int.reduceLE, Int.reduceLT, Int.reduceEq, extractV, mkAgg, Nat.reduceLeDiff, fillA, pureVs, pureV, eqV, eqB, lenV, binV, intBin, intV, idxA, List.drop, List.take, RetP, retP, resV, resOne, snapV, snapVs, snapR, snapRs, ownSz, pickV, AO.isC, opE, opD, funV, ho, errO, h4, hb, spotE]
end Go.Proofs.YtlfphlobcopemaaDoor.Ab
set_option linter.unusedVariables false
set_option linter.unusedSimpArgs false
namespace Go.Proofs.YtlfphlobcopemaaDoor.Ab
open Go
def vecP (v : Vec) : PV := .agg (vecC v)
def vec0 : Vec := ⟨0, 0, 0, 0⟩
def eachV (o : Int → Int → Int) (ok : Int → Int → Bool) (a b : Vec) : Option Vec :=
  if ok a.a b.a = true then if ok a.b b.b = true then if ok a.c b.c = true then if ok a.d b.d = true then some ⟨o a.a b.a, o a.b b.b, o a.c b.c, o a.d b.d⟩ else none else none else none else none
def vecR : Option Vec → PV
  | some v => .tuple [vecP v, .nili]
  | none => .tuple [vecP vec0, codeE 8]
theorem sub1_ok {T : Tab} (h : Std T 259 f259) (x y : Int) : Gives T 259 [.int .u64 x, .int .u64 y] (.tuple [.int .u64 (IntKind.u64.wrap (x - y)), .bool (decide (y ≤ x))]) := by
  refine gives h rfl ?_
  simp only [f259, runL, opQ, evOp, evO, evOs, guardV, argsA, pvs, putS, cellsOf, scals, scal, Nat.reduceEqDiff, Nat.reduceAdd, reduceCtorEq, fieldA, nonNil, cellsAt, mkAgg, allPV, storeB, patchL, Int.reduceToNat, Nat.reduceMul, Nat.reduceLT, stepA, Int.reduceNeg, Int.reduceLE, Int.reduceLT, Int.reduceEq, extractV, mkAgg, Nat.reduceLeDiff, fillA, pureVs, pureV, eqV, eqB, lenV, binV, intBin, intV, idxA, List.drop, List.take, RetP, retP, resV, resOne, snapV, snapVs, snapR, snapRs, ownSz, pickV, AO.isC, opE, opD, funV]
set_option maxRecDepth 100000 in
set_option maxHeartbeats 4000000 in
theorem each_ok {T : Tab} (h : Std T 261 f261) {n : Nat} (o : Int → Int → Int) (ok : Int → Int → Bool) (a b : Vec) (ha : Gives T n [.int .u64 a.a, .int .u64 b.a] (.tuple [.int .u64 (o a.a b.a), .bool (ok a.a b.a)]))
    (hb : Gives T n [.int .u64 a.b, .int .u64 b.b] (.tuple [.int .u64 (o a.b b.b), .bool (ok a.b b.b)])) (hc : Gives T n [.int .u64 a.c, .int .u64 b.c] (.tuple [.int .u64 (o a.c b.c), .bool (ok a.c b.c)]))
    (hd : Gives T n [.int .u64 a.d, .int .u64 b.d] (.tuple [.int .u64 (o a.d b.d), .bool (ok a.d b.d)])) : Gives T 261 [vecP a, vecP b, .func n [] []] (vecR (eachV o ok a b)) := by
  refine gives h rfl ?_
  have w0 : IntKind.i64.wrap (0 + 1) = 1 := by decide
  have w1 : IntKind.i64.wrap (1 + 1) = 2 := by decide
  have w2 : IntKind.i64.wrap (2 + 1) = 3 := by decide
  have w3 : IntKind.i64.wrap (3 + 1) = 4 := by decide
  simp only [f261, runL, opQ, evOp, evO, evOs, guardV, argsA, pvs, putS, cellsOf, scals, scal, Nat.reduceEqDiff, Nat.reduceAdd, reduceCtorEq, fieldA, nonNil, cellsAt, mkAgg, allPV, storeB, patchL, Int.reduceToNat, Nat.reduceMul, Nat.reduceLT, stepA, Int.reduceNeg, Int.reduceLE, Int.reduceLT, Int.reduceEq, extractV, mkAgg, Nat.reduceLeDiff, fillA, pureVs, pureV, eqV, eqB, lenV, binV, intBin, intV, idxA, List.drop, List.take, RetP, retP, resV, resOne, snapV, snapVs, snapR, snapRs, ownSz, pickV, AO.isC, opE, opD, funV, vecP, vecC]
  rw [Wp_loop, Wp_eq f261l0.eq_1]
  simp only [runL, opQ, evOp, evO, evOs, guardV, argsA, pvs, putS, cellsOf, scals, scal, Nat.reduceEqDiff, Nat.reduceAdd, reduceCtorEq, fieldA, nonNil, cellsAt, mkAgg, allPV, storeB, patchL, Int.reduceToNat, Nat.reduceMul, Nat.reduceLT, stepA, Int.reduceNeg, Int.reduceLE, Int.reduceLT, Int.reduceEq, extractV, mkAgg, Nat.reduceLeDiff, fillA, pureVs, pureV, eqV, eqB, lenV, binV, intBin, intV, idxA, List.drop, List.take, RetP, retP, resV, resOne, snapV, snapVs, snapR, snapRs, ownSz, pickV, AO.isC, opE, opD, funV]
  refine (Wp_calm rfl).2 ?_
  cases e1 : ok a.a b.a
  · simp only [runL, opQ, evOp, evO, evOs, guardV, argsA, pvs, putS, cellsOf, scals, scal, Nat.reduceEqDiff, Nat.reduceAdd, reduceCtorEq, fieldA, nonNil, cellsAt, mkAgg, allPV, storeB, patchL, Int.reduceToNat, Nat.reduceMul, Nat.reduceLT, stepA, Int.reduceNeg, Int.reduceLE, Int.reduceLT, Int.reduceEq, extractV, mkAgg, Nat.reduceLeDiff, fillA, pureVs, pureV, eqV, eqB, lenV, binV, intBin, intV, idxA, List.drop, List.take, RetP, retP, resV, resOne, snapV, snapVs, snapR, snapRs, ownSz, pickV, AO.isC, opE, opD, funV, ha.callD, e1, eachV, vecR, vecP, vecC, vec0, codeE]
  · simp only [runL, opQ, evOp, evO, evOs, guardV, argsA, pvs, putS, cellsOf, scals, scal, Nat.reduceEqDiff, Nat.reduceAdd, reduceCtorEq, fieldA, nonNil, cellsAt, mkAgg, allPV, storeB, patchL, Int.reduceToNat, Nat.reduceMul, Nat.reduceLT, stepA, Int.reduceNeg, Int.reduceLE, Int.reduceLT, Int.reduceEq, extractV, mkAgg, Nat.reduceLeDiff, fillA, pureVs, pureV, eqV, eqB, lenV, binV, intBin, intV, idxA, List.drop, List.take, RetP, retP, resV, resOne, snapV, snapVs, snapR, snapRs, ownSz, pickV, AO.isC, opE, opD, funV, ha.callD, e1, w0]
    rw [Wp_loop, Wp_eq f261l0.eq_1]
    simp only [runL, opQ, evOp, evO, evOs, guardV, argsA, pvs, putS, cellsOf, scals, scal, Nat.reduceEqDiff, Nat.reduceAdd, reduceCtorEq, fieldA, nonNil, cellsAt, mkAgg, allPV, storeB, patchL, Int.reduceToNat, Nat.reduceMul, Nat.reduceLT, stepA, Int.reduceNeg, Int.reduceLE, Int.reduceLT, Int.reduceEq, extractV, mkAgg, Nat.reduceLeDiff, fillA, pureVs, pureV, eqV, eqB, lenV, binV, intBin, intV, idxA, List.drop, List.take, RetP, retP, resV, resOne, snapV, snapVs, snapR, snapRs, ownSz, pickV, AO.isC, opE, opD, funV]
    refine (Wp_calm rfl).2 ?_
    cases e2 : ok a.b b.b
    · simp only [runL, opQ, evOp, evO, evOs, guardV, argsA, pvs, putS, cellsOf, scals, scal, Nat.reduceEqDiff, Nat.reduceAdd, reduceCtorEq, fieldA, nonNil, cellsAt, mkAgg, allPV, storeB, patchL, Int.reduceToNat, Nat.reduceMul, Nat.reduceLT, stepA, Int.reduceNeg, Int.reduceLE, Int.reduceLT, Int.reduceEq, extractV, mkAgg, Nat.reduceLeDiff, fillA, pureVs, pureV, eqV, eqB, lenV, binV, intBin, intV, idxA, List.drop, List.take, RetP, retP, resV, resOne, snapV, snapVs, snapR, snapRs, ownSz, pickV, AO.isC, opE, opD, funV, hb.callD, e1, e2, eachV, vecR, vecP, vecC, vec0, codeE]
    · simp only [runL, opQ, evOp, evO, evOs, guardV, argsA, pvs, putS, cellsOf, scals, scal, Nat.reduceEqDiff, Nat.reduceAdd, reduceCtorEq, fieldA, nonNil, cellsAt, mkAgg, allPV, storeB, patchL, Int.reduceToNat, Nat.reduceMul, Nat.reduceLT, stepA, Int.reduceNeg, Int.reduceLE, Int.reduceLT, Int.reduceEq, extractV, mkAgg, Nat.reduceLeDiff, fillA, pureVs, pureV, eqV, eqB, lenV, binV, intBin, intV, idxA, List.drop, List.take, RetP, retP, resV, resOne, snapV, snapVs, snapR, snapRs, ownSz, pickV, AO.isC, opE, opD, funV, hb.callD, e2, w1]
      rw [Wp_loop, Wp_eq f261l0.eq_1]
      simp only [runL, opQ, evOp, evO, evOs, guardV, argsA, pvs, putS, cellsOf, scals, scal, Nat.reduceEqDiff, Nat.reduceAdd, reduceCtorEq, fieldA, nonNil, cellsAt, mkAgg, allPV, storeB, patchL, Int.reduceToNat, Nat.reduceMul, Nat.reduceLT, stepA, Int.reduceNeg, Int.reduceLE, Int.reduceLT, Int.reduceEq, extractV, mkAgg, Nat.reduceLeDiff, fillA, pureVs, pureV, eqV, eqB, lenV, binV, intBin, intV, idxA, List.drop, List.take, RetP, retP, resV, resOne, snapV, snapVs, snapR, snapRs, ownSz, pickV, AO.isC, opE, opD, funV]
      refine (Wp_calm rfl).2 ?_
      cases e3 : ok a.c b.c
      · simp only [runL, opQ, evOp, evO, evOs, guardV, argsA, pvs, putS, cellsOf, scals, scal, Nat.reduceEqDiff, Nat.reduceAdd, reduceCtorEq, fieldA, nonNil, cellsAt, mkAgg, allPV, storeB, patchL, Int.reduceToNat, Nat.reduceMul, Nat.reduceLT, stepA, Int.reduceNeg, Int.reduceLE, Int.reduceLT, Int.reduceEq, extractV, mkAgg, Nat.reduceLeDiff, fillA, pureVs, pureV, eqV, eqB, lenV, binV, intBin, intV, idxA, List.drop, List.take, RetP, retP, resV, resOne, snapV, snapVs, snapR, snapRs, ownSz, pickV, AO.isC, opE, opD, funV, hc.callD, e1, e2, e3, eachV, vecR, vecP, vecC, vec0, codeE]
      · simp only [runL, opQ, evOp, evO, evOs, guardV, argsA, pvs, putS, cellsOf, scals, scal, Nat.reduceEqDiff, Nat.reduceAdd, reduceCtorEq, fieldA, nonNil, cellsAt, mkAgg, allPV, storeB, patchL, Int.reduceToNat, Nat.reduceMul, Nat.reduceLT, stepA, Int.reduceNeg, Int.reduceLE, Int.reduceLT, Int.reduceEq, extractV, mkAgg, Nat.reduceLeDiff, fillA, pureVs, pureV, eqV, eqB, lenV, binV, intBin, intV, idxA, List.drop, List.take, RetP, retP, resV, resOne, snapV, snapVs, snapR, snapRs, ownSz, pickV, AO.isC, opE, opD, funV, hc.callD, e3, w2]
        rw [Wp_loop, Wp_eq f261l0.eq_1]
        simp only [runL, opQ, evOp, evO, evOs, guardV, argsA, pvs, putS, cellsOf, scals, scal, Nat.reduceEqDiff, Nat.reduceAdd, reduceCtorEq, fieldA, nonNil, cellsAt, mkAgg, allPV, storeB, patchL, Int.reduceToNat, Nat.reduceMul, Nat.reduceLT, stepA, Int.reduceNeg, Int.reduceLE, Int.reduceLT, Int.reduceEq, extractV, mkAgg, Nat.reduceLeDiff, fillA, pureVs, pureV, eqV, eqB, lenV, binV, intBin, intV, idxA, List.drop, List.take, RetP, retP, resV, resOne, snapV, snapVs, snapR, snapRs, ownSz, pickV, AO.isC, opE, opD, funV]
        refine (Wp_calm rfl).2 ?_
        cases e4 : ok a.d b.d
        · simp only [runL, opQ, evOp, evO, evOs, guardV, argsA, pvs, putS, cellsOf, scals, scal, Nat.reduceEqDiff, Nat.reduceAdd, reduceCtorEq, fieldA, nonNil, cellsAt, mkAgg, allPV, storeB, patchL, Int.reduceToNat, Nat.reduceMul, Nat.reduceLT, stepA, Int.reduceNeg, Int.reduceLE, Int.reduceLT, Int.reduceEq, extractV, mkAgg, Nat.reduceLeDiff, fillA, pureVs, pureV, eqV, eqB, lenV, binV, intBin, intV, idxA, List.drop, List.take, RetP, retP, resV, resOne, snapV, snapVs, snapR, snapRs, ownSz, pickV, AO.isC, opE, opD, funV, hd.callD, e1, e2, e3, e4, eachV, vecR, vecP, vecC, vec0, codeE]
        · simp only [runL, opQ, evOp, evO, evOs, guardV, argsA, pvs, putS, cellsOf, scals, scal, Nat.reduceEqDiff, Nat.reduceAdd, reduceCtorEq, fieldA, nonNil, cellsAt, mkAgg, allPV, storeB, patchL, Int.reduceToNat, Nat.reduceMul, Nat.reduceLT, stepA, Int.reduceNeg, Int.reduceLE, Int.reduceLT, Int.reduceEq, extractV, mkAgg, Nat.reduceLeDiff, fillA, pureVs, pureV, eqV, eqB, lenV, binV, intBin, intV, idxA, List.drop, List.take, RetP, retP, resV, resOne, snapV, snapVs, snapR, snapRs, ownSz, pickV, AO.isC, opE, opD, funV, hd.callD, e4, w3]
          rw [Wp_loop, Wp_eq f261l0.eq_1]
          simp only [runL, opQ, evOp, evO, evOs, guardV, argsA, pvs, putS, cellsOf, scals, scal, Nat.reduceEqDiff, Nat.reduceAdd, reduceCtorEq, fieldA, nonNil, cellsAt, mkAgg, allPV, storeB, patchL, Int.reduceToNat, Nat.reduceMul, Nat.reduceLT, stepA, Int.reduceNeg, Int.reduceLE, Int.reduceLT, Int.reduceEq, extractV, mkAgg, Nat.reduceLeDiff, fillA, pureVs, pureV, eqV, eqB, lenV, binV, intBin, intV, idxA, List.drop, List.take, RetP, retP, resV, resOne, snapV, snapVs, snapR, snapRs, ownSz, pickV, AO.isC, opE, opD, funV, e1, e2, e3, e4, eachV, vecR, vecP, vecC, vec0, codeE]
/-! ### The document's sums -/
def sumOk (a b : Int) : Bool := decide (a + b < 18446744073709551616)
def sumN (a b : Int) : Int := cond (sumOk a b) (a + b) 0
def addV (a b : Vec) : Option Vec := eachV sumN sumOk a b
def diffN (x y : Int) : Int := IntKind.u64.wrap (x - y)
def leB (x y : Int) : Bool := decide (y ≤ x)
def subV' (a b : Vec) : Option Vec := eachV diffN leB a b
/-! ### vec's own sums -/
theorem sub_ok {T : Tab} (h258 : Std T 258 f258) (h261 : Std T 261 f261) (h259 : Std T 259 f259) (a b : Vec) : Gives T 258 [vecP a, vecP b] (vecR (subV' a b)) := by
  refine gives h258 rfl ?_
  have k := each_ok h261 (n := 259) diffN leB a b (sub1_ok h259 _ _) (sub1_ok h259 _ _) (sub1_ok h259 _ _) (sub1_ok h259 _ _)
  simp only [vecP, vecC] at k
  have e : eachV diffN leB a b = subV' a b := rfl
  rw [e] at k
  cases ho : subV' a b with
  | none =>
    rw [ho] at k
    simp only [vecR, vecP, vecC, vec0, codeE] at k
    simp only [f258, runL, opQ, evOp, evO, evOs, guardV, argsA, pvs, putS, cellsOf, scals, scal, Nat.reduceEqDiff, Nat.reduceAdd, reduceCtorEq, fieldA, nonNil, cellsAt, mkAgg, allPV, storeB, patchL, Int.reduceToNat, Nat.reduceMul, Nat.reduceLT, stepA, Int.reduceNeg, Int.reduceLE, Int.reduceLT, Int.reduceEq, extractV, mkAgg, Nat.reduceLeDiff, fillA, pureVs, pureV, eqV, eqB, lenV, binV, intBin, intV, idxA, List.drop, List.take, RetP, retP, resV, resOne, snapV, snapVs, snapR, snapRs, ownSz, pickV, AO.isC, opE, opD, funV, vecP, vecC, k.call, vecR, vec0, codeE]
  | some v =>
    rw [ho] at k
    simp only [vecR, vecP, vecC] at k
    simp only [f258, runL, opQ, evOp, evO, evOs, guardV, argsA, pvs, putS, cellsOf, scals, scal, Nat.reduceEqDiff, Nat.reduceAdd, reduceCtorEq, fieldA, nonNil, cellsAt, mkAgg, allPV, storeB, patchL, Int.reduceToNat, Nat.reduceMul, Nat.reduceLT, stepA, Int.reduceNeg, Int.reduceLE, Int.reduceLT, Int.reduceEq, extractV, mkAgg, Nat.reduceLeDiff, fillA, pureVs, pureV, eqV, eqB, lenV, binV, intBin, intV, idxA, List.drop, List.take, RetP, retP, resV, resOne, snapV, snapVs, snapR, snapRs, ownSz, pickV, AO.isC, opE, opD, funV, vecP, vecC, k.call, vecR]
def add1P (args : List AV) (hp : Hl) (nx : Nat) : Option (AV × Hl × Nat) :=
  match args with
  | [.pv (.int .u64 x), .pv (.int .u64 y)] => if 0 ≤ x ∧ x ≤ 18446744073709551615 ∧ 0 ≤ y ∧ y ≤ 18446744073709551615 then some (.pv (.tuple [.int .u64 ((x + y) % 18446744073709551616), .bool (sumOk x y)]), hp, nx) else none
  | _ => none
theorem add1P_raw {E : Env} {n : Nat} (hent : Ent E n)
    (h1 : ∀ (x y : Nat) (w : World), Calls E.P (E.ρ n) #[.int .u64 (x : Int), .int .u64 (y : Int)] w fun e w' => e = .returned (.tuple #[.int .u64 (((x + y) % 18446744073709551616 : Nat) : Int), .bool (decide (((x + y) / 18446744073709551616 : Nat) = 0))]) ∧ w' = w)
    (args : List AV) (hp : Hl) (nx : Nat) (v : AV) (hp' : Hl) (nx' : Nat) (h : add1P args hp nx = some (v, hp', nx')) : RawC E n args hp nx v hp' nx' := by
  refine ⟨hent, fun X M F a w vs hX R hv => ?_⟩
  subst hX
  unfold add1P at h
  split at h
  · rename_i x y
    split at h
    · rename_i hc
      simp only [Option.some.injEq, Prod.mk.injEq] at h
      obtain ⟨rfl, rfl, rfl⟩ := h
      simp only [VAs, VA, VP] at hv
      obtain ⟨_, _, rfl, rfl, _, _, rfl, rfl, rfl⟩ := hv
      obtain ⟨m, rfl⟩ : ∃ m : Nat, x = m := ⟨x.toNat, by omega⟩
      obtain ⟨k, rfl⟩ : ∃ k : Nat, y = k := ⟨y.toNat, by omega⟩
      refine (h1 m k w).mono fun e w' hh => ?_
      obtain ⟨rfl, rfl⟩ := hh
      refine ⟨_, M, rfl, R, ?_⟩
      simp only [VA, VP, VPs]
      refine ⟨_, rfl, _, _, rfl, ?_, _, _, rfl, ?_, rfl⟩
      · rw [show (((m + k) % 18446744073709551616 : Nat) : Int) = ((m : Int) + (k : Int)) % 18446744073709551616 by omega]
      · have : (decide ((m + k) / 18446744073709551616 = 0)) = sumOk (m : Int) (k : Int) := by
          simp only [sumOk]
          rw [decide_eq_decide]
          omega
        rw [this]
    · simp at h
  · simp at h
theorem add1_ok {T : Tab} {n : Nat} (S : StdP T n add1P) (x y : Int) (hx : inU x) (hy : inU y) : Gives T n [.int .u64 x, .int .u64 y] (.tuple [.int .u64 ((x + y) % 18446744073709551616), .bool (sumOk x y)]) := by
  refine ⟨S.raw, S.own, none, ?_⟩
  have : add1P (pvs [.int .u64 x, .int .u64 y]) [] 0 = some (.pv (.tuple [.int .u64 ((x + y) % 18446744073709551616), .bool (sumOk x y)]), [], 0) := by
    simp only [pvs, add1P]
    rw [if_pos ⟨hx.1, hx.2, hy.1, hy.2⟩]
  unfold callP
  rw [D_prim S.prim this]
  simp only [snapV, snapR, ownSz]
def modN (x y : Int) : Int := (x + y) % 18446744073709551616
theorem addV_mod (a b : Vec) (ha : a.wf) (hb : b.wf) : eachV modN sumOk a b = addV a b := by
  obtain ⟨⟨p1, _⟩, ⟨p2, _⟩, ⟨p3, _⟩, ⟨p4, _⟩⟩ := ha
  obtain ⟨⟨q1, _⟩, ⟨q2, _⟩, ⟨q3, _⟩, ⟨q4, _⟩⟩ := hb
  have key : ∀ x y : Int, 0 ≤ x → 0 ≤ y → sumOk x y = true → modN x y = sumN x y := by
    intro x y h1 h2 h3
    simp only [sumN, h3, cond_true, modN]
    simp only [sumOk, decide_eq_true_eq] at h3
    omega
  unfold addV eachV
  cases c1 : sumOk a.a b.a
  · simp
  · cases c2 : sumOk a.b b.b
    · simp
    · cases c3 : sumOk a.c b.c
      · simp
      · cases c4 : sumOk a.d b.d
        · simp
        · simp only [if_true, key _ _ p1 q1 c1, key _ _ p2 q2 c2, key _ _ p3 q3 c3, key _ _ p4 q4 c4]
theorem add_ok {T : Tab} (h255 : Std T 255 f255) (h261 : Std T 261 f261) (S : StdP T 256 add1P) (a b : Vec) (ha : a.wf) (hb : b.wf) : Gives T 255 [vecP a, vecP b] (vecR (addV a b)) := by
  refine gives h255 rfl ?_
  have hA := ha
  have hB := hb
  obtain ⟨x1, x2, x3, x4⟩ := ha
  obtain ⟨y1, y2, y3, y4⟩ := hb
  have k := each_ok h261 (n := 256) modN sumOk a b (add1_ok S _ _ x1 y1) (add1_ok S _ _ x2 y2) (add1_ok S _ _ x3 y3) (add1_ok S _ _ x4 y4)
  simp only [vecP, vecC] at k
  rw [addV_mod a b hA hB] at k
  cases ho : addV a b with
  | none =>
    rw [ho] at k
    simp only [vecR, vecP, vecC, vec0, codeE] at k
    simp only [f255, runL, opQ, evOp, evO, evOs, guardV, argsA, pvs, putS, cellsOf, scals, scal, Nat.reduceEqDiff, Nat.reduceAdd, reduceCtorEq, fieldA, nonNil, cellsAt, mkAgg, allPV, storeB, patchL, Int.reduceToNat, Nat.reduceMul, Nat.reduceLT, stepA, Int.reduceNeg, Int.reduceLE, Int.reduceLT, Int.reduceEq, extractV, mkAgg, Nat.reduceLeDiff, fillA, pureVs, pureV, eqV, eqB, lenV, binV, intBin, intV, idxA, List.drop, List.take, RetP, retP, resV, resOne, snapV, snapVs, snapR, snapRs, ownSz, pickV, AO.isC, opE, opD, funV, vecP, vecC, k.call, vecR, vec0, codeE]
  | some v =>
    rw [ho] at k
    simp only [vecR, vecP, vecC] at k
    simp only [f255, runL, opQ, evOp, evO, evOs, guardV, argsA, pvs, putS, cellsOf, scals, scal, Nat.reduceEqDiff, Nat.reduceAdd, reduceCtorEq, fieldA, nonNil, cellsAt, mkAgg, allPV, storeB, patchL, Int.reduceToNat, Nat.reduceMul, Nat.reduceLT, stepA, Int.reduceNeg, Int.reduceLE, Int.reduceLT, Int.reduceEq, extractV, mkAgg, Nat.reduceLeDiff, fillA, pureVs, pureV, eqV, eqB, lenV, binV, intBin, intV, idxA, List.drop, List.take, RetP, retP, resV, resOne, snapV, snapVs, snapR, snapRs, ownSz, pickV, AO.isC, opE, opD, funV, vecP, vecC, k.call, vecR]
end Go.Proofs.YtlfphlobcopemaaDoor.Ab
set_option linter.unusedVariables false
set_option linter.unusedSimpArgs false
namespace Go.Proofs.YtlfphlobcopemaaDoor.Ab
open Go
theorem addV_wf {a b v : Vec} (ha : a.wf) (hb : b.wf) (h : addV a b = some v) : v.wf := by
  obtain ⟨⟨p1, _⟩, ⟨p2, _⟩, ⟨p3, _⟩, ⟨p4, _⟩⟩ := ha
  obtain ⟨⟨q1, _⟩, ⟨q2, _⟩, ⟨q3, _⟩, ⟨q4, _⟩⟩ := hb
  have key : ∀ x y : Int, 0 ≤ x → 0 ≤ y → inU (sumN x y) := by
    intro x y h1 h2
    unfold sumN
    cases hs : sumOk x y
    · exact ⟨by simp, by simp⟩
    · simp only [sumOk, decide_eq_true_eq] at hs
      simp only [cond_true]
      exact ⟨by omega, by omega⟩
  unfold addV eachV at h
  split at h
  · split at h
    · split at h
      · split at h
        · simp only [Option.some.injEq] at h
          subst h
          exact ⟨key _ _ p1 q1, key _ _ p2 q2, key _ _ p3 q3, key _ _ p4 q4⟩
        · simp at h
      · simp at h
    · simp at h
  · simp at h
def sumFrom (acc : Vec) : List Vec → Option Vec
  | [] => some acc
  | v :: r => match addV acc v with
    | some n => sumFrom n r
    | none => none
structure StdV (T : Tab) : Prop where
  h255 : Std T 255 f255
  h261 : Std T 261 f261
  h256 : StdP T 256 add1P
  h260 : Std T 260 f260
theorem sum_loop {T : Tab} (S : StdV T) (l : List Vec) (hl : l.length ≤ 2 ^ 30) (hwf : ∀ v ∈ l, v.wf) (Q : Exit → St → Prop) (o : Option Vec)
    (hend : ∀ v, o = some v → ∀ fr hp nx, look fr 2 = .ptr 0 0 0 → look fr 4 = .ptr 1 0 0 → blkAt hp 0 = .var (pvs (vecC vec0)) → blkAt hp 1 = .var (pvs (vecC v)) → Q (.exit 0) ⟨fr, hp, nx⟩)
    (hret : o = none → ∀ fr hp nx, look fr 2 = .ptr 0 0 0 → look fr 3 = .pv (codeE 8) → blkAt hp 0 = .var (pvs (vecC vec0)) → Q .ret ⟨fr, hp, nx⟩) :
    ∀ (rest : List Vec) (i : Nat) (acc : Vec), l.drop i = rest → i ≤ l.length → acc.wf → sumFrom acc rest = o → ∀ (fr : List (Nat × AV)) (hp : Hl) (nx : Nat), 2 ≤ nx → look fr 2 = .ptr 0 0 0 → look fr 4 = .ptr 1 0 0 →
      blkAt hp 0 = .var (pvs (vecC vec0)) → blkAt hp 1 = .var (pvs (vecC acc)) → look fr 9 = .pv (.slice (l.map vecC)) → look fr 10 = .pv (.int .i64 l.length) → look fr 11 = .pv (.int .i64 i) → Wp T false (.loop f260l0) ⟨fr, hp, nx⟩ Q := by
  intro rest
  induction rest with
  | nil =>
    intro i acc hd hi ha ho fr hp nx hn h2 h4 b0 b1 h9 h10 h11
    have hlen := drop_nil hd hi
    rw [Wp_loop, Wp_eq f260l0.eq_1]
    simp only [runL, opQ, evOp, evO, evOs, guardV, argsA, pvs, putS, cellsOf, scals, scal, Nat.reduceEqDiff, Nat.reduceAdd, reduceCtorEq, fieldA, nonNil, cellsAt, mkAgg, allPV, storeB, patchL, Int.reduceToNat, Nat.reduceMul, Nat.reduceLT, stepA, Int.reduceNeg, Int.reduceLE, Int.reduceLT, Int.reduceEq, extractV, mkAgg, Nat.reduceLeDiff, fillA, pureVs, pureV, eqV, eqB, lenV, binV, intBin, intV, idxA, List.drop, List.take, RetP, retP, resV, resOne, snapV, snapVs, snapR, snapRs, ownSz, pickV, AO.isC, opE, opD, funV, h9, h10, h11, hlen, Int.lt_irrefl]
    refine hend acc ho.symm _ _ _ ?_ ?_ b0 b1
    all_goals simp only [look_if, Nat.reduceEqDiff, if_false, h2, h4]
  | cons v r ih =>
    intro i acc hd hi ha ho fr hp nx hn h2 h4 b0 b1 h9 h10 h11
    obtain ⟨hget, hlt, hw, hd', hi', hb⟩ := drop_cons hd hl
    have n0 : ¬ nx = 0 := by omega
    have n1 : ¬ nx = 1 := by omega
    have hv : v.wf := hwf v (List.mem_iff_getElem?.2 ⟨i, hget⟩)
    have k := add_ok S.h255 S.h261 S.h256 acc v ha hv
    have b0' := b0
    have b1' := b1
    simp only [vecC, vec0, pvs] at b0' b1'
    simp only [vecP, vecC] at k
    simp only [sumFrom] at ho
    rw [Wp_loop, Wp_eq f260l0.eq_1]
    cases hs : addV acc v with
    | none =>
      rw [hs] at k ho
      simp only [vecR, vecP, vecC, vec0, codeE] at k
      simp only [runL, opQ, evOp, evO, evOs, guardV, argsA, pvs, putS, cellsOf, scals, scal, Nat.reduceEqDiff, Nat.reduceAdd, reduceCtorEq, fieldA, nonNil, cellsAt, mkAgg, allPV, storeB, patchL, Int.reduceToNat, Nat.reduceMul, Nat.reduceLT, stepA, Int.reduceNeg, Int.reduceLE, Int.reduceLT, Int.reduceEq, extractV, mkAgg, Nat.reduceLeDiff, fillA, pureVs, pureV, eqV, eqB, lenV, binV, intBin, intV, idxA, List.drop, List.take, RetP, retP, resV, resOne, snapV, snapVs, snapR, snapRs, ownSz, pickV, AO.isC, opE, opD, funV, h2, h4, b0', b1', h9, h10, h11, hlt, hget, vecC, n0, n1, k.call]
      refine hret ho.symm _ _ _ ?_ ?_ ?_
      all_goals simp only [look_if, blkAt_if, Nat.reduceEqDiff, if_true, if_false, h2, codeE, vecC, vec0, pvs]
    | some n =>
      rw [hs] at k ho
      simp only [vecR, vecP, vecC] at k
      simp only [runL, opQ, evOp, evO, evOs, guardV, argsA, pvs, putS, cellsOf, scals, scal, Nat.reduceEqDiff, Nat.reduceAdd, reduceCtorEq, fieldA, nonNil, cellsAt, mkAgg, allPV, storeB, patchL, Int.reduceToNat, Nat.reduceMul, Nat.reduceLT, stepA, Int.reduceNeg, Int.reduceLE, Int.reduceLT, Int.reduceEq, extractV, mkAgg, Nat.reduceLeDiff, fillA, pureVs, pureV, eqV, eqB, lenV, binV, intBin, intV, idxA, List.drop, List.take, RetP, retP, resV, resOne, snapV, snapVs, snapR, snapRs, ownSz, pickV, AO.isC, opE, opD, funV, h2, h4, b0', b1', h9, h10, h11, hlt, hget, vecC, n0, n1, k.call, hw]
      refine ih (i + 1) n hd' hi' (addV_wf ha hv hs) ho _ _ _ (by omega) ?_ ?_ ?_ ?_ ?_ ?_ ?_
      all_goals simp only [look_if, blkAt_if, Nat.reduceEqDiff, if_true, if_false, h2, h4, b0, n0, n1, h9, h10, vecC, pvs]
theorem vec0_wf : vec0.wf := by
  refine ⟨⟨?_, ?_⟩, ⟨?_, ?_⟩, ⟨?_, ?_⟩, ⟨?_, ?_⟩⟩ <;> decide
theorem sum_ok {T : Tab} (S : StdV T) (l : List Vec) (hl : l.length ≤ 2 ^ 30) (hwf : ∀ v ∈ l, v.wf) : Gives T 260 [.slice (l.map vecC)] (vecR (sumFrom vec0 l)) := by
  refine gives S.h260 rfl ?_
  simp only [f260, runL, opQ, evOp, evO, evOs, guardV, argsA, pvs, putS, cellsOf, scals, scal, Nat.reduceEqDiff, Nat.reduceAdd, reduceCtorEq, fieldA, nonNil, cellsAt, mkAgg, allPV, storeB, patchL, Int.reduceToNat, Nat.reduceMul, Nat.reduceLT, stepA, Int.reduceNeg, Int.reduceLE, Int.reduceLT, Int.reduceEq, extractV, mkAgg, Nat.reduceLeDiff, fillA, pureVs, pureV, eqV, eqB, lenV, binV, intBin, intV, idxA, List.drop, List.take, RetP, retP, resV, resOne, snapV, snapVs, snapR, snapRs, ownSz, pickV, AO.isC, opE, opD, funV]
  refine sum_loop S l hl hwf _ (sumFrom vec0 l) (fun v ho fr hp nx g2 g4 c0 c1 => ?_) (fun ho fr hp nx g2 g3 c0 => ?_) l 0 vec0 rfl (Nat.zero_le _) vec0_wf rfl _ _ _ (Nat.le_refl _) rfl rfl rfl rfl rfl rfl rfl
  · simp only [vecC, vec0, pvs] at c0 c1
    simp only [ho]
    simp only [runL, opQ, evOp, evO, evOs, guardV, argsA, pvs, putS, cellsOf, scals, scal, Nat.reduceEqDiff, Nat.reduceAdd, reduceCtorEq, fieldA, nonNil, cellsAt, mkAgg, allPV, storeB, patchL, Int.reduceToNat, Nat.reduceMul, Nat.reduceLT, stepA, Int.reduceNeg, Int.reduceLE, Int.reduceLT, Int.reduceEq, extractV, mkAgg, Nat.reduceLeDiff, fillA, pureVs, pureV, eqV, eqB, lenV, binV, intBin, intV, idxA, List.drop, List.take, RetP, retP, resV, resOne, snapV, snapVs, snapR, snapRs, ownSz, pickV, AO.isC, opE, opD, funV, vecR, g2, g4, c0, c1, vecP, vecC]
  · simp only [vecC, vec0, pvs] at c0
    simp only [ho]
    simp only [runL, opQ, evOp, evO, evOs, guardV, argsA, pvs, putS, cellsOf, scals, scal, Nat.reduceEqDiff, Nat.reduceAdd, reduceCtorEq, fieldA, nonNil, cellsAt, mkAgg, allPV, storeB, patchL, Int.reduceToNat, Nat.reduceMul, Nat.reduceLT, stepA, Int.reduceNeg, Int.reduceLE, Int.reduceLT, Int.reduceEq, extractV, mkAgg, Nat.reduceLeDiff, fillA, pureVs, pureV, eqV, eqB, lenV, binV, intBin, intV, idxA, List.drop, List.take, RetP, retP, resV, resOne, snapV, snapVs, snapR, snapRs, ownSz, pickV, AO.isC, opE, opD, funV, vecR, g2, g3, c0, vecP, vecC, vec0]
end Go.Proofs.YtlfphlobcopemaaDoor.Ab
set_option linter.unusedVariables false
set_option linter.unusedSimpArgs false
namespace Go.Proofs.YtlfphlobcopemaaDoor.Ab
open Go
def asP (args : List AV) (hp : Hl) (nx : Nat) : Option (AV × Hl × Nat) :=
  match args with
  | [.pv .nili, .iface 3 (.ptr k 0 0)] => some (.pv (.bool false), hp, nx)
  | [.pv (.iface 0 (.int .i64 n)), .iface 3 (.ptr k 0 0)] => match blkAt hp k with
    | .var [.pv (.int .i64 _)] => some (.pv (.bool true), (k, .var [.pv (.int .i64 n)]) :: hp, nx)
    | _ => none
  | [.pv (.iface 1 (.cptr [.int .i64 _, .int .i64 n] 0)), .iface 3 (.ptr k 0 0)] => match blkAt hp k with
    | .var [.pv (.int .i64 _)] => some (.pv (.bool true), (k, .var [.pv (.int .i64 n)]) :: hp, nx)
    | _ => none
  | _ => none
theorem Rel.setVar {X : Ctx} {M : Nat → Nat} {F : Fr} {hp : Hl} {nx : Nat} {a : Act} {w : World} (R : Rel X M F (blkAt hp) (fun i => i < nx) a w) {k : Nat} {o n : Int} (hb : blkAt hp k = .var [.pv (.int .i64 o)]) :
    Rel X M F (blkAt ((k, .var [.pv (.int .i64 n)]) :: hp)) (fun i => i < nx) a (w.setCell ⟨M k, 0, none⟩ (.int .i64 n)) := by
  have hB := R.blk k
  rw [hb] at hB
  obtain ⟨c, t, h1, h2, h3⟩ := hB
  simp only [viewOf] at h1
  have hsz : c.size = 1 := by simpa using h2
  rw [setCell_eq h1]
  have e : blkAt ((k, .var [.pv (.int .i64 n)]) :: hp) = wr (blkAt hp) [(k, .var [.pv (.int .i64 n)])] := by
    funext i
    rw [← blkAt_wr]
    rfl
  rw [e]
  have hlt : M k < w.heap.size := (Array.getElem?_eq_some_iff.1 h1).1
  refine R.write _ _ k (by rw [hb]; simp) (by simp) (by rw [hb]; rfl) ?_ ?_
  · simp only [World.shape?]
    rw [setB_same _ hlt, h1]
    simp
  · refine ⟨_, t, setB_same _ hlt, by simp [hsz], ?_⟩
    simp only [ARun, and_true]
    refine ⟨.int .i64 n, ?_, by simp [Scalar], by simp only [VA, VP]⟩
    simp only [World.cell?, viewOf]
    rw [setB_same _ hlt]
    simp [hsz]
theorem asP_raw {E : Env} {n : Nat} {g : Nat × Value} (hent : Ent E n) (hg : g ∈ E.gl)
    (h1 : ∀ (t : Value) (w : World), Calls E.P (E.ρ n) #[.nilIface, t] w fun e w' => e = .returned (.bool false) ∧ w' = w)
    (h2 : ∀ (t : Addr) (old : Value) (w : World) (m : Int), w.cell? ⟨g.1, 0, none⟩ = some g.2 → w.cell? t = some old → w.frozen? t = false →
      Calls E.P (E.ρ n) #[.iface (E.τ 0) (.int .i64 m), .iface (E.τ 3) (.pointer (some t))] w fun e w' => e = .returned (.bool true) ∧ ∃ w1, Go.RowKit.Below w.heap.size w w1 ∧ w' = w1.setCell t (.int .i64 m))
    (h3 : ∀ (t : Addr) (old : Value) (w : World) (b o : Nat) (a m : Int), w.cell? ⟨b, o, none⟩ = some (.int .i64 a) → w.cell? ⟨b, o + 1, none⟩ = some (.int .i64 m) → w.cell? ⟨g.1, 0, none⟩ = some g.2 → w.cell? t = some old → w.frozen? t = false →
      Calls E.P (E.ρ n) #[.iface (E.τ 1) (.pointer (some ⟨b, o, none⟩)), .iface (E.τ 3) (.pointer (some t))] w fun e w' => e = .returned (.bool true) ∧ ∃ w1, Go.RowKit.Below w.heap.size w w1 ∧ w' = w1.setCell t (.int .i64 m))
    (args : List AV) (hp : Hl) (nx : Nat) (v : AV) (hp' : Hl) (nx' : Nat) (h : asP args hp nx = some (v, hp', nx')) : RawC E n args hp nx v hp' nx' := by
  refine ⟨hent, fun X M F a w vs hX R hv => ?_⟩
  subst hX
  have hc := (R.inv g hg).2
  have fin : ∀ {k : Nat} {o m : Int}, blkAt hp k = .var [.pv (.int .i64 o)] → v = .pv (.bool true) → hp' = (k, .var [.pv (.int .i64 m)]) :: hp → nx' = nx → ∀ {e : Ending} {w' : World}, (e = .returned (.bool true) ∧ ∃ w1, Go.RowKit.Below w.heap.size w w1 ∧ w' = w1.setCell ⟨M k, 0, none⟩ (.int .i64 m)) →
      ∃ u M', e = .returned u ∧ Rel X M' F (blkAt hp') (fun i => i < nx') a w' ∧ VA (viewOf X w' (fun i => i < nx') M' (blkAt hp')) v u := by
    rintro k o m hb rfl rfl rfl e w' ⟨rfl, w1, hbl, rfl⟩
    exact ⟨_, M, rfl, (R.grown (keeps_of hbl)).setVar hb, by simp only [VA, VP]⟩
  have tgt : ∀ {k : Nat} {o : Int} {u : Value}, blkAt hp k = .var [.pv (.int .i64 o)] → VA (viewOf X w (fun i => i < nx) M (blkAt hp)) (.ptr k 0 0) u →
      u = .pointer (some ⟨M k, 0, none⟩) ∧ (∃ old, w.cell? ⟨M k, 0, none⟩ = some old) ∧ w.frozen? ⟨M k, 0, none⟩ = false := by
    intro k o u hb hu
    simp only [VA, viewOf] at hu
    obtain ⟨_, _, hu⟩ := hu
    have e := hu (0, 0) (by rw [hb]; rfl)
    have hB := R.blk k
    rw [hb] at hB
    obtain ⟨c, t, q1, q2, q3⟩ := hB
    simp only [viewOf] at q1
    have hsz : c.size = 1 := by simpa using q2
    simp only [ARun, and_true] at q3
    obtain ⟨x, q4, _, _⟩ := q3
    refine ⟨by simpa using e, ⟨x, q4⟩, ?_⟩
    simp only [World.frozen?, q1]
    simp
  unfold asP at h
  split at h
  · rename_i k
    simp only [Option.some.injEq, Prod.mk.injEq] at h
    obtain ⟨rfl, rfl, rfl⟩ := h
    simp only [VAs, VA, VP] at hv
    obtain ⟨_, _, rfl, rfl, u, _, rfl, _, rfl⟩ := hv
    refine (h1 u w).mono fun e w' ⟨he, hw⟩ => ?_
    subst he hw
    exact ⟨_, M, rfl, R, by simp only [VA, VP]⟩
  · rename_i m k
    split at h
    · rename_i o hb
      simp only [Option.some.injEq, Prod.mk.injEq] at h
      obtain ⟨rfl, rfl, rfl⟩ := h
      simp only [VAs] at hv
      obtain ⟨u1, _, rfl, hu1, u2, _, rfl, hu2, rfl⟩ := hv
      simp only [VA, VP] at hu1
      obtain ⟨_, rfl, rfl⟩ := hu1
      rw [VA] at hu2
      obtain ⟨u3, rfl, hu3⟩ := hu2
      obtain ⟨rfl, ⟨old, c1⟩, c2⟩ := tgt hb hu3
      exact (h2 ⟨M k, 0, none⟩ old w m hc c1 c2).mono fun e w' hh => fin hb rfl rfl rfl hh
    · simp at h
  · rename_i a' m k
    split at h
    · rename_i o hb
      simp only [Option.some.injEq, Prod.mk.injEq] at h
      obtain ⟨rfl, rfl, rfl⟩ := h
      simp only [VAs] at hv
      obtain ⟨u1, _, rfl, hu1, u2, _, rfl, hu2, rfl⟩ := hv
      simp only [VA, VP, VRun] at hu1
      obtain ⟨_, rfl, b, o', rfl, _, ⟨_, d1, _, rfl⟩, ⟨_, d2, _, rfl⟩, _⟩ := hu1
      rw [VA] at hu2
      obtain ⟨u3, rfl, hu3⟩ := hu2
      obtain ⟨rfl, ⟨old, c1⟩, c2⟩ := tgt hb hu3
      exact (h3 ⟨M k, 0, none⟩ old w b o' a' m d1 d2 hc c1 c2).mono fun e w' hh => fin hb rfl rfl rfl hh
    · simp at h
  · simp at h
structure StdA (T : Tab) (n : Nat) : Prop where
  prim : ∃ P, T.prim n = some P ∧ ∀ args hp nx r, asP args hp nx = some r → P args hp nx = some r
  raw : T.raw n = true
theorem StdA.d {T : Tab} {n : Nat} (S : StdA T n) {args : List AV} {hp hp' : Hl} {nx nx' : Nat} {v : AV} (h : asP args hp nx = some (v, hp', nx')) : D T n args hp nx = some (v, hp', nx') := by
  obtain ⟨P, h1, h2⟩ := S.prim
  exact D_prim h1 (h2 _ _ _ _ h)
section
variable {T : Tab} {n : Nat} (S : StdA T n)
include S
theorem as_nilQ {k : Nat} {d : Option Nat} {l : List AOper} {st : St} {K : St → Prop} :
    callQ T n [.pv .nili, .iface 3 (.ptr k 0 0)] d l st K ↔ WpO T l ⟨putS st d (.pv (.bool false)), st.hp, st.nx⟩ K := by
  have h : asP [.pv .nili, .iface 3 (.ptr k 0 0)] st.hp st.nx = some (.pv (.bool false), st.hp, st.nx) := by simp only [asP]
  unfold callQ doCall
  simp only [S.raw, S.d h, Option.some.injEq]
  constructor
  · rintro ⟨st', rfl, h⟩; exact h
  · exact fun h => ⟨_, rfl, h⟩
theorem as_codeQ {k : Nat} {o m : Int} {d : Option Nat} {l : List AOper} {st : St} {K : St → Prop} (hb : blkAt st.hp k = .var [.pv (.int .i64 o)]) :
    callQ T n [.pv (.iface 0 (.int .i64 m)), .iface 3 (.ptr k 0 0)] d l st K ↔ WpO T l ⟨putS st d (.pv (.bool true)), (k, .var [.pv (.int .i64 m)]) :: st.hp, st.nx⟩ K := by
  have h : asP [.pv (.iface 0 (.int .i64 m)), .iface 3 (.ptr k 0 0)] st.hp st.nx = some (.pv (.bool true), (k, .var [.pv (.int .i64 m)]) :: st.hp, st.nx) := by simp only [asP, hb]
  unfold callQ doCall
  simp only [S.raw, S.d h, Option.some.injEq]
  constructor
  · rintro ⟨st', rfl, h⟩; exact h
  · exact fun h => ⟨_, rfl, h⟩
theorem as_spotQ {k : Nat} {o a m : Int} {d : Option Nat} {l : List AOper} {st : St} {K : St → Prop} (hb : blkAt st.hp k = .var [.pv (.int .i64 o)]) :
    callQ T n [.pv (.iface 1 (.cptr [.int .i64 a, .int .i64 m] 0)), .iface 3 (.ptr k 0 0)] d l st K ↔ WpO T l ⟨putS st d (.pv (.bool true)), (k, .var [.pv (.int .i64 m)]) :: st.hp, st.nx⟩ K := by
  have h : asP [.pv (.iface 1 (.cptr [.int .i64 a, .int .i64 m] 0)), .iface 3 (.ptr k 0 0)] st.hp st.nx = some (.pv (.bool true), (k, .var [.pv (.int .i64 m)]) :: st.hp, st.nx) := by simp only [asP, hb]
  unfold callQ doCall
  simp only [S.raw, S.d h, Option.some.injEq]
  constructor
  · rintro ⟨st', rfl, h⟩; exact h
  · exact fun h => ⟨_, rfl, h⟩
end
end Go.Proofs.YtlfphlobcopemaaDoor.Ab
