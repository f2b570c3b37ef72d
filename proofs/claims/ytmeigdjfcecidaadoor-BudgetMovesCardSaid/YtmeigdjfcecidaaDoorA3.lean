/- The layer, part 3: Ab49, Ab51, Ab52, Sp9, Sp9c, Co67, Sp9m. -/
import Derived.Test.YtmeigdjfcecidaaDoorA2
/- Environments and tables out of lists; from a law of the layer to the program's calls. -/
set_option linter.unusedVariables false
set_option linter.unusedSimpArgs false
namespace Go.Proofs.YtmeigdjfcecidaaDoor.Ab
open Go

def lkN : List (Nat × Nat) → Nat → Option Nat
  | [], _ => none
  | (a, b) :: r, n => cond (Nat.beq a n) (some b) (lkN r n)
def lkR : List (Nat × Nat) → Nat → Option Nat
  | [], _ => none
  | (a, b) :: r, n => cond (Nat.beq b n) (some a) (lkR r n)

/-- An environment: our numbers, the program's. -/
def envOf (P : Program) (fs ts : List (Nat × Nat)) (nt : Nat) (gl : List (Nat × Value)) : Env :=
  ⟨P, fun n => (lkN fs n).getD 1000000, fun n => (lkN ts n).getD (1000000 + n), lkR fs, lkR ts, nt, gl⟩

def okN (fs : List (Nat × Nat)) : Bool := fs.all fun p => Nat.beq ((lkN fs p.1).getD 1000000) p.2
def okT (ts : List (Nat × Nat)) (nt : Nat) : Bool := ts.all (fun p => Nat.beq ((lkN ts p.1).getD (1000000 + p.1)) p.2 && Nat.blt p.1 nt) &&
  (List.range nt).all fun n => (List.range nt).all fun m => Nat.beq n m || !(Nat.beq ((lkN ts n).getD (1000000 + n)) ((lkN ts m).getD (1000000 + m)))

theorem lkR_mem : ∀ {l : List (Nat × Nat)} {f n : Nat}, lkR l f = some n → (n, f) ∈ l
  | [], f, n, h => by simp [lkR] at h
  | (a, b) :: r, f, n, h => by
    simp only [lkR] at h
    by_cases hb : b = f
    · subst hb; rw [beq_self] at h; simp at h; subst h; simp
    · rw [beq_ne hb] at h; exact List.mem_cons_of_mem _ (lkR_mem h)

theorem envOf_ok {P : Program} {fs ts : List (Nat × Nat)} {nt : Nat} {gl : List (Nat × Value)} (h1 : okN fs = true) (h2 : okT ts nt = true) (h3 : P.follows .mixedOrders = true) : (envOf P fs ts nt gl).OK where
  rho := fun f n h => by
    have := List.all_eq_true.1 h1 _ (lkR_mem h)
    exact Nat.eq_of_beq_eq_true this
  tau := fun t n h => by
    unfold okT at h2
    rw [Bool.and_eq_true] at h2
    have := List.all_eq_true.1 h2.1 _ (lkR_mem h)
    rw [Bool.and_eq_true] at this
    exact ⟨Nat.eq_of_beq_eq_true this.1, Nat.le_of_ble_eq_true this.2⟩
  inj := fun n m hn hm h => by
    unfold okT at h2
    rw [Bool.and_eq_true] at h2
    have := List.all_eq_true.1 (List.all_eq_true.1 h2.2 n (List.mem_range.2 hn)) m (List.mem_range.2 hm)
    rw [Bool.or_eq_true] at this
    rcases this with h' | h'
    · exact Nat.eq_of_beq_eq_true h'
    · have h : (lkN ts n).getD (1000000 + n) = (lkN ts m).getD (1000000 + m) := h
      rw [h, beq_self] at h'
      simp at h'
  mixed := h3

abbrev Prm := List AV → Hl → Nat → Option (AV × Hl × Nat)
def lkF : List (Nat × AFunc) → Nat → Option AFunc
  | [], _ => none
  | (a, f) :: r, n => cond (Nat.beq a n) (some f) (lkF r n)
def lkP : List (Nat × Prm) → Nat → Option Prm
  | [], _ => none
  | (a, f) :: r, n => cond (Nat.beq a n) (some f) (lkP r n)
def inL (l : List Nat) (n : Nat) : Bool := l.any fun a => Nat.beq a n
/-- A table out of lists. -/
def tabOf (l : List (Nat × AFunc)) (raw flat own still : List Nat) (ps : List (Nat × Prm)) : Tab := ⟨lkF l, inL raw, inL flat, inL own, inL still, lkP ps⟩

theorem lkF_mem : ∀ {l : List (Nat × AFunc)} {n : Nat} {f : AFunc}, lkF l n = some f → (n, f) ∈ l
  | [], n, f, h => by simp [lkF] at h
  | (a, b) :: r, n, f, h => by
    simp only [lkF] at h
    by_cases hb : a = n
    · subst hb; rw [beq_self] at h; simp at h; subst h; simp
    · rw [beq_ne hb] at h; exact List.mem_cons_of_mem _ (lkF_mem h)
theorem lkP_mem : ∀ {l : List (Nat × Prm)} {n : Nat} {f : Prm}, lkP l n = some f → (n, f) ∈ l
  | [], n, f, h => by simp [lkP] at h
  | (a, b) :: r, n, f, h => by
    simp only [lkP] at h
    by_cases hb : a = n
    · subst hb; rw [beq_self] at h; simp at h; subst h; simp
    · rw [beq_ne hb] at h; exact List.mem_cons_of_mem _ (lkP_mem h)

/-- All of a list's functions are the program's. -/
def TiesL (E : Env) : List (Nat × AFunc) → Prop
  | [] => True
  | (n, f) :: r => cFunc E n = some f ∧ TiesL E r
def PrimsL (E : Env) : List (Nat × Prm) → Prop
  | [] => True
  | (n, g) :: r => (∀ args hp nx v hp' nx', g args hp nx = some (v, hp', nx') → RawC E n args hp nx v hp' nx') ∧ PrimsL E r
theorem TiesL.mem {E : Env} : ∀ {l : List (Nat × AFunc)}, TiesL E l → ∀ {n : Nat} {f : AFunc}, (n, f) ∈ l → cFunc E n = some f
  | (a, b) :: r, h, n, f, hm => by
    rcases List.mem_cons.1 hm with hm | hm
    · simp only [Prod.mk.injEq] at hm
      obtain ⟨rfl, rfl⟩ := hm
      exact h.1
    · exact TiesL.mem h.2 hm
theorem PrimsL.mem {E : Env} : ∀ {l : List (Nat × Prm)}, PrimsL E l → ∀ {n : Nat} {g : Prm}, (n, g) ∈ l → ∀ args hp nx v hp' nx', g args hp nx = some (v, hp', nx') → RawC E n args hp nx v hp' nx'
  | (a, b) :: r, h, n, f, hm => by
    rcases List.mem_cons.1 hm with hm | hm
    · simp only [Prod.mk.injEq] at hm
      obtain ⟨rfl, rfl⟩ := hm
      exact h.1
    · exact PrimsL.mem h.2 hm
theorem tied_of {E : Env} {l : List (Nat × AFunc)} {raw flat own still : List Nat} {ps : List (Nat × Prm)} (h1 : TiesL E l) (h2 : PrimsL E ps) : Tied E (tabOf l raw flat own still ps) where
  fn := fun n f _ h => h1.mem (lkF_mem h)
  prim := fun n g h => h2.mem (lkP_mem h)

/-- From a law to the program's call. -/
theorem law_calls {E : Env} {T : Tab} (hE : E.OK) (hT : Tied E T) {n : Nat} {ps : List PV} (h : Gives T n ps (.bool true)) {w : World} {vs : List Value} (hI : E.inv w) (hv : VPs E w (fun b => b < w.heap.size) ps vs) :
    Calls E.P (E.ρ n) vs.toArray w fun e w' => e = .returned (.bool true) ∧ Go.RowKit.Below w.heap.size w w' := by
  obtain ⟨_, _, o, hc⟩ := h
  obtain ⟨v, hp, nx, h1, h2, _⟩ := callP_spec hc
  have hP := (D_sound hE hT _ _ _ _ _ _ _ h1).pure h2
  refine (hP.2 (fun _ => False) w vs hI (fun b hb => hb.elim) (VPs_mono ⟨fun b hb => ⟨hb, fun h => h⟩, fun _ _ => rfl⟩ _ _ hv)).mono fun e w' hh => ?_
  obtain ⟨u, rfl, h3, h4⟩ := hh
  simp only [VP] at h3
  subst h3
  exact ⟨rfl, h4.os, h4.tape, h4.output, h4.size, fun k hk => h4.block k hk (fun h => h)⟩

/-! ### What the laws are handed -/
def inI (n : Int) : Prop := -9223372036854775808 ≤ n ∧ n ≤ 9223372036854775807
def inU (n : Int) : Prop := 0 ≤ n ∧ n ≤ 18446744073709551615
theorem wf_i64 {n : Int} (h : (Lit.int .i64 n).wf = true) : inI n := by
  simp only [Lit.wf, Bool.and_eq_true, decide_eq_true_eq] at h
  exact h
theorem wf_u64 {n : Int} (h : (Lit.int .u64 n).wf = true) : inU n := by
  simp only [Lit.wf, Bool.and_eq_true, decide_eq_true_eq] at h
  exact h
theorem rows_map {α : Type} {enc : α → List PV} {W : α → Prop} : ∀ {l : List (List PV)}, (∀ e ∈ l, ∃ x, e = enc x ∧ W x) → ∃ xs : List α, l = xs.map enc ∧ ∀ x ∈ xs, W x
  | [], _ => ⟨[], rfl, by simp⟩
  | e :: r, h => by
    obtain ⟨x, rfl, hx⟩ := h e (by simp)
    obtain ⟨xs, rfl, hxs⟩ := rows_map (fun e he => h e (List.mem_cons_of_mem _ he))
    exact ⟨x :: xs, rfl, by simpa using ⟨hx, hxs⟩⟩

def Vec.wf (v : Vec) : Prop := inU v.a ∧ inU v.b ∧ inU v.c ∧ inU v.d
def Node.wf (n : Node) : Prop := inI n.id ∧ inI n.zone ∧ n.cap.wf ∧ n.held.wf
def Load.wf (l : Load) : Prop := inI l.id ∧ inI l.skew ∧ inI l.min ∧ inI l.max
def Pod.wf (p : Pod) : Prop := inI p.id ∧ inI p.load ∧ inI p.prio ∧ p.req.wf ∧ inI p.node
def Want.wf (w : Want) : Prop := inI w.pod ∧ w.req.wf
def Move.wf (m : Move) : Prop := inI m.kind ∧ inI m.pod ∧ inI m.node ∧ inI m.over
def Snap.wf (s : Snap) : Prop := (∀ n ∈ s.nodes, n.wf) ∧ (∀ l ∈ s.loads, l.wf) ∧ ∀ p ∈ s.pods, p.wf
def Spec.wf (x : Spec) : Prop := (∀ w ∈ x.wants, w.wf) ∧ inI x.pre ∧ inI x.shi
def State.wf (t : State) : Prop := (∀ p ∈ t.pods, p.wf) ∧ inI t.pre ∧ inI t.shi

def nodeS : List Sh := [.nu .i64, .nu .i64, .nu .u64, .nu .u64, .nu .u64, .nu .u64, .nu .u64, .nu .u64, .nu .u64, .nu .u64]
def loadS : List Sh := [.nu .i64, .bo, .nu .i64, .nu .i64, .nu .i64]
def podS : List Sh := [.nu .i64, .nu .i64, .nu .i64, .nu .u64, .nu .u64, .nu .u64, .nu .u64, .nu .i64]
def wantS : List Sh := [.nu .i64, .nu .u64, .nu .u64, .nu .u64, .nu .u64, .bo]
def moveS : List Sh := [.nu .i64, .nu .i64, .nu .i64, .nu .i64]

theorem fits_node {e : List PV} (h : FitsL nodeS e) : ∃ n : Node, e = nodeC n ∧ n.wf := by
  simp only [nodeS, FitsL, Fits] at h
  obtain ⟨_, _, rfl, ⟨a, rfl, h1⟩, _, _, rfl, ⟨b, rfl, h2⟩, _, _, rfl, ⟨c, rfl, h3⟩, _, _, rfl, ⟨d, rfl, h4⟩, _, _, rfl, ⟨f, rfl, h5⟩, _, _, rfl, ⟨g, rfl, h6⟩, _, _, rfl, ⟨i, rfl, h7⟩, _, _, rfl, ⟨j, rfl, h8⟩, _, _, rfl, ⟨k, rfl, h9⟩, _, _, rfl, ⟨l, rfl, h10⟩, rfl⟩ := h
  exact ⟨⟨a, b, ⟨c, d, f, g⟩, ⟨i, j, k, l⟩⟩, rfl, wf_i64 h1, wf_i64 h2, ⟨wf_u64 h3, wf_u64 h4, wf_u64 h5, wf_u64 h6⟩, wf_u64 h7, wf_u64 h8, wf_u64 h9, wf_u64 h10⟩
theorem fits_load {e : List PV} (h : FitsL loadS e) : ∃ n : Load, e = loadC n ∧ n.wf := by
  simp only [loadS, FitsL, Fits] at h
  obtain ⟨_, _, rfl, ⟨a, rfl, h1⟩, _, _, rfl, ⟨b, rfl⟩, _, _, rfl, ⟨c, rfl, h3⟩, _, _, rfl, ⟨d, rfl, h4⟩, _, _, rfl, ⟨f, rfl, h5⟩, rfl⟩ := h
  exact ⟨⟨a, b, c, d, f⟩, rfl, wf_i64 h1, wf_i64 h3, wf_i64 h4, wf_i64 h5⟩
theorem fits_pod {e : List PV} (h : FitsL podS e) : ∃ n : Pod, e = podC n ∧ n.wf := by
  simp only [podS, FitsL, Fits] at h
  obtain ⟨_, _, rfl, ⟨a, rfl, h1⟩, _, _, rfl, ⟨b, rfl, h2⟩, _, _, rfl, ⟨c, rfl, h3⟩, _, _, rfl, ⟨d, rfl, h4⟩, _, _, rfl, ⟨f, rfl, h5⟩, _, _, rfl, ⟨g, rfl, h6⟩, _, _, rfl, ⟨i, rfl, h7⟩, _, _, rfl, ⟨j, rfl, h8⟩, rfl⟩ := h
  exact ⟨⟨a, b, c, ⟨d, f, g, i⟩, j⟩, rfl, wf_i64 h1, wf_i64 h2, wf_i64 h3, ⟨wf_u64 h4, wf_u64 h5, wf_u64 h6, wf_u64 h7⟩, wf_i64 h8⟩
theorem fits_want {e : List PV} (h : FitsL wantS e) : ∃ n : Want, e = wantC n ∧ n.wf := by
  simp only [wantS, FitsL, Fits] at h
  obtain ⟨_, _, rfl, ⟨a, rfl, h1⟩, _, _, rfl, ⟨b, rfl, h2⟩, _, _, rfl, ⟨c, rfl, h3⟩, _, _, rfl, ⟨d, rfl, h4⟩, _, _, rfl, ⟨f, rfl, h5⟩, _, _, rfl, ⟨g, rfl⟩, rfl⟩ := h
  exact ⟨⟨a, ⟨b, c, d, f⟩, g⟩, rfl, wf_i64 h1, wf_u64 h2, wf_u64 h3, wf_u64 h4, wf_u64 h5⟩
theorem fits_move {e : List PV} (h : FitsL moveS e) : ∃ n : Move, e = moveC n ∧ n.wf := by
  simp only [moveS, FitsL, Fits] at h
  obtain ⟨_, _, rfl, ⟨a, rfl, h1⟩, _, _, rfl, ⟨b, rfl, h2⟩, _, _, rfl, ⟨c, rfl, h3⟩, _, _, rfl, ⟨d, rfl, h4⟩, rfl⟩ := h
  exact ⟨⟨a, b, c, d⟩, rfl, wf_i64 h1, wf_i64 h2, wf_i64 h3, wf_i64 h4⟩
theorem fits_snap {e : List PV} (h : FitsL [.sl nodeS, .sl loadS, .sl podS] e) : ∃ s : Snap, .agg e = snapP s ∧ s.wf := by
  simp only [FitsL, Fits] at h
  obtain ⟨_, _, rfl, ⟨a, rfl, h1⟩, _, _, rfl, ⟨b, rfl, h2⟩, _, _, rfl, ⟨c, rfl, h3⟩, rfl⟩ := h
  obtain ⟨x, rfl, k1⟩ := rows_map (fun e he => fits_node (h1 e he))
  obtain ⟨y, rfl, k2⟩ := rows_map (fun e he => fits_load (h2 e he))
  obtain ⟨z, rfl, k3⟩ := rows_map (fun e he => fits_pod (h3 e he))
  exact ⟨⟨x, y, z⟩, rfl, k1, k2, k3⟩
theorem fits_spec {e : List PV} (h : FitsL [.sl wantS, .nu .i64, .nu .i64] e) : ∃ s : Spec, .agg e = specP s ∧ s.wf := by
  simp only [FitsL, Fits] at h
  obtain ⟨_, _, rfl, ⟨a, rfl, h1⟩, _, _, rfl, ⟨b, rfl, h2⟩, _, _, rfl, ⟨c, rfl, h3⟩, rfl⟩ := h
  obtain ⟨x, rfl, k1⟩ := rows_map (fun e he => fits_want (h1 e he))
  exact ⟨⟨x, b, c⟩, rfl, k1, wf_i64 h2, wf_i64 h3⟩
theorem fits_state {e : List PV} (h : FitsL [.sl podS, .nu .i64, .nu .i64] e) : ∃ s : State, .agg e = stateP s ∧ s.wf := by
  simp only [FitsL, Fits] at h
  obtain ⟨_, _, rfl, ⟨a, rfl, h1⟩, _, _, rfl, ⟨b, rfl, h2⟩, _, _, rfl, ⟨c, rfl, h3⟩, rfl⟩ := h
  obtain ⟨x, rfl, k1⟩ := rows_map (fun e he => fits_pod (h1 e he))
  exact ⟨⟨x, b, c⟩, rfl, k1, wf_i64 h2, wf_i64 h3⟩
theorem fits_int {p : PV} (h : Fits (.nu .i64) p) : ∃ n, p = .int .i64 n ∧ inI n := by
  simp only [Fits] at h
  obtain ⟨n, rfl, h⟩ := h
  exact ⟨n, rfl, wf_i64 h⟩
end Go.Proofs.YtmeigdjfcecidaaDoor.Ab
/- Comparisons of errors, run. -/
set_option linter.unusedVariables false
set_option linter.unusedSimpArgs false
namespace Go.Proofs.YtmeigdjfcecidaaDoor.Ab
open Go
section
variable {P : Program} {w : World} {t : TypeId}
theorem qp_pp (d : Nat) {e : TypeId} {n : Nat} {a : Addr} (h : P.underlying t = some (.pointer e)) (hz : (sizeOf e).run P w = .ok n w) (hn : n ≠ 0) : (Op.equalIn (d + 1) t (.pointer (some a)) (.pointer (some a))).run P w = .ok true w := by
  simp only [Op.equalIn]
  rw [rb (r_underlying h)]
  simp only
  rw [rb hz]
  rw [if_pos hn]
  unfold sameAddr
  simp [run_pure]
theorem qd_ii (d : Nat) {ms u v x y} (h : P.underlying t = some (.interface ms)) (hne : u ≠ v) : (Op.equalIn (d + 1) t (.iface u x) (.iface v y)).run P w = .ok false w := by
  simp only [Op.equalIn]
  rw [rb (r_underlying h)]
  simp only [ne_eq, hne, not_false_eq_true, if_true]
  rfl
theorem beql_of {x y : Value} {b : Bool} (h : (Op.equal t x y).run P w = .ok b w) (h1 : (∀ k n, x ≠ .int k n) ∧ (∀ s, x ≠ .string s) ∧ (∀ k n, x ≠ .float k n) ∧ ∀ k n m, x ≠ .complex k n m) :
    (binOp .eql t x y).run P w = .ok (.bool b) w ∧ (binOp .neq t x y).run P w = .ok (.bool (!b)) w := by
  obtain ⟨h2, h3, h4, h5⟩ := h1
  cases x <;> first | exact absurd rfl (h2 _ _) | exact absurd rfl (h3 _) | exact absurd rfl (h4 _ _) | exact absurd rfl (h5 _ _ _) |
    (constructor
     · simp only [binOp]; rw [rb h]; rfl
     · simp only [binOp]; rw [rb h]; rfl)
/-- Two errors of one type that compares, of two types. -/
theorem ie_same {ms : _} {u : TypeId} {x y : Value} {b : Bool} (h : P.underlying t = some (.interface ms)) (hc : (P.info? u).map (·.comparable) = some true) (hb : (Op.equalIn 9999 u x y).run P w = .ok b w) :
    (binOp .eql t (.iface u x) (.iface u y)).run P w = .ok (.bool b) w ∧ (binOp .neq t (.iface u x) (.iface u y)).run P w = .ok (.bool (!b)) w := by
  refine beql_of ?_ ⟨by simp, by simp, by simp, by simp⟩
  cases hi : P.info? u with
  | none => rw [hi] at hc; cases hc
  | some i =>
    rw [hi] at hc
    exact (qi_ii 9999 h hi (Option.some.inj hc)).trans hb
theorem ie_other {ms : _} {u v : TypeId} {x y : Value} (h : P.underlying t = some (.interface ms)) (hne : u ≠ v) :
    (binOp .eql t (.iface u x) (.iface v y)).run P w = .ok (.bool false) w ∧ (binOp .neq t (.iface u x) (.iface v y)).run P w = .ok (.bool true) w :=
  beql_of (qd_ii 9999 h hne) ⟨by simp, by simp, by simp, by simp⟩
theorem ie_int {k : IntKind} {n m : Int} (h : P.underlying t = some (.int k)) : (Op.equalIn 9999 t (.int k n) (.int k m)).run P w = .ok (decide (n = m)) w := by
  have := run_equalIn_int w 9998 t k k n m h
  exact this
end
end Go.Proofs.YtmeigdjfcecidaaDoor.Ab
/- The laws' Is: what its calls do, out of its walk. -/
set_option linter.unusedVariables false
set_option linter.unusedSimpArgs false
namespace Go.Proofs.YtmeigdjfcecidaaDoor.Ab
open Go

/-- Is(err, at, code). -/
def isP (args : List AV) (hp : Hl) (nx : Nat) : Option (AV × Hl × Nat) :=
  match args with
  | [.pv .nili, .pv (.int .i64 _), .pv (.int .i64 _)] => some (.pv (.bool false), hp, nx)
  | [.pv (.iface 0 (.int .i64 _)), .pv (.int .i64 _), .pv (.int .i64 _)] => some (.pv (.bool false), hp, nx)
  | [.pv (.iface 1 (.cptr [.int .i64 a, .int .i64 n] 0)), .pv (.int .i64 x), .pv (.int .i64 y)] => some (.pv (.bool (decide (a = x) && decide (n = y))), hp, nx)
  | _ => none

theorem keeps_of {w w' : World} (h : Go.RowKit.Below w.heap.size w w') : Keeps (fun _ => False) w w' := ⟨h.os, h.tape, h.output, h.size, fun b hb _ => h.block b hb⟩

theorem isP_raw {E : Env} {n : Nat} {g : Nat × Value} (hent : Ent E n) (hg : g ∈ E.gl)
    (h1 : ∀ (x y : Int) (w : World), Calls E.P (E.ρ n) #[.nilIface, .int .i64 x, .int .i64 y] w fun e w' => e = .returned (.bool false) ∧ Go.RowKit.Below w.heap.size w w')
    (h2 : ∀ (m x y : Int) (w : World), w.cell? ⟨g.1, 0, none⟩ = some g.2 → Calls E.P (E.ρ n) #[.iface (E.τ 0) (.int .i64 m), .int .i64 x, .int .i64 y] w fun e w' => e = .returned (.bool false) ∧ Go.RowKit.Below w.heap.size w w')
    (h3 : ∀ (b o : Nat) (a m x y : Int) (w : World), w.cell? ⟨g.1, 0, none⟩ = some g.2 → w.cell? ⟨b, o, none⟩ = some (.int .i64 a) → w.cell? ⟨b, o + 1, none⟩ = some (.int .i64 m) →
      Calls E.P (E.ρ n) #[.iface (E.τ 1) (.pointer (some ⟨b, o, none⟩)), .int .i64 x, .int .i64 y] w fun e w' => e = .returned (.bool (decide (a = x) && decide (m = y))) ∧ Go.RowKit.Below w.heap.size w w')
    (args : List AV) (hp : Hl) (nx : Nat) (v : AV) (hp' : Hl) (nx' : Nat) (h : isP args hp nx = some (v, hp', nx')) : RawC E n args hp nx v hp' nx' := by
  refine ⟨hent, fun X M F a w vs hX R hv => ?_⟩
  subst hX
  have hc := (R.inv g hg).2
  have fin : ∀ {b : Bool}, v = .pv (.bool b) → hp' = hp → nx' = nx → ∀ {e : Ending} {w' : World}, (e = .returned (.bool b) ∧ Go.RowKit.Below w.heap.size w w') →
      ∃ u M', e = .returned u ∧ Rel X M' F (blkAt hp') (fun i => i < nx') a w' ∧ VA (viewOf X w' (fun i => i < nx') M' (blkAt hp')) v u := by
    rintro b rfl rfl rfl e w' ⟨rfl, hb⟩
    exact ⟨_, M, rfl, R.grown (keeps_of hb), by simp only [VA, VP]⟩
  unfold isP at h
  split at h
  · rename_i x y
    simp only [Option.some.injEq, Prod.mk.injEq] at h
    obtain ⟨rfl, rfl, rfl⟩ := h
    simp only [VAs, VA, VP] at hv
    obtain ⟨_, _, rfl, rfl, _, _, rfl, rfl, _, _, rfl, rfl, rfl⟩ := hv
    exact (h1 x y w).mono fun e w' hh => fin rfl rfl rfl hh
  · rename_i m x y
    simp only [Option.some.injEq, Prod.mk.injEq] at h
    obtain ⟨rfl, rfl, rfl⟩ := h
    simp only [VAs, VA, VP] at hv
    obtain ⟨_, _, rfl, ⟨_, rfl, rfl⟩, _, _, rfl, rfl, _, _, rfl, rfl, rfl⟩ := hv
    exact (h2 m x y w hc).mono fun e w' hh => fin rfl rfl rfl hh
  · rename_i a' m x y
    simp only [Option.some.injEq, Prod.mk.injEq] at h
    obtain ⟨rfl, rfl, rfl⟩ := h
    simp only [VAs, VA, VP, VRun] at hv
    obtain ⟨_, _, rfl, ⟨_, rfl, b, o, rfl, _, ⟨_, c1, _, rfl⟩, ⟨_, c2, _, rfl⟩, _⟩, _, _, rfl, rfl, _, _, rfl, rfl, rfl⟩ := hv
    exact (h3 b o a' m x y w hc c1 c2).mono fun e w' hh => fin rfl rfl rfl hh
  · simp at h

/-- What Is tells. -/
def isV (at' code : Int) : PV → Option Bool
  | .nili => some false
  | .iface 0 (.int .i64 _) => some false
  | .iface 1 (.cptr [.int .i64 a, .int .i64 n] 0) => some (decide (a = at') && decide (n = code))
  | _ => none
structure StdP (T : Tab) (n : Nat) (g : Prm) : Prop where
  prim : T.prim n = some g
  raw : T.raw n = false
  own : T.own n = false
theorem is_ok {T : Tab} {n : Nat} (S : StdP T n isP) {e : PV} {x y : Int} {b : Bool} (h : isV x y e = some b) : Gives T n [e, .int .i64 x, .int .i64 y] (.bool b) := by
  refine ⟨S.raw, S.own, none, ?_⟩
  have : isP (pvs [e, .int .i64 x, .int .i64 y]) [] 0 = some (.pv (.bool b), [], 0) := by
    unfold isV at h
    split at h
    all_goals first | (simp at h; done) | skip
    all_goals
      simp only [Option.some.injEq] at h
      subst h
      simp only [pvs, isP]
  unfold callP
  rw [D_prim S.prim this]
  simp only [snapV, snapR, ownSz]
end Go.Proofs.YtmeigdjfcecidaaDoor.Ab
/- Layer 9 (budget): contracts. -/
set_option linter.unusedVariables false
set_option linter.unusedSimpArgs false
namespace Go.Proofs.YtmeigdjfcecidaaDoor.Ab
open Go

section
variable {T : Tab}

/-- How many pods of a load are somewhere. -/
def sizeN (load : Int) : List Pod → Nat
  | [] => 0
  | p :: r => (if p.load = load ∧ p.node ≠ 0 then 1 else 0) + sizeN load r
theorem sizeN_le (load : Int) : ∀ l, sizeN load l ≤ l.length
  | [] => Nat.le_refl _
  | p :: r => by
    have := sizeN_le load r
    simp only [sizeN, List.length_cons]
    split <;> omega

theorem size_loop (load : Int) (pods : List Pod) (hl : pods.length ≤ 2 ^ 30) (Q : Exit → St → Prop) (total : Nat) (hQ : ∀ fr hp nx, look fr 5 = .pv (.int .i64 total) → Q (.exit 0) ⟨fr, hp, nx⟩) :
    ∀ (rest : List Pod) (i k : Nat), pods.drop i = rest → i ≤ pods.length → k ≤ i → k + sizeN load rest = total → ∀ (fr : List (Nat × AV)) (hp : Hl) (nx : Nat), look fr 5 = .pv (.int .i64 k) → look fr 1 = .pv (.int .i64 load) →
      look fr 9 = .pv (.slice (pods.map podC)) → look fr 10 = .pv (.int .i64 pods.length) → look fr 11 = .pv (.int .i64 i) → Wp T false (.loop f71l0) ⟨fr, hp, nx⟩ Q := by
  intro rest
  induction rest with
  | nil =>
    intro i k hd hi hk ht fr hp nx h5 h1 h9 h10 h11
    have hlen := drop_nil hd hi
    simp only [sizeN, Nat.add_zero] at ht
    subst ht
    rw [Wp_loop, Wp_eq f71l0.eq_1]
    simp only [Wp_seq, Wp_ops, Wp_cond, Wp_skip, Wp_ret, Wp_exit, Wp_block, WpO_cons, WpO_nil, opQ, evOp, evO, evOs, evQ_some, guardV, guardQ_true, guardQ_false, boolQ_true, boolQ_false, argsA, pvs, putS, cellsOf, scals, scal, seqQ_normal, seqQ_ret, seqQ_exit, blkQ_normal, blkQ_ret, blkQ_exit, look_if, blkAt_if, if_true, if_false, Nat.reduceEqDiff, Nat.reduceAdd, true_implies, reduceCtorEq, false_implies, and_true, true_and, List.nil_append, List.cons_append, Bool.and_self, Nat.zero_add, Nat.add_zero, fieldA, nonNil, cellsAt, loadV_one, loadV_pvs, loadV_cons, mkAgg, allPV, List.drop_zero, List.drop_succ_cons, List.take_succ_cons, List.take_zero, List.length_cons, List.length_nil, Nat.beq_eq, storeB, patchL, beq_self_eq_true, ge_iff_le, gt_iff_lt, Int.reduceNeg, Int.reduceLE, Int.reduceLT, Int.reduceEq, extractV, List.getElem?_cons_zero, List.getElem?_cons_succ, mkAgg, Nat.add_eq_left, Nat.left_eq_add, Nat.one_ne_zero, ble_dec, beq_dec, decide_eq_true_eq, Nat.reduceLeDiff, Nat.le_refl, fillA, pureVs, pureV, beq_int, bne_int, Int.natCast_inj, eq_self, eqV, eqB, decide_true, decide_false, List.length_map, Int.toNat_natCast, List.getElem?_map, Option.map_some, Option.map_none, Int.natCast_nonneg, Option.some.injEq, lenV, binV, intBin, intV, idxA, ne_eq, not_true_eq_false, not_false_eq_true, List.drop, List.take, RetP, retP, resV, resOne, snapV, snapVs, snapR, snapRs, ownSz, pickV, cond_true, cond_false, bTT, bTF, bFT, bFF, Bool.not_true, Bool.not_false, AO.isC, Bool.or_true, Bool.true_or, Bool.or_false, Bool.false_or, WpE_cons, WpE_nil, opE, evE_some, guardE_true, guardE_false, WpD_cons, WpD_nil, opD, evD_some, guardD_true, guardD_false, h5, h1, h9, h10, h11, hlen, Int.lt_irrefl]
    exact hQ _ _ _ (by simp only [look_if, Nat.reduceEqDiff, if_false, h5])
  | cons p r ih =>
    intro i k hd hi hk ht fr hp nx h5 h1 h9 h10 h11
    obtain ⟨hget, hlt, hw, hd', hi', hb⟩ := drop_cons hd hl
    have hwk : IntKind.i64.wrap ((k : Int) + 1) = ((k + 1 : Nat) : Int) := by rw [wrap6] <;> omega
    rw [Wp_loop, Wp_eq f71l0.eq_1]
    by_cases hp1 : p.load = load
    · by_cases hp2 : p.node = 0
      · simp only [Wp_seq, Wp_ops, Wp_cond, Wp_skip, Wp_ret, Wp_exit, Wp_block, WpO_cons, WpO_nil, opQ, evOp, evO, evOs, evQ_some, guardV, guardQ_true, guardQ_false, boolQ_true, boolQ_false, argsA, pvs, putS, cellsOf, scals, scal, seqQ_normal, seqQ_ret, seqQ_exit, blkQ_normal, blkQ_ret, blkQ_exit, look_if, blkAt_if, if_true, if_false, Nat.reduceEqDiff, Nat.reduceAdd, true_implies, reduceCtorEq, false_implies, and_true, true_and, List.nil_append, List.cons_append, Bool.and_self, Nat.zero_add, Nat.add_zero, fieldA, nonNil, cellsAt, loadV_one, loadV_pvs, loadV_cons, mkAgg, allPV, List.drop_zero, List.drop_succ_cons, List.take_succ_cons, List.take_zero, List.length_cons, List.length_nil, Nat.beq_eq, storeB, patchL, beq_self_eq_true, ge_iff_le, gt_iff_lt, Int.reduceNeg, Int.reduceLE, Int.reduceLT, Int.reduceEq, extractV, List.getElem?_cons_zero, List.getElem?_cons_succ, mkAgg, Nat.add_eq_left, Nat.left_eq_add, Nat.one_ne_zero, ble_dec, beq_dec, decide_eq_true_eq, Nat.reduceLeDiff, Nat.le_refl, fillA, pureVs, pureV, beq_int, bne_int, Int.natCast_inj, eq_self, eqV, eqB, decide_true, decide_false, List.length_map, Int.toNat_natCast, List.getElem?_map, Option.map_some, Option.map_none, Int.natCast_nonneg, Option.some.injEq, lenV, binV, intBin, intV, idxA, ne_eq, not_true_eq_false, not_false_eq_true, List.drop, List.take, RetP, retP, resV, resOne, snapV, snapVs, snapR, snapRs, ownSz, pickV, cond_true, cond_false, bTT, bTF, bFT, bFF, Bool.not_true, Bool.not_false, AO.isC, Bool.or_true, Bool.true_or, Bool.or_false, Bool.false_or, WpE_cons, WpE_nil, opE, evE_some, guardE_true, guardE_false, WpD_cons, WpD_nil, opD, evD_some, guardD_true, guardD_false, h5, h1, h9, h10, h11, hlt, hget, podC, hp1, hp2, hw]
        refine ih (i + 1) k hd' hi' (by omega) (by simpa [sizeN, hp2] using ht) _ _ _ ?_ ?_ ?_ ?_ ?_
        all_goals simp only [look_if, Nat.reduceEqDiff, if_true, if_false, h5, h1, h9, h10]
      · simp only [Wp_seq, Wp_ops, Wp_cond, Wp_skip, Wp_ret, Wp_exit, Wp_block, WpO_cons, WpO_nil, opQ, evOp, evO, evOs, evQ_some, guardV, guardQ_true, guardQ_false, boolQ_true, boolQ_false, argsA, pvs, putS, cellsOf, scals, scal, seqQ_normal, seqQ_ret, seqQ_exit, blkQ_normal, blkQ_ret, blkQ_exit, look_if, blkAt_if, if_true, if_false, Nat.reduceEqDiff, Nat.reduceAdd, true_implies, reduceCtorEq, false_implies, and_true, true_and, List.nil_append, List.cons_append, Bool.and_self, Nat.zero_add, Nat.add_zero, fieldA, nonNil, cellsAt, loadV_one, loadV_pvs, loadV_cons, mkAgg, allPV, List.drop_zero, List.drop_succ_cons, List.take_succ_cons, List.take_zero, List.length_cons, List.length_nil, Nat.beq_eq, storeB, patchL, beq_self_eq_true, ge_iff_le, gt_iff_lt, Int.reduceNeg, Int.reduceLE, Int.reduceLT, Int.reduceEq, extractV, List.getElem?_cons_zero, List.getElem?_cons_succ, mkAgg, Nat.add_eq_left, Nat.left_eq_add, Nat.one_ne_zero, ble_dec, beq_dec, decide_eq_true_eq, Nat.reduceLeDiff, Nat.le_refl, fillA, pureVs, pureV, beq_int, bne_int, Int.natCast_inj, eq_self, eqV, eqB, decide_true, decide_false, List.length_map, Int.toNat_natCast, List.getElem?_map, Option.map_some, Option.map_none, Int.natCast_nonneg, Option.some.injEq, lenV, binV, intBin, intV, idxA, ne_eq, not_true_eq_false, not_false_eq_true, List.drop, List.take, RetP, retP, resV, resOne, snapV, snapVs, snapR, snapRs, ownSz, pickV, cond_true, cond_false, bTT, bTF, bFT, bFF, Bool.not_true, Bool.not_false, AO.isC, Bool.or_true, Bool.true_or, Bool.or_false, Bool.false_or, WpE_cons, WpE_nil, opE, evE_some, guardE_true, guardE_false, WpD_cons, WpD_nil, opD, evD_some, guardD_true, guardD_false, h5, h1, h9, h10, h11, hlt, hget, podC, hp1, hp2, hw, hwk]
        refine ih (i + 1) (k + 1) hd' hi' (by omega) (by simp [sizeN, hp1, hp2] at ht; omega) _ _ _ ?_ ?_ ?_ ?_ ?_
        all_goals simp only [look_if, Nat.reduceEqDiff, if_true, if_false, h5, h1, h9, h10]
    · simp only [Wp_seq, Wp_ops, Wp_cond, Wp_skip, Wp_ret, Wp_exit, Wp_block, WpO_cons, WpO_nil, opQ, evOp, evO, evOs, evQ_some, guardV, guardQ_true, guardQ_false, boolQ_true, boolQ_false, argsA, pvs, putS, cellsOf, scals, scal, seqQ_normal, seqQ_ret, seqQ_exit, blkQ_normal, blkQ_ret, blkQ_exit, look_if, blkAt_if, if_true, if_false, Nat.reduceEqDiff, Nat.reduceAdd, true_implies, reduceCtorEq, false_implies, and_true, true_and, List.nil_append, List.cons_append, Bool.and_self, Nat.zero_add, Nat.add_zero, fieldA, nonNil, cellsAt, loadV_one, loadV_pvs, loadV_cons, mkAgg, allPV, List.drop_zero, List.drop_succ_cons, List.take_succ_cons, List.take_zero, List.length_cons, List.length_nil, Nat.beq_eq, storeB, patchL, beq_self_eq_true, ge_iff_le, gt_iff_lt, Int.reduceNeg, Int.reduceLE, Int.reduceLT, Int.reduceEq, extractV, List.getElem?_cons_zero, List.getElem?_cons_succ, mkAgg, Nat.add_eq_left, Nat.left_eq_add, Nat.one_ne_zero, ble_dec, beq_dec, decide_eq_true_eq, Nat.reduceLeDiff, Nat.le_refl, fillA, pureVs, pureV, beq_int, bne_int, Int.natCast_inj, eq_self, eqV, eqB, decide_true, decide_false, List.length_map, Int.toNat_natCast, List.getElem?_map, Option.map_some, Option.map_none, Int.natCast_nonneg, Option.some.injEq, lenV, binV, intBin, intV, idxA, ne_eq, not_true_eq_false, not_false_eq_true, List.drop, List.take, RetP, retP, resV, resOne, snapV, snapVs, snapR, snapRs, ownSz, pickV, cond_true, cond_false, bTT, bTF, bFT, bFF, Bool.not_true, Bool.not_false, AO.isC, Bool.or_true, Bool.true_or, Bool.or_false, Bool.false_or, WpE_cons, WpE_nil, opE, evE_some, guardE_true, guardE_false, WpD_cons, WpD_nil, opD, evD_some, guardD_true, guardD_false, h5, h1, h9, h10, h11, hlt, hget, podC, hp1, hw]
      refine ih (i + 1) k hd' hi' (by omega) (by simpa [sizeN, hp1] using ht) _ _ _ ?_ ?_ ?_ ?_ ?_
      all_goals simp only [look_if, Nat.reduceEqDiff, if_true, if_false, h5, h1, h9, h10]
theorem size_ok (h71 : Std T 71 f71) (t : State) (load : Int) (h : t.pods.length ≤ 2 ^ 30) : Gives T 71 [stateP t, .int .i64 load] (.int .i64 (sizeN load t.pods)) := by
  refine gives h71 rfl ?_
  simp only [f71, Wp_seq, Wp_ops, Wp_cond, Wp_skip, Wp_ret, Wp_exit, Wp_block, WpO_cons, WpO_nil, opQ, evOp, evO, evOs, evQ_some, guardV, guardQ_true, guardQ_false, boolQ_true, boolQ_false, argsA, pvs, putS, cellsOf, scals, scal, seqQ_normal, seqQ_ret, seqQ_exit, blkQ_normal, blkQ_ret, blkQ_exit, look_if, blkAt_if, if_true, if_false, Nat.reduceEqDiff, Nat.reduceAdd, true_implies, reduceCtorEq, false_implies, and_true, true_and, List.nil_append, List.cons_append, Bool.and_self, Nat.zero_add, Nat.add_zero, fieldA, nonNil, cellsAt, loadV_one, loadV_pvs, loadV_cons, mkAgg, allPV, List.drop_zero, List.drop_succ_cons, List.take_succ_cons, List.take_zero, List.length_cons, List.length_nil, Nat.beq_eq, storeB, patchL, beq_self_eq_true, ge_iff_le, gt_iff_lt, Int.reduceNeg, Int.reduceLE, Int.reduceLT, Int.reduceEq, extractV, List.getElem?_cons_zero, List.getElem?_cons_succ, mkAgg, Nat.add_eq_left, Nat.left_eq_add, Nat.one_ne_zero, ble_dec, beq_dec, decide_eq_true_eq, Nat.reduceLeDiff, Nat.le_refl, fillA, pureVs, pureV, beq_int, bne_int, Int.natCast_inj, eq_self, eqV, eqB, decide_true, decide_false, List.length_map, Int.toNat_natCast, List.getElem?_map, Option.map_some, Option.map_none, Int.natCast_nonneg, Option.some.injEq, lenV, binV, intBin, intV, idxA, ne_eq, not_true_eq_false, not_false_eq_true, List.drop, List.take, RetP, retP, resV, resOne, snapV, snapVs, snapR, snapRs, ownSz, pickV, cond_true, cond_false, bTT, bTF, bFT, bFF, Bool.not_true, Bool.not_false, AO.isC, Bool.or_true, Bool.true_or, Bool.or_false, Bool.false_or, WpE_cons, WpE_nil, opE, evE_some, guardE_true, guardE_false, WpD_cons, WpD_nil, opD, evD_some, guardD_true, guardD_false, stateP]
  refine size_loop load t.pods h _ (sizeN load t.pods) (fun fr hp nx h5 => ?_) t.pods 0 0 rfl (Nat.zero_le _) (Nat.le_refl _) (Nat.zero_add _) _ _ _ rfl rfl rfl rfl rfl
  simp only [Wp_seq, Wp_ops, Wp_cond, Wp_skip, Wp_ret, Wp_exit, Wp_block, WpO_cons, WpO_nil, opQ, evOp, evO, evOs, evQ_some, guardV, guardQ_true, guardQ_false, boolQ_true, boolQ_false, argsA, pvs, putS, cellsOf, scals, scal, seqQ_normal, seqQ_ret, seqQ_exit, blkQ_normal, blkQ_ret, blkQ_exit, look_if, blkAt_if, if_true, if_false, Nat.reduceEqDiff, Nat.reduceAdd, true_implies, reduceCtorEq, false_implies, and_true, true_and, List.nil_append, List.cons_append, Bool.and_self, Nat.zero_add, Nat.add_zero, fieldA, nonNil, cellsAt, loadV_one, loadV_pvs, loadV_cons, mkAgg, allPV, List.drop_zero, List.drop_succ_cons, List.take_succ_cons, List.take_zero, List.length_cons, List.length_nil, Nat.beq_eq, storeB, patchL, beq_self_eq_true, ge_iff_le, gt_iff_lt, Int.reduceNeg, Int.reduceLE, Int.reduceLT, Int.reduceEq, extractV, List.getElem?_cons_zero, List.getElem?_cons_succ, mkAgg, Nat.add_eq_left, Nat.left_eq_add, Nat.one_ne_zero, ble_dec, beq_dec, decide_eq_true_eq, Nat.reduceLeDiff, Nat.le_refl, fillA, pureVs, pureV, beq_int, bne_int, Int.natCast_inj, eq_self, eqV, eqB, decide_true, decide_false, List.length_map, Int.toNat_natCast, List.getElem?_map, Option.map_some, Option.map_none, Int.natCast_nonneg, Option.some.injEq, lenV, binV, intBin, intV, idxA, ne_eq, not_true_eq_false, not_false_eq_true, List.drop, List.take, RetP, retP, resV, resOne, snapV, snapVs, snapR, snapRs, ownSz, pickV, cond_true, cond_false, bTT, bTF, bFT, bFF, Bool.not_true, Bool.not_false, AO.isC, Bool.or_true, Bool.true_or, Bool.or_false, Bool.false_or, WpE_cons, WpE_nil, opE, evE_some, guardE_true, guardE_false, WpD_cons, WpD_nil, opD, evD_some, guardD_true, guardD_false, h5]

theorem size2_loop (load : Int) (t : State) (hl : t.pods.length ≤ 2 ^ 30) (Q : Exit → St → Prop) (total : Nat) (hQ : ∀ fr hp nx, look fr 5 = .pv (.int .i64 total) → Q (.exit 0) ⟨fr, hp, nx⟩) :
    ∀ (rest : List Pod) (i k : Nat), t.pods.drop i = rest → i ≤ t.pods.length → k ≤ i → k + sizeN load rest = total → ∀ (fr : List (Nat × AV)) (hp : Hl) (nx : Nat), look fr 5 = .pv (.int .i64 k) → look fr 1 = .pv (.int .i64 load) →
      look fr 2 = .ptr 0 0 0 → blkAt hp 0 = .var [.pv (.slice (t.pods.map podC)), .pv (.int .i64 t.pre), .pv (.int .i64 t.shi)] → look fr 6 = .pv (.int .i64 i) → Wp T false (.loop f176l0) ⟨fr, hp, nx⟩ Q := by
  intro rest
  induction rest with
  | nil =>
    intro i k hd hi hk ht fr hp nx h5 h1 h2 b0 h6
    have hlen := drop_nil hd hi
    simp only [sizeN, Nat.add_zero] at ht
    subst ht
    rw [Wp_loop, Wp_eq f176l0.eq_1]
    simp only [Wp_seq, Wp_ops, Wp_cond, Wp_skip, Wp_ret, Wp_exit, Wp_block, WpO_cons, WpO_nil, opQ, evOp, evO, evOs, evQ_some, guardV, guardQ_true, guardQ_false, boolQ_true, boolQ_false, argsA, pvs, putS, cellsOf, scals, scal, seqQ_normal, seqQ_ret, seqQ_exit, blkQ_normal, blkQ_ret, blkQ_exit, look_if, blkAt_if, if_true, if_false, Nat.reduceEqDiff, Nat.reduceAdd, true_implies, reduceCtorEq, false_implies, and_true, true_and, List.nil_append, List.cons_append, Bool.and_self, Nat.zero_add, Nat.add_zero, fieldA, nonNil, cellsAt, loadV_one, loadV_pvs, loadV_cons, mkAgg, allPV, List.drop_zero, List.drop_succ_cons, List.take_succ_cons, List.take_zero, List.length_cons, List.length_nil, Nat.beq_eq, storeB, patchL, beq_self_eq_true, ge_iff_le, gt_iff_lt, Int.reduceNeg, Int.reduceLE, Int.reduceLT, Int.reduceEq, extractV, List.getElem?_cons_zero, List.getElem?_cons_succ, mkAgg, Nat.add_eq_left, Nat.left_eq_add, Nat.one_ne_zero, ble_dec, beq_dec, decide_eq_true_eq, Nat.reduceLeDiff, Nat.le_refl, fillA, pureVs, pureV, beq_int, bne_int, Int.natCast_inj, eq_self, eqV, eqB, decide_true, decide_false, List.length_map, Int.toNat_natCast, List.getElem?_map, Option.map_some, Option.map_none, Int.natCast_nonneg, Option.some.injEq, lenV, binV, intBin, intV, idxA, ne_eq, not_true_eq_false, not_false_eq_true, List.drop, List.take, RetP, retP, resV, resOne, snapV, snapVs, snapR, snapRs, ownSz, pickV, cond_true, cond_false, bTT, bTF, bFT, bFF, Bool.not_true, Bool.not_false, AO.isC, Bool.or_true, Bool.true_or, Bool.or_false, Bool.false_or, WpE_cons, WpE_nil, opE, evE_some, guardE_true, guardE_false, WpD_cons, WpD_nil, opD, evD_some, guardD_true, guardD_false, h5, h1, h2, b0, h6, hlen, Int.lt_irrefl]
    exact hQ _ _ _ (by simp only [look_if, Nat.reduceEqDiff, if_false, h5])
  | cons p r ih =>
    intro i k hd hi hk ht fr hp nx h5 h1 h2 b0 h6
    obtain ⟨hget, hlt, hw, hd', hi', hb⟩ := drop_cons hd hl
    have hwk : IntKind.i64.wrap ((k : Int) + 1) = ((k + 1 : Nat) : Int) := by rw [wrap6] <;> omega
    rw [Wp_loop, Wp_eq f176l0.eq_1]
    by_cases hp1 : p.load = load
    · by_cases hp2 : p.node = 0
      · simp only [Wp_seq, Wp_ops, Wp_cond, Wp_skip, Wp_ret, Wp_exit, Wp_block, WpO_cons, WpO_nil, opQ, evOp, evO, evOs, evQ_some, guardV, guardQ_true, guardQ_false, boolQ_true, boolQ_false, argsA, pvs, putS, cellsOf, scals, scal, seqQ_normal, seqQ_ret, seqQ_exit, blkQ_normal, blkQ_ret, blkQ_exit, look_if, blkAt_if, if_true, if_false, Nat.reduceEqDiff, Nat.reduceAdd, true_implies, reduceCtorEq, false_implies, and_true, true_and, List.nil_append, List.cons_append, Bool.and_self, Nat.zero_add, Nat.add_zero, fieldA, nonNil, cellsAt, loadV_one, loadV_pvs, loadV_cons, mkAgg, allPV, List.drop_zero, List.drop_succ_cons, List.take_succ_cons, List.take_zero, List.length_cons, List.length_nil, Nat.beq_eq, storeB, patchL, beq_self_eq_true, ge_iff_le, gt_iff_lt, Int.reduceNeg, Int.reduceLE, Int.reduceLT, Int.reduceEq, extractV, List.getElem?_cons_zero, List.getElem?_cons_succ, mkAgg, Nat.add_eq_left, Nat.left_eq_add, Nat.one_ne_zero, ble_dec, beq_dec, decide_eq_true_eq, Nat.reduceLeDiff, Nat.le_refl, fillA, pureVs, pureV, beq_int, bne_int, Int.natCast_inj, eq_self, eqV, eqB, decide_true, decide_false, List.length_map, Int.toNat_natCast, List.getElem?_map, Option.map_some, Option.map_none, Int.natCast_nonneg, Option.some.injEq, lenV, binV, intBin, intV, idxA, ne_eq, not_true_eq_false, not_false_eq_true, List.drop, List.take, RetP, retP, resV, resOne, snapV, snapVs, snapR, snapRs, ownSz, pickV, cond_true, cond_false, bTT, bTF, bFT, bFF, Bool.not_true, Bool.not_false, AO.isC, Bool.or_true, Bool.true_or, Bool.or_false, Bool.false_or, WpE_cons, WpE_nil, opE, evE_some, guardE_true, guardE_false, WpD_cons, WpD_nil, opD, evD_some, guardD_true, guardD_false, h5, h1, h2, b0, h6, hlt, hget, podC, hp1, hp2, hw]
        refine ih (i + 1) k hd' hi' (by omega) (by simpa [sizeN, hp2] using ht) _ _ _ ?_ ?_ ?_ b0 ?_
        all_goals simp only [look_if, Nat.reduceEqDiff, if_true, if_false, h5, h1, h2]
      · simp only [Wp_seq, Wp_ops, Wp_cond, Wp_skip, Wp_ret, Wp_exit, Wp_block, WpO_cons, WpO_nil, opQ, evOp, evO, evOs, evQ_some, guardV, guardQ_true, guardQ_false, boolQ_true, boolQ_false, argsA, pvs, putS, cellsOf, scals, scal, seqQ_normal, seqQ_ret, seqQ_exit, blkQ_normal, blkQ_ret, blkQ_exit, look_if, blkAt_if, if_true, if_false, Nat.reduceEqDiff, Nat.reduceAdd, true_implies, reduceCtorEq, false_implies, and_true, true_and, List.nil_append, List.cons_append, Bool.and_self, Nat.zero_add, Nat.add_zero, fieldA, nonNil, cellsAt, loadV_one, loadV_pvs, loadV_cons, mkAgg, allPV, List.drop_zero, List.drop_succ_cons, List.take_succ_cons, List.take_zero, List.length_cons, List.length_nil, Nat.beq_eq, storeB, patchL, beq_self_eq_true, ge_iff_le, gt_iff_lt, Int.reduceNeg, Int.reduceLE, Int.reduceLT, Int.reduceEq, extractV, List.getElem?_cons_zero, List.getElem?_cons_succ, mkAgg, Nat.add_eq_left, Nat.left_eq_add, Nat.one_ne_zero, ble_dec, beq_dec, decide_eq_true_eq, Nat.reduceLeDiff, Nat.le_refl, fillA, pureVs, pureV, beq_int, bne_int, Int.natCast_inj, eq_self, eqV, eqB, decide_true, decide_false, List.length_map, Int.toNat_natCast, List.getElem?_map, Option.map_some, Option.map_none, Int.natCast_nonneg, Option.some.injEq, lenV, binV, intBin, intV, idxA, ne_eq, not_true_eq_false, not_false_eq_true, List.drop, List.take, RetP, retP, resV, resOne, snapV, snapVs, snapR, snapRs, ownSz, pickV, cond_true, cond_false, bTT, bTF, bFT, bFF, Bool.not_true, Bool.not_false, AO.isC, Bool.or_true, Bool.true_or, Bool.or_false, Bool.false_or, WpE_cons, WpE_nil, opE, evE_some, guardE_true, guardE_false, WpD_cons, WpD_nil, opD, evD_some, guardD_true, guardD_false, h5, h1, h2, b0, h6, hlt, hget, podC, hp1, hp2, hw, hwk]
        refine ih (i + 1) (k + 1) hd' hi' (by omega) (by simp [sizeN, hp1, hp2] at ht; omega) _ _ _ ?_ ?_ ?_ b0 ?_
        all_goals simp only [look_if, Nat.reduceEqDiff, if_true, if_false, h5, h1, h2]
    · simp only [Wp_seq, Wp_ops, Wp_cond, Wp_skip, Wp_ret, Wp_exit, Wp_block, WpO_cons, WpO_nil, opQ, evOp, evO, evOs, evQ_some, guardV, guardQ_true, guardQ_false, boolQ_true, boolQ_false, argsA, pvs, putS, cellsOf, scals, scal, seqQ_normal, seqQ_ret, seqQ_exit, blkQ_normal, blkQ_ret, blkQ_exit, look_if, blkAt_if, if_true, if_false, Nat.reduceEqDiff, Nat.reduceAdd, true_implies, reduceCtorEq, false_implies, and_true, true_and, List.nil_append, List.cons_append, Bool.and_self, Nat.zero_add, Nat.add_zero, fieldA, nonNil, cellsAt, loadV_one, loadV_pvs, loadV_cons, mkAgg, allPV, List.drop_zero, List.drop_succ_cons, List.take_succ_cons, List.take_zero, List.length_cons, List.length_nil, Nat.beq_eq, storeB, patchL, beq_self_eq_true, ge_iff_le, gt_iff_lt, Int.reduceNeg, Int.reduceLE, Int.reduceLT, Int.reduceEq, extractV, List.getElem?_cons_zero, List.getElem?_cons_succ, mkAgg, Nat.add_eq_left, Nat.left_eq_add, Nat.one_ne_zero, ble_dec, beq_dec, decide_eq_true_eq, Nat.reduceLeDiff, Nat.le_refl, fillA, pureVs, pureV, beq_int, bne_int, Int.natCast_inj, eq_self, eqV, eqB, decide_true, decide_false, List.length_map, Int.toNat_natCast, List.getElem?_map, Option.map_some, Option.map_none, Int.natCast_nonneg, Option.some.injEq, lenV, binV, intBin, intV, idxA, ne_eq, not_true_eq_false, not_false_eq_true, List.drop, List.take, RetP, retP, resV, resOne, snapV, snapVs, snapR, snapRs, ownSz, pickV, cond_true, cond_false, bTT, bTF, bFT, bFF, Bool.not_true, Bool.not_false, AO.isC, Bool.or_true, Bool.true_or, Bool.or_false, Bool.false_or, WpE_cons, WpE_nil, opE, evE_some, guardE_true, guardE_false, WpD_cons, WpD_nil, opD, evD_some, guardD_true, guardD_false, h5, h1, h2, b0, h6, hlt, hget, podC, hp1, hw]
      refine ih (i + 1) k hd' hi' (by omega) (by simpa [sizeN, hp1] using ht) _ _ _ ?_ ?_ ?_ b0 ?_
      all_goals simp only [look_if, Nat.reduceEqDiff, if_true, if_false, h5, h1, h2]
theorem size2_ok (h176 : Std T 176 f176) (t : State) (load : Int) (h : t.pods.length ≤ 2 ^ 30) : Gives T 176 [stateP t, .int .i64 load] (.int .i64 (sizeN load t.pods)) := by
  refine gives h176 rfl ?_
  simp only [f176, Wp_seq, Wp_ops, Wp_cond, Wp_skip, Wp_ret, Wp_exit, Wp_block, WpO_cons, WpO_nil, opQ, evOp, evO, evOs, evQ_some, guardV, guardQ_true, guardQ_false, boolQ_true, boolQ_false, argsA, pvs, putS, cellsOf, scals, scal, seqQ_normal, seqQ_ret, seqQ_exit, blkQ_normal, blkQ_ret, blkQ_exit, look_if, blkAt_if, if_true, if_false, Nat.reduceEqDiff, Nat.reduceAdd, true_implies, reduceCtorEq, false_implies, and_true, true_and, List.nil_append, List.cons_append, Bool.and_self, Nat.zero_add, Nat.add_zero, fieldA, nonNil, cellsAt, loadV_one, loadV_pvs, loadV_cons, mkAgg, allPV, List.drop_zero, List.drop_succ_cons, List.take_succ_cons, List.take_zero, List.length_cons, List.length_nil, Nat.beq_eq, storeB, patchL, beq_self_eq_true, ge_iff_le, gt_iff_lt, Int.reduceNeg, Int.reduceLE, Int.reduceLT, Int.reduceEq, extractV, List.getElem?_cons_zero, List.getElem?_cons_succ, mkAgg, Nat.add_eq_left, Nat.left_eq_add, Nat.one_ne_zero, ble_dec, beq_dec, decide_eq_true_eq, Nat.reduceLeDiff, Nat.le_refl, fillA, pureVs, pureV, beq_int, bne_int, Int.natCast_inj, eq_self, eqV, eqB, decide_true, decide_false, List.length_map, Int.toNat_natCast, List.getElem?_map, Option.map_some, Option.map_none, Int.natCast_nonneg, Option.some.injEq, lenV, binV, intBin, intV, idxA, ne_eq, not_true_eq_false, not_false_eq_true, List.drop, List.take, RetP, retP, resV, resOne, snapV, snapVs, snapR, snapRs, ownSz, pickV, cond_true, cond_false, bTT, bTF, bFT, bFF, Bool.not_true, Bool.not_false, AO.isC, Bool.or_true, Bool.true_or, Bool.or_false, Bool.false_or, WpE_cons, WpE_nil, opE, evE_some, guardE_true, guardE_false, WpD_cons, WpD_nil, opD, evD_some, guardD_true, guardD_false, stateP]
  refine size2_loop load t h _ (sizeN load t.pods) (fun fr hp nx h5 => ?_) t.pods 0 0 rfl (Nat.zero_le _) (Nat.le_refl _) (Nat.zero_add _) _ _ _ rfl rfl rfl rfl rfl
  simp only [Wp_seq, Wp_ops, Wp_cond, Wp_skip, Wp_ret, Wp_exit, Wp_block, WpO_cons, WpO_nil, opQ, evOp, evO, evOs, evQ_some, guardV, guardQ_true, guardQ_false, boolQ_true, boolQ_false, argsA, pvs, putS, cellsOf, scals, scal, seqQ_normal, seqQ_ret, seqQ_exit, blkQ_normal, blkQ_ret, blkQ_exit, look_if, blkAt_if, if_true, if_false, Nat.reduceEqDiff, Nat.reduceAdd, true_implies, reduceCtorEq, false_implies, and_true, true_and, List.nil_append, List.cons_append, Bool.and_self, Nat.zero_add, Nat.add_zero, fieldA, nonNil, cellsAt, loadV_one, loadV_pvs, loadV_cons, mkAgg, allPV, List.drop_zero, List.drop_succ_cons, List.take_succ_cons, List.take_zero, List.length_cons, List.length_nil, Nat.beq_eq, storeB, patchL, beq_self_eq_true, ge_iff_le, gt_iff_lt, Int.reduceNeg, Int.reduceLE, Int.reduceLT, Int.reduceEq, extractV, List.getElem?_cons_zero, List.getElem?_cons_succ, mkAgg, Nat.add_eq_left, Nat.left_eq_add, Nat.one_ne_zero, ble_dec, beq_dec, decide_eq_true_eq, Nat.reduceLeDiff, Nat.le_refl, fillA, pureVs, pureV, beq_int, bne_int, Int.natCast_inj, eq_self, eqV, eqB, decide_true, decide_false, List.length_map, Int.toNat_natCast, List.getElem?_map, Option.map_some, Option.map_none, Int.natCast_nonneg, Option.some.injEq, lenV, binV, intBin, intV, idxA, ne_eq, not_true_eq_false, not_false_eq_true, List.drop, List.take, RetP, retP, resV, resOne, snapV, snapVs, snapR, snapRs, ownSz, pickV, cond_true, cond_false, bTT, bTF, bFT, bFF, Bool.not_true, Bool.not_false, AO.isC, Bool.or_true, Bool.true_or, Bool.or_false, Bool.false_or, WpE_cons, WpE_nil, opE, evE_some, guardE_true, guardE_false, WpD_cons, WpD_nil, opD, evD_some, guardD_true, guardD_false, h5]

/-- The first load at fault, from here on: the code, and the place. -/
def badLoad (pods : List Pod) : Nat → List Load → Option (Int × Int)
  | _, [] => none
  | i, l :: r => if (sizeN l.id pods : Int) < l.min then some (12, i) else if (sizeN l.id pods : Int) > l.max then some (13, i) else badLoad pods (i + 1) r

theorem check9_loop (s : Snap) (t : State) (ht : t.pods.length ≤ 2 ^ 30) (hl : s.loads.length ≤ 2 ^ 30) (h71 : Std T 71 f71) (Q : Exit → St → Prop) (o : Option (Int × Int))
    (hend : o = none → ∀ fr hp nx, Q (.exit 0) ⟨fr, hp, nx⟩)
    (hret : ∀ c i, o = some (c, i) → ∀ fr hp nx id, look fr 4 = .iface 1 (.ptr id 0 0) → blkAt hp id = .var [.pv (.int .i64 i), .pv (.int .i64 c)] → Q .ret ⟨fr, hp, nx⟩) :
    ∀ (rest : List Load) (i : Nat), s.loads.drop i = rest → i ≤ s.loads.length → badLoad t.pods i rest = o → ∀ (fr : List (Nat × AV)) (hp : Hl) (nx : Nat), 2 ≤ nx →
      look fr 3 = .ptr 1 0 0 → blkAt hp 1 = .var [.pv (.slice (t.pods.map podC)), .pv (.int .i64 t.pre), .pv (.int .i64 t.shi)] →
      look fr 9 = .pv (.slice (s.loads.map loadC)) → look fr 10 = .pv (.int .i64 s.loads.length) → look fr 11 = .pv (.int .i64 i) → Wp T false (.loop f70l0) ⟨fr, hp, nx⟩ Q := by
  intro rest
  induction rest with
  | nil =>
    intro i hd hi ho fr hp nx hn h3 b1 h9 h10 h11
    have hlen := drop_nil hd hi
    rw [Wp_loop, Wp_eq f70l0.eq_1]
    simp only [Wp_seq, Wp_ops, Wp_cond, Wp_skip, Wp_ret, Wp_exit, Wp_block, WpO_cons, WpO_nil, opQ, evOp, evO, evOs, evQ_some, guardV, guardQ_true, guardQ_false, boolQ_true, boolQ_false, argsA, pvs, putS, cellsOf, scals, scal, seqQ_normal, seqQ_ret, seqQ_exit, blkQ_normal, blkQ_ret, blkQ_exit, look_if, blkAt_if, if_true, if_false, Nat.reduceEqDiff, Nat.reduceAdd, true_implies, reduceCtorEq, false_implies, and_true, true_and, List.nil_append, List.cons_append, Bool.and_self, Nat.zero_add, Nat.add_zero, fieldA, nonNil, cellsAt, loadV_one, loadV_pvs, loadV_cons, mkAgg, allPV, List.drop_zero, List.drop_succ_cons, List.take_succ_cons, List.take_zero, List.length_cons, List.length_nil, Nat.beq_eq, storeB, patchL, beq_self_eq_true, ge_iff_le, gt_iff_lt, Int.reduceNeg, Int.reduceLE, Int.reduceLT, Int.reduceEq, extractV, List.getElem?_cons_zero, List.getElem?_cons_succ, mkAgg, Nat.add_eq_left, Nat.left_eq_add, Nat.one_ne_zero, ble_dec, beq_dec, decide_eq_true_eq, Nat.reduceLeDiff, Nat.le_refl, fillA, pureVs, pureV, beq_int, bne_int, Int.natCast_inj, eq_self, eqV, eqB, decide_true, decide_false, List.length_map, Int.toNat_natCast, List.getElem?_map, Option.map_some, Option.map_none, Int.natCast_nonneg, Option.some.injEq, lenV, binV, intBin, intV, idxA, ne_eq, not_true_eq_false, not_false_eq_true, List.drop, List.take, RetP, retP, resV, resOne, snapV, snapVs, snapR, snapRs, ownSz, pickV, cond_true, cond_false, bTT, bTF, bFT, bFF, Bool.not_true, Bool.not_false, AO.isC, Bool.or_true, Bool.true_or, Bool.or_false, Bool.false_or, WpE_cons, WpE_nil, opE, evE_some, guardE_true, guardE_false, WpD_cons, WpD_nil, opD, evD_some, guardD_true, guardD_false, h3, h9, h10, h11, hlen, Int.lt_irrefl]
    exact hend ho.symm _ _ _
  | cons l r ih =>
    intro i hd hi ho fr hp nx hn h3 b1 h9 h10 h11
    obtain ⟨hget, hlt, hw, hd', hi', hb⟩ := drop_cons hd hl
    have n1 : ¬ nx = 1 := by omega
    have k := size_ok h71 t l.id ht
    rw [Wp_loop, Wp_eq f70l0.eq_1]
    simp only [badLoad] at ho
    by_cases c1 : (sizeN l.id t.pods : Int) < l.min
    · rw [if_pos c1] at ho
      simp only [Wp_seq, Wp_ops, Wp_cond, Wp_skip, Wp_ret, Wp_exit, Wp_block, WpO_cons, WpO_nil, opQ, evOp, evO, evOs, evQ_some, guardV, guardQ_true, guardQ_false, boolQ_true, boolQ_false, argsA, pvs, putS, cellsOf, scals, scal, seqQ_normal, seqQ_ret, seqQ_exit, blkQ_normal, blkQ_ret, blkQ_exit, look_if, blkAt_if, if_true, if_false, Nat.reduceEqDiff, Nat.reduceAdd, true_implies, reduceCtorEq, false_implies, and_true, true_and, List.nil_append, List.cons_append, Bool.and_self, Nat.zero_add, Nat.add_zero, fieldA, nonNil, cellsAt, loadV_one, loadV_pvs, loadV_cons, mkAgg, allPV, List.drop_zero, List.drop_succ_cons, List.take_succ_cons, List.take_zero, List.length_cons, List.length_nil, Nat.beq_eq, storeB, patchL, beq_self_eq_true, ge_iff_le, gt_iff_lt, Int.reduceNeg, Int.reduceLE, Int.reduceLT, Int.reduceEq, extractV, List.getElem?_cons_zero, List.getElem?_cons_succ, mkAgg, Nat.add_eq_left, Nat.left_eq_add, Nat.one_ne_zero, ble_dec, beq_dec, decide_eq_true_eq, Nat.reduceLeDiff, Nat.le_refl, fillA, pureVs, pureV, beq_int, bne_int, Int.natCast_inj, eq_self, eqV, eqB, decide_true, decide_false, List.length_map, Int.toNat_natCast, List.getElem?_map, Option.map_some, Option.map_none, Int.natCast_nonneg, Option.some.injEq, lenV, binV, intBin, intV, idxA, ne_eq, not_true_eq_false, not_false_eq_true, List.drop, List.take, RetP, retP, resV, resOne, snapV, snapVs, snapR, snapRs, ownSz, pickV, cond_true, cond_false, bTT, bTF, bFT, bFF, Bool.not_true, Bool.not_false, AO.isC, Bool.or_true, Bool.true_or, Bool.or_false, Bool.false_or, WpE_cons, WpE_nil, opE, evE_some, guardE_true, guardE_false, WpD_cons, WpD_nil, opD, evD_some, guardD_true, guardD_false, h3, b1, h9, h10, h11, hlt, hget, loadC, n1, k.call, stateP, c1]
      refine hret 12 i ho.symm _ _ _ (nx + 1) ?_ ?_
      · simp only [look_if, Nat.reduceEqDiff, if_true, if_false]
      · simp only [blkAt_if, if_true]
    · rw [if_neg c1] at ho
      by_cases c2 : (sizeN l.id t.pods : Int) > l.max
      · rw [if_pos c2] at ho
        have c2' : l.max < (sizeN l.id t.pods : Int) := c2
        simp only [Wp_seq, Wp_ops, Wp_cond, Wp_skip, Wp_ret, Wp_exit, Wp_block, WpO_cons, WpO_nil, opQ, evOp, evO, evOs, evQ_some, guardV, guardQ_true, guardQ_false, boolQ_true, boolQ_false, argsA, pvs, putS, cellsOf, scals, scal, seqQ_normal, seqQ_ret, seqQ_exit, blkQ_normal, blkQ_ret, blkQ_exit, look_if, blkAt_if, if_true, if_false, Nat.reduceEqDiff, Nat.reduceAdd, true_implies, reduceCtorEq, false_implies, and_true, true_and, List.nil_append, List.cons_append, Bool.and_self, Nat.zero_add, Nat.add_zero, fieldA, nonNil, cellsAt, loadV_one, loadV_pvs, loadV_cons, mkAgg, allPV, List.drop_zero, List.drop_succ_cons, List.take_succ_cons, List.take_zero, List.length_cons, List.length_nil, Nat.beq_eq, storeB, patchL, beq_self_eq_true, ge_iff_le, gt_iff_lt, Int.reduceNeg, Int.reduceLE, Int.reduceLT, Int.reduceEq, extractV, List.getElem?_cons_zero, List.getElem?_cons_succ, mkAgg, Nat.add_eq_left, Nat.left_eq_add, Nat.one_ne_zero, ble_dec, beq_dec, decide_eq_true_eq, Nat.reduceLeDiff, Nat.le_refl, fillA, pureVs, pureV, beq_int, bne_int, Int.natCast_inj, eq_self, eqV, eqB, decide_true, decide_false, List.length_map, Int.toNat_natCast, List.getElem?_map, Option.map_some, Option.map_none, Int.natCast_nonneg, Option.some.injEq, lenV, binV, intBin, intV, idxA, ne_eq, not_true_eq_false, not_false_eq_true, List.drop, List.take, RetP, retP, resV, resOne, snapV, snapVs, snapR, snapRs, ownSz, pickV, cond_true, cond_false, bTT, bTF, bFT, bFF, Bool.not_true, Bool.not_false, AO.isC, Bool.or_true, Bool.true_or, Bool.or_false, Bool.false_or, WpE_cons, WpE_nil, opE, evE_some, guardE_true, guardE_false, WpD_cons, WpD_nil, opD, evD_some, guardD_true, guardD_false, h3, b1, h9, h10, h11, hlt, hget, loadC, n1, k.call, stateP, c1, c2']
        refine hret 13 i ho.symm _ _ _ (nx + 1) ?_ ?_
        · simp only [look_if, Nat.reduceEqDiff, if_true, if_false]
        · simp only [blkAt_if, if_true]
      · rw [if_neg c2] at ho
        have c2' : ¬ l.max < (sizeN l.id t.pods : Int) := c2
        simp only [Wp_seq, Wp_ops, Wp_cond, Wp_skip, Wp_ret, Wp_exit, Wp_block, WpO_cons, WpO_nil, opQ, evOp, evO, evOs, evQ_some, guardV, guardQ_true, guardQ_false, boolQ_true, boolQ_false, argsA, pvs, putS, cellsOf, scals, scal, seqQ_normal, seqQ_ret, seqQ_exit, blkQ_normal, blkQ_ret, blkQ_exit, look_if, blkAt_if, if_true, if_false, Nat.reduceEqDiff, Nat.reduceAdd, true_implies, reduceCtorEq, false_implies, and_true, true_and, List.nil_append, List.cons_append, Bool.and_self, Nat.zero_add, Nat.add_zero, fieldA, nonNil, cellsAt, loadV_one, loadV_pvs, loadV_cons, mkAgg, allPV, List.drop_zero, List.drop_succ_cons, List.take_succ_cons, List.take_zero, List.length_cons, List.length_nil, Nat.beq_eq, storeB, patchL, beq_self_eq_true, ge_iff_le, gt_iff_lt, Int.reduceNeg, Int.reduceLE, Int.reduceLT, Int.reduceEq, extractV, List.getElem?_cons_zero, List.getElem?_cons_succ, mkAgg, Nat.add_eq_left, Nat.left_eq_add, Nat.one_ne_zero, ble_dec, beq_dec, decide_eq_true_eq, Nat.reduceLeDiff, Nat.le_refl, fillA, pureVs, pureV, beq_int, bne_int, Int.natCast_inj, eq_self, eqV, eqB, decide_true, decide_false, List.length_map, Int.toNat_natCast, List.getElem?_map, Option.map_some, Option.map_none, Int.natCast_nonneg, Option.some.injEq, lenV, binV, intBin, intV, idxA, ne_eq, not_true_eq_false, not_false_eq_true, List.drop, List.take, RetP, retP, resV, resOne, snapV, snapVs, snapR, snapRs, ownSz, pickV, cond_true, cond_false, bTT, bTF, bFT, bFF, Bool.not_true, Bool.not_false, AO.isC, Bool.or_true, Bool.true_or, Bool.or_false, Bool.false_or, WpE_cons, WpE_nil, opE, evE_some, guardE_true, guardE_false, WpD_cons, WpD_nil, opD, evD_some, guardD_true, guardD_false, h3, b1, h9, h10, h11, hlt, hget, loadC, n1, k.call, stateP, c1, c2', hw]
        refine ih (i + 1) hd' hi' ho _ _ _ (by omega) ?_ ?_ ?_ ?_ ?_
        all_goals simp only [look_if, blkAt_if, Nat.reduceEqDiff, if_true, if_false, h3, b1, h9, h10, n1]
/-- An error, or none. -/
def errO : Option (Int × Int) → PV
  | none => .nili
  | some (c, i) => spotE i c
theorem check9_ok (h70 : Std T 70 f70) (h71 : Std T 71 f71) (s : Snap) (t : State) (ht : t.pods.length ≤ 2 ^ 30) (hl : s.loads.length ≤ 2 ^ 30) : Gives T 70 [snapP s, stateP t] (errO (badLoad t.pods 0 s.loads)) := by
  refine gives h70 rfl ?_
  simp only [f70, Wp_seq, Wp_ops, Wp_cond, Wp_skip, Wp_ret, Wp_exit, Wp_block, WpO_cons, WpO_nil, opQ, evOp, evO, evOs, evQ_some, guardV, guardQ_true, guardQ_false, boolQ_true, boolQ_false, argsA, pvs, putS, cellsOf, scals, scal, seqQ_normal, seqQ_ret, seqQ_exit, blkQ_normal, blkQ_ret, blkQ_exit, look_if, blkAt_if, if_true, if_false, Nat.reduceEqDiff, Nat.reduceAdd, true_implies, reduceCtorEq, false_implies, and_true, true_and, List.nil_append, List.cons_append, Bool.and_self, Nat.zero_add, Nat.add_zero, fieldA, nonNil, cellsAt, loadV_one, loadV_pvs, loadV_cons, mkAgg, allPV, List.drop_zero, List.drop_succ_cons, List.take_succ_cons, List.take_zero, List.length_cons, List.length_nil, Nat.beq_eq, storeB, patchL, beq_self_eq_true, ge_iff_le, gt_iff_lt, Int.reduceNeg, Int.reduceLE, Int.reduceLT, Int.reduceEq, extractV, List.getElem?_cons_zero, List.getElem?_cons_succ, mkAgg, Nat.add_eq_left, Nat.left_eq_add, Nat.one_ne_zero, ble_dec, beq_dec, decide_eq_true_eq, Nat.reduceLeDiff, Nat.le_refl, fillA, pureVs, pureV, beq_int, bne_int, Int.natCast_inj, eq_self, eqV, eqB, decide_true, decide_false, List.length_map, Int.toNat_natCast, List.getElem?_map, Option.map_some, Option.map_none, Int.natCast_nonneg, Option.some.injEq, lenV, binV, intBin, intV, idxA, ne_eq, not_true_eq_false, not_false_eq_true, List.drop, List.take, RetP, retP, resV, resOne, snapV, snapVs, snapR, snapRs, ownSz, pickV, cond_true, cond_false, bTT, bTF, bFT, bFF, Bool.not_true, Bool.not_false, AO.isC, Bool.or_true, Bool.true_or, Bool.or_false, Bool.false_or, WpE_cons, WpE_nil, opE, evE_some, guardE_true, guardE_false, WpD_cons, WpD_nil, opD, evD_some, guardD_true, guardD_false, snapP, stateP]
  refine check9_loop s t ht hl h71 _ (badLoad t.pods 0 s.loads) (fun ho fr hp nx => ?_) (fun c i ho fr hp nx id h4 hb => ?_) s.loads 0 rfl (Nat.zero_le _) rfl _ _ _ (Nat.le_refl _) rfl rfl rfl rfl rfl
  · simp only [Wp_seq, Wp_ops, Wp_cond, Wp_skip, Wp_ret, Wp_exit, Wp_block, WpO_cons, WpO_nil, opQ, evOp, evO, evOs, evQ_some, guardV, guardQ_true, guardQ_false, boolQ_true, boolQ_false, argsA, pvs, putS, cellsOf, scals, scal, seqQ_normal, seqQ_ret, seqQ_exit, blkQ_normal, blkQ_ret, blkQ_exit, look_if, blkAt_if, if_true, if_false, Nat.reduceEqDiff, Nat.reduceAdd, true_implies, reduceCtorEq, false_implies, and_true, true_and, List.nil_append, List.cons_append, Bool.and_self, Nat.zero_add, Nat.add_zero, fieldA, nonNil, cellsAt, loadV_one, loadV_pvs, loadV_cons, mkAgg, allPV, List.drop_zero, List.drop_succ_cons, List.take_succ_cons, List.take_zero, List.length_cons, List.length_nil, Nat.beq_eq, storeB, patchL, beq_self_eq_true, ge_iff_le, gt_iff_lt, Int.reduceNeg, Int.reduceLE, Int.reduceLT, Int.reduceEq, extractV, List.getElem?_cons_zero, List.getElem?_cons_succ, mkAgg, Nat.add_eq_left, Nat.left_eq_add, Nat.one_ne_zero, ble_dec, beq_dec, decide_eq_true_eq, Nat.reduceLeDiff, Nat.le_refl, fillA, pureVs, pureV, beq_int, bne_int, Int.natCast_inj, eq_self, eqV, eqB, decide_true, decide_false, List.length_map, Int.toNat_natCast, List.getElem?_map, Option.map_some, Option.map_none, Int.natCast_nonneg, Option.some.injEq, lenV, binV, intBin, intV, idxA, ne_eq, not_true_eq_false, not_false_eq_true, List.drop, List.take, RetP, retP, resV, resOne, snapV, snapVs, snapR, snapRs, ownSz, pickV, cond_true, cond_false, bTT, bTF, bFT, bFF, Bool.not_true, Bool.not_false, AO.isC, Bool.or_true, Bool.true_or, Bool.or_false, Bool.false_or, WpE_cons, WpE_nil, opE, evE_some, guardE_true, guardE_false, WpD_cons, WpD_nil, opD, evD_some, guardD_true, guardD_false, ho, errO]
  · simp only [Wp_seq, Wp_ops, Wp_cond, Wp_skip, Wp_ret, Wp_exit, Wp_block, WpO_cons, WpO_nil, opQ, evOp, evO, evOs, evQ_some, guardV, guardQ_true, guardQ_false, boolQ_true, boolQ_false, argsA, pvs, putS, cellsOf, scals, scal, seqQ_normal, seqQ_ret, seqQ_exit, blkQ_normal, blkQ_ret, blkQ_exit, look_if, blkAt_if, if_true, if_false, Nat.reduceEqDiff, Nat.reduceAdd, true_implies, reduceCtorEq, false_implies, and_true, true_and, List.nil_append, List.cons_append, Bool.and_self, Nat.zero_add, Nat.add_zero, fieldA, nonNil, cellsAt, loadV_one, loadV_pvs, loadV_cons, mkAgg, allPV, List.drop_zero, List.drop_succ_cons, List.take_succ_cons, List.take_zero, List.length_cons, List.length_nil, Nat.beq_eq, storeB, patchL, beq_self_eq_true, ge_iff_le, gt_iff_lt, Int.reduceNeg, Int.reduceLE, Int.reduceLT, Int.reduceEq, extractV, List.getElem?_cons_zero, List.getElem?_cons_succ, mkAgg, Nat.add_eq_left, Nat.left_eq_add, Nat.one_ne_zero, ble_dec, beq_dec, decide_eq_true_eq, Nat.reduceLeDiff, Nat.le_refl, fillA, pureVs, pureV, beq_int, bne_int, Int.natCast_inj, eq_self, eqV, eqB, decide_true, decide_false, List.length_map, Int.toNat_natCast, List.getElem?_map, Option.map_some, Option.map_none, Int.natCast_nonneg, Option.some.injEq, lenV, binV, intBin, intV, idxA, ne_eq, not_true_eq_false, not_false_eq_true, List.drop, List.take, RetP, retP, resV, resOne, snapV, snapVs, snapR, snapRs, ownSz, pickV, cond_true, cond_false, bTT, bTF, bFT, bFF, Bool.not_true, Bool.not_false, AO.isC, Bool.or_true, Bool.true_or, Bool.or_false, Bool.false_or, WpE_cons, WpE_nil, opE, evE_some, guardE_true, guardE_false, WpD_cons, WpD_nil, opD, evD_some, guardD_true, guardD_false, ho, errO, h4, hb, spotE]

/-- The document's answer: a code, and a place. -/
def badO : Option (Int × Int) → PV
  | none => .tuple [.int .i64 0, .int .i64 (-1)]
  | some (c, i) => .tuple [.int .i64 c, .int .i64 i]
theorem check9b_loop (s : Snap) (t : State) (ht : t.pods.length ≤ 2 ^ 30) (hl : s.loads.length ≤ 2 ^ 30) (h176 : Std T 176 f176) (Q : Exit → St → Prop) (o : Option (Int × Int))
    (hend : o = none → ∀ fr hp nx, Q (.exit 0) ⟨fr, hp, nx⟩)
    (hret : ∀ c i, o = some (c, i) → ∀ fr hp nx, look fr 4 = .pv (.int .i64 c) → look fr 5 = .pv (.int .i64 i) → Q .ret ⟨fr, hp, nx⟩) :
    ∀ (rest : List Load) (i : Nat), s.loads.drop i = rest → i ≤ s.loads.length → badLoad t.pods i rest = o → ∀ (fr : List (Nat × AV)) (hp : Hl) (nx : Nat),
      look fr 2 = .ptr 0 0 0 → blkAt hp 0 = .var [.pv (.slice (s.nodes.map nodeC)), .pv (.slice (s.loads.map loadC)), .pv (.slice (s.pods.map podC))] →
      look fr 3 = .ptr 1 0 0 → blkAt hp 1 = .var [.pv (.slice (t.pods.map podC)), .pv (.int .i64 t.pre), .pv (.int .i64 t.shi)] →
      look fr 6 = .pv (.int .i64 i) → Wp T false (.loop f173l0) ⟨fr, hp, nx⟩ Q := by
  intro rest
  induction rest with
  | nil =>
    intro i hd hi ho fr hp nx h2 b0 h3 b1 h6
    have hlen := drop_nil hd hi
    rw [Wp_loop, Wp_eq f173l0.eq_1]
    simp only [Wp_seq, Wp_ops, Wp_cond, Wp_skip, Wp_ret, Wp_exit, Wp_block, WpO_cons, WpO_nil, opQ, evOp, evO, evOs, evQ_some, guardV, guardQ_true, guardQ_false, boolQ_true, boolQ_false, argsA, pvs, putS, cellsOf, scals, scal, seqQ_normal, seqQ_ret, seqQ_exit, blkQ_normal, blkQ_ret, blkQ_exit, look_if, blkAt_if, if_true, if_false, Nat.reduceEqDiff, Nat.reduceAdd, true_implies, reduceCtorEq, false_implies, and_true, true_and, List.nil_append, List.cons_append, Bool.and_self, Nat.zero_add, Nat.add_zero, fieldA, nonNil, cellsAt, loadV_one, loadV_pvs, loadV_cons, mkAgg, allPV, List.drop_zero, List.drop_succ_cons, List.take_succ_cons, List.take_zero, List.length_cons, List.length_nil, Nat.beq_eq, storeB, patchL, beq_self_eq_true, ge_iff_le, gt_iff_lt, Int.reduceNeg, Int.reduceLE, Int.reduceLT, Int.reduceEq, extractV, List.getElem?_cons_zero, List.getElem?_cons_succ, mkAgg, Nat.add_eq_left, Nat.left_eq_add, Nat.one_ne_zero, ble_dec, beq_dec, decide_eq_true_eq, Nat.reduceLeDiff, Nat.le_refl, fillA, pureVs, pureV, beq_int, bne_int, Int.natCast_inj, eq_self, eqV, eqB, decide_true, decide_false, List.length_map, Int.toNat_natCast, List.getElem?_map, Option.map_some, Option.map_none, Int.natCast_nonneg, Option.some.injEq, lenV, binV, intBin, intV, idxA, ne_eq, not_true_eq_false, not_false_eq_true, List.drop, List.take, RetP, retP, resV, resOne, snapV, snapVs, snapR, snapRs, ownSz, pickV, cond_true, cond_false, bTT, bTF, bFT, bFF, Bool.not_true, Bool.not_false, AO.isC, Bool.or_true, Bool.true_or, Bool.or_false, Bool.false_or, WpE_cons, WpE_nil, opE, evE_some, guardE_true, guardE_false, WpD_cons, WpD_nil, opD, evD_some, guardD_true, guardD_false, h2, h3, b0, h6, hlen, Int.lt_irrefl]
    exact hend ho.symm _ _ _
  | cons l r ih =>
    intro i hd hi ho fr hp nx h2 b0 h3 b1 h6
    obtain ⟨hget, hlt, hw, hd', hi', hb⟩ := drop_cons hd hl
    have k := size2_ok h176 t l.id ht
    rw [Wp_loop, Wp_eq f173l0.eq_1]
    simp only [badLoad] at ho
    simp only [Wp_seq, Wp_ops, Wp_cond, Wp_skip, Wp_ret, Wp_exit, Wp_block, WpO_cons, WpO_nil, opQ, evOp, evO, evOs, evQ_some, guardV, guardQ_true, guardQ_false, boolQ_true, boolQ_false, argsA, pvs, putS, cellsOf, scals, scal, seqQ_normal, seqQ_ret, seqQ_exit, blkQ_normal, blkQ_ret, blkQ_exit, look_if, blkAt_if, if_true, if_false, Nat.reduceEqDiff, Nat.reduceAdd, true_implies, reduceCtorEq, false_implies, and_true, true_and, List.nil_append, List.cons_append, Bool.and_self, Nat.zero_add, Nat.add_zero, fieldA, nonNil, cellsAt, loadV_one, loadV_pvs, loadV_cons, mkAgg, allPV, List.drop_zero, List.drop_succ_cons, List.take_succ_cons, List.take_zero, List.length_cons, List.length_nil, Nat.beq_eq, storeB, patchL, beq_self_eq_true, ge_iff_le, gt_iff_lt, Int.reduceNeg, Int.reduceLE, Int.reduceLT, Int.reduceEq, extractV, List.getElem?_cons_zero, List.getElem?_cons_succ, mkAgg, Nat.add_eq_left, Nat.left_eq_add, Nat.one_ne_zero, ble_dec, beq_dec, decide_eq_true_eq, Nat.reduceLeDiff, Nat.le_refl, fillA, pureVs, pureV, beq_int, bne_int, Int.natCast_inj, eq_self, eqV, eqB, decide_true, decide_false, List.length_map, Int.toNat_natCast, List.getElem?_map, Option.map_some, Option.map_none, Int.natCast_nonneg, Option.some.injEq, lenV, binV, intBin, intV, idxA, ne_eq, not_true_eq_false, not_false_eq_true, List.drop, List.take, RetP, retP, resV, resOne, snapV, snapVs, snapR, snapRs, ownSz, pickV, cond_true, cond_false, bTT, bTF, bFT, bFF, Bool.not_true, Bool.not_false, AO.isC, Bool.or_true, Bool.true_or, Bool.or_false, Bool.false_or, WpE_cons, WpE_nil, opE, evE_some, guardE_true, guardE_false, WpD_cons, WpD_nil, opD, evD_some, guardD_true, guardD_false, h2, h3, b0, h6, hlt]
    refine (Wp_calm rfl).2 ?_
    by_cases c1 : (sizeN l.id t.pods : Int) < l.min
    · rw [if_pos c1] at ho
      simp only [Wp_seq, Wp_ops, Wp_cond, Wp_skip, Wp_ret, Wp_exit, Wp_block, WpO_cons, WpO_nil, opQ, evOp, evO, evOs, evQ_some, guardV, guardQ_true, guardQ_false, boolQ_true, boolQ_false, argsA, pvs, putS, cellsOf, scals, scal, seqQ_normal, seqQ_ret, seqQ_exit, blkQ_normal, blkQ_ret, blkQ_exit, look_if, blkAt_if, if_true, if_false, Nat.reduceEqDiff, Nat.reduceAdd, true_implies, reduceCtorEq, false_implies, and_true, true_and, List.nil_append, List.cons_append, Bool.and_self, Nat.zero_add, Nat.add_zero, fieldA, nonNil, cellsAt, loadV_one, loadV_pvs, loadV_cons, mkAgg, allPV, List.drop_zero, List.drop_succ_cons, List.take_succ_cons, List.take_zero, List.length_cons, List.length_nil, Nat.beq_eq, storeB, patchL, beq_self_eq_true, ge_iff_le, gt_iff_lt, Int.reduceNeg, Int.reduceLE, Int.reduceLT, Int.reduceEq, extractV, List.getElem?_cons_zero, List.getElem?_cons_succ, mkAgg, Nat.add_eq_left, Nat.left_eq_add, Nat.one_ne_zero, ble_dec, beq_dec, decide_eq_true_eq, Nat.reduceLeDiff, Nat.le_refl, fillA, pureVs, pureV, beq_int, bne_int, Int.natCast_inj, eq_self, eqV, eqB, decide_true, decide_false, List.length_map, Int.toNat_natCast, List.getElem?_map, Option.map_some, Option.map_none, Int.natCast_nonneg, Option.some.injEq, lenV, binV, intBin, intV, idxA, ne_eq, not_true_eq_false, not_false_eq_true, List.drop, List.take, RetP, retP, resV, resOne, snapV, snapVs, snapR, snapRs, ownSz, pickV, cond_true, cond_false, bTT, bTF, bFT, bFF, Bool.not_true, Bool.not_false, AO.isC, Bool.or_true, Bool.true_or, Bool.or_false, Bool.false_or, WpE_cons, WpE_nil, opE, evE_some, guardE_true, guardE_false, WpD_cons, WpD_nil, opD, evD_some, guardD_true, guardD_false, h2, h3, b0, b1, h6, hget, loadC, k.callD, stateP, c1]
      refine hret 12 i ho.symm _ _ _ ?_ ?_
      all_goals simp only [look_if, Nat.reduceEqDiff, if_true, if_false]
    · rw [if_neg c1] at ho
      by_cases c2 : (sizeN l.id t.pods : Int) > l.max
      · rw [if_pos c2] at ho
        have c2' : l.max < (sizeN l.id t.pods : Int) := c2
        simp only [Wp_seq, Wp_ops, Wp_cond, Wp_skip, Wp_ret, Wp_exit, Wp_block, WpO_cons, WpO_nil, opQ, evOp, evO, evOs, evQ_some, guardV, guardQ_true, guardQ_false, boolQ_true, boolQ_false, argsA, pvs, putS, cellsOf, scals, scal, seqQ_normal, seqQ_ret, seqQ_exit, blkQ_normal, blkQ_ret, blkQ_exit, look_if, blkAt_if, if_true, if_false, Nat.reduceEqDiff, Nat.reduceAdd, true_implies, reduceCtorEq, false_implies, and_true, true_and, List.nil_append, List.cons_append, Bool.and_self, Nat.zero_add, Nat.add_zero, fieldA, nonNil, cellsAt, loadV_one, loadV_pvs, loadV_cons, mkAgg, allPV, List.drop_zero, List.drop_succ_cons, List.take_succ_cons, List.take_zero, List.length_cons, List.length_nil, Nat.beq_eq, storeB, patchL, beq_self_eq_true, ge_iff_le, gt_iff_lt, Int.reduceNeg, Int.reduceLE, Int.reduceLT, Int.reduceEq, extractV, List.getElem?_cons_zero, List.getElem?_cons_succ, mkAgg, Nat.add_eq_left, Nat.left_eq_add, Nat.one_ne_zero, ble_dec, beq_dec, decide_eq_true_eq, Nat.reduceLeDiff, Nat.le_refl, fillA, pureVs, pureV, beq_int, bne_int, Int.natCast_inj, eq_self, eqV, eqB, decide_true, decide_false, List.length_map, Int.toNat_natCast, List.getElem?_map, Option.map_some, Option.map_none, Int.natCast_nonneg, Option.some.injEq, lenV, binV, intBin, intV, idxA, ne_eq, not_true_eq_false, not_false_eq_true, List.drop, List.take, RetP, retP, resV, resOne, snapV, snapVs, snapR, snapRs, ownSz, pickV, cond_true, cond_false, bTT, bTF, bFT, bFF, Bool.not_true, Bool.not_false, AO.isC, Bool.or_true, Bool.true_or, Bool.or_false, Bool.false_or, WpE_cons, WpE_nil, opE, evE_some, guardE_true, guardE_false, WpD_cons, WpD_nil, opD, evD_some, guardD_true, guardD_false, h2, h3, b0, b1, h6, hget, loadC, k.callD, stateP, c1, c2']
        refine hret 13 i ho.symm _ _ _ ?_ ?_
        all_goals simp only [look_if, Nat.reduceEqDiff, if_true, if_false]
      · rw [if_neg c2] at ho
        have c2' : ¬ l.max < (sizeN l.id t.pods : Int) := c2
        simp only [Wp_seq, Wp_ops, Wp_cond, Wp_skip, Wp_ret, Wp_exit, Wp_block, WpO_cons, WpO_nil, opQ, evOp, evO, evOs, evQ_some, guardV, guardQ_true, guardQ_false, boolQ_true, boolQ_false, argsA, pvs, putS, cellsOf, scals, scal, seqQ_normal, seqQ_ret, seqQ_exit, blkQ_normal, blkQ_ret, blkQ_exit, look_if, blkAt_if, if_true, if_false, Nat.reduceEqDiff, Nat.reduceAdd, true_implies, reduceCtorEq, false_implies, and_true, true_and, List.nil_append, List.cons_append, Bool.and_self, Nat.zero_add, Nat.add_zero, fieldA, nonNil, cellsAt, loadV_one, loadV_pvs, loadV_cons, mkAgg, allPV, List.drop_zero, List.drop_succ_cons, List.take_succ_cons, List.take_zero, List.length_cons, List.length_nil, Nat.beq_eq, storeB, patchL, beq_self_eq_true, ge_iff_le, gt_iff_lt, Int.reduceNeg, Int.reduceLE, Int.reduceLT, Int.reduceEq, extractV, List.getElem?_cons_zero, List.getElem?_cons_succ, mkAgg, Nat.add_eq_left, Nat.left_eq_add, Nat.one_ne_zero, ble_dec, beq_dec, decide_eq_true_eq, Nat.reduceLeDiff, Nat.le_refl, fillA, pureVs, pureV, beq_int, bne_int, Int.natCast_inj, eq_self, eqV, eqB, decide_true, decide_false, List.length_map, Int.toNat_natCast, List.getElem?_map, Option.map_some, Option.map_none, Int.natCast_nonneg, Option.some.injEq, lenV, binV, intBin, intV, idxA, ne_eq, not_true_eq_false, not_false_eq_true, List.drop, List.take, RetP, retP, resV, resOne, snapV, snapVs, snapR, snapRs, ownSz, pickV, cond_true, cond_false, bTT, bTF, bFT, bFF, Bool.not_true, Bool.not_false, AO.isC, Bool.or_true, Bool.true_or, Bool.or_false, Bool.false_or, WpE_cons, WpE_nil, opE, evE_some, guardE_true, guardE_false, WpD_cons, WpD_nil, opD, evD_some, guardD_true, guardD_false, h2, h3, b0, b1, h6, hget, loadC, k.callD, stateP, c1, c2', hw]
        refine ih (i + 1) hd' hi' ho _ _ _ ?_ b0 ?_ b1 ?_
        all_goals simp only [look_if, Nat.reduceEqDiff, if_true, if_false, h2, h3]
theorem check9b_ok (h173 : Std T 173 f173) (h176 : Std T 176 f176) (s : Snap) (t : State) (ht : t.pods.length ≤ 2 ^ 30) (hl : s.loads.length ≤ 2 ^ 30) : Gives T 173 [snapP s, stateP t] (badO (badLoad t.pods 0 s.loads)) := by
  refine gives h173 rfl ?_
  simp only [f173, Wp_seq, Wp_ops, Wp_cond, Wp_skip, Wp_ret, Wp_exit, Wp_block, WpO_cons, WpO_nil, opQ, evOp, evO, evOs, evQ_some, guardV, guardQ_true, guardQ_false, boolQ_true, boolQ_false, argsA, pvs, putS, cellsOf, scals, scal, seqQ_normal, seqQ_ret, seqQ_exit, blkQ_normal, blkQ_ret, blkQ_exit, look_if, blkAt_if, if_true, if_false, Nat.reduceEqDiff, Nat.reduceAdd, true_implies, reduceCtorEq, false_implies, and_true, true_and, List.nil_append, List.cons_append, Bool.and_self, Nat.zero_add, Nat.add_zero, fieldA, nonNil, cellsAt, loadV_one, loadV_pvs, loadV_cons, mkAgg, allPV, List.drop_zero, List.drop_succ_cons, List.take_succ_cons, List.take_zero, List.length_cons, List.length_nil, Nat.beq_eq, storeB, patchL, beq_self_eq_true, ge_iff_le, gt_iff_lt, Int.reduceNeg, Int.reduceLE, Int.reduceLT, Int.reduceEq, extractV, List.getElem?_cons_zero, List.getElem?_cons_succ, mkAgg, Nat.add_eq_left, Nat.left_eq_add, Nat.one_ne_zero, ble_dec, beq_dec, decide_eq_true_eq, Nat.reduceLeDiff, Nat.le_refl, fillA, pureVs, pureV, beq_int, bne_int, Int.natCast_inj, eq_self, eqV, eqB, decide_true, decide_false, List.length_map, Int.toNat_natCast, List.getElem?_map, Option.map_some, Option.map_none, Int.natCast_nonneg, Option.some.injEq, lenV, binV, intBin, intV, idxA, ne_eq, not_true_eq_false, not_false_eq_true, List.drop, List.take, RetP, retP, resV, resOne, snapV, snapVs, snapR, snapRs, ownSz, pickV, cond_true, cond_false, bTT, bTF, bFT, bFF, Bool.not_true, Bool.not_false, AO.isC, Bool.or_true, Bool.true_or, Bool.or_false, Bool.false_or, WpE_cons, WpE_nil, opE, evE_some, guardE_true, guardE_false, WpD_cons, WpD_nil, opD, evD_some, guardD_true, guardD_false, snapP, stateP]
  refine check9b_loop s t ht hl h176 _ (badLoad t.pods 0 s.loads) (fun ho fr hp nx => ?_) (fun c i ho fr hp nx h4 h5 => ?_) s.loads 0 rfl (Nat.zero_le _) rfl _ _ _ rfl rfl rfl rfl rfl
  · simp only [Wp_seq, Wp_ops, Wp_cond, Wp_skip, Wp_ret, Wp_exit, Wp_block, WpO_cons, WpO_nil, opQ, evOp, evO, evOs, evQ_some, guardV, guardQ_true, guardQ_false, boolQ_true, boolQ_false, argsA, pvs, putS, cellsOf, scals, scal, seqQ_normal, seqQ_ret, seqQ_exit, blkQ_normal, blkQ_ret, blkQ_exit, look_if, blkAt_if, if_true, if_false, Nat.reduceEqDiff, Nat.reduceAdd, true_implies, reduceCtorEq, false_implies, and_true, true_and, List.nil_append, List.cons_append, Bool.and_self, Nat.zero_add, Nat.add_zero, fieldA, nonNil, cellsAt, loadV_one, loadV_pvs, loadV_cons, mkAgg, allPV, List.drop_zero, List.drop_succ_cons, List.take_succ_cons, List.take_zero, List.length_cons, List.length_nil, Nat.beq_eq, storeB, patchL, beq_self_eq_true, ge_iff_le, gt_iff_lt, Int.reduceNeg, Int.reduceLE, Int.reduceLT, Int.reduceEq, extractV, List.getElem?_cons_zero, List.getElem?_cons_succ, mkAgg, Nat.add_eq_left, Nat.left_eq_add, Nat.one_ne_zero, ble_dec, beq_dec, decide_eq_true_eq, Nat.reduceLeDiff, Nat.le_refl, fillA, pureVs, pureV, beq_int, bne_int, Int.natCast_inj, eq_self, eqV, eqB, decide_true, decide_false, List.length_map, Int.toNat_natCast, List.getElem?_map, Option.map_some, Option.map_none, Int.natCast_nonneg, Option.some.injEq, lenV, binV, intBin, intV, idxA, ne_eq, not_true_eq_false, not_false_eq_true, List.drop, List.take, RetP, retP, resV, resOne, snapV, snapVs, snapR, snapRs, ownSz, pickV, cond_true, cond_false, bTT, bTF, bFT, bFF, Bool.not_true, Bool.not_false, AO.isC, Bool.or_true, Bool.true_or, Bool.or_false, Bool.false_or, WpE_cons, WpE_nil, opE, evE_some, guardE_true, guardE_false, WpD_cons, WpD_nil, opD, evD_some, guardD_true, guardD_false, ho, badO]
  · simp only [Wp_seq, Wp_ops, Wp_cond, Wp_skip, Wp_ret, Wp_exit, Wp_block, WpO_cons, WpO_nil, opQ, evOp, evO, evOs, evQ_some, guardV, guardQ_true, guardQ_false, boolQ_true, boolQ_false, argsA, pvs, putS, cellsOf, scals, scal, seqQ_normal, seqQ_ret, seqQ_exit, blkQ_normal, blkQ_ret, blkQ_exit, look_if, blkAt_if, if_true, if_false, Nat.reduceEqDiff, Nat.reduceAdd, true_implies, reduceCtorEq, false_implies, and_true, true_and, List.nil_append, List.cons_append, Bool.and_self, Nat.zero_add, Nat.add_zero, fieldA, nonNil, cellsAt, loadV_one, loadV_pvs, loadV_cons, mkAgg, allPV, List.drop_zero, List.drop_succ_cons, List.take_succ_cons, List.take_zero, List.length_cons, List.length_nil, Nat.beq_eq, storeB, patchL, beq_self_eq_true, ge_iff_le, gt_iff_lt, Int.reduceNeg, Int.reduceLE, Int.reduceLT, Int.reduceEq, extractV, List.getElem?_cons_zero, List.getElem?_cons_succ, mkAgg, Nat.add_eq_left, Nat.left_eq_add, Nat.one_ne_zero, ble_dec, beq_dec, decide_eq_true_eq, Nat.reduceLeDiff, Nat.le_refl, fillA, pureVs, pureV, beq_int, bne_int, Int.natCast_inj, eq_self, eqV, eqB, decide_true, decide_false, List.length_map, Int.toNat_natCast, List.getElem?_map, Option.map_some, Option.map_none, Int.natCast_nonneg, Option.some.injEq, lenV, binV, intBin, intV, idxA, ne_eq, not_true_eq_false, not_false_eq_true, List.drop, List.take, RetP, retP, resV, resOne, snapV, snapVs, snapR, snapRs, ownSz, pickV, cond_true, cond_false, bTT, bTF, bFT, bFF, Bool.not_true, Bool.not_false, AO.isC, Bool.or_true, Bool.true_or, Bool.or_false, Bool.false_or, WpE_cons, WpE_nil, opE, evE_some, guardE_true, guardE_false, WpD_cons, WpD_nil, opD, evD_some, guardD_true, guardD_false, ho, badO, h4, h5]

def usedB (x : Spec) (t : State) : Bool := decide (t.pre > x.pre) || decide (t.shi > x.shi)
theorem used9_ok (h72 : Std T 72 f72) (x : Spec) (t : State) : Gives T 72 [specP x, stateP t] (cond (usedB x t) (codeE 15) .nili) := by
  refine gives h72 rfl ?_
  unfold usedB
  by_cases c1 : x.pre < t.pre <;> by_cases c2 : x.shi < t.shi <;>
    simp only [f72, Wp_seq, Wp_ops, Wp_cond, Wp_skip, Wp_ret, Wp_exit, Wp_block, WpO_cons, WpO_nil, opQ, evOp, evO, evOs, evQ_some, guardV, guardQ_true, guardQ_false, boolQ_true, boolQ_false, argsA, pvs, putS, cellsOf, scals, scal, seqQ_normal, seqQ_ret, seqQ_exit, blkQ_normal, blkQ_ret, blkQ_exit, look_if, blkAt_if, if_true, if_false, Nat.reduceEqDiff, Nat.reduceAdd, true_implies, reduceCtorEq, false_implies, and_true, true_and, List.nil_append, List.cons_append, Bool.and_self, Nat.zero_add, Nat.add_zero, fieldA, nonNil, cellsAt, loadV_one, loadV_pvs, loadV_cons, mkAgg, allPV, List.drop_zero, List.drop_succ_cons, List.take_succ_cons, List.take_zero, List.length_cons, List.length_nil, Nat.beq_eq, storeB, patchL, beq_self_eq_true, ge_iff_le, gt_iff_lt, Int.reduceNeg, Int.reduceLE, Int.reduceLT, Int.reduceEq, extractV, List.getElem?_cons_zero, List.getElem?_cons_succ, mkAgg, Nat.add_eq_left, Nat.left_eq_add, Nat.one_ne_zero, ble_dec, beq_dec, decide_eq_true_eq, Nat.reduceLeDiff, Nat.le_refl, fillA, pureVs, pureV, beq_int, bne_int, Int.natCast_inj, eq_self, eqV, eqB, decide_true, decide_false, List.length_map, Int.toNat_natCast, List.getElem?_map, Option.map_some, Option.map_none, Int.natCast_nonneg, Option.some.injEq, lenV, binV, intBin, intV, idxA, ne_eq, not_true_eq_false, not_false_eq_true, List.drop, List.take, RetP, retP, resV, resOne, snapV, snapVs, snapR, snapRs, ownSz, pickV, cond_true, cond_false, bTT, bTF, bFT, bFF, Bool.not_true, Bool.not_false, AO.isC, Bool.or_true, Bool.true_or, Bool.or_false, Bool.false_or, WpE_cons, WpE_nil, opE, evE_some, guardE_true, guardE_false, WpD_cons, WpD_nil, opD, evD_some, guardD_true, guardD_false, specP, stateP, c1, c2, codeE, Bool.true_or, Bool.or_true, Bool.or_false, Bool.false_or]
theorem used9b_ok (h179 : Std T 179 f179) (x : Spec) (t : State) : Gives T 179 [specP x, stateP t] (.bool (usedB x t)) := by
  refine gives h179 rfl ?_
  unfold usedB
  by_cases c1 : x.pre < t.pre <;> by_cases c2 : x.shi < t.shi <;>
    simp only [f179, Wp_seq, Wp_ops, Wp_cond, Wp_skip, Wp_ret, Wp_exit, Wp_block, WpO_cons, WpO_nil, opQ, evOp, evO, evOs, evQ_some, guardV, guardQ_true, guardQ_false, boolQ_true, boolQ_false, argsA, pvs, putS, cellsOf, scals, scal, seqQ_normal, seqQ_ret, seqQ_exit, blkQ_normal, blkQ_ret, blkQ_exit, look_if, blkAt_if, if_true, if_false, Nat.reduceEqDiff, Nat.reduceAdd, true_implies, reduceCtorEq, false_implies, and_true, true_and, List.nil_append, List.cons_append, Bool.and_self, Nat.zero_add, Nat.add_zero, fieldA, nonNil, cellsAt, loadV_one, loadV_pvs, loadV_cons, mkAgg, allPV, List.drop_zero, List.drop_succ_cons, List.take_succ_cons, List.take_zero, List.length_cons, List.length_nil, Nat.beq_eq, storeB, patchL, beq_self_eq_true, ge_iff_le, gt_iff_lt, Int.reduceNeg, Int.reduceLE, Int.reduceLT, Int.reduceEq, extractV, List.getElem?_cons_zero, List.getElem?_cons_succ, mkAgg, Nat.add_eq_left, Nat.left_eq_add, Nat.one_ne_zero, ble_dec, beq_dec, decide_eq_true_eq, Nat.reduceLeDiff, Nat.le_refl, fillA, pureVs, pureV, beq_int, bne_int, Int.natCast_inj, eq_self, eqV, eqB, decide_true, decide_false, List.length_map, Int.toNat_natCast, List.getElem?_map, Option.map_some, Option.map_none, Int.natCast_nonneg, Option.some.injEq, lenV, binV, intBin, intV, idxA, ne_eq, not_true_eq_false, not_false_eq_true, List.drop, List.take, RetP, retP, resV, resOne, snapV, snapVs, snapR, snapRs, ownSz, pickV, cond_true, cond_false, bTT, bTF, bFT, bFF, Bool.not_true, Bool.not_false, AO.isC, Bool.or_true, Bool.true_or, Bool.or_false, Bool.false_or, WpE_cons, WpE_nil, opE, evE_some, guardE_true, guardE_false, WpD_cons, WpD_nil, opD, evD_some, guardD_true, guardD_false, specP, stateP, c1, c2, Bool.true_or, Bool.or_true, Bool.or_false, Bool.false_or]

/-! ### The laws' own helpers -/
theorem code_nil (h102 : Std T 102 f102) : Gives T 102 [.nili] (.int .i64 0) := by
  refine gives h102 rfl ?_
  simp only [f102, Wp_seq, Wp_ops, Wp_cond, Wp_skip, Wp_ret, Wp_exit, Wp_block, WpO_cons, WpO_nil, opQ, evOp, evO, evOs, evQ_some, guardV, guardQ_true, guardQ_false, boolQ_true, boolQ_false, argsA, pvs, putS, cellsOf, scals, scal, seqQ_normal, seqQ_ret, seqQ_exit, blkQ_normal, blkQ_ret, blkQ_exit, look_if, blkAt_if, if_true, if_false, Nat.reduceEqDiff, Nat.reduceAdd, true_implies, reduceCtorEq, false_implies, and_true, true_and, List.nil_append, List.cons_append, Bool.and_self, Nat.zero_add, Nat.add_zero, fieldA, nonNil, cellsAt, loadV_one, loadV_pvs, loadV_cons, mkAgg, allPV, List.drop_zero, List.drop_succ_cons, List.take_succ_cons, List.take_zero, List.length_cons, List.length_nil, Nat.beq_eq, storeB, patchL, beq_self_eq_true, ge_iff_le, gt_iff_lt, Int.reduceNeg, Int.reduceLE, Int.reduceLT, Int.reduceEq, extractV, List.getElem?_cons_zero, List.getElem?_cons_succ, mkAgg, Nat.add_eq_left, Nat.left_eq_add, Nat.one_ne_zero, ble_dec, beq_dec, decide_eq_true_eq, Nat.reduceLeDiff, Nat.le_refl, fillA, pureVs, pureV, beq_int, bne_int, Int.natCast_inj, eq_self, eqV, eqB, decide_true, decide_false, List.length_map, Int.toNat_natCast, List.getElem?_map, Option.map_some, Option.map_none, Int.natCast_nonneg, Option.some.injEq, lenV, binV, intBin, intV, idxA, ne_eq, not_true_eq_false, not_false_eq_true, List.drop, List.take, RetP, retP, resV, resOne, snapV, snapVs, snapR, snapRs, ownSz, pickV, cond_true, cond_false, bTT, bTF, bFT, bFF, Bool.not_true, Bool.not_false, AO.isC, Bool.or_true, Bool.true_or, Bool.or_false, Bool.false_or, WpE_cons, WpE_nil, opE, evE_some, guardE_true, guardE_false, WpD_cons, WpD_nil, opD, evD_some, guardD_true, guardD_false, AO.isC, Bool.or_true]
def bad1 : Option (Int × Int) → Int
  | none => 0
  | some (c, _) => c
def bad2 : Option (Int × Int) → Int
  | none => -1
  | some (_, i) => i
/-- Told, of what is told with a place. -/
theorem told_ok (h105 : Std T 105 f105) (h102 : Std T 102 f102) (h103 : StdP T 103 isP) (o : Option (Int × Int)) (h : ∀ c i, o = some (c, i) → 0 ≤ i) :
    Gives T 105 [errO o, .int .i64 (bad1 o), .int .i64 (bad2 o)] (.bool true) := by
  refine gives h105 rfl ?_
  cases o with
  | none => simp only [f105, Wp_seq, Wp_ops, Wp_cond, Wp_skip, Wp_ret, Wp_exit, Wp_block, WpO_cons, WpO_nil, opQ, evOp, evO, evOs, evQ_some, guardV, guardQ_true, guardQ_false, boolQ_true, boolQ_false, argsA, pvs, putS, cellsOf, scals, scal, seqQ_normal, seqQ_ret, seqQ_exit, blkQ_normal, blkQ_ret, blkQ_exit, look_if, blkAt_if, if_true, if_false, Nat.reduceEqDiff, Nat.reduceAdd, true_implies, reduceCtorEq, false_implies, and_true, true_and, List.nil_append, List.cons_append, Bool.and_self, Nat.zero_add, Nat.add_zero, fieldA, nonNil, cellsAt, loadV_one, loadV_pvs, loadV_cons, mkAgg, allPV, List.drop_zero, List.drop_succ_cons, List.take_succ_cons, List.take_zero, List.length_cons, List.length_nil, Nat.beq_eq, storeB, patchL, beq_self_eq_true, ge_iff_le, gt_iff_lt, Int.reduceNeg, Int.reduceLE, Int.reduceLT, Int.reduceEq, extractV, List.getElem?_cons_zero, List.getElem?_cons_succ, mkAgg, Nat.add_eq_left, Nat.left_eq_add, Nat.one_ne_zero, ble_dec, beq_dec, decide_eq_true_eq, Nat.reduceLeDiff, Nat.le_refl, fillA, pureVs, pureV, beq_int, bne_int, Int.natCast_inj, eq_self, eqV, eqB, decide_true, decide_false, List.length_map, Int.toNat_natCast, List.getElem?_map, Option.map_some, Option.map_none, Int.natCast_nonneg, Option.some.injEq, lenV, binV, intBin, intV, idxA, ne_eq, not_true_eq_false, not_false_eq_true, List.drop, List.take, RetP, retP, resV, resOne, snapV, snapVs, snapR, snapRs, ownSz, pickV, cond_true, cond_false, bTT, bTF, bFT, bFF, Bool.not_true, Bool.not_false, AO.isC, Bool.or_true, Bool.true_or, Bool.or_false, Bool.false_or, WpE_cons, WpE_nil, opE, evE_some, guardE_true, guardE_false, WpD_cons, WpD_nil, opD, evD_some, guardD_true, guardD_false, errO, bad1, bad2, (code_nil h102).call]
  | some q =>
    obtain ⟨c, i⟩ := q
    have hi : ¬ i < 0 := by have := h c i rfl; omega
    have k := is_ok h103 (e := spotE i c) (x := i) (y := c) (b := true) (by simp [isV, spotE])
    simp only [f105, Wp_seq, Wp_ops, Wp_cond, Wp_skip, Wp_ret, Wp_exit, Wp_block, WpO_cons, WpO_nil, opQ, evOp, evO, evOs, evQ_some, guardV, guardQ_true, guardQ_false, boolQ_true, boolQ_false, argsA, pvs, putS, cellsOf, scals, scal, seqQ_normal, seqQ_ret, seqQ_exit, blkQ_normal, blkQ_ret, blkQ_exit, look_if, blkAt_if, if_true, if_false, Nat.reduceEqDiff, Nat.reduceAdd, true_implies, reduceCtorEq, false_implies, and_true, true_and, List.nil_append, List.cons_append, Bool.and_self, Nat.zero_add, Nat.add_zero, fieldA, nonNil, cellsAt, loadV_one, loadV_pvs, loadV_cons, mkAgg, allPV, List.drop_zero, List.drop_succ_cons, List.take_succ_cons, List.take_zero, List.length_cons, List.length_nil, Nat.beq_eq, storeB, patchL, beq_self_eq_true, ge_iff_le, gt_iff_lt, Int.reduceNeg, Int.reduceLE, Int.reduceLT, Int.reduceEq, extractV, List.getElem?_cons_zero, List.getElem?_cons_succ, mkAgg, Nat.add_eq_left, Nat.left_eq_add, Nat.one_ne_zero, ble_dec, beq_dec, decide_eq_true_eq, Nat.reduceLeDiff, Nat.le_refl, fillA, pureVs, pureV, beq_int, bne_int, Int.natCast_inj, eq_self, eqV, eqB, decide_true, decide_false, List.length_map, Int.toNat_natCast, List.getElem?_map, Option.map_some, Option.map_none, Int.natCast_nonneg, Option.some.injEq, lenV, binV, intBin, intV, idxA, ne_eq, not_true_eq_false, not_false_eq_true, List.drop, List.take, RetP, retP, resV, resOne, snapV, snapVs, snapR, snapRs, ownSz, pickV, cond_true, cond_false, bTT, bTF, bFT, bFF, Bool.not_true, Bool.not_false, AO.isC, Bool.or_true, Bool.true_or, Bool.or_false, Bool.false_or, WpE_cons, WpE_nil, opE, evE_some, guardE_true, guardE_false, WpD_cons, WpD_nil, opD, evD_some, guardD_true, guardD_false, errO, bad1, bad2, spotE, hi]
    simp only [spotE] at k
    simp only [Wp_seq, Wp_ops, Wp_cond, Wp_skip, Wp_ret, Wp_exit, Wp_block, WpO_cons, WpO_nil, opQ, evOp, evO, evOs, evQ_some, guardV, guardQ_true, guardQ_false, boolQ_true, boolQ_false, argsA, pvs, putS, cellsOf, scals, scal, seqQ_normal, seqQ_ret, seqQ_exit, blkQ_normal, blkQ_ret, blkQ_exit, look_if, blkAt_if, if_true, if_false, Nat.reduceEqDiff, Nat.reduceAdd, true_implies, reduceCtorEq, false_implies, and_true, true_and, List.nil_append, List.cons_append, Bool.and_self, Nat.zero_add, Nat.add_zero, fieldA, nonNil, cellsAt, loadV_one, loadV_pvs, loadV_cons, mkAgg, allPV, List.drop_zero, List.drop_succ_cons, List.take_succ_cons, List.take_zero, List.length_cons, List.length_nil, Nat.beq_eq, storeB, patchL, beq_self_eq_true, ge_iff_le, gt_iff_lt, Int.reduceNeg, Int.reduceLE, Int.reduceLT, Int.reduceEq, extractV, List.getElem?_cons_zero, List.getElem?_cons_succ, mkAgg, Nat.add_eq_left, Nat.left_eq_add, Nat.one_ne_zero, ble_dec, beq_dec, decide_eq_true_eq, Nat.reduceLeDiff, Nat.le_refl, fillA, pureVs, pureV, beq_int, bne_int, Int.natCast_inj, eq_self, eqV, eqB, decide_true, decide_false, List.length_map, Int.toNat_natCast, List.getElem?_map, Option.map_some, Option.map_none, Int.natCast_nonneg, Option.some.injEq, lenV, binV, intBin, intV, idxA, ne_eq, not_true_eq_false, not_false_eq_true, List.drop, List.take, RetP, retP, resV, resOne, snapV, snapVs, snapR, snapRs, ownSz, pickV, cond_true, cond_false, bTT, bTF, bFT, bFF, Bool.not_true, Bool.not_false, AO.isC, Bool.or_true, Bool.true_or, Bool.or_false, Bool.false_or, WpE_cons, WpE_nil, opE, evE_some, guardE_true, guardE_false, WpD_cons, WpD_nil, opD, evD_some, guardD_true, guardD_false, k.call]
end
end Go.Proofs.YtmeigdjfcecidaaDoor.Ab
/- Law 9: BudgetTells. -/
set_option linter.unusedVariables false
set_option linter.unusedSimpArgs false
namespace Go.Proofs.YtmeigdjfcecidaaDoor.Ab
open Go

def l09 : List (Nat × AFunc) := [(70, f70), (71, f71), (72, f72), (102, f102), (105, f105), (153, f153), (163, f163), (173, f173), (176, f176), (179, f179), (316, f316), (317, f317)]
def p09 : List (Nat × Prm) := [(103, isP)]
def T09 : Tab := tabOf l09 [] [] [] [317] p09

theorem up09 : Gives T09 317 [] (.bool true) := ⟨rfl, rfl, none, callP_true (k := 60) (by decide +kernel)⟩

theorem badLoad_pos (pods : List Pod) : ∀ (l : List Load) (i : Nat) c k, badLoad pods i l = some (c, k) → 0 ≤ k
  | [], i, c, k, h => by simp [badLoad] at h
  | a :: r, i, c, k, h => by
    simp only [badLoad] at h
    split at h
    · simp only [Option.some.injEq, Prod.mk.injEq] at h; omega
    · split at h
      · simp only [Option.some.injEq, Prod.mk.injEq] at h; omega
      · exact badLoad_pos pods r (i + 1) c k h

theorem law09a (s : Snap) (x : Spec) (t : State) (load : Int) (_ : s.wf) (_ : x.wf) (_ : t.wf) (_ : inI load) : Gives T09 316 [snapP s, specP x, stateP t, .int .i64 load] (.bool true) := by
  refine gives (f := f316) ⟨rfl, rfl, rfl, rfl, rfl⟩ rfl ?_
  have kf := few5_ok (T := T09) ⟨rfl, rfl, rfl, rfl, rfl⟩ ⟨rfl, rfl, rfl, rfl, rfl⟩ s x t
  cases hf : few5 s x t
  · simp only [f316, Wp_seq, Wp_ops, Wp_cond, Wp_skip, Wp_ret, Wp_exit, Wp_block, WpO_cons, WpO_nil, opQ, evOp, evO, evOs, evQ_some, guardV, guardQ_true, guardQ_false, boolQ_true, boolQ_false, argsA, pvs, putS, cellsOf, scals, scal, seqQ_normal, seqQ_ret, seqQ_exit, blkQ_normal, blkQ_ret, blkQ_exit, look_if, blkAt_if, if_true, if_false, Nat.reduceEqDiff, Nat.reduceAdd, true_implies, reduceCtorEq, false_implies, and_true, true_and, List.nil_append, List.cons_append, Bool.and_self, Nat.zero_add, Nat.add_zero, fieldA, nonNil, cellsAt, loadV_one, loadV_pvs, loadV_cons, mkAgg, allPV, List.drop_zero, List.drop_succ_cons, List.take_succ_cons, List.take_zero, List.length_cons, List.length_nil, Nat.beq_eq, storeB, patchL, beq_self_eq_true, ge_iff_le, gt_iff_lt, Int.reduceNeg, Int.reduceLE, Int.reduceLT, Int.reduceEq, extractV, List.getElem?_cons_zero, List.getElem?_cons_succ, mkAgg, Nat.add_eq_left, Nat.left_eq_add, Nat.one_ne_zero, ble_dec, beq_dec, decide_eq_true_eq, Nat.reduceLeDiff, Nat.le_refl, fillA, pureVs, pureV, beq_int, bne_int, Int.natCast_inj, eq_self, eqV, eqB, decide_true, decide_false, List.length_map, Int.toNat_natCast, List.getElem?_map, Option.map_some, Option.map_none, Int.natCast_nonneg, Option.some.injEq, lenV, binV, intBin, intV, idxA, ne_eq, not_true_eq_false, not_false_eq_true, List.drop, List.take, RetP, retP, resV, resOne, snapV, snapVs, snapR, snapRs, ownSz, pickV, cond_true, cond_false, bTT, bTF, bFT, bFF, Bool.not_true, Bool.not_false, AO.isC, Bool.or_true, Bool.true_or, Bool.or_false, Bool.false_or, WpE_cons, WpE_nil, opE, evE_some, guardE_true, guardE_false, WpD_cons, WpD_nil, opD, evD_some, guardD_true, guardD_false, up09.call, snapP, specP, stateP, kf.call, hf]
  · have hf' := hf
    simp only [few5, few3, Bool.and_eq_true, decide_eq_true_eq] at hf'
    obtain ⟨⟨l1, l2, l3⟩, l4, l5⟩ := hf'
    have b2 : s.loads.length ≤ 2 ^ 30 := by omega
    have b5 : t.pods.length ≤ 2 ^ 30 := by omega
    have k1 := check9_ok (T := T09) ⟨rfl, rfl, rfl, rfl, rfl⟩ ⟨rfl, rfl, rfl, rfl, rfl⟩ s t b5 b2
    have k2 := check9b_ok (T := T09) ⟨rfl, rfl, rfl, rfl, rfl⟩ ⟨rfl, rfl, rfl, rfl, rfl⟩ s t b5 b2
    have k3 := used9_ok (T := T09) ⟨rfl, rfl, rfl, rfl, rfl⟩ x t
    have k4 := used9b_ok (T := T09) ⟨rfl, rfl, rfl, rfl, rfl⟩ x t
    have k5 := size_ok (T := T09) ⟨rfl, rfl, rfl, rfl, rfl⟩ t load b5
    have k6 := size2_ok (T := T09) ⟨rfl, rfl, rfl, rfl, rfl⟩ t load b5
    have k7 := told_ok (T := T09) ⟨rfl, rfl, rfl, rfl, rfl⟩ ⟨rfl, rfl, rfl, rfl, rfl⟩ ⟨rfl, rfl, rfl⟩ (badLoad t.pods 0 s.loads) (fun c i h => badLoad_pos _ _ _ _ _ h)
    cases hu : usedB x t <;> cases ho : badLoad t.pods 0 s.loads <;>
    · rw [hu] at k3 k4
      rw [ho] at k1 k2 k7
      simp only [f316, Wp_seq, Wp_ops, Wp_cond, Wp_skip, Wp_ret, Wp_exit, Wp_block, WpO_cons, WpO_nil, opQ, evOp, evO, evOs, evQ_some, guardV, guardQ_true, guardQ_false, boolQ_true, boolQ_false, argsA, pvs, putS, cellsOf, scals, scal, seqQ_normal, seqQ_ret, seqQ_exit, blkQ_normal, blkQ_ret, blkQ_exit, look_if, blkAt_if, if_true, if_false, Nat.reduceEqDiff, Nat.reduceAdd, true_implies, reduceCtorEq, false_implies, and_true, true_and, List.nil_append, List.cons_append, Bool.and_self, Nat.zero_add, Nat.add_zero, fieldA, nonNil, cellsAt, loadV_one, loadV_pvs, loadV_cons, mkAgg, allPV, List.drop_zero, List.drop_succ_cons, List.take_succ_cons, List.take_zero, List.length_cons, List.length_nil, Nat.beq_eq, storeB, patchL, beq_self_eq_true, ge_iff_le, gt_iff_lt, Int.reduceNeg, Int.reduceLE, Int.reduceLT, Int.reduceEq, extractV, List.getElem?_cons_zero, List.getElem?_cons_succ, mkAgg, Nat.add_eq_left, Nat.left_eq_add, Nat.one_ne_zero, ble_dec, beq_dec, decide_eq_true_eq, Nat.reduceLeDiff, Nat.le_refl, fillA, pureVs, pureV, beq_int, bne_int, Int.natCast_inj, eq_self, eqV, eqB, decide_true, decide_false, List.length_map, Int.toNat_natCast, List.getElem?_map, Option.map_some, Option.map_none, Int.natCast_nonneg, Option.some.injEq, lenV, binV, intBin, intV, idxA, ne_eq, not_true_eq_false, not_false_eq_true, List.drop, List.take, RetP, retP, resV, resOne, snapV, snapVs, snapR, snapRs, ownSz, pickV, cond_true, cond_false, bTT, bTF, bFT, bFF, Bool.not_true, Bool.not_false, AO.isC, Bool.or_true, Bool.true_or, Bool.or_false, Bool.false_or, WpE_cons, WpE_nil, opE, evE_some, guardE_true, guardE_false, WpD_cons, WpD_nil, opD, evD_some, guardD_true, guardD_false, up09.call, snapP, specP, stateP, kf.call, hf, k2.call, k3.call, k4.call, badO, codeE]
      refine (Wp_calm rfl).2 ?_
      simp only [bad1, bad2] at k7
      simp only [Wp_seq, Wp_ops, Wp_cond, Wp_skip, Wp_ret, Wp_exit, Wp_block, WpO_cons, WpO_nil, opQ, evOp, evO, evOs, evQ_some, guardV, guardQ_true, guardQ_false, boolQ_true, boolQ_false, argsA, pvs, putS, cellsOf, scals, scal, seqQ_normal, seqQ_ret, seqQ_exit, blkQ_normal, blkQ_ret, blkQ_exit, look_if, blkAt_if, if_true, if_false, Nat.reduceEqDiff, Nat.reduceAdd, true_implies, reduceCtorEq, false_implies, and_true, true_and, List.nil_append, List.cons_append, Bool.and_self, Nat.zero_add, Nat.add_zero, fieldA, nonNil, cellsAt, loadV_one, loadV_pvs, loadV_cons, mkAgg, allPV, List.drop_zero, List.drop_succ_cons, List.take_succ_cons, List.take_zero, List.length_cons, List.length_nil, Nat.beq_eq, storeB, patchL, beq_self_eq_true, ge_iff_le, gt_iff_lt, Int.reduceNeg, Int.reduceLE, Int.reduceLT, Int.reduceEq, extractV, List.getElem?_cons_zero, List.getElem?_cons_succ, mkAgg, Nat.add_eq_left, Nat.left_eq_add, Nat.one_ne_zero, ble_dec, beq_dec, decide_eq_true_eq, Nat.reduceLeDiff, Nat.le_refl, fillA, pureVs, pureV, beq_int, bne_int, Int.natCast_inj, eq_self, eqV, eqB, decide_true, decide_false, List.length_map, Int.toNat_natCast, List.getElem?_map, Option.map_some, Option.map_none, Int.natCast_nonneg, Option.some.injEq, lenV, binV, intBin, intV, idxA, ne_eq, not_true_eq_false, not_false_eq_true, List.drop, List.take, RetP, retP, resV, resOne, snapV, snapVs, snapR, snapRs, ownSz, pickV, cond_true, cond_false, bTT, bTF, bFT, bFF, Bool.not_true, Bool.not_false, AO.isC, Bool.or_true, Bool.true_or, Bool.or_false, Bool.false_or, WpE_cons, WpE_nil, opE, evE_some, guardE_true, guardE_false, WpD_cons, WpD_nil, opD, evD_some, guardD_true, guardD_false, k1.callD, k5.callD, k6.callD, k7.callD, snapP, specP, stateP, errO, spotE]
end Go.Proofs.YtmeigdjfcecidaaDoor.Ab
/- The code of functions, by our numbers. -/
set_option linter.unusedVariables false
namespace Go.Proofs.YtmeigdjfcecidaaDoor.Ab
open Go
def f68l0 : ACode :=
 (.seq (.ops [
   ⟨some 23, .bin .lss none (.t 22) (.t 21), none, []⟩])
  (.seq (.cond (.t 23)
   .skip
   (.exit 2))
  (.seq (.block 3
   (.seq (.ops [
     ⟨some 24, .idxAddr 8 (.t 20) (.t 22), none, []⟩,
     ⟨some 25, .load true 8 (.t 24), none, [0]⟩,
     ⟨some 8, .alloc [(.pv (.int .i64 0)), (.pv (.int .i64 0)), (.pv (.int .i64 0)), (.pv (.int .u64 0)), (.pv (.int .u64 0)), (.pv (.int .u64 0)), (.pv (.int .u64 0)), (.pv (.int .i64 0))], none, []⟩,
     ⟨none, .store 8 (.t 8) (.t 25), none, [2, 1, 0, 1, 2]⟩])
    (.seq (.ops [
     ⟨some 26, .load true 3 (.t 2), none, []⟩,
     ⟨some 27, .load true 8 (.t 6), none, []⟩,
     ⟨some 28, .load true 8 (.t 8), none, []⟩,
     ⟨some 29, .call 69 [(.t 26), (.t 27), (.t 28)], none, [0, 1, 2]⟩])
    (.cond (.t 29)
     (.seq (.ops [
       ⟨some 30, .mv (.t 5), none, []⟩,
       ⟨some 31, .build [(.pv (.int .i64 0)), (.pv (.int .i64 0))] [(0, 1, (.t 30)), (1, 1, (.c (.pv (.int .i64 10))))], none, [0]⟩,
       ⟨some 32, .box (.t 31), none, [1]⟩,
       ⟨some 33, .mkI 1 (.t 32), none, [2]⟩,
       ⟨some 4, .mv (.t 33), none, [3, 0, 1, 2, 3]⟩])
      .ret)
     .skip))))
  (.ops [
   ⟨some 34, .bin .add none (.t 22) (.c (.pv (.int .i64 1))), none, []⟩,
   ⟨some 22, .mv (.t 34), none, [0]⟩]))))
def f68l1 : ACode :=
 (.seq (.ops [
   ⟨some 13, .bin .lss none (.t 12) (.t 11), none, []⟩])
  (.seq (.cond (.t 13)
   .skip
   (.exit 0))
  (.seq (.block 1
   (.seq (.ops [
     ⟨some 14, .mv (.t 12), none, []⟩,
     ⟨some 15, .idxAddr 8 (.t 10) (.t 12), none, []⟩,
     ⟨some 16, .load true 8 (.t 15), none, [1]⟩,
     ⟨some 6, .alloc [(.pv (.int .i64 0)), (.pv (.int .i64 0)), (.pv (.int .i64 0)), (.pv (.int .u64 0)), (.pv (.int .u64 0)), (.pv (.int .u64 0)), (.pv (.int .u64 0)), (.pv (.int .i64 0))], none, []⟩,
     ⟨some 5, .mv (.t 14), none, [0, 0, 1, 2, 3]⟩,
     ⟨none, .store 8 (.t 6) (.t 16), none, [3, 2, 4, 0, 1, 2, 3, 4]⟩])
    (.seq (.ops [
     ⟨some 17, .fieldAddr 0 (.t 3), none, []⟩,
     ⟨some 18, .load false 1 (.t 17), none, [0]⟩,
     ⟨some 19, .mv (.t 5), none, []⟩,
     ⟨some 20, .slice 8 (.t 18) none (some (.t 19)), none, [1, 2]⟩,
     ⟨some 21, .len (.t 20), none, [3]⟩,
     ⟨some 22, .mv (.c (.pv (.int .i64 0))), none, []⟩])
    (.block 2
     (.loop f68l0)))))
  (.ops [
   ⟨some 35, .bin .add none (.t 12) (.c (.pv (.int .i64 1))), none, []⟩,
   ⟨some 12, .mv (.t 35), none, [0]⟩]))))
/-- dunnage/apart.Check -/
def f68 : AFunc := ⟨36, [.t 4],
 (.seq (.ops [
   ⟨some 2, .box (.t 0), none, []⟩,
   ⟨some 3, .box (.t 1), none, []⟩,
   ⟨some 4, .mv (.c (.pv .nili)), none, []⟩])
  (.seq (.seq (.ops [
   ⟨some 9, .fieldAddr 0 (.t 3), none, []⟩,
   ⟨some 10, .load false 1 (.t 9), none, [0]⟩,
   ⟨some 11, .len (.t 10), none, [1]⟩,
   ⟨some 12, .mv (.c (.pv (.int .i64 0))), none, []⟩])
  (.block 0
   (.loop f68l1)))
  (.seq (.ops [
   ⟨some 4, .mv (.c (.pv .nili)), none, []⟩])
  .ret)))⟩

/-- dunnage/apart.two -/
def f69 : AFunc := ⟨40, [.t 6],
 (.seq (.ops [
   ⟨some 3, .box (.t 0), none, []⟩,
   ⟨some 4, .box (.t 1), none, []⟩,
   ⟨some 5, .box (.t 2), none, []⟩,
   ⟨some 6, .mv (.c (.pv (.bool false))), none, []⟩])
  (.seq (.ops [
   ⟨some 10, .load true 3 (.t 3), none, []⟩,
   ⟨some 11, .fieldAddr 1 (.t 4), none, []⟩,
   ⟨some 12, .load false 1 (.t 11), none, [1]⟩,
   ⟨some 13, .call 81 [(.t 10), (.t 12)], none, [0, 2]⟩,
   ⟨some 9, .mv (.t 13), none, [3]⟩,
   ⟨some 14, .extract (.t 9) 0, none, [4]⟩,
   ⟨some 15, .extract (.t 9) 1, none, [4]⟩,
   ⟨some 7, .alloc [(.pv (.int .i64 0)), (.pv (.bool false)), (.pv (.int .i64 0)), (.pv (.int .i64 0)), (.pv (.int .i64 0))], none, []⟩,
   ⟨none, .store 5 (.t 7) (.t 14), none, [7, 5, 3, 0, 1, 2, 3, 4, 5, 7]⟩,
   ⟨some 8, .mv (.t 15), none, [6, 8, 0, 1, 2, 3, 4, 5, 6, 7, 8]⟩])
  (.seq (.ops [
   ⟨some 16, .fieldAddr 1 (.t 4), none, []⟩,
   ⟨some 17, .load false 1 (.t 16), none, [0]⟩,
   ⟨some 18, .fieldAddr 1 (.t 5), none, []⟩,
   ⟨some 19, .load false 1 (.t 18), none, [2]⟩,
   ⟨some 20, .bin .eql none (.t 17) (.t 19), none, [1, 3]⟩,
   ⟨some 21, .mv (.t 20), none, [4]⟩,
   ⟨some 22, .fieldAddr 7 (.t 4), some (21, true), [5]⟩,
   ⟨some 23, .load false 1 (.t 22), some (21, true), [6, 5]⟩,
   ⟨some 24, .fieldAddr 7 (.t 5), some (21, true), [5]⟩,
   ⟨some 25, .load false 1 (.t 24), some (21, true), [8, 5]⟩,
   ⟨some 26, .bin .eql none (.t 23) (.t 25), some (21, true), [7, 9, 5]⟩,
   ⟨some 27, .pick (.t 21) (.t 26) (.c (.pv (.bool false))), none, [5, 10]⟩,
   ⟨some 28, .mv (.t 27), none, [11, 5]⟩,
   ⟨some 29, .fieldAddr 7 (.t 4), some (28, true), [12]⟩,
   ⟨some 30, .load false 1 (.t 29), some (28, true), [13, 12]⟩,
   ⟨some 31, .bin .neq none (.t 30) (.c (.pv (.int .i64 0))), some (28, true), [14, 12]⟩,
   ⟨some 32, .pick (.t 28) (.t 31) (.c (.pv (.bool false))), none, [12, 15]⟩,
   ⟨some 33, .mv (.t 32), none, [16, 12]⟩,
   ⟨some 34, .mv (.t 8), some (33, true), [17]⟩,
   ⟨some 35, .pick (.t 33) (.t 34) (.c (.pv (.bool false))), none, [17, 18]⟩,
   ⟨some 36, .mv (.t 35), none, [19, 17]⟩,
   ⟨some 37, .fieldAddr 1 (.t 7), some (36, true), [20]⟩,
   ⟨some 38, .load false 1 (.t 37), some (36, true), [21, 20]⟩,
   ⟨some 39, .pick (.t 36) (.t 38) (.c (.pv (.bool false))), none, [20, 22]⟩,
   ⟨some 6, .mv (.t 39), none, [23, 20, 0, 1, 2, 3, 4, 5, 6, 7, 8, 9, 10, 11, 12, 13, 14, 15, 16, 17, 18, 19, 20, 21, 22, 23]⟩])
  .ret)))⟩

def f81l0 : ACode :=
 (.seq (.ops [
   ⟨some 12, .bin .lss none (.t 11) (.t 10), none, []⟩])
  (.seq (.cond (.t 12)
   .skip
   (.exit 0))
  (.seq (.block 1
   (.seq (.ops [
     ⟨some 13, .idxAddr 5 (.t 9) (.t 11), none, []⟩,
     ⟨some 14, .load true 5 (.t 13), none, [0]⟩,
     ⟨some 7, .alloc [(.pv (.int .i64 0)), (.pv (.bool false)), (.pv (.int .i64 0)), (.pv (.int .i64 0)), (.pv (.int .i64 0))], none, []⟩,
     ⟨none, .store 5 (.t 7) (.t 14), none, [2, 1, 0, 1, 2]⟩])
    (.seq (.ops [
     ⟨some 15, .fieldAddr 0 (.t 7), none, []⟩,
     ⟨some 16, .load false 1 (.t 15), none, [0]⟩,
     ⟨some 17, .mv (.t 1), none, []⟩,
     ⟨some 18, .bin .eql none (.t 16) (.t 17), none, [1, 2]⟩])
    (.cond (.t 18)
     (.seq (.ops [
       ⟨some 19, .load true 5 (.t 7), none, []⟩,
       ⟨none, .store 5 (.t 4) (.t 19), none, [0, 0]⟩,
       ⟨some 5, .mv (.c (.pv (.bool true))), none, [1, 0, 1]⟩])
      .ret)
     .skip))))
  (.ops [
   ⟨some 20, .bin .add none (.t 11) (.c (.pv (.int .i64 1))), none, []⟩,
   ⟨some 11, .mv (.t 20), none, [0]⟩]))))
/-- dunnage/cluster.Load -/
def f81 : AFunc := ⟨22, [.cell 4 true 5, .t 5],
 (.seq (.ops [
   ⟨some 2, .box (.t 0), none, []⟩,
   ⟨some 4, .alloc [(.pv (.int .i64 0)), (.pv (.bool false)), (.pv (.int .i64 0)), (.pv (.int .i64 0)), (.pv (.int .i64 0))], none, []⟩,
   ⟨some 5, .mv (.c (.pv (.bool false))), none, []⟩])
  (.seq (.seq (.ops [
   ⟨some 8, .fieldAddr 1 (.t 2), none, []⟩,
   ⟨some 9, .load false 1 (.t 8), none, [0]⟩,
   ⟨some 10, .len (.t 9), none, [1]⟩,
   ⟨some 11, .mv (.c (.pv (.int .i64 0))), none, []⟩])
  (.block 0
   (.loop f81l0)))
  (.seq (.ops [
   ⟨some 21, .build [(.pv (.int .i64 0)), (.pv (.bool false)), (.pv (.int .i64 0)), (.pv (.int .i64 0)), (.pv (.int .i64 0))] [], none, []⟩,
   ⟨none, .store 5 (.t 4) (.t 21), none, [0, 0]⟩,
   ⟨some 5, .mv (.c (.pv (.bool false))), none, [1, 0, 1]⟩])
  .ret)))⟩

def f140l0 : ACode :=
 (.seq (.seq (.ops [
   ⟨some 10, .mv (.t 7), none, []⟩,
   ⟨some 11, .bin .lss none (.t 10) (.c (.pv (.int .i64 4))), none, [0]⟩])
  (.cond (.t 11)
   .skip
   (.exit 0)))
  (.seq (.block 1
   (.seq (.draw [
     ⟨some 15, .mv (.t 7), none, []⟩,
     ⟨some 16, .idxArr 4 1 (.t 2) (.t 15), none, [0]⟩,
     ⟨some 17, .load false 1 (.t 16), none, [1]⟩,
     ⟨some 18, .mv (.t 7), none, []⟩,
     ⟨some 19, .idxArr 4 1 (.t 3) (.t 18), none, [3]⟩,
     ⟨some 20, .load false 1 (.t 19), none, [4]⟩,
     ⟨some 21, .call 145 [(.t 17), (.t 20)], none, [2, 5]⟩,
     ⟨some 14, .mv (.t 21), none, [6]⟩,
     ⟨some 22, .extract (.t 14) 0, none, [7]⟩,
     ⟨some 23, .extract (.t 14) 1, none, [7]⟩,
     ⟨some 8, .mv (.t 22), none, [8, 6, 0, 1, 2, 3, 4, 5, 6, 7, 8]⟩,
     ⟨some 9, .mv (.t 23), none, [9, 10, 0, 1, 2, 3, 4, 5, 6, 7, 8, 9, 10]⟩])
    (.seq (.seq (.ops [
     ⟨some 24, .mv (.t 9), none, []⟩,
     ⟨some 25, .not (.t 24), none, [0]⟩])
    (.cond (.t 25)
     (.seq (.ops [
       ⟨some 26, .build [(.pv (.int .u64 0)), (.pv (.int .u64 0)), (.pv (.int .u64 0)), (.pv (.int .u64 0))] [], none, []⟩,
       ⟨none, .store 4 (.t 4) (.t 26), none, [0, 0]⟩,
       ⟨some 5, .mv (.c (.pv (.bool false))), none, [1, 0, 1]⟩])
      .ret)
     .skip))
    (.ops [
     ⟨some 27, .mv (.t 7), none, []⟩,
     ⟨some 28, .mv (.t 8), none, []⟩,
     ⟨some 29, .idxArr 4 1 (.t 6) (.t 27), none, [0, 0, 1]⟩,
     ⟨none, .store 1 (.t 29) (.t 28), none, [2, 1, 0, 1]⟩]))))
  (.ops [
   ⟨some 12, .mv (.t 7), none, []⟩,
   ⟨some 13, .bin .add none (.t 12) (.c (.pv (.int .i64 1))), none, [0]⟩,
   ⟨some 7, .mv (.t 13), none, [1, 0, 1]⟩])))
/-- dunnage/dunnageref01.Add -/
def f140 : AFunc := ⟨31, [.cell 4 true 4, .t 5],
 (.seq (.ops [
   ⟨some 2, .box (.t 0), none, []⟩,
   ⟨some 3, .box (.t 1), none, []⟩,
   ⟨some 4, .alloc [(.pv (.int .u64 0)), (.pv (.int .u64 0)), (.pv (.int .u64 0)), (.pv (.int .u64 0))], none, []⟩,
   ⟨some 5, .mv (.c (.pv (.bool false))), none, []⟩])
  (.seq (.ops [
   ⟨some 6, .alloc [(.pv (.int .u64 0)), (.pv (.int .u64 0)), (.pv (.int .u64 0)), (.pv (.int .u64 0))], none, []⟩])
  (.seq (.seq (.ops [
   ⟨some 7, .mv (.c (.pv (.int .i64 0))), none, []⟩])
  (.block 0
   (.loop f140l0)))
  (.seq (.ops [
   ⟨some 30, .load true 4 (.t 6), none, []⟩,
   ⟨none, .store 4 (.t 4) (.t 30), none, [0, 0]⟩,
   ⟨some 5, .mv (.c (.pv (.bool true))), none, [1, 0, 1]⟩])
  .ret))))⟩

/-- dunnage/dunnageref01.Fits -/
def f141 : AFunc := ⟨31, [.t 4],
 (.seq (.ops [
   ⟨some 2, .box (.t 0), none, []⟩,
   ⟨some 3, .box (.t 1), none, []⟩,
   ⟨some 4, .mv (.c (.pv (.bool false))), none, []⟩])
  (.seq (.ops [
   ⟨some 5, .idxArr 4 1 (.t 2) (.c (.pv (.int .i64 0))), none, []⟩,
   ⟨some 6, .load false 1 (.t 5), none, [0]⟩,
   ⟨some 7, .idxArr 4 1 (.t 3) (.c (.pv (.int .i64 0))), none, []⟩,
   ⟨some 8, .load false 1 (.t 7), none, [2]⟩,
   ⟨some 9, .bin .leq none (.t 6) (.t 8), none, [1, 3]⟩,
   ⟨some 10, .mv (.t 9), none, [4]⟩,
   ⟨some 11, .idxArr 4 1 (.t 2) (.c (.pv (.int .i64 1))), some (10, true), [5]⟩,
   ⟨some 12, .load false 1 (.t 11), some (10, true), [6, 5]⟩,
   ⟨some 13, .idxArr 4 1 (.t 3) (.c (.pv (.int .i64 1))), some (10, true), [5]⟩,
   ⟨some 14, .load false 1 (.t 13), some (10, true), [8, 5]⟩,
   ⟨some 15, .bin .leq none (.t 12) (.t 14), some (10, true), [7, 9, 5]⟩,
   ⟨some 16, .pick (.t 10) (.t 15) (.c (.pv (.bool false))), none, [5, 10]⟩,
   ⟨some 17, .mv (.t 16), none, [11, 5]⟩,
   ⟨some 18, .idxArr 4 1 (.t 2) (.c (.pv (.int .i64 2))), some (17, true), [12]⟩,
   ⟨some 19, .load false 1 (.t 18), some (17, true), [13, 12]⟩,
   ⟨some 20, .idxArr 4 1 (.t 3) (.c (.pv (.int .i64 2))), some (17, true), [12]⟩,
   ⟨some 21, .load false 1 (.t 20), some (17, true), [15, 12]⟩,
   ⟨some 22, .bin .leq none (.t 19) (.t 21), some (17, true), [14, 16, 12]⟩,
   ⟨some 23, .pick (.t 17) (.t 22) (.c (.pv (.bool false))), none, [12, 17]⟩,
   ⟨some 24, .mv (.t 23), none, [18, 12]⟩,
   ⟨some 25, .idxArr 4 1 (.t 2) (.c (.pv (.int .i64 3))), some (24, true), [19]⟩,
   ⟨some 26, .load false 1 (.t 25), some (24, true), [20, 19]⟩,
   ⟨some 27, .idxArr 4 1 (.t 3) (.c (.pv (.int .i64 3))), some (24, true), [19]⟩,
   ⟨some 28, .load false 1 (.t 27), some (24, true), [22, 19]⟩,
   ⟨some 29, .bin .leq none (.t 26) (.t 28), some (24, true), [21, 23, 19]⟩,
   ⟨some 30, .pick (.t 24) (.t 29) (.c (.pv (.bool false))), none, [19, 24]⟩,
   ⟨some 4, .mv (.t 30), none, [25, 19, 0, 1, 2, 3, 4, 5, 6, 7, 8, 9, 10, 11, 12, 13, 14, 15, 16, 17, 18, 19, 20, 21, 22, 23, 24, 25]⟩])
  .ret))⟩

/-- dunnage/dunnageref01.Sub -/
def f142 : AFunc := ⟨34, [.cell 4 true 4, .t 5],
 (.seq (.ops [
   ⟨some 2, .box (.t 0), none, []⟩,
   ⟨some 3, .box (.t 1), none, []⟩,
   ⟨some 4, .alloc [(.pv (.int .u64 0)), (.pv (.int .u64 0)), (.pv (.int .u64 0)), (.pv (.int .u64 0))], none, []⟩,
   ⟨some 5, .mv (.c (.pv (.bool false))), none, []⟩])
  (.seq (.ops [
   ⟨some 7, .load true 4 (.t 3), none, []⟩,
   ⟨some 8, .load true 4 (.t 2), none, []⟩,
   ⟨some 9, .call 141 [(.t 7), (.t 8)], none, [0, 1]⟩,
   ⟨some 6, .mv (.t 9), none, [2, 2, 0, 1, 2]⟩])
  (.seq (.seq (.ops [
   ⟨some 10, .mv (.t 6), none, []⟩,
   ⟨some 11, .not (.t 10), none, [0]⟩])
  (.cond (.t 11)
   (.seq (.ops [
     ⟨some 12, .build [(.pv (.int .u64 0)), (.pv (.int .u64 0)), (.pv (.int .u64 0)), (.pv (.int .u64 0))] [], none, []⟩,
     ⟨none, .store 4 (.t 4) (.t 12), none, [0, 0]⟩,
     ⟨some 5, .mv (.c (.pv (.bool false))), none, [1, 0, 1]⟩])
    .ret)
   .skip))
  (.seq (.ops [
   ⟨some 13, .idxArr 4 1 (.t 2) (.c (.pv (.int .i64 0))), none, []⟩,
   ⟨some 14, .load false 1 (.t 13), none, [0]⟩,
   ⟨some 15, .idxArr 4 1 (.t 3) (.c (.pv (.int .i64 0))), none, []⟩,
   ⟨some 16, .load false 1 (.t 15), none, [2]⟩,
   ⟨some 17, .bin .sub none (.t 14) (.t 16), none, [1, 3]⟩,
   ⟨some 18, .idxArr 4 1 (.t 2) (.c (.pv (.int .i64 1))), none, []⟩,
   ⟨some 19, .load false 1 (.t 18), none, [5]⟩,
   ⟨some 20, .idxArr 4 1 (.t 3) (.c (.pv (.int .i64 1))), none, []⟩,
   ⟨some 21, .load false 1 (.t 20), none, [7]⟩,
   ⟨some 22, .bin .sub none (.t 19) (.t 21), none, [6, 8]⟩,
   ⟨some 23, .idxArr 4 1 (.t 2) (.c (.pv (.int .i64 2))), none, []⟩,
   ⟨some 24, .load false 1 (.t 23), none, [10]⟩,
   ⟨some 25, .idxArr 4 1 (.t 3) (.c (.pv (.int .i64 2))), none, []⟩,
   ⟨some 26, .load false 1 (.t 25), none, [12]⟩,
   ⟨some 27, .bin .sub none (.t 24) (.t 26), none, [11, 13]⟩,
   ⟨some 28, .idxArr 4 1 (.t 2) (.c (.pv (.int .i64 3))), none, []⟩,
   ⟨some 29, .load false 1 (.t 28), none, [15]⟩,
   ⟨some 30, .idxArr 4 1 (.t 3) (.c (.pv (.int .i64 3))), none, []⟩,
   ⟨some 31, .load false 1 (.t 30), none, [17]⟩,
   ⟨some 32, .bin .sub none (.t 29) (.t 31), none, [16, 18]⟩,
   ⟨some 33, .build [(.pv (.int .u64 0)), (.pv (.int .u64 0)), (.pv (.int .u64 0)), (.pv (.int .u64 0))] [(0, 1, (.t 17)), (1, 1, (.t 22)), (2, 1, (.t 27)), (3, 1, (.t 32))], none, [4, 9, 14, 19]⟩,
   ⟨none, .store 4 (.t 4) (.t 33), none, [20, 0, 1, 2, 3, 4, 5, 6, 7, 8, 9, 10, 11, 12, 13, 14, 15, 16, 17, 18, 19, 20]⟩,
   ⟨some 5, .mv (.c (.pv (.bool true))), none, [21, 0, 1, 2, 3, 4, 5, 6, 7, 8, 9, 10, 11, 12, 13, 14, 15, 16, 17, 18, 19, 20, 21]⟩])
  .ret))))⟩

def f143l0 : ACode :=
 (.seq (.seq (.ops [
   ⟨some 7, .mv (.t 6), none, []⟩,
   ⟨some 8, .mv (.t 0), none, []⟩,
   ⟨some 9, .len (.t 8), none, [1]⟩,
   ⟨some 10, .bin .lss none (.t 7) (.t 9), none, [0, 2]⟩,
   ⟨some 11, .mv (.t 10), none, [3]⟩,
   ⟨some 12, .mv (.t 5), some (11, true), [4]⟩,
   ⟨some 13, .pick (.t 11) (.t 12) (.c (.pv (.bool false))), none, [4, 5]⟩])
  (.cond (.t 13)
   .skip
   (.exit 0)))
  (.seq (.block 1
   (.draw [
     ⟨some 17, .load true 4 (.t 4), none, []⟩,
     ⟨some 18, .mv (.t 0), none, []⟩,
     ⟨some 19, .mv (.t 6), none, []⟩,
     ⟨some 20, .idxAddr 4 (.t 18) (.t 19), none, [1, 2]⟩,
     ⟨some 21, .load true 4 (.t 20), none, [3]⟩,
     ⟨some 22, .call 140 [(.t 17), (.t 21)], none, [0, 4]⟩,
     ⟨some 16, .mv (.t 22), none, [5]⟩,
     ⟨some 23, .extract (.t 16) 0, none, [6]⟩,
     ⟨some 24, .extract (.t 16) 1, none, [6]⟩,
     ⟨none, .store 4 (.t 4) (.t 23), none, [7, 5, 0, 1, 2, 3, 4, 5, 6, 7]⟩,
     ⟨some 5, .mv (.t 24), none, [8, 9, 0, 1, 2, 3, 4, 5, 6, 7, 8, 9]⟩]))
  (.ops [
   ⟨some 14, .mv (.t 6), none, []⟩,
   ⟨some 15, .bin .add none (.t 14) (.c (.pv (.int .i64 1))), none, [0]⟩,
   ⟨some 6, .mv (.t 15), none, [1, 0, 1]⟩])))
/-- dunnage/dunnageref01.Sum -/
def f143 : AFunc := ⟨27, [.cell 2 true 4, .t 3],
 (.seq (.ops [
   ⟨some 2, .alloc [(.pv (.int .u64 0)), (.pv (.int .u64 0)), (.pv (.int .u64 0)), (.pv (.int .u64 0))], none, []⟩,
   ⟨some 3, .mv (.c (.pv (.bool false))), none, []⟩])
  (.seq (.ops [
   ⟨some 4, .alloc [(.pv (.int .u64 0)), (.pv (.int .u64 0)), (.pv (.int .u64 0)), (.pv (.int .u64 0))], none, []⟩])
  (.seq (.ops [
   ⟨some 5, .mv (.c (.pv (.bool true))), none, []⟩])
  (.seq (.seq (.ops [
   ⟨some 6, .mv (.c (.pv (.int .i64 0))), none, []⟩])
  (.block 0
   (.loop f143l0)))
  (.seq (.ops [
   ⟨some 25, .load true 4 (.t 4), none, []⟩,
   ⟨some 26, .mv (.t 5), none, []⟩,
   ⟨none, .store 4 (.t 2) (.t 25), none, [0, 0]⟩,
   ⟨some 3, .mv (.t 26), none, [1, 2, 0, 1, 2]⟩])
  .ret)))))⟩

/-- dunnage/dunnageref01.half -/
def f144 : AFunc := ⟨10, [.t 4],
 (.seq (.ops [
   ⟨some 4, .mv (.c (.pv (.int .u64 0))), none, []⟩])
  (.seq (.seq (.ops [
   ⟨some 5, .mv (.t 1), none, []⟩])
  (.cond (.t 5)
   (.seq (.ops [
     ⟨some 6, .mv (.t 0), none, []⟩,
     ⟨some 7, .bin .quo none (.t 6) (.c (.pv (.int .u64 4294967296))), none, [0]⟩,
     ⟨some 4, .mv (.t 7), none, [1, 0, 1]⟩])
    .ret)
   .skip))
  (.seq (.ops [
   ⟨some 8, .mv (.t 0), none, []⟩,
   ⟨some 9, .bin .rem none (.t 8) (.c (.pv (.int .u64 4294967296))), none, [0]⟩,
   ⟨some 4, .mv (.t 9), none, [1, 0, 1]⟩])
  .ret)))⟩

/-- dunnage/dunnageref01.one -/
def f145 : AFunc := ⟨28, [.t 4, .t 5],
 (.seq (.ops [
   ⟨some 4, .mv (.c (.pv (.int .u64 0))), none, []⟩,
   ⟨some 5, .mv (.c (.pv (.bool false))), none, [0]⟩])
  (.seq (.ops [
   ⟨some 8, .mv (.t 0), none, []⟩,
   ⟨some 9, .call 144 [(.t 8), (.c (.pv (.bool false)))], none, [0]⟩,
   ⟨some 10, .mv (.t 1), none, []⟩,
   ⟨some 11, .call 144 [(.t 10), (.c (.pv (.bool false)))], none, [2, 1]⟩,
   ⟨some 12, .bin .add none (.t 9) (.t 11), none, [1, 3]⟩,
   ⟨some 6, .mv (.t 12), none, [4, 3, 0, 1, 2, 3, 4]⟩])
  (.seq (.ops [
   ⟨some 13, .mv (.t 0), none, []⟩,
   ⟨some 14, .call 144 [(.t 13), (.c (.pv (.bool true)))], none, [0]⟩,
   ⟨some 15, .mv (.t 1), none, []⟩,
   ⟨some 16, .call 144 [(.t 15), (.c (.pv (.bool true)))], none, [2, 1]⟩,
   ⟨some 17, .bin .add none (.t 14) (.t 16), none, [1, 3]⟩,
   ⟨some 18, .mv (.t 6), none, []⟩,
   ⟨some 19, .bin .quo none (.t 18) (.c (.pv (.int .u64 4294967296))), none, [5]⟩,
   ⟨some 20, .bin .add none (.t 17) (.t 19), none, [4, 6]⟩,
   ⟨some 7, .mv (.t 20), none, [7, 3, 0, 1, 2, 3, 4, 5, 6, 7]⟩])
  (.seq (.seq (.ops [
   ⟨some 21, .mv (.t 7), none, []⟩,
   ⟨some 22, .bin .geq none (.t 21) (.c (.pv (.int .u64 4294967296))), none, [0]⟩])
  (.cond (.t 22)
   (.seq (.ops [
     ⟨some 4, .mv (.c (.pv (.int .u64 0))), none, []⟩,
     ⟨some 5, .mv (.c (.pv (.bool false))), none, [0, 0]⟩])
    .ret)
   .skip))
  (.seq (.ops [
   ⟨some 23, .mv (.t 7), none, []⟩,
   ⟨some 24, .bin .mul none (.t 23) (.c (.pv (.int .u64 4294967296))), none, [0]⟩,
   ⟨some 25, .mv (.t 6), none, []⟩,
   ⟨some 26, .bin .rem none (.t 25) (.c (.pv (.int .u64 4294967296))), none, [2]⟩,
   ⟨some 27, .bin .add none (.t 24) (.t 26), none, [1, 3]⟩,
   ⟨some 4, .mv (.t 27), none, [4, 0, 1, 2, 3, 4]⟩,
   ⟨some 5, .mv (.c (.pv (.bool true))), none, [5, 0, 1, 2, 3, 4, 5]⟩])
  .ret)))))⟩

def f155l0 : ACode :=
 (.seq (.seq (.ops [
   ⟨some 6, .mv (.t 5), none, []⟩,
   ⟨some 7, .fieldAddr 0 (.t 2), none, []⟩,
   ⟨some 8, .load false 1 (.t 7), none, [1]⟩,
   ⟨some 9, .len (.t 8), none, [2]⟩,
   ⟨some 10, .bin .lss none (.t 6) (.t 9), none, [0, 3]⟩])
  (.cond (.t 10)
   .skip
   (.exit 0)))
  (.seq (.block 1
   (.seq (.ops [
     ⟨some 13, .fieldAddr 0 (.t 2), none, []⟩,
     ⟨some 14, .load false 1 (.t 13), none, [0]⟩,
     ⟨some 15, .mv (.t 5), none, []⟩,
     ⟨some 16, .idxAddr 10 (.t 14) (.t 15), none, [1, 2]⟩,
     ⟨some 17, .fieldAddr 0 (.t 16), none, [3]⟩,
     ⟨some 18, .load false 1 (.t 17), none, [4]⟩,
     ⟨some 19, .mv (.t 1), none, []⟩,
     ⟨some 20, .bin .eql none (.t 18) (.t 19), none, [5, 6]⟩])
    (.cond (.t 20)
     (.seq (.ops [
       ⟨some 21, .mv (.t 5), none, []⟩,
       ⟨some 4, .mv (.t 21), none, [0, 0]⟩])
      .ret)
     .skip)))
  (.ops [
   ⟨some 11, .mv (.t 5), none, []⟩,
   ⟨some 12, .bin .add none (.t 11) (.c (.pv (.int .i64 1))), none, [0]⟩,
   ⟨some 5, .mv (.t 12), none, [1, 0, 1]⟩])))
/-- dunnage/dunnageref03.Node -/
def f155 : AFunc := ⟨22, [.t 4],
 (.seq (.ops [
   ⟨some 2, .box (.t 0), none, []⟩,
   ⟨some 4, .mv (.c (.pv (.int .i64 0))), none, []⟩])
  (.seq (.seq (.ops [
   ⟨some 5, .mv (.c (.pv (.int .i64 0))), none, []⟩])
  (.block 0
   (.loop f155l0)))
  (.seq (.ops [
   ⟨some 4, .mv (.c (.pv (.int .i64 (-1)))), none, []⟩])
  .ret)))⟩

def f169l0 : ACode :=
 (.seq (.seq (.ops [
   ⟨some 9, .mv (.t 6), none, []⟩,
   ⟨some 10, .fieldAddr 0 (.t 2), none, []⟩,
   ⟨some 11, .load false 1 (.t 10), none, [1]⟩,
   ⟨some 12, .len (.t 11), none, [2]⟩,
   ⟨some 13, .bin .lss none (.t 9) (.t 12), none, [0, 3]⟩])
  (.cond (.t 13)
   .skip
   (.exit 0)))
  (.seq (.block 1
   (.seq (.draw [
     ⟨some 17, .load true 3 (.t 2), none, []⟩,
     ⟨some 18, .load true 3 (.t 3), none, []⟩,
     ⟨some 19, .fieldAddr 0 (.t 2), none, []⟩,
     ⟨some 20, .load false 1 (.t 19), none, [2]⟩,
     ⟨some 21, .mv (.t 6), none, []⟩,
     ⟨some 22, .idxAddr 10 (.t 20) (.t 21), none, [3, 4]⟩,
     ⟨some 23, .fieldAddr 0 (.t 22), none, [5]⟩,
     ⟨some 24, .load false 1 (.t 23), none, [6]⟩,
     ⟨some 25, .call 170 [(.t 17), (.t 18), (.t 24)], none, [0, 1, 7]⟩,
     ⟨some 16, .mv (.t 25), none, [8]⟩,
     ⟨some 26, .extract (.t 16) 0, none, [9]⟩,
     ⟨some 27, .extract (.t 16) 1, none, [9]⟩,
     ⟨some 7, .alloc [(.pv (.int .u64 0)), (.pv (.int .u64 0)), (.pv (.int .u64 0)), (.pv (.int .u64 0))], none, []⟩,
     ⟨none, .store 4 (.t 7) (.t 26), none, [12, 10, 8, 0, 1, 2, 3, 4, 5, 6, 7, 8, 9, 10, 12]⟩,
     ⟨some 8, .mv (.t 27), none, [11, 13, 0, 1, 2, 3, 4, 5, 6, 7, 8, 9, 10, 11, 12, 13]⟩])
    (.seq (.ops [
     ⟨some 28, .mv (.t 8), none, []⟩,
     ⟨some 29, .bin .neq none (.t 28) (.c (.pv (.int .i64 0))), none, [0]⟩])
    (.cond (.t 29)
     (.seq (.ops [
       ⟨some 30, .mv (.t 8), none, []⟩,
       ⟨some 31, .mv (.t 6), none, []⟩,
       ⟨some 4, .mv (.t 30), none, [0, 0]⟩,
       ⟨some 5, .mv (.t 31), none, [1, 2, 0, 1, 2]⟩])
      .ret)
     .skip))))
  (.ops [
   ⟨some 14, .mv (.t 6), none, []⟩,
   ⟨some 15, .bin .add none (.t 14) (.c (.pv (.int .i64 1))), none, [0]⟩,
   ⟨some 6, .mv (.t 15), none, [1, 0, 1]⟩])))
/-- dunnage/dunnageref06.Check -/
def f169 : AFunc := ⟨32, [.t 4, .t 5],
 (.seq (.ops [
   ⟨some 2, .box (.t 0), none, []⟩,
   ⟨some 3, .box (.t 1), none, []⟩,
   ⟨some 4, .mv (.c (.pv (.int .i64 0))), none, []⟩,
   ⟨some 5, .mv (.c (.pv (.int .i64 0))), none, [2]⟩])
  (.seq (.seq (.ops [
   ⟨some 6, .mv (.c (.pv (.int .i64 0))), none, []⟩])
  (.block 0
   (.loop f169l0)))
  (.seq (.ops [
   ⟨some 4, .mv (.c (.pv (.int .i64 0))), none, []⟩,
   ⟨some 5, .mv (.c (.pv (.int .i64 (-1)))), none, [0, 0]⟩])
  .ret)))⟩

/-- dunnage/dunnageref06.Rest -/
def f170 : AFunc := ⟨59, [.cell 6 true 4, .t 7],
 (.seq (.ops [
   ⟨some 3, .box (.t 0), none, []⟩,
   ⟨some 4, .box (.t 1), none, []⟩,
   ⟨some 6, .alloc [(.pv (.int .u64 0)), (.pv (.int .u64 0)), (.pv (.int .u64 0)), (.pv (.int .u64 0))], none, []⟩,
   ⟨some 7, .mv (.c (.pv (.int .i64 0))), none, []⟩])
  (.seq (.ops [
   ⟨some 15, .load true 3 (.t 3), none, []⟩,
   ⟨some 16, .mv (.t 2), none, []⟩,
   ⟨some 17, .call 155 [(.t 15), (.t 16)], none, [0, 1]⟩,
   ⟨some 8, .mv (.t 17), none, [2, 2, 0, 1, 2]⟩])
  (.seq (.seq (.ops [
   ⟨some 18, .mv (.t 8), none, []⟩,
   ⟨some 19, .bin .lss none (.t 18) (.c (.pv (.int .i64 0))), none, [0]⟩])
  (.cond (.t 19)
   (.seq (.ops [
     ⟨some 20, .build [(.pv (.int .u64 0)), (.pv (.int .u64 0)), (.pv (.int .u64 0)), (.pv (.int .u64 0))] [], none, []⟩,
     ⟨none, .store 4 (.t 6) (.t 20), none, [0, 0]⟩,
     ⟨some 7, .mv (.c (.pv (.int .i64 4))), none, [1, 0, 1]⟩])
    .ret)
   .skip))
  (.seq (.ops [
   ⟨some 22, .load true 3 (.t 4), none, []⟩,
   ⟨some 23, .mv (.t 2), none, []⟩,
   ⟨some 24, .call 171 [(.t 22), (.t 23)], none, [0, 1]⟩,
   ⟨some 21, .mv (.t 24), none, [2]⟩,
   ⟨some 25, .extract (.t 21) 0, none, [3]⟩,
   ⟨some 26, .extract (.t 21) 1, none, [3]⟩,
   ⟨some 9, .alloc [(.pv (.int .u64 0)), (.pv (.int .u64 0)), (.pv (.int .u64 0)), (.pv (.int .u64 0))], none, []⟩,
   ⟨none, .store 4 (.t 9) (.t 25), none, [6, 4, 2, 0, 1, 2, 3, 4, 6]⟩,
   ⟨some 10, .mv (.t 26), none, [5, 7, 0, 1, 2, 3, 4, 5, 6, 7]⟩])
  (.seq (.seq (.ops [
   ⟨some 27, .mv (.t 10), none, []⟩,
   ⟨some 28, .not (.t 27), none, [0]⟩])
  (.cond (.t 28)
   (.seq (.ops [
     ⟨some 29, .build [(.pv (.int .u64 0)), (.pv (.int .u64 0)), (.pv (.int .u64 0)), (.pv (.int .u64 0))] [], none, []⟩,
     ⟨none, .store 4 (.t 6) (.t 29), none, [0, 0]⟩,
     ⟨some 7, .mv (.c (.pv (.int .i64 8))), none, [1, 0, 1]⟩])
    .ret)
   .skip))
  (.seq (.draw [
   ⟨some 31, .fieldAddr 0 (.t 3), none, []⟩,
   ⟨some 32, .load false 1 (.t 31), none, [0]⟩,
   ⟨some 33, .mv (.t 8), none, []⟩,
   ⟨some 34, .idxAddr 10 (.t 32) (.t 33), none, [1, 2]⟩,
   ⟨some 35, .fieldAddr 2 (.t 34), none, [3]⟩,
   ⟨some 36, .load true 4 (.t 35), none, [4]⟩,
   ⟨some 37, .fieldAddr 0 (.t 3), none, []⟩,
   ⟨some 38, .load false 1 (.t 37), none, [6]⟩,
   ⟨some 39, .mv (.t 8), none, []⟩,
   ⟨some 40, .idxAddr 10 (.t 38) (.t 39), none, [7, 8]⟩,
   ⟨some 41, .fieldAddr 6 (.t 40), none, [9]⟩,
   ⟨some 42, .load true 4 (.t 41), none, [10]⟩,
   ⟨some 43, .call 142 [(.t 36), (.t 42)], none, [5, 11]⟩,
   ⟨some 30, .mv (.t 43), none, [12]⟩,
   ⟨some 44, .extract (.t 30) 0, none, [13]⟩,
   ⟨some 45, .extract (.t 30) 1, none, [13]⟩,
   ⟨some 11, .alloc [(.pv (.int .u64 0)), (.pv (.int .u64 0)), (.pv (.int .u64 0)), (.pv (.int .u64 0))], none, []⟩,
   ⟨none, .store 4 (.t 11) (.t 44), none, [16, 14, 12, 0, 1, 2, 3, 4, 5, 6, 7, 8, 9, 10, 11, 12, 13, 14, 16]⟩,
   ⟨some 12, .mv (.t 45), none, [15, 17, 0, 1, 2, 3, 4, 5, 6, 7, 8, 9, 10, 11, 12, 13, 14, 15, 16, 17]⟩])
  (.seq (.seq (.ops [
   ⟨some 46, .mv (.t 12), none, []⟩,
   ⟨some 47, .not (.t 46), none, [0]⟩])
  (.cond (.t 47)
   (.seq (.ops [
     ⟨some 48, .build [(.pv (.int .u64 0)), (.pv (.int .u64 0)), (.pv (.int .u64 0)), (.pv (.int .u64 0))] [], none, []⟩,
     ⟨none, .store 4 (.t 6) (.t 48), none, [0, 0]⟩,
     ⟨some 7, .mv (.c (.pv (.int .i64 9))), none, [1, 0, 1]⟩])
    .ret)
   .skip))
  (.seq (.ops [
   ⟨some 50, .load true 4 (.t 11), none, []⟩,
   ⟨some 51, .load true 4 (.t 9), none, []⟩,
   ⟨some 52, .call 142 [(.t 50), (.t 51)], none, [0, 1]⟩,
   ⟨some 49, .mv (.t 52), none, [2]⟩,
   ⟨some 53, .extract (.t 49) 0, none, [3]⟩,
   ⟨some 54, .extract (.t 49) 1, none, [3]⟩,
   ⟨some 13, .alloc [(.pv (.int .u64 0)), (.pv (.int .u64 0)), (.pv (.int .u64 0)), (.pv (.int .u64 0))], none, []⟩,
   ⟨none, .store 4 (.t 13) (.t 53), none, [6, 4, 2, 0, 1, 2, 3, 4, 6]⟩,
   ⟨some 14, .mv (.t 54), none, [5, 7, 0, 1, 2, 3, 4, 5, 6, 7]⟩])
  (.seq (.seq (.ops [
   ⟨some 55, .mv (.t 14), none, []⟩,
   ⟨some 56, .not (.t 55), none, [0]⟩])
  (.cond (.t 56)
   (.seq (.ops [
     ⟨some 57, .build [(.pv (.int .u64 0)), (.pv (.int .u64 0)), (.pv (.int .u64 0)), (.pv (.int .u64 0))] [], none, []⟩,
     ⟨none, .store 4 (.t 6) (.t 57), none, [0, 0]⟩,
     ⟨some 7, .mv (.c (.pv (.int .i64 9))), none, [1, 0, 1]⟩])
    .ret)
   .skip))
  (.seq (.ops [
   ⟨some 58, .load true 4 (.t 13), none, []⟩,
   ⟨none, .store 4 (.t 6) (.t 58), none, [0, 0]⟩,
   ⟨some 7, .mv (.c (.pv (.int .i64 0))), none, [1, 0, 1]⟩])
  .ret))))))))))⟩

def f171l0 : ACode :=
 (.seq (.seq (.ops [
   ⟨some 10, .mv (.t 7), none, []⟩,
   ⟨some 11, .fieldAddr 0 (.t 2), none, []⟩,
   ⟨some 12, .load false 1 (.t 11), none, [1]⟩,
   ⟨some 13, .len (.t 12), none, [2]⟩,
   ⟨some 14, .bin .lss none (.t 10) (.t 13), none, [0, 3]⟩])
  (.cond (.t 14)
   .skip
   (.exit 0)))
  (.seq (.block 1
   (.seq (.ops [
     ⟨some 17, .fieldAddr 0 (.t 2), none, []⟩,
     ⟨some 18, .load false 1 (.t 17), none, [0]⟩,
     ⟨some 19, .mv (.t 7), none, []⟩,
     ⟨some 20, .idxAddr 8 (.t 18) (.t 19), none, [1, 2]⟩,
     ⟨some 21, .fieldAddr 7 (.t 20), none, [3]⟩,
     ⟨some 22, .load false 1 (.t 21), none, [4]⟩,
     ⟨some 23, .mv (.t 1), none, []⟩,
     ⟨some 24, .bin .eql none (.t 22) (.t 23), none, [5, 6]⟩])
    (.cond (.t 24)
     (.ops [
       ⟨some 25, .mv (.t 6), none, []⟩,
       ⟨some 26, .fieldAddr 0 (.t 2), none, []⟩,
       ⟨some 27, .load false 1 (.t 26), none, [1]⟩,
       ⟨some 28, .mv (.t 7), none, []⟩,
       ⟨some 29, .idxAddr 8 (.t 27) (.t 28), none, [2, 3]⟩,
       ⟨some 30, .fieldAddr 3 (.t 29), none, [4]⟩,
       ⟨some 31, .load true 4 (.t 30), none, [5]⟩,
       ⟨some 32, .bslice 4 1 [(.pv (.int .u64 0)), (.pv (.int .u64 0)), (.pv (.int .u64 0)), (.pv (.int .u64 0))] [(0, 4, (.t 31))], none, [6]⟩,
       ⟨some 33, .append 4 32 (.t 25) (.t 32), none, [0, 7]⟩,
       ⟨some 6, .mv (.t 33), none, [8, 8, 0, 1, 2, 3, 4, 5, 6, 7, 8]⟩])
     .skip)))
  (.ops [
   ⟨some 15, .mv (.t 7), none, []⟩,
   ⟨some 16, .bin .add none (.t 15) (.c (.pv (.int .i64 1))), none, [0]⟩,
   ⟨some 7, .mv (.t 16), none, [1, 0, 1]⟩])))
/-- dunnage/dunnageref06.Use -/
def f171 : AFunc := ⟨43, [.cell 4 true 4, .t 5],
 (.seq (.ops [
   ⟨some 2, .box (.t 0), none, []⟩,
   ⟨some 4, .alloc [(.pv (.int .u64 0)), (.pv (.int .u64 0)), (.pv (.int .u64 0)), (.pv (.int .u64 0))], none, []⟩,
   ⟨some 5, .mv (.c (.pv (.bool false))), none, []⟩])
  (.seq (.ops [
   ⟨some 6, .mv (.c .nils), none, []⟩])
  (.seq (.seq (.ops [
   ⟨some 7, .mv (.c (.pv (.int .i64 0))), none, []⟩])
  (.block 0
   (.loop f171l0)))
  (.seq (.ops [
   ⟨some 35, .mv (.t 6), none, []⟩,
   ⟨some 36, .call 143 [(.t 35)], none, [0]⟩,
   ⟨some 34, .mv (.t 36), none, [1]⟩,
   ⟨some 37, .extract (.t 34) 0, none, [2]⟩,
   ⟨some 38, .extract (.t 34) 1, none, [2]⟩,
   ⟨some 8, .alloc [(.pv (.int .u64 0)), (.pv (.int .u64 0)), (.pv (.int .u64 0)), (.pv (.int .u64 0))], none, []⟩,
   ⟨none, .store 4 (.t 8) (.t 37), none, [5, 3, 1, 0, 1, 2, 3, 5]⟩,
   ⟨some 9, .mv (.t 38), none, [4, 6, 0, 1, 2, 3, 4, 5, 6]⟩])
  (.seq (.seq (.ops [
   ⟨some 39, .mv (.t 9), none, []⟩,
   ⟨some 40, .not (.t 39), none, [0]⟩])
  (.cond (.t 40)
   (.seq (.ops [
     ⟨some 41, .build [(.pv (.int .u64 0)), (.pv (.int .u64 0)), (.pv (.int .u64 0)), (.pv (.int .u64 0))] [], none, []⟩,
     ⟨none, .store 4 (.t 4) (.t 41), none, [0, 0]⟩,
     ⟨some 5, .mv (.c (.pv (.bool false))), none, [1, 0, 1]⟩])
    .ret)
   .skip))
  (.seq (.ops [
   ⟨some 42, .load true 4 (.t 8), none, []⟩,
   ⟨none, .store 4 (.t 4) (.t 42), none, [0, 0]⟩,
   ⟨some 5, .mv (.c (.pv (.bool true))), none, [1, 0, 1]⟩])
  .ret))))))⟩

def f219l0 : ACode :=
 (.seq (.ops [
   ⟨some 14, .bin .lss none (.t 13) (.t 12), none, []⟩])
  (.seq (.cond (.t 14)
   .skip
   (.exit 0))
  (.seq (.block 1
   (.seq (.ops [
     ⟨some 15, .mv (.t 13), none, []⟩,
     ⟨some 16, .idxAddr 10 (.t 11) (.t 13), none, []⟩,
     ⟨some 17, .load true 10 (.t 16), none, [1]⟩,
     ⟨some 6, .alloc [(.pv (.int .i64 0)), (.pv (.int .i64 0)), (.pv (.int .u64 0)), (.pv (.int .u64 0)), (.pv (.int .u64 0)), (.pv (.int .u64 0)), (.pv (.int .u64 0)), (.pv (.int .u64 0)), (.pv (.int .u64 0)), (.pv (.int .u64 0))], none, []⟩,
     ⟨some 5, .mv (.t 15), none, [0, 0, 1, 2, 3]⟩,
     ⟨none, .store 10 (.t 6) (.t 17), none, [3, 2, 4, 0, 1, 2, 3, 4]⟩])
    (.seq (.ops [
     ⟨some 19, .load true 3 (.t 2), none, []⟩,
     ⟨some 20, .load true 3 (.t 3), none, []⟩,
     ⟨some 21, .fieldAddr 0 (.t 6), none, []⟩,
     ⟨some 22, .load false 1 (.t 21), none, [2]⟩,
     ⟨some 23, .call 220 [(.t 19), (.t 20), (.t 22)], none, [0, 1, 3]⟩,
     ⟨some 18, .mv (.t 23), none, [4]⟩,
     ⟨some 24, .extract (.t 18) 0, none, [5]⟩,
     ⟨some 25, .extract (.t 18) 1, none, [5]⟩,
     ⟨some 7, .alloc [(.pv (.int .u64 0)), (.pv (.int .u64 0)), (.pv (.int .u64 0)), (.pv (.int .u64 0))], none, []⟩,
     ⟨none, .store 4 (.t 7) (.t 24), none, [8, 6, 4, 0, 1, 2, 3, 4, 5, 6, 8]⟩,
     ⟨some 8, .mv (.t 25), none, [7, 9, 0, 1, 2, 3, 4, 5, 6, 7, 8, 9]⟩])
    (.seq (.ops [
     ⟨some 9, .alloc [(.pv (.int .i64 0))], none, []⟩])
    (.seq (.ops [
     ⟨some 26, .mv (.t 8), none, []⟩,
     ⟨some 27, .mkI 3 (.t 9), none, []⟩,
     ⟨some 28, .call 266 [(.t 26), (.t 27)], none, [0, 1]⟩])
    (.cond (.t 28)
     (.seq (.ops [
       ⟨some 29, .mv (.t 5), none, []⟩,
       ⟨some 30, .load false 1 (.t 9), none, []⟩,
       ⟨some 31, .build [(.pv (.int .i64 0)), (.pv (.int .i64 0))] [(0, 1, (.t 29)), (1, 1, (.t 30))], none, [0, 1]⟩,
       ⟨some 32, .box (.t 31), none, [2]⟩,
       ⟨some 33, .mkI 1 (.t 32), none, [3]⟩,
       ⟨some 4, .mv (.t 33), none, [4, 0, 1, 2, 3, 4]⟩])
      .ret)
     .skip))))))
  (.ops [
   ⟨some 34, .bin .add none (.t 13) (.c (.pv (.int .i64 1))), none, []⟩,
   ⟨some 13, .mv (.t 34), none, [0]⟩]))))
/-- dunnage/room.Check -/
def f219 : AFunc := ⟨35, [.t 4],
 (.seq (.ops [
   ⟨some 2, .box (.t 0), none, []⟩,
   ⟨some 3, .box (.t 1), none, []⟩,
   ⟨some 4, .mv (.c (.pv .nili)), none, []⟩])
  (.seq (.seq (.ops [
   ⟨some 10, .fieldAddr 0 (.t 2), none, []⟩,
   ⟨some 11, .load false 1 (.t 10), none, [0]⟩,
   ⟨some 12, .len (.t 11), none, [1]⟩,
   ⟨some 13, .mv (.c (.pv (.int .i64 0))), none, []⟩])
  (.block 0
   (.loop f219l0)))
  (.seq (.ops [
   ⟨some 4, .mv (.c (.pv .nili)), none, []⟩])
  .ret)))⟩

/-- dunnage/room.Rest -/
def f220 : AFunc := ⟨54, [.cell 6 true 4, .t 7],
 (.seq (.ops [
   ⟨some 3, .box (.t 0), none, []⟩,
   ⟨some 4, .box (.t 1), none, []⟩,
   ⟨some 6, .alloc [(.pv (.int .u64 0)), (.pv (.int .u64 0)), (.pv (.int .u64 0)), (.pv (.int .u64 0))], none, []⟩,
   ⟨some 7, .mv (.c (.pv .nili)), none, []⟩])
  (.seq (.ops [
   ⟨some 14, .load true 3 (.t 3), none, []⟩,
   ⟨some 15, .mv (.t 2), none, []⟩,
   ⟨some 16, .call 82 [(.t 14), (.t 15)], none, [0, 1]⟩,
   ⟨some 13, .mv (.t 16), none, [2]⟩,
   ⟨some 17, .extract (.t 13) 0, none, [3]⟩,
   ⟨some 18, .extract (.t 13) 1, none, [3]⟩,
   ⟨some 8, .alloc [(.pv (.int .i64 0)), (.pv (.int .i64 0)), (.pv (.int .u64 0)), (.pv (.int .u64 0)), (.pv (.int .u64 0)), (.pv (.int .u64 0)), (.pv (.int .u64 0)), (.pv (.int .u64 0)), (.pv (.int .u64 0)), (.pv (.int .u64 0))], none, []⟩,
   ⟨none, .store 10 (.t 8) (.t 17), none, [6, 4, 2, 0, 1, 2, 3, 4, 6]⟩,
   ⟨some 9, .mv (.t 18), none, [5, 7, 0, 1, 2, 3, 4, 5, 6, 7]⟩])
  (.seq (.seq (.ops [
   ⟨some 19, .mv (.t 9), none, []⟩,
   ⟨some 20, .not (.t 19), none, [0]⟩])
  (.cond (.t 20)
   (.seq (.ops [
     ⟨some 21, .build [(.pv (.int .u64 0)), (.pv (.int .u64 0)), (.pv (.int .u64 0)), (.pv (.int .u64 0))] [], none, []⟩,
     ⟨some 22, .mkI 0 (.c (.pv (.int .i64 4))), none, []⟩,
     ⟨none, .store 4 (.t 6) (.t 21), none, [0, 0]⟩,
     ⟨some 7, .mv (.t 22), none, [1, 2, 0, 1, 2]⟩])
    .ret)
   .skip))
  (.seq (.ops [
   ⟨some 24, .load true 3 (.t 4), none, []⟩,
   ⟨some 25, .mv (.t 2), none, []⟩,
   ⟨some 26, .call 221 [(.t 24), (.t 25)], none, [0, 1]⟩,
   ⟨some 23, .mv (.t 26), none, [2]⟩,
   ⟨some 27, .extract (.t 23) 0, none, [3]⟩,
   ⟨some 28, .extract (.t 23) 1, none, [3]⟩,
   ⟨some 10, .alloc [(.pv (.int .u64 0)), (.pv (.int .u64 0)), (.pv (.int .u64 0)), (.pv (.int .u64 0))], none, []⟩,
   ⟨none, .store 4 (.t 10) (.t 27), none, [6, 4, 2, 0, 1, 2, 3, 4, 6]⟩,
   ⟨some 11, .mv (.t 28), none, [5, 7, 0, 1, 2, 3, 4, 5, 6, 7]⟩])
  (.seq (.seq (.ops [
   ⟨some 29, .mv (.t 11), none, []⟩,
   ⟨some 30, .bin .neq (some (.iface true)) (.t 29) (.c (.pv .nili)), none, [0]⟩])
  (.cond (.t 30)
   (.seq (.ops [
     ⟨some 31, .build [(.pv (.int .u64 0)), (.pv (.int .u64 0)), (.pv (.int .u64 0)), (.pv (.int .u64 0))] [], none, []⟩,
     ⟨some 32, .mv (.t 11), none, []⟩,
     ⟨none, .store 4 (.t 6) (.t 31), none, [0, 0]⟩,
     ⟨some 7, .mv (.t 32), none, [1, 2, 0, 1, 2]⟩])
    .ret)
   .skip))
  (.seq (.ops [
   ⟨some 34, .fieldAddr 2 (.t 8), none, []⟩,
   ⟨some 35, .load true 4 (.t 34), none, [0]⟩,
   ⟨some 36, .fieldAddr 6 (.t 8), none, []⟩,
   ⟨some 37, .load true 4 (.t 36), none, [2]⟩,
   ⟨some 38, .call 258 [(.t 35), (.t 37)], none, [1, 3]⟩,
   ⟨some 33, .mv (.t 38), none, [4]⟩,
   ⟨some 39, .extract (.t 33) 0, none, [5]⟩,
   ⟨some 40, .extract (.t 33) 1, none, [5]⟩,
   ⟨some 12, .alloc [(.pv (.int .u64 0)), (.pv (.int .u64 0)), (.pv (.int .u64 0)), (.pv (.int .u64 0))], none, []⟩,
   ⟨none, .store 4 (.t 12) (.t 39), none, [8, 6, 4, 0, 1, 2, 3, 4, 5, 6, 8]⟩,
   ⟨some 11, .mv (.t 40), none, [7, 9, 0, 1, 2, 3, 4, 5, 6, 7, 8, 9]⟩])
  (.seq (.seq (.ops [
   ⟨some 41, .mv (.t 11), none, []⟩,
   ⟨some 42, .bin .eql (some (.iface true)) (.t 41) (.c (.pv .nili)), none, [0]⟩])
  (.cond (.t 42)
   (.ops [
     ⟨some 44, .load true 4 (.t 12), none, []⟩,
     ⟨some 45, .load true 4 (.t 10), none, []⟩,
     ⟨some 46, .call 258 [(.t 44), (.t 45)], none, [0, 1]⟩,
     ⟨some 43, .mv (.t 46), none, [2]⟩,
     ⟨some 47, .extract (.t 43) 0, none, [3]⟩,
     ⟨some 48, .extract (.t 43) 1, none, [3]⟩,
     ⟨none, .store 4 (.t 12) (.t 47), none, [4, 2, 0, 1, 2, 3, 4]⟩,
     ⟨some 11, .mv (.t 48), none, [5, 6, 0, 1, 2, 3, 4, 5, 6]⟩])
   .skip))
  (.seq (.seq (.ops [
   ⟨some 49, .mv (.t 11), none, []⟩,
   ⟨some 50, .bin .neq (some (.iface true)) (.t 49) (.c (.pv .nili)), none, [0]⟩])
  (.cond (.t 50)
   (.seq (.ops [
     ⟨some 51, .build [(.pv (.int .u64 0)), (.pv (.int .u64 0)), (.pv (.int .u64 0)), (.pv (.int .u64 0))] [], none, []⟩,
     ⟨some 52, .mkI 0 (.c (.pv (.int .i64 9))), none, []⟩,
     ⟨none, .store 4 (.t 6) (.t 51), none, [0, 0]⟩,
     ⟨some 7, .mv (.t 52), none, [1, 2, 0, 1, 2]⟩])
    .ret)
   .skip))
  (.seq (.ops [
   ⟨some 53, .load true 4 (.t 12), none, []⟩,
   ⟨none, .store 4 (.t 6) (.t 53), none, [0, 0]⟩,
   ⟨some 7, .mv (.c (.pv .nili)), none, [1, 0, 1]⟩])
  .ret)))))))))⟩

def f221l0 : ACode :=
 (.seq (.ops [
   ⟨some 13, .bin .lss none (.t 12) (.t 11), none, []⟩])
  (.seq (.cond (.t 13)
   .skip
   (.exit 0))
  (.seq (.block 1
   (.seq (.ops [
     ⟨some 14, .idxAddr 8 (.t 10) (.t 12), none, []⟩,
     ⟨some 15, .load true 8 (.t 14), none, [0]⟩,
     ⟨some 8, .alloc [(.pv (.int .i64 0)), (.pv (.int .i64 0)), (.pv (.int .i64 0)), (.pv (.int .u64 0)), (.pv (.int .u64 0)), (.pv (.int .u64 0)), (.pv (.int .u64 0)), (.pv (.int .i64 0))], none, []⟩,
     ⟨none, .store 8 (.t 8) (.t 15), none, [2, 1, 0, 1, 2]⟩])
    (.seq (.ops [
     ⟨some 16, .fieldAddr 7 (.t 8), none, []⟩,
     ⟨some 17, .load false 1 (.t 16), none, [0]⟩,
     ⟨some 18, .mv (.t 1), none, []⟩,
     ⟨some 19, .bin .eql none (.t 17) (.t 18), none, [1, 2]⟩])
    (.cond (.t 19)
     (.ops [
       ⟨some 20, .mv (.t 6), none, []⟩,
       ⟨some 21, .fieldAddr 3 (.t 8), none, []⟩,
       ⟨some 22, .load true 4 (.t 21), none, [1]⟩,
       ⟨some 23, .bslice 4 1 [(.pv (.int .u64 0)), (.pv (.int .u64 0)), (.pv (.int .u64 0)), (.pv (.int .u64 0))] [(0, 4, (.t 22))], none, [2]⟩,
       ⟨some 24, .append 4 32 (.t 20) (.t 23), none, [0, 3]⟩,
       ⟨some 6, .mv (.t 24), none, [4, 4, 0, 1, 2, 3, 4]⟩])
     .skip))))
  (.ops [
   ⟨some 25, .bin .add none (.t 12) (.c (.pv (.int .i64 1))), none, []⟩,
   ⟨some 12, .mv (.t 25), none, [0]⟩]))))
/-- dunnage/room.Use -/
def f221 : AFunc := ⟨30, [.cell 4 true 4, .t 5],
 (.seq (.ops [
   ⟨some 2, .box (.t 0), none, []⟩,
   ⟨some 4, .alloc [(.pv (.int .u64 0)), (.pv (.int .u64 0)), (.pv (.int .u64 0)), (.pv (.int .u64 0))], none, []⟩,
   ⟨some 5, .mv (.c (.pv .nili)), none, []⟩])
  (.seq (.ops [
   ⟨some 6, .mv (.c .nils), none, []⟩])
  (.seq (.seq (.ops [
   ⟨some 9, .fieldAddr 0 (.t 2), none, []⟩,
   ⟨some 10, .load false 1 (.t 9), none, [0]⟩,
   ⟨some 11, .len (.t 10), none, [1]⟩,
   ⟨some 12, .mv (.c (.pv (.int .i64 0))), none, []⟩])
  (.block 0
   (.loop f221l0)))
  (.seq (.ops [
   ⟨some 26, .mv (.t 6), none, []⟩,
   ⟨some 27, .call 260 [(.t 26)], none, [0]⟩,
   ⟨some 28, .extract (.t 27) 0, none, [1]⟩,
   ⟨some 29, .extract (.t 27) 1, none, [1]⟩,
   ⟨none, .store 4 (.t 4) (.t 28), none, [2, 1, 0, 1, 2, 3]⟩,
   ⟨some 5, .mv (.t 29), none, [3, 4, 0, 1, 2, 3, 4]⟩])
  .ret))))⟩

/-- dunnage/vec.Add -/
def f255 : AFunc := ⟨11, [.cell 4 true 4, .t 5],
 (.seq (.ops [
   ⟨some 2, .box (.t 0), none, []⟩,
   ⟨some 3, .box (.t 1), none, []⟩,
   ⟨some 4, .alloc [(.pv (.int .u64 0)), (.pv (.int .u64 0)), (.pv (.int .u64 0)), (.pv (.int .u64 0))], none, []⟩,
   ⟨some 5, .mv (.c (.pv .nili)), none, []⟩])
  (.seq (.ops [
   ⟨some 6, .load true 4 (.t 2), none, []⟩,
   ⟨some 7, .load true 4 (.t 3), none, []⟩,
   ⟨some 8, .call 261 [(.t 6), (.t 7), (.f 256)], none, [0, 1]⟩,
   ⟨some 9, .extract (.t 8) 0, none, [2]⟩,
   ⟨some 10, .extract (.t 8) 1, none, [2]⟩,
   ⟨none, .store 4 (.t 4) (.t 9), none, [3, 2, 0, 1, 2, 3, 4]⟩,
   ⟨some 5, .mv (.t 10), none, [4, 5, 0, 1, 2, 3, 4, 5]⟩])
  .ret))⟩

/-- dunnage/vec.Add$1 -/
def f256 : AFunc := ⟨17, [.t 4, .t 5],
 (.seq (.ops [
   ⟨some 4, .mv (.c (.pv (.int .u64 0))), none, []⟩,
   ⟨some 5, .mv (.c (.pv (.bool false))), none, [0]⟩])
  (.seq (.ops [
   ⟨some 9, .mv (.t 0), none, []⟩,
   ⟨some 10, .mv (.t 1), none, []⟩,
   ⟨some 11, .call 270 [(.t 9), (.t 10), (.c (.pv (.int .u64 0)))], none, [0, 1]⟩,
   ⟨some 8, .mv (.t 11), none, [2]⟩,
   ⟨some 12, .extract (.t 8) 0, none, [3]⟩,
   ⟨some 13, .extract (.t 8) 1, none, [3]⟩,
   ⟨some 6, .mv (.t 12), none, [4, 2, 0, 1, 2, 3, 4]⟩,
   ⟨some 7, .mv (.t 13), none, [5, 6, 0, 1, 2, 3, 4, 5, 6]⟩])
  (.seq (.ops [
   ⟨some 14, .mv (.t 6), none, []⟩,
   ⟨some 15, .mv (.t 7), none, []⟩,
   ⟨some 16, .bin .eql none (.t 15) (.c (.pv (.int .u64 0))), none, [1]⟩,
   ⟨some 4, .mv (.t 14), none, [0, 0]⟩,
   ⟨some 5, .mv (.t 16), none, [2, 3, 0, 1, 2, 3]⟩])
  .ret)))⟩

/-- dunnage/vec.Sub -/
def f258 : AFunc := ⟨11, [.cell 4 true 4, .t 5],
 (.seq (.ops [
   ⟨some 2, .box (.t 0), none, []⟩,
   ⟨some 3, .box (.t 1), none, []⟩,
   ⟨some 4, .alloc [(.pv (.int .u64 0)), (.pv (.int .u64 0)), (.pv (.int .u64 0)), (.pv (.int .u64 0))], none, []⟩,
   ⟨some 5, .mv (.c (.pv .nili)), none, []⟩])
  (.seq (.ops [
   ⟨some 6, .load true 4 (.t 2), none, []⟩,
   ⟨some 7, .load true 4 (.t 3), none, []⟩,
   ⟨some 8, .call 261 [(.t 6), (.t 7), (.f 259)], none, [0, 1]⟩,
   ⟨some 9, .extract (.t 8) 0, none, [2]⟩,
   ⟨some 10, .extract (.t 8) 1, none, [2]⟩,
   ⟨none, .store 4 (.t 4) (.t 9), none, [3, 2, 0, 1, 2, 3, 4]⟩,
   ⟨some 5, .mv (.t 10), none, [4, 5, 0, 1, 2, 3, 4, 5]⟩])
  .ret))⟩

/-- dunnage/vec.Sub$1 -/
def f259 : AFunc := ⟨12, [.t 4, .t 5],
 (.seq (.ops [
   ⟨some 4, .mv (.c (.pv (.int .u64 0))), none, []⟩,
   ⟨some 5, .mv (.c (.pv (.bool false))), none, [0]⟩])
  (.seq (.ops [
   ⟨some 6, .mv (.t 0), none, []⟩,
   ⟨some 7, .mv (.t 1), none, []⟩,
   ⟨some 8, .bin .sub none (.t 6) (.t 7), none, [0, 1]⟩,
   ⟨some 9, .mv (.t 0), none, []⟩,
   ⟨some 10, .mv (.t 1), none, []⟩,
   ⟨some 11, .bin .geq none (.t 9) (.t 10), none, [3, 4]⟩,
   ⟨some 4, .mv (.t 8), none, [2, 0, 1, 2]⟩,
   ⟨some 5, .mv (.t 11), none, [5, 6, 0, 1, 2, 3, 4, 5, 6]⟩])
  .ret))⟩

def f260l0 : ACode :=
 (.seq (.ops [
   ⟨some 12, .bin .lss none (.t 11) (.t 10), none, []⟩])
  (.seq (.cond (.t 12)
   .skip
   (.exit 0))
  (.seq (.block 1
   (.seq (.ops [
     ⟨some 13, .idxAddr 4 (.t 9) (.t 11), none, []⟩,
     ⟨some 14, .load true 4 (.t 13), none, [0]⟩,
     ⟨some 6, .alloc [(.pv (.int .u64 0)), (.pv (.int .u64 0)), (.pv (.int .u64 0)), (.pv (.int .u64 0))], none, []⟩,
     ⟨none, .store 4 (.t 6) (.t 14), none, [2, 1, 0, 1, 2]⟩])
    (.seq (.ops [
     ⟨some 16, .load true 4 (.t 4), none, []⟩,
     ⟨some 17, .load true 4 (.t 6), none, []⟩,
     ⟨some 18, .call 255 [(.t 16), (.t 17)], none, [0, 1]⟩,
     ⟨some 15, .mv (.t 18), none, [2]⟩,
     ⟨some 19, .extract (.t 15) 0, none, [3]⟩,
     ⟨some 20, .extract (.t 15) 1, none, [3]⟩,
     ⟨some 7, .alloc [(.pv (.int .u64 0)), (.pv (.int .u64 0)), (.pv (.int .u64 0)), (.pv (.int .u64 0))], none, []⟩,
     ⟨none, .store 4 (.t 7) (.t 19), none, [6, 4, 2, 0, 1, 2, 3, 4, 6]⟩,
     ⟨some 8, .mv (.t 20), none, [5, 7, 0, 1, 2, 3, 4, 5, 6, 7]⟩])
    (.seq (.seq (.ops [
     ⟨some 21, .mv (.t 8), none, []⟩,
     ⟨some 22, .bin .neq (some (.iface true)) (.t 21) (.c (.pv .nili)), none, [0]⟩])
    (.cond (.t 22)
     (.seq (.ops [
       ⟨some 23, .build [(.pv (.int .u64 0)), (.pv (.int .u64 0)), (.pv (.int .u64 0)), (.pv (.int .u64 0))] [], none, []⟩,
       ⟨some 24, .mv (.t 8), none, []⟩,
       ⟨none, .store 4 (.t 2) (.t 23), none, [0, 0]⟩,
       ⟨some 3, .mv (.t 24), none, [1, 2, 0, 1, 2]⟩])
      .ret)
     .skip))
    (.ops [
     ⟨some 25, .load true 4 (.t 7), none, []⟩,
     ⟨none, .store 4 (.t 4) (.t 25), none, [0, 0]⟩])))))
  (.ops [
   ⟨some 26, .bin .add none (.t 11) (.c (.pv (.int .i64 1))), none, []⟩,
   ⟨some 11, .mv (.t 26), none, [0]⟩]))))
/-- dunnage/vec.Sum -/
def f260 : AFunc := ⟨28, [.cell 2 true 4, .t 3],
 (.seq (.ops [
   ⟨some 2, .alloc [(.pv (.int .u64 0)), (.pv (.int .u64 0)), (.pv (.int .u64 0)), (.pv (.int .u64 0))], none, []⟩,
   ⟨some 3, .mv (.c (.pv .nili)), none, []⟩])
  (.seq (.ops [
   ⟨some 4, .alloc [(.pv (.int .u64 0)), (.pv (.int .u64 0)), (.pv (.int .u64 0)), (.pv (.int .u64 0))], none, []⟩])
  (.seq (.seq (.ops [
   ⟨some 9, .mv (.t 0), none, []⟩,
   ⟨some 10, .len (.t 9), none, [0]⟩,
   ⟨some 11, .mv (.c (.pv (.int .i64 0))), none, []⟩])
  (.block 0
   (.loop f260l0)))
  (.seq (.ops [
   ⟨some 27, .load true 4 (.t 4), none, []⟩,
   ⟨none, .store 4 (.t 2) (.t 27), none, [0, 0]⟩,
   ⟨some 3, .mv (.c (.pv .nili)), none, [1, 0, 1]⟩])
  .ret))))⟩

def f261l0 : ACode :=
 (.seq (.ops [
   ⟨some 13, .bin .lss none (.t 12) (.c (.pv (.int .i64 4))), none, []⟩])
  (.seq (.cond (.t 13)
   .skip
   (.exit 0))
  (.seq (.block 1
   (.seq (.ops [
     ⟨some 14, .mv (.t 12), none, []⟩,
     ⟨some 9, .mv (.t 14), none, [0, 0]⟩])
    (.seq (.draw [
     ⟨some 16, .mv (.t 2), none, []⟩,
     ⟨some 17, .mv (.t 9), none, []⟩,
     ⟨some 18, .idxArr 4 1 (.t 3) (.t 17), none, [1]⟩,
     ⟨some 19, .load false 1 (.t 18), none, [2]⟩,
     ⟨some 20, .mv (.t 9), none, []⟩,
     ⟨some 21, .idxArr 4 1 (.t 4) (.t 20), none, [4]⟩,
     ⟨some 22, .load false 1 (.t 21), none, [5]⟩,
     ⟨some 23, .callv (.t 16) [(.t 19), (.t 22)], none, [0, 3, 6]⟩,
     ⟨some 15, .mv (.t 23), none, [7]⟩,
     ⟨some 24, .extract (.t 15) 0, none, [8]⟩,
     ⟨some 25, .extract (.t 15) 1, none, [8]⟩,
     ⟨some 10, .mv (.t 24), none, [9, 7, 0, 1, 2, 3, 4, 5, 6, 7, 8, 9]⟩,
     ⟨some 11, .mv (.t 25), none, [10, 11, 0, 1, 2, 3, 4, 5, 6, 7, 8, 9, 10, 11]⟩])
    (.seq (.seq (.ops [
     ⟨some 26, .mv (.t 11), none, []⟩,
     ⟨some 27, .not (.t 26), none, [0]⟩])
    (.cond (.t 27)
     (.seq (.ops [
       ⟨some 28, .build [(.pv (.int .u64 0)), (.pv (.int .u64 0)), (.pv (.int .u64 0)), (.pv (.int .u64 0))] [], none, []⟩,
       ⟨some 29, .mkI 0 (.c (.pv (.int .i64 8))), none, []⟩,
       ⟨none, .store 4 (.t 6) (.t 28), none, [0, 0]⟩,
       ⟨some 7, .mv (.t 29), none, [1, 2, 0, 1, 2]⟩])
      .ret)
     .skip))
    (.ops [
     ⟨some 30, .mv (.t 9), none, []⟩,
     ⟨some 31, .mv (.t 10), none, []⟩,
     ⟨some 32, .idxArr 4 1 (.t 8) (.t 30), none, [0, 0, 1]⟩,
     ⟨none, .store 1 (.t 32) (.t 31), none, [2, 1, 0, 1]⟩])))))
  (.ops [
   ⟨some 33, .bin .add none (.t 12) (.c (.pv (.int .i64 1))), none, []⟩,
   ⟨some 12, .mv (.t 33), none, [0]⟩]))))
/-- dunnage/vec.each -/
def f261 : AFunc := ⟨35, [.cell 6 true 4, .t 7],
 (.seq (.ops [
   ⟨some 3, .box (.t 0), none, []⟩,
   ⟨some 4, .box (.t 1), none, []⟩,
   ⟨some 6, .alloc [(.pv (.int .u64 0)), (.pv (.int .u64 0)), (.pv (.int .u64 0)), (.pv (.int .u64 0))], none, []⟩,
   ⟨some 7, .mv (.c (.pv .nili)), none, []⟩])
  (.seq (.ops [
   ⟨some 8, .alloc [(.pv (.int .u64 0)), (.pv (.int .u64 0)), (.pv (.int .u64 0)), (.pv (.int .u64 0))], none, []⟩])
  (.seq (.seq (.ops [
   ⟨some 12, .mv (.c (.pv (.int .i64 0))), none, []⟩])
  (.block 0
   (.loop f261l0)))
  (.seq (.ops [
   ⟨some 34, .load true 4 (.t 8), none, []⟩,
   ⟨none, .store 4 (.t 6) (.t 34), none, [0, 0]⟩,
   ⟨some 7, .mv (.c (.pv .nili)), none, [1, 0, 1]⟩])
  .ret))))⟩

/-- dunnage/dunnagelaw07.ApartLess -/
def f318 : AFunc := ⟨64, [.t 6],
 (.seq (.ops [
   ⟨some 3, .box (.t 0), none, []⟩,
   ⟨some 4, .box (.t 1), none, []⟩,
   ⟨some 6, .mv (.c (.pv (.bool false))), none, []⟩])
  (.seq (.ops [
   ⟨some 10, .call 324 [], none, []⟩,
   ⟨some 7, .mv (.t 10), none, [0, 0, 0]⟩])
  (.seq (.ops [
   ⟨some 11, .load true 3 (.t 3), none, []⟩,
   ⟨some 12, .build [.nils, (.pv (.int .i64 0)), (.pv (.int .i64 0))] [], none, []⟩,
   ⟨some 13, .load true 3 (.t 4), none, []⟩,
   ⟨some 14, .call 163 [(.t 11), (.t 12), (.t 13)], none, [0, 1, 2]⟩,
   ⟨some 8, .mv (.t 14), none, [3, 3, 0, 1, 2, 3]⟩])
  (.seq (.seq (.ops [
   ⟨some 15, .mv (.t 8), none, []⟩,
   ⟨some 16, .not (.t 15), none, [0]⟩,
   ⟨some 17, .mv (.t 16), none, [1]⟩,
   ⟨some 18, .mv (.t 2), some (17, false), [2]⟩,
   ⟨some 19, .bin .lss none (.t 18) (.c (.pv (.int .i64 0))), some (17, false), [3, 2]⟩,
   ⟨some 20, .pick (.t 17) (.c (.pv (.bool true))) (.t 19), none, [2, 4]⟩,
   ⟨some 21, .mv (.t 20), none, [5, 2]⟩,
   ⟨some 22, .mv (.t 2), some (21, false), [6]⟩,
   ⟨some 23, .fieldAddr 0 (.t 4), some (21, false), [6]⟩,
   ⟨some 24, .load false 1 (.t 23), some (21, false), [8, 6]⟩,
   ⟨some 25, .len (.t 24), some (21, false), [9, 6]⟩,
   ⟨some 26, .bin .geq none (.t 22) (.t 25), some (21, false), [7, 10, 6]⟩,
   ⟨some 27, .pick (.t 21) (.c (.pv (.bool true))) (.t 26), none, [6, 11]⟩])
  (.cond (.t 27)
   (.seq (.ops [
     ⟨some 28, .mv (.t 7), none, []⟩,
     ⟨some 6, .mv (.t 28), none, [0, 0]⟩])
    .ret)
   .skip))
  (.seq (.seq (.ops [
   ⟨some 29, .load true 3 (.t 3), none, []⟩,
   ⟨some 30, .load true 3 (.t 4), none, []⟩,
   ⟨some 31, .call 68 [(.t 29), (.t 30)], none, [0, 1]⟩,
   ⟨some 32, .bin .neq (some (.iface true)) (.t 31) (.c (.pv .nili)), none, [2]⟩])
  (.cond (.t 32)
   (.seq (.ops [
     ⟨some 33, .mv (.t 7), none, []⟩,
     ⟨some 6, .mv (.t 33), none, [0, 0]⟩])
    .ret)
   .skip))
  (.seq (.draw [
   ⟨some 34, .bslice 8 0 [] [], none, []⟩,
   ⟨some 35, .fieldAddr 0 (.t 4), none, []⟩,
   ⟨some 36, .load false 1 (.t 35), none, [1]⟩,
   ⟨some 37, .mv (.t 2), none, []⟩,
   ⟨some 38, .slice 8 (.t 36) none (some (.t 37)), none, [2, 3]⟩,
   ⟨some 39, .append 8 64 (.t 34) (.t 38), none, [0, 4]⟩,
   ⟨some 40, .fieldAddr 0 (.t 4), none, []⟩,
   ⟨some 41, .load false 1 (.t 40), none, [6]⟩,
   ⟨some 42, .mv (.t 2), none, []⟩,
   ⟨some 43, .bin .add none (.t 42) (.c (.pv (.int .i64 1))), none, [8]⟩,
   ⟨some 44, .slice 8 (.t 41) (some (.t 43)) none, none, [7, 9]⟩,
   ⟨some 45, .append 8 64 (.t 39) (.t 44), none, [5, 10, 5]⟩,
   ⟨some 46, .build [.nils, (.pv (.int .i64 0)), (.pv (.int .i64 0))] [(0, 1, (.t 45))], none, [11]⟩,
   ⟨some 9, .alloc [.nils, (.pv (.int .i64 0)), (.pv (.int .i64 0))], none, []⟩,
   ⟨none, .store 3 (.t 9) (.t 46), none, [13, 12, 11, 0, 1, 2, 3, 4, 5, 6, 7, 8, 9, 10, 11, 12, 13]⟩])
  (.seq (.draw [
   ⟨some 47, .mv (.t 7), none, []⟩,
   ⟨some 48, .mv (.t 47), none, [0]⟩,
   ⟨some 49, .load true 3 (.t 3), some (48, true), [1]⟩,
   ⟨some 50, .load true 3 (.t 9), some (48, true), [1]⟩,
   ⟨some 51, .call 68 [(.t 49), (.t 50)], some (48, true), [2, 3, 1, 1]⟩,
   ⟨some 52, .bin .eql (some (.iface true)) (.t 51) (.c (.pv .nili)), some (48, true), [4, 1]⟩,
   ⟨some 53, .pick (.t 48) (.t 52) (.c (.pv (.bool false))), none, [1, 5]⟩,
   ⟨some 54, .mv (.t 53), none, [6, 4]⟩,
   ⟨some 55, .load true 3 (.t 3), some (54, true), [7]⟩,
   ⟨some 56, .fieldAddr 0 (.t 4), some (54, true), [7]⟩,
   ⟨some 57, .load false 1 (.t 56), some (54, true), [9, 7]⟩,
   ⟨some 58, .mv (.t 2), some (54, true), [7]⟩,
   ⟨some 59, .slice 8 (.t 57) none (some (.t 58)), some (54, true), [10, 11, 7]⟩,
   ⟨some 60, .build [.nils, (.pv (.int .i64 0)), (.pv (.int .i64 0))] [(0, 1, (.t 59))], some (54, true), [12, 7]⟩,
   ⟨some 61, .call 68 [(.t 55), (.t 60)], some (54, true), [8, 13, 7, 7]⟩,
   ⟨some 62, .bin .eql (some (.iface true)) (.t 61) (.c (.pv .nili)), some (54, true), [14, 7]⟩,
   ⟨some 63, .pick (.t 54) (.t 62) (.c (.pv (.bool false))), none, [7, 15]⟩,
   ⟨some 6, .mv (.t 63), none, [16, 14, 0, 1, 2, 3, 4, 5, 6, 7, 8, 9, 10, 11, 12, 13, 14, 15, 16]⟩])
  .ret)))))))⟩

def f319l0 : ACode :=
 (.seq (.seq (.ops [
   ⟨some 19, .mv (.t 8), none, []⟩,
   ⟨some 20, .fieldAddr 0 (.t 3), none, []⟩,
   ⟨some 21, .load false 1 (.t 20), none, [1]⟩,
   ⟨some 22, .len (.t 21), none, [2]⟩,
   ⟨some 23, .bin .lss none (.t 19) (.t 22), none, [0, 3]⟩])
  (.cond (.t 23)
   .skip
   (.exit 0)))
  (.seq (.block 1
   (.seq (.draw [
     ⟨some 26, .mv (.t 8), none, []⟩,
     ⟨some 27, .bin .gtr none (.t 26) (.c (.pv (.int .i64 0))), none, [0]⟩,
     ⟨some 28, .mv (.t 27), none, [1]⟩,
     ⟨some 29, .fieldAddr 0 (.t 3), some (28, true), [2]⟩,
     ⟨some 30, .load false 1 (.t 29), some (28, true), [3, 2]⟩,
     ⟨some 31, .mv (.t 8), some (28, true), [2]⟩,
     ⟨some 32, .idxAddr 8 (.t 30) (.t 31), some (28, true), [4, 5, 2]⟩,
     ⟨some 33, .fieldAddr 0 (.t 32), some (28, true), [6, 2]⟩,
     ⟨some 34, .load false 1 (.t 33), some (28, true), [7, 2]⟩,
     ⟨some 35, .fieldAddr 0 (.t 3), some (28, true), [2]⟩,
     ⟨some 36, .load false 1 (.t 35), some (28, true), [9, 2]⟩,
     ⟨some 37, .mv (.t 8), some (28, true), [2]⟩,
     ⟨some 38, .bin .sub none (.t 37) (.c (.pv (.int .i64 1))), some (28, true), [11, 2]⟩,
     ⟨some 39, .idxAddr 8 (.t 36) (.t 38), some (28, true), [10, 12, 2]⟩,
     ⟨some 40, .fieldAddr 0 (.t 39), some (28, true), [13, 2]⟩,
     ⟨some 41, .load false 1 (.t 40), some (28, true), [14, 2]⟩,
     ⟨some 42, .bin .leq none (.t 34) (.t 41), some (28, true), [8, 15, 2]⟩,
     ⟨some 43, .pick (.t 28) (.t 42) (.c (.pv (.bool false))), none, [2, 16]⟩,
     ⟨some 44, .mv (.t 43), none, [17, 2]⟩,
     ⟨some 45, .fieldAddr 0 (.t 3), some (44, false), [18]⟩,
     ⟨some 46, .load false 1 (.t 45), some (44, false), [19, 18]⟩,
     ⟨some 47, .mv (.t 8), some (44, false), [18]⟩,
     ⟨some 48, .idxAddr 8 (.t 46) (.t 47), some (44, false), [20, 21, 18]⟩,
     ⟨some 49, .fieldAddr 0 (.t 48), some (44, false), [22, 18]⟩,
     ⟨some 50, .load false 1 (.t 49), some (44, false), [23, 18]⟩,
     ⟨some 51, .bin .lss none (.t 50) (.c (.pv (.int .i64 1))), some (44, false), [24, 18]⟩,
     ⟨some 52, .pick (.t 44) (.c (.pv (.bool true))) (.t 51), none, [18, 25]⟩])
    (.cond (.t 52)
     (.seq (.ops [
       ⟨some 53, .mv (.t 5), none, []⟩,
       ⟨some 4, .mv (.t 53), none, [0, 0]⟩])
      .ret)
     .skip)))
  (.ops [
   ⟨some 24, .mv (.t 8), none, []⟩,
   ⟨some 25, .bin .add none (.t 24) (.c (.pv (.int .i64 1))), none, [0]⟩,
   ⟨some 8, .mv (.t 25), none, [1, 0, 1]⟩])))
def f319l1 : ACode :=
 (.seq (.seq (.ops [
   ⟨some 54, .mv (.t 9), none, []⟩,
   ⟨some 55, .fieldAddr 0 (.t 3), none, []⟩,
   ⟨some 56, .load false 1 (.t 55), none, [1]⟩,
   ⟨some 57, .len (.t 56), none, [2]⟩,
   ⟨some 58, .bin .lss none (.t 54) (.t 57), none, [0, 3]⟩])
  (.cond (.t 58)
   .skip
   (.exit 2)))
  (.seq (.block 3
   (.seq (.draw [
     ⟨some 61, .load true 3 (.t 2), none, []⟩,
     ⟨some 62, .load true 3 (.t 3), none, []⟩,
     ⟨some 63, .fieldAddr 0 (.t 3), none, []⟩,
     ⟨some 64, .load false 1 (.t 63), none, [2]⟩,
     ⟨some 65, .mv (.t 9), none, []⟩,
     ⟨some 66, .idxAddr 8 (.t 64) (.t 65), none, [3, 4]⟩,
     ⟨some 67, .fieldAddr 0 (.t 66), none, [5]⟩,
     ⟨some 68, .load false 1 (.t 67), none, [6]⟩,
     ⟨some 69, .call 325 [(.t 61), (.t 62), (.t 68)], none, [0, 1, 7]⟩,
     ⟨some 10, .mv (.t 69), none, [8, 8, 0, 1, 2, 3, 4, 5, 6, 7, 8]⟩])
    (.seq (.seq (.ops [
     ⟨some 70, .mv (.t 10), none, []⟩,
     ⟨some 71, .bin .neq none (.t 70) (.c (.pv (.int .i64 0))), none, [0]⟩,
     ⟨some 72, .mv (.t 71), none, [1]⟩,
     ⟨some 73, .mv (.t 10), some (72, true), [2]⟩,
     ⟨some 74, .fieldAddr 0 (.t 3), some (72, true), [2]⟩,
     ⟨some 75, .load false 1 (.t 74), some (72, true), [4, 2]⟩,
     ⟨some 76, .mv (.t 9), some (72, true), [2]⟩,
     ⟨some 77, .idxAddr 8 (.t 75) (.t 76), some (72, true), [5, 6, 2]⟩,
     ⟨some 78, .fieldAddr 0 (.t 77), some (72, true), [7, 2]⟩,
     ⟨some 79, .load false 1 (.t 78), some (72, true), [8, 2]⟩,
     ⟨some 80, .bin .eql none (.t 73) (.t 79), some (72, true), [3, 9, 2]⟩,
     ⟨some 81, .mv (.t 80), some (72, true), [10, 2, 2]⟩,
     ⟨some 82, .load true 3 (.t 2), some (81, false), [11]⟩,
     ⟨some 83, .load true 3 (.t 3), some (81, false), [11]⟩,
     ⟨some 84, .mv (.t 10), some (81, false), [11]⟩,
     ⟨some 85, .call 325 [(.t 82), (.t 83), (.t 84)], some (81, false), [12, 13, 14, 11, 11]⟩,
     ⟨some 86, .bin .eql none (.t 85) (.c (.pv (.int .i64 0))), some (81, false), [15, 11]⟩,
     ⟨some 87, .pick (.t 81) (.c (.pv (.bool true))) (.t 86), some (72, true), [11, 16, 2]⟩,
     ⟨some 88, .pick (.t 72) (.t 87) (.c (.pv (.bool false))), none, [2, 17]⟩])
    (.cond (.t 88)
     (.seq (.ops [
       ⟨some 4, .mv (.c (.pv (.bool false))), none, []⟩])
      .ret)
     .skip))
    (.ops [
     ⟨some 89, .mv (.t 7), none, []⟩,
     ⟨some 90, .mv (.t 89), none, [0]⟩,
     ⟨some 91, .mv (.t 10), some (90, false), [1]⟩,
     ⟨some 92, .bin .neq none (.t 91) (.c (.pv (.int .i64 0))), some (90, false), [2, 1]⟩,
     ⟨some 93, .pick (.t 90) (.c (.pv (.bool true))) (.t 92), none, [1, 3]⟩,
     ⟨some 7, .mv (.t 93), none, [4, 1, 0, 1, 2, 3, 4]⟩]))))
  (.ops [
   ⟨some 59, .mv (.t 9), none, []⟩,
   ⟨some 60, .bin .add none (.t 59) (.c (.pv (.int .i64 1))), none, [0]⟩,
   ⟨some 9, .mv (.t 60), none, [1, 0, 1]⟩])))
/-- dunnage/dunnagelaw07.ApartBoth -/
def f319 : AFunc := ⟨103, [.t 4],
 (.seq (.ops [
   ⟨some 2, .box (.t 0), none, []⟩,
   ⟨some 3, .box (.t 1), none, []⟩,
   ⟨some 4, .mv (.c (.pv (.bool false))), none, []⟩])
  (.seq (.ops [
   ⟨some 11, .call 324 [], none, []⟩,
   ⟨some 5, .mv (.t 11), none, [0, 0, 0]⟩])
  (.seq (.ops [
   ⟨some 12, .load true 3 (.t 2), none, []⟩,
   ⟨some 13, .build [.nils, (.pv (.int .i64 0)), (.pv (.int .i64 0))] [], none, []⟩,
   ⟨some 14, .load true 3 (.t 3), none, []⟩,
   ⟨some 15, .call 163 [(.t 12), (.t 13), (.t 14)], none, [0, 1, 2]⟩,
   ⟨some 6, .mv (.t 15), none, [3, 3, 0, 1, 2, 3]⟩])
  (.seq (.seq (.ops [
   ⟨some 16, .mv (.t 6), none, []⟩,
   ⟨some 17, .not (.t 16), none, [0]⟩])
  (.cond (.t 17)
   (.seq (.ops [
     ⟨some 18, .mv (.t 5), none, []⟩,
     ⟨some 4, .mv (.t 18), none, [0, 0]⟩])
    .ret)
   .skip))
  (.seq (.ops [
   ⟨some 7, .mv (.c (.pv (.bool false))), none, []⟩])
  (.seq (.seq (.ops [
   ⟨some 8, .mv (.c (.pv (.int .i64 0))), none, []⟩])
  (.block 0
   (.loop f319l0)))
  (.seq (.seq (.ops [
   ⟨some 9, .mv (.c (.pv (.int .i64 0))), none, []⟩])
  (.block 2
   (.loop f319l1)))
  (.seq (.ops [
   ⟨some 94, .mv (.t 5), none, []⟩,
   ⟨some 95, .mv (.t 94), none, [0]⟩,
   ⟨some 96, .mv (.t 7), some (95, true), [1]⟩,
   ⟨some 97, .load true 3 (.t 2), some (95, true), [1]⟩,
   ⟨some 98, .load true 3 (.t 3), some (95, true), [1]⟩,
   ⟨some 99, .call 68 [(.t 97), (.t 98)], some (95, true), [3, 4, 1, 1]⟩,
   ⟨some 100, .bin .neq (some (.iface true)) (.t 99) (.c (.pv .nili)), some (95, true), [5, 1]⟩,
   ⟨some 101, .bin .eql (some .bool) (.t 96) (.t 100), some (95, true), [2, 6, 1]⟩,
   ⟨some 102, .pick (.t 95) (.t 101) (.c (.pv (.bool false))), none, [1, 7]⟩,
   ⟨some 4, .mv (.t 102), none, [8, 5, 0, 1, 2, 3, 4, 5, 6, 7, 8]⟩])
  .ret))))))))⟩

/-- dunnage/dunnagelaw06.RoomTells -/
def f320 : AFunc := ⟨98, [.t 6],
 (.seq (.ops [
   ⟨some 3, .box (.t 0), none, []⟩,
   ⟨some 4, .box (.t 1), none, []⟩,
   ⟨some 6, .mv (.c (.pv (.bool false))), none, []⟩])
  (.seq (.ops [
   ⟨some 19, .call 326 [], none, []⟩,
   ⟨some 7, .mv (.t 19), none, [0, 0, 0]⟩])
  (.seq (.ops [
   ⟨some 20, .load true 3 (.t 3), none, []⟩,
   ⟨some 21, .build [.nils, (.pv (.int .i64 0)), (.pv (.int .i64 0))] [], none, []⟩,
   ⟨some 22, .load true 3 (.t 4), none, []⟩,
   ⟨some 23, .call 163 [(.t 20), (.t 21), (.t 22)], none, [0, 1, 2]⟩,
   ⟨some 8, .mv (.t 23), none, [3, 3, 0, 1, 2, 3]⟩])
  (.seq (.seq (.ops [
   ⟨some 24, .mv (.t 8), none, []⟩,
   ⟨some 25, .not (.t 24), none, [0]⟩])
  (.cond (.t 25)
   (.seq (.ops [
     ⟨some 26, .mv (.t 7), none, []⟩,
     ⟨some 6, .mv (.t 26), none, [0, 0]⟩])
    .ret)
   .skip))
  (.seq (.ops [
   ⟨some 28, .load true 3 (.t 4), none, []⟩,
   ⟨some 29, .mv (.t 2), none, []⟩,
   ⟨some 30, .call 221 [(.t 28), (.t 29)], none, [0, 1]⟩,
   ⟨some 27, .mv (.t 30), none, [2]⟩,
   ⟨some 31, .extract (.t 27) 0, none, [3]⟩,
   ⟨some 32, .extract (.t 27) 1, none, [3]⟩,
   ⟨some 9, .alloc [(.pv (.int .u64 0)), (.pv (.int .u64 0)), (.pv (.int .u64 0)), (.pv (.int .u64 0))], none, []⟩,
   ⟨none, .store 4 (.t 9) (.t 31), none, [6, 4, 2, 0, 1, 2, 3, 4, 6]⟩,
   ⟨some 10, .mv (.t 32), none, [5, 7, 0, 1, 2, 3, 4, 5, 6, 7]⟩])
  (.seq (.ops [
   ⟨some 34, .load true 3 (.t 3), none, []⟩,
   ⟨some 35, .load true 3 (.t 4), none, []⟩,
   ⟨some 36, .mv (.t 2), none, []⟩,
   ⟨some 37, .call 220 [(.t 34), (.t 35), (.t 36)], none, [0, 1, 2]⟩,
   ⟨some 33, .mv (.t 37), none, [3]⟩,
   ⟨some 38, .extract (.t 33) 0, none, [4]⟩,
   ⟨some 39, .extract (.t 33) 1, none, [4]⟩,
   ⟨some 11, .alloc [(.pv (.int .u64 0)), (.pv (.int .u64 0)), (.pv (.int .u64 0)), (.pv (.int .u64 0))], none, []⟩,
   ⟨none, .store 4 (.t 11) (.t 38), none, [7, 5, 3, 0, 1, 2, 3, 4, 5, 7]⟩,
   ⟨some 12, .mv (.t 39), none, [6, 8, 0, 1, 2, 3, 4, 5, 6, 7, 8]⟩])
  (.seq (.ops [
   ⟨some 41, .load true 3 (.t 4), none, []⟩,
   ⟨some 42, .mv (.t 2), none, []⟩,
   ⟨some 43, .call 171 [(.t 41), (.t 42)], none, [0, 1]⟩,
   ⟨some 40, .mv (.t 43), none, [2]⟩,
   ⟨some 44, .extract (.t 40) 0, none, [3]⟩,
   ⟨some 45, .extract (.t 40) 1, none, [3]⟩,
   ⟨some 13, .alloc [(.pv (.int .u64 0)), (.pv (.int .u64 0)), (.pv (.int .u64 0)), (.pv (.int .u64 0))], none, []⟩,
   ⟨none, .store 4 (.t 13) (.t 44), none, [6, 4, 2, 0, 1, 2, 3, 4, 6]⟩,
   ⟨some 14, .mv (.t 45), none, [5, 7, 0, 1, 2, 3, 4, 5, 6, 7]⟩])
  (.seq (.ops [
   ⟨some 47, .load true 3 (.t 3), none, []⟩,
   ⟨some 48, .load true 3 (.t 4), none, []⟩,
   ⟨some 49, .mv (.t 2), none, []⟩,
   ⟨some 50, .call 170 [(.t 47), (.t 48), (.t 49)], none, [0, 1, 2]⟩,
   ⟨some 46, .mv (.t 50), none, [3]⟩,
   ⟨some 51, .extract (.t 46) 0, none, [4]⟩,
   ⟨some 52, .extract (.t 46) 1, none, [4]⟩,
   ⟨some 15, .alloc [(.pv (.int .u64 0)), (.pv (.int .u64 0)), (.pv (.int .u64 0)), (.pv (.int .u64 0))], none, []⟩,
   ⟨none, .store 4 (.t 15) (.t 51), none, [7, 5, 3, 0, 1, 2, 3, 4, 5, 7]⟩,
   ⟨some 16, .mv (.t 52), none, [6, 8, 0, 1, 2, 3, 4, 5, 6, 7, 8]⟩])
  (.seq (.ops [
   ⟨some 54, .load true 3 (.t 3), none, []⟩,
   ⟨some 55, .load true 3 (.t 4), none, []⟩,
   ⟨some 56, .call 169 [(.t 54), (.t 55)], none, [0, 1]⟩,
   ⟨some 53, .mv (.t 56), none, [2]⟩,
   ⟨some 57, .extract (.t 53) 0, none, [3]⟩,
   ⟨some 58, .extract (.t 53) 1, none, [3]⟩,
   ⟨some 17, .mv (.t 57), none, [4, 2, 0, 1, 2, 3, 4]⟩,
   ⟨some 18, .mv (.t 58), none, [5, 6, 0, 1, 2, 3, 4, 5, 6]⟩])
  (.seq (.seq (.ops [
   ⟨some 59, .mv (.t 14), none, []⟩,
   ⟨some 60, .mv (.t 59), none, [0]⟩,
   ⟨some 61, .mv (.t 10), some (60, true), [1]⟩,
   ⟨some 62, .bin .neq (some (.iface true)) (.t 61) (.c (.pv .nili)), some (60, true), [2, 1]⟩,
   ⟨some 63, .pick (.t 60) (.t 62) (.c (.pv (.bool false))), none, [1, 3]⟩,
   ⟨some 64, .mv (.t 63), none, [4, 1]⟩,
   ⟨some 65, .mv (.t 14), some (64, false), [5]⟩,
   ⟨some 66, .not (.t 65), some (64, false), [6, 5]⟩,
   ⟨some 67, .mv (.t 66), some (64, false), [7, 5, 5]⟩,
   ⟨some 68, .mv (.t 10), some (67, true), [8]⟩,
   ⟨some 69, .mkI 0 (.c (.pv (.int .i64 8))), some (67, true), [8]⟩,
   ⟨some 70, .bin .neq (some (.iface true)) (.t 68) (.t 69), some (67, true), [9, 10, 8]⟩,
   ⟨some 71, .pick (.t 67) (.t 70) (.c (.pv (.bool false))), some (64, false), [8, 11, 5]⟩,
   ⟨some 72, .pick (.t 64) (.c (.pv (.bool true))) (.t 71), none, [5, 12]⟩,
   ⟨some 73, .mv (.t 72), none, [13, 8]⟩,
   ⟨some 74, .load true 4 (.t 9), some (73, false), [14]⟩,
   ⟨some 75, .load true 4 (.t 13), some (73, false), [14]⟩,
   ⟨some 76, .bin .neq (some (.plain [false, false, false, false])) (.t 74) (.t 75), some (73, false), [15, 16, 14]⟩,
   ⟨some 77, .pick (.t 73) (.c (.pv (.bool true))) (.t 76), none, [14, 17]⟩])
  (.cond (.t 77)
   (.seq (.ops [
     ⟨some 6, .mv (.c (.pv (.bool false))), none, []⟩])
    .ret)
   .skip))
  (.seq (.ops [
   ⟨some 78, .mv (.t 7), none, []⟩,
   ⟨some 79, .mv (.t 78), none, [0]⟩,
   ⟨some 80, .mv (.t 12), some (79, true), [1]⟩,
   ⟨some 81, .call 102 [(.t 80)], some (79, true), [2, 1, 1]⟩,
   ⟨some 82, .mv (.t 16), some (79, true), [1]⟩,
   ⟨some 83, .bin .eql none (.t 81) (.t 82), some (79, true), [3, 4, 1]⟩,
   ⟨some 84, .pick (.t 79) (.t 83) (.c (.pv (.bool false))), none, [1, 5]⟩,
   ⟨some 85, .mv (.t 84), none, [6, 3]⟩,
   ⟨some 86, .load true 4 (.t 11), some (85, true), [7]⟩,
   ⟨some 87, .load true 4 (.t 15), some (85, true), [7]⟩,
   ⟨some 88, .bin .eql (some (.plain [false, false, false, false])) (.t 86) (.t 87), some (85, true), [8, 9, 7]⟩,
   ⟨some 89, .pick (.t 85) (.t 88) (.c (.pv (.bool false))), none, [7, 10]⟩,
   ⟨some 90, .mv (.t 89), none, [11, 7]⟩,
   ⟨some 91, .load true 3 (.t 3), some (90, true), [12]⟩,
   ⟨some 92, .load true 3 (.t 4), some (90, true), [12]⟩,
   ⟨some 93, .call 219 [(.t 91), (.t 92)], some (90, true), [13, 14, 12, 12]⟩,
   ⟨some 94, .mv (.t 17), some (90, true), [12]⟩,
   ⟨some 95, .mv (.t 18), some (90, true), [12]⟩,
   ⟨some 96, .call 105 [(.t 93), (.t 94), (.t 95)], some (90, true), [15, 16, 17, 15, 12]⟩,
   ⟨some 97, .pick (.t 90) (.t 96) (.c (.pv (.bool false))), none, [12, 18]⟩,
   ⟨some 6, .mv (.t 97), none, [19, 18, 0, 1, 2, 3, 4, 5, 6, 7, 8, 9, 10, 11, 12, 13, 14, 15, 16, 17, 18, 19]⟩])
  .ret)))))))))))⟩

def f321l0 : ACode :=
 (.seq (.seq (.ops [
   ⟨some 64, .mv (.t 15), none, []⟩,
   ⟨some 65, .mv (.t 7), none, []⟩,
   ⟨some 66, .bin .lss none (.t 64) (.t 65), none, [0, 1]⟩])
  (.cond (.t 66)
   .skip
   (.exit 2)))
  (.seq (.block 3
   (.draw [
     ⟨some 69, .mv (.t 14), none, []⟩,
     ⟨some 70, .mv (.t 69), none, [0]⟩,
     ⟨some 71, .fieldAddr 0 (.t 2), some (70, true), [1]⟩,
     ⟨some 72, .load false 1 (.t 71), some (70, true), [2, 1]⟩,
     ⟨some 73, .mv (.t 15), some (70, true), [1]⟩,
     ⟨some 74, .idxAddr 10 (.t 72) (.t 73), some (70, true), [3, 4, 1]⟩,
     ⟨some 75, .fieldAddr 0 (.t 74), some (70, true), [5, 1]⟩,
     ⟨some 76, .load false 1 (.t 75), some (70, true), [6, 1]⟩,
     ⟨some 77, .fieldAddr 0 (.t 2), some (70, true), [1]⟩,
     ⟨some 78, .load false 1 (.t 77), some (70, true), [8, 1]⟩,
     ⟨some 79, .mv (.t 7), some (70, true), [1]⟩,
     ⟨some 80, .idxAddr 10 (.t 78) (.t 79), some (70, true), [9, 10, 1]⟩,
     ⟨some 81, .fieldAddr 0 (.t 80), some (70, true), [11, 1]⟩,
     ⟨some 82, .load false 1 (.t 81), some (70, true), [12, 1]⟩,
     ⟨some 83, .bin .neq none (.t 76) (.t 82), some (70, true), [7, 13, 1]⟩,
     ⟨some 84, .pick (.t 70) (.t 83) (.c (.pv (.bool false))), none, [1, 14]⟩,
     ⟨some 14, .mv (.t 84), none, [15, 1, 0, 1, 2, 3, 4, 5, 6, 7, 8, 9, 10, 11, 12, 13, 14, 15]⟩]))
  (.ops [
   ⟨some 67, .mv (.t 15), none, []⟩,
   ⟨some 68, .bin .add none (.t 67) (.c (.pv (.int .i64 1))), none, [0]⟩,
   ⟨some 15, .mv (.t 68), none, [1, 0, 1]⟩])))
def f321l1 : ACode :=
 (.seq (.seq (.ops [
   ⟨some 26, .mv (.t 7), none, []⟩,
   ⟨some 27, .fieldAddr 0 (.t 2), none, []⟩,
   ⟨some 28, .load false 1 (.t 27), none, [1]⟩,
   ⟨some 29, .len (.t 28), none, [2]⟩,
   ⟨some 30, .bin .lss none (.t 26) (.t 29), none, [0, 3]⟩])
  (.cond (.t 30)
   .skip
   (.exit 0)))
  (.seq (.block 1
   (.seq (.draw [
     ⟨some 34, .load true 3 (.t 2), none, []⟩,
     ⟨some 35, .load true 3 (.t 3), none, []⟩,
     ⟨some 36, .fieldAddr 0 (.t 2), none, []⟩,
     ⟨some 37, .load false 1 (.t 36), none, [2]⟩,
     ⟨some 38, .mv (.t 7), none, []⟩,
     ⟨some 39, .idxAddr 10 (.t 37) (.t 38), none, [3, 4]⟩,
     ⟨some 40, .fieldAddr 0 (.t 39), none, [5]⟩,
     ⟨some 41, .load false 1 (.t 40), none, [6]⟩,
     ⟨some 42, .call 220 [(.t 34), (.t 35), (.t 41)], none, [0, 1, 7]⟩,
     ⟨some 33, .mv (.t 42), none, [8]⟩,
     ⟨some 43, .extract (.t 33) 0, none, [9]⟩,
     ⟨some 44, .extract (.t 33) 1, none, [9]⟩,
     ⟨some 8, .alloc [(.pv (.int .u64 0)), (.pv (.int .u64 0)), (.pv (.int .u64 0)), (.pv (.int .u64 0))], none, []⟩,
     ⟨none, .store 4 (.t 8) (.t 43), none, [12, 10, 8, 0, 1, 2, 3, 4, 5, 6, 7, 8, 9, 10, 12]⟩,
     ⟨some 9, .mv (.t 44), none, [11, 13, 0, 1, 2, 3, 4, 5, 6, 7, 8, 9, 10, 11, 12, 13]⟩])
    (.seq (.seq (.ops [
     ⟨some 45, .mv (.t 9), none, []⟩,
     ⟨some 46, .bin .neq (some (.iface true)) (.t 45) (.c (.pv .nili)), none, [0]⟩])
    (.cond (.t 46)
     (.exit 1)
     .skip))
    (.seq (.draw [
     ⟨some 48, .load true 3 (.t 3), none, []⟩,
     ⟨some 49, .fieldAddr 0 (.t 2), none, []⟩,
     ⟨some 50, .load false 1 (.t 49), none, [1]⟩,
     ⟨some 51, .mv (.t 7), none, []⟩,
     ⟨some 52, .idxAddr 10 (.t 50) (.t 51), none, [2, 3]⟩,
     ⟨some 53, .fieldAddr 0 (.t 52), none, [4]⟩,
     ⟨some 54, .load false 1 (.t 53), none, [5]⟩,
     ⟨some 55, .call 221 [(.t 48), (.t 54)], none, [0, 6]⟩,
     ⟨some 47, .mv (.t 55), none, [7]⟩,
     ⟨some 56, .extract (.t 47) 0, none, [8]⟩,
     ⟨some 57, .extract (.t 47) 1, none, [8]⟩,
     ⟨some 10, .alloc [(.pv (.int .u64 0)), (.pv (.int .u64 0)), (.pv (.int .u64 0)), (.pv (.int .u64 0))], none, []⟩,
     ⟨none, .store 4 (.t 10) (.t 56), none, [11, 9, 7, 0, 1, 2, 3, 4, 5, 6, 7, 8, 9, 11]⟩,
     ⟨some 11, .mv (.t 57), none, [10, 12, 0, 1, 2, 3, 4, 5, 6, 7, 8, 9, 10, 11, 12]⟩])
    (.seq (.ops [
     ⟨some 59, .load true 4 (.t 8), none, []⟩,
     ⟨some 60, .load true 4 (.t 10), none, []⟩,
     ⟨some 61, .call 255 [(.t 59), (.t 60)], none, [0, 1]⟩,
     ⟨some 58, .mv (.t 61), none, [2]⟩,
     ⟨some 62, .extract (.t 58) 0, none, [3]⟩,
     ⟨some 63, .extract (.t 58) 1, none, [3]⟩,
     ⟨some 12, .alloc [(.pv (.int .u64 0)), (.pv (.int .u64 0)), (.pv (.int .u64 0)), (.pv (.int .u64 0))], none, []⟩,
     ⟨none, .store 4 (.t 12) (.t 62), none, [6, 4, 2, 0, 1, 2, 3, 4, 6]⟩,
     ⟨some 13, .mv (.t 63), none, [5, 7, 0, 1, 2, 3, 4, 5, 6, 7]⟩])
    (.seq (.ops [
     ⟨some 14, .mv (.c (.pv (.bool true))), none, []⟩])
    (.seq (.seq (.ops [
     ⟨some 15, .mv (.c (.pv (.int .i64 0))), none, []⟩])
    (.block 2
     (.loop f321l0)))
    (.seq (.draw [
     ⟨some 86, .load true 4 (.t 12), none, []⟩,
     ⟨some 87, .fieldAddr 0 (.t 2), none, []⟩,
     ⟨some 88, .load false 1 (.t 87), none, [1]⟩,
     ⟨some 89, .mv (.t 7), none, []⟩,
     ⟨some 90, .idxAddr 10 (.t 88) (.t 89), none, [2, 3]⟩,
     ⟨some 91, .fieldAddr 6 (.t 90), none, [4]⟩,
     ⟨some 92, .load true 4 (.t 91), none, [5]⟩,
     ⟨some 93, .call 255 [(.t 86), (.t 92)], none, [0, 6]⟩,
     ⟨some 85, .mv (.t 93), none, [7]⟩,
     ⟨some 94, .extract (.t 85) 0, none, [8]⟩,
     ⟨some 95, .extract (.t 85) 1, none, [8]⟩,
     ⟨some 16, .alloc [(.pv (.int .u64 0)), (.pv (.int .u64 0)), (.pv (.int .u64 0)), (.pv (.int .u64 0))], none, []⟩,
     ⟨none, .store 4 (.t 16) (.t 94), none, [11, 9, 7, 0, 1, 2, 3, 4, 5, 6, 7, 8, 9, 11]⟩,
     ⟨some 17, .mv (.t 95), none, [10, 12, 0, 1, 2, 3, 4, 5, 6, 7, 8, 9, 10, 11, 12]⟩])
    (.seq (.draw [
     ⟨some 96, .mv (.t 11), none, []⟩,
     ⟨some 97, .bin .neq (some (.iface true)) (.t 96) (.c (.pv .nili)), none, [0]⟩,
     ⟨some 98, .mv (.t 97), none, [1]⟩,
     ⟨some 99, .mv (.t 13), some (98, false), [2]⟩,
     ⟨some 100, .bin .neq (some (.iface true)) (.t 99) (.c (.pv .nili)), some (98, false), [3, 2]⟩,
     ⟨some 101, .pick (.t 98) (.c (.pv (.bool true))) (.t 100), none, [2, 4]⟩,
     ⟨some 102, .mv (.t 101), none, [5, 2]⟩,
     ⟨some 103, .mv (.t 14), some (102, false), [6]⟩,
     ⟨some 104, .mv (.t 103), some (102, false), [7, 6, 6]⟩,
     ⟨some 105, .mv (.t 17), some (104, true), [8]⟩,
     ⟨some 106, .bin .neq (some (.iface true)) (.t 105) (.c (.pv .nili)), some (104, true), [9, 8]⟩,
     ⟨some 107, .mv (.t 106), some (104, true), [10, 8, 8]⟩,
     ⟨some 108, .load true 4 (.t 16), some (107, false), [11]⟩,
     ⟨some 109, .fieldAddr 0 (.t 2), some (107, false), [11]⟩,
     ⟨some 110, .load false 1 (.t 109), some (107, false), [13, 11]⟩,
     ⟨some 111, .mv (.t 7), some (107, false), [11]⟩,
     ⟨some 112, .idxAddr 10 (.t 110) (.t 111), some (107, false), [14, 15, 11]⟩,
     ⟨some 113, .fieldAddr 2 (.t 112), some (107, false), [16, 11]⟩,
     ⟨some 114, .load true 4 (.t 113), some (107, false), [17, 11]⟩,
     ⟨some 115, .bin .neq (some (.plain [false, false, false, false])) (.t 108) (.t 114), some (107, false), [12, 18, 11]⟩,
     ⟨some 116, .pick (.t 107) (.c (.pv (.bool true))) (.t 115), some (104, true), [11, 19, 8]⟩,
     ⟨some 117, .pick (.t 104) (.t 116) (.c (.pv (.bool false))), some (102, false), [8, 20, 6]⟩,
     ⟨some 118, .pick (.t 102) (.c (.pv (.bool true))) (.t 117), none, [6, 21]⟩])
    (.cond (.t 118)
     (.seq (.ops [
       ⟨some 4, .mv (.c (.pv (.bool false))), none, []⟩])
      .ret)
     .skip))))))))))
  (.ops [
   ⟨some 31, .mv (.t 7), none, []⟩,
   ⟨some 32, .bin .add none (.t 31) (.c (.pv (.int .i64 1))), none, [0]⟩,
   ⟨some 7, .mv (.t 32), none, [1, 0, 1]⟩])))
/-- dunnage/dunnagelaw06.RoomWhole -/
def f321 : AFunc := ⟨120, [.t 4],
 (.seq (.ops [
   ⟨some 2, .box (.t 0), none, []⟩,
   ⟨some 3, .box (.t 1), none, []⟩,
   ⟨some 4, .mv (.c (.pv (.bool false))), none, []⟩])
  (.seq (.ops [
   ⟨some 18, .call 326 [], none, []⟩,
   ⟨some 5, .mv (.t 18), none, [0, 0, 0]⟩])
  (.seq (.ops [
   ⟨some 19, .load true 3 (.t 2), none, []⟩,
   ⟨some 20, .build [.nils, (.pv (.int .i64 0)), (.pv (.int .i64 0))] [], none, []⟩,
   ⟨some 21, .load true 3 (.t 3), none, []⟩,
   ⟨some 22, .call 163 [(.t 19), (.t 20), (.t 21)], none, [0, 1, 2]⟩,
   ⟨some 6, .mv (.t 22), none, [3, 3, 0, 1, 2, 3]⟩])
  (.seq (.seq (.ops [
   ⟨some 23, .mv (.t 6), none, []⟩,
   ⟨some 24, .not (.t 23), none, [0]⟩])
  (.cond (.t 24)
   (.seq (.ops [
     ⟨some 25, .mv (.t 5), none, []⟩,
     ⟨some 4, .mv (.t 25), none, [0, 0]⟩])
    .ret)
   .skip))
  (.seq (.seq (.ops [
   ⟨some 7, .mv (.c (.pv (.int .i64 0))), none, []⟩])
  (.block 0
   (.loop f321l1)))
  (.seq (.ops [
   ⟨some 119, .mv (.t 5), none, []⟩,
   ⟨some 4, .mv (.t 119), none, [0, 0]⟩])
  .ret))))))⟩

/-- dunnage/dunnagelaw06.RoomLess -/
def f322 : AFunc := ⟨55, [.t 6],
 (.seq (.ops [
   ⟨some 3, .box (.t 0), none, []⟩,
   ⟨some 4, .box (.t 1), none, []⟩,
   ⟨some 6, .mv (.c (.pv (.bool false))), none, []⟩])
  (.seq (.ops [
   ⟨some 10, .call 326 [], none, []⟩,
   ⟨some 7, .mv (.t 10), none, [0, 0, 0]⟩])
  (.seq (.ops [
   ⟨some 11, .load true 3 (.t 3), none, []⟩,
   ⟨some 12, .build [.nils, (.pv (.int .i64 0)), (.pv (.int .i64 0))] [], none, []⟩,
   ⟨some 13, .load true 3 (.t 4), none, []⟩,
   ⟨some 14, .call 163 [(.t 11), (.t 12), (.t 13)], none, [0, 1, 2]⟩,
   ⟨some 8, .mv (.t 14), none, [3, 3, 0, 1, 2, 3]⟩])
  (.seq (.seq (.ops [
   ⟨some 15, .mv (.t 8), none, []⟩,
   ⟨some 16, .not (.t 15), none, [0]⟩,
   ⟨some 17, .mv (.t 16), none, [1]⟩,
   ⟨some 18, .mv (.t 2), some (17, false), [2]⟩,
   ⟨some 19, .bin .lss none (.t 18) (.c (.pv (.int .i64 0))), some (17, false), [3, 2]⟩,
   ⟨some 20, .pick (.t 17) (.c (.pv (.bool true))) (.t 19), none, [2, 4]⟩,
   ⟨some 21, .mv (.t 20), none, [5, 2]⟩,
   ⟨some 22, .mv (.t 2), some (21, false), [6]⟩,
   ⟨some 23, .fieldAddr 0 (.t 4), some (21, false), [6]⟩,
   ⟨some 24, .load false 1 (.t 23), some (21, false), [8, 6]⟩,
   ⟨some 25, .len (.t 24), some (21, false), [9, 6]⟩,
   ⟨some 26, .bin .geq none (.t 22) (.t 25), some (21, false), [7, 10, 6]⟩,
   ⟨some 27, .pick (.t 21) (.c (.pv (.bool true))) (.t 26), none, [6, 11]⟩,
   ⟨some 28, .mv (.t 27), none, [12, 6]⟩,
   ⟨some 29, .load true 3 (.t 3), some (28, false), [13]⟩,
   ⟨some 30, .load true 3 (.t 4), some (28, false), [13]⟩,
   ⟨some 31, .call 219 [(.t 29), (.t 30)], some (28, false), [14, 15, 13, 13]⟩,
   ⟨some 32, .bin .neq (some (.iface true)) (.t 31) (.c (.pv .nili)), some (28, false), [16, 13]⟩,
   ⟨some 33, .pick (.t 28) (.c (.pv (.bool true))) (.t 32), none, [13, 17]⟩])
  (.cond (.t 33)
   (.seq (.ops [
     ⟨some 34, .mv (.t 7), none, []⟩,
     ⟨some 6, .mv (.t 34), none, [0, 0]⟩])
    .ret)
   .skip))
  (.seq (.draw [
   ⟨some 35, .bslice 8 0 [] [], none, []⟩,
   ⟨some 36, .fieldAddr 0 (.t 4), none, []⟩,
   ⟨some 37, .load false 1 (.t 36), none, [1]⟩,
   ⟨some 38, .mv (.t 2), none, []⟩,
   ⟨some 39, .slice 8 (.t 37) none (some (.t 38)), none, [2, 3]⟩,
   ⟨some 40, .append 8 64 (.t 35) (.t 39), none, [0, 4]⟩,
   ⟨some 41, .fieldAddr 0 (.t 4), none, []⟩,
   ⟨some 42, .load false 1 (.t 41), none, [6]⟩,
   ⟨some 43, .mv (.t 2), none, []⟩,
   ⟨some 44, .bin .add none (.t 43) (.c (.pv (.int .i64 1))), none, [8]⟩,
   ⟨some 45, .slice 8 (.t 42) (some (.t 44)) none, none, [7, 9]⟩,
   ⟨some 46, .append 8 64 (.t 40) (.t 45), none, [5, 10, 5]⟩,
   ⟨some 47, .build [.nils, (.pv (.int .i64 0)), (.pv (.int .i64 0))] [(0, 1, (.t 46))], none, [11]⟩,
   ⟨some 9, .alloc [.nils, (.pv (.int .i64 0)), (.pv (.int .i64 0))], none, []⟩,
   ⟨none, .store 3 (.t 9) (.t 47), none, [13, 12, 11, 0, 1, 2, 3, 4, 5, 6, 7, 8, 9, 10, 11, 12, 13]⟩])
  (.seq (.ops [
   ⟨some 48, .mv (.t 7), none, []⟩,
   ⟨some 49, .mv (.t 48), none, [0]⟩,
   ⟨some 50, .load true 3 (.t 3), some (49, true), [1]⟩,
   ⟨some 51, .load true 3 (.t 9), some (49, true), [1]⟩,
   ⟨some 52, .call 219 [(.t 50), (.t 51)], some (49, true), [2, 3, 1, 1]⟩,
   ⟨some 53, .bin .eql (some (.iface true)) (.t 52) (.c (.pv .nili)), some (49, true), [4, 1]⟩,
   ⟨some 54, .pick (.t 49) (.t 53) (.c (.pv (.bool false))), none, [1, 5]⟩,
   ⟨some 6, .mv (.t 54), none, [6, 4, 0, 1, 2, 3, 4, 5, 6]⟩])
  .ret))))))⟩

/-- dunnage/dunnagelaw09.BudgetMoves -/
def f323 : AFunc := ⟨112, [.t 10],
 (.seq (.ops [
   ⟨some 5, .box (.t 0), none, []⟩,
   ⟨some 6, .box (.t 1), none, []⟩,
   ⟨some 7, .box (.t 2), none, []⟩,
   ⟨some 8, .box (.t 3), none, []⟩,
   ⟨some 10, .mv (.c (.pv (.bool false))), none, []⟩])
  (.seq (.ops [
   ⟨some 20, .call 317 [], none, []⟩,
   ⟨some 11, .mv (.t 20), none, [0, 0, 0]⟩])
  (.seq (.ops [
   ⟨some 21, .load true 3 (.t 5), none, []⟩,
   ⟨some 22, .load true 3 (.t 6), none, []⟩,
   ⟨some 23, .load true 3 (.t 7), none, []⟩,
   ⟨some 24, .call 163 [(.t 21), (.t 22), (.t 23)], none, [0, 1, 2]⟩,
   ⟨some 12, .mv (.t 24), none, [3, 3, 0, 1, 2, 3]⟩])
  (.seq (.seq (.ops [
   ⟨some 25, .mv (.t 12), none, []⟩,
   ⟨some 26, .not (.t 25), none, [0]⟩])
  (.cond (.t 26)
   (.seq (.ops [
     ⟨some 27, .mv (.t 11), none, []⟩,
     ⟨some 10, .mv (.t 27), none, [0, 0]⟩])
    .ret)
   .skip))
  (.seq (.ops [
   ⟨some 29, .load true 3 (.t 5), none, []⟩,
   ⟨some 30, .load true 3 (.t 6), none, []⟩,
   ⟨some 31, .load true 3 (.t 7), none, []⟩,
   ⟨some 32, .load true 4 (.t 8), none, []⟩,
   ⟨some 33, .call 239 [(.t 29), (.t 30), (.t 31), (.t 32)], none, [0, 1, 2, 3]⟩,
   ⟨some 28, .mv (.t 33), none, [4]⟩,
   ⟨some 34, .extract (.t 28) 0, none, [5]⟩,
   ⟨some 35, .extract (.t 28) 1, none, [5]⟩,
   ⟨some 13, .alloc [.nils, (.pv (.int .i64 0)), (.pv (.int .i64 0))], none, []⟩,
   ⟨none, .store 3 (.t 13) (.t 34), none, [8, 6, 4, 0, 1, 2, 3, 4, 5, 6, 8]⟩,
   ⟨some 14, .mv (.t 35), none, [7, 9, 0, 1, 2, 3, 4, 5, 6, 7, 8, 9]⟩])
  (.seq (.seq (.ops [
   ⟨some 36, .mv (.t 14), none, []⟩,
   ⟨some 37, .bin .neq (some (.iface true)) (.t 36) (.c (.pv .nili)), none, [0]⟩,
   ⟨some 38, .mv (.t 37), none, [1]⟩,
   ⟨some 39, .fieldAddr 0 (.t 8), some (38, false), [2]⟩,
   ⟨some 40, .load false 1 (.t 39), some (38, false), [3, 2]⟩,
   ⟨some 41, .bin .neq none (.t 40) (.c (.pv (.int .i64 2))), some (38, false), [4, 2]⟩,
   ⟨some 42, .mv (.t 41), some (38, false), [5, 2, 2]⟩,
   ⟨some 43, .fieldAddr 2 (.t 8), some (42, true), [6]⟩,
   ⟨some 44, .load false 1 (.t 43), some (42, true), [7, 6]⟩,
   ⟨some 45, .bin .eql none (.t 44) (.c (.pv (.int .i64 0))), some (42, true), [8, 6]⟩,
   ⟨some 46, .pick (.t 42) (.t 45) (.c (.pv (.bool false))), some (38, false), [6, 9, 2]⟩,
   ⟨some 47, .pick (.t 38) (.c (.pv (.bool true))) (.t 46), none, [2, 10]⟩])
  (.cond (.t 47)
   (.seq (.ops [
     ⟨some 48, .mv (.t 11), none, []⟩,
     ⟨some 10, .mv (.t 48), none, [0, 0]⟩])
    .ret)
   .skip))
  (.seq (.ops [
   ⟨some 50, .load true 3 (.t 7), none, []⟩,
   ⟨some 51, .fieldAddr 1 (.t 8), none, []⟩,
   ⟨some 52, .load false 1 (.t 51), none, [1]⟩,
   ⟨some 53, .call 240 [(.t 50), (.t 52)], none, [0, 2]⟩,
   ⟨some 49, .mv (.t 53), none, [3]⟩,
   ⟨some 54, .extract (.t 49) 0, none, [4]⟩,
   ⟨some 55, .extract (.t 49) 1, none, [4]⟩,
   ⟨some 15, .alloc [(.pv (.int .i64 0)), (.pv (.int .i64 0)), (.pv (.int .i64 0)), (.pv (.int .u64 0)), (.pv (.int .u64 0)), (.pv (.int .u64 0)), (.pv (.int .u64 0)), (.pv (.int .i64 0))], none, []⟩,
   ⟨none, .store 8 (.t 15) (.t 54), none, [7, 5, 3, 0, 1, 2, 3, 4, 5, 7]⟩,
   ⟨some 16, .mv (.t 55), none, [6, 8, 0, 1, 2, 3, 4, 5, 6, 7, 8]⟩])
  (.seq (.ops [
   ⟨some 57, .load true 3 (.t 7), none, []⟩,
   ⟨some 58, .fieldAddr 3 (.t 8), none, []⟩,
   ⟨some 59, .load false 1 (.t 58), none, [1]⟩,
   ⟨some 60, .call 240 [(.t 57), (.t 59)], none, [0, 2]⟩,
   ⟨some 56, .mv (.t 60), none, [3]⟩,
   ⟨some 61, .extract (.t 56) 0, none, [4]⟩,
   ⟨some 62, .extract (.t 56) 1, none, [4]⟩,
   ⟨some 17, .alloc [(.pv (.int .i64 0)), (.pv (.int .i64 0)), (.pv (.int .i64 0)), (.pv (.int .u64 0)), (.pv (.int .u64 0)), (.pv (.int .u64 0)), (.pv (.int .u64 0)), (.pv (.int .i64 0))], none, []⟩,
   ⟨none, .store 8 (.t 17) (.t 61), none, [7, 5, 3, 0, 1, 2, 3, 4, 5, 7]⟩,
   ⟨some 18, .mv (.t 62), none, [6, 8, 0, 1, 2, 3, 4, 5, 6, 7, 8]⟩])
  (.seq (.ops [
   ⟨some 63, .load true 3 (.t 7), none, []⟩,
   ⟨some 64, .mv (.t 4), none, []⟩,
   ⟨some 65, .call 71 [(.t 63), (.t 64)], none, [0, 1]⟩,
   ⟨some 19, .mv (.t 65), none, [2, 2, 0, 1, 2]⟩])
  (.seq (.seq (.ops [
   ⟨some 66, .fieldAddr 0 (.t 8), none, []⟩,
   ⟨some 67, .load false 1 (.t 66), none, [0]⟩,
   ⟨some 68, .bin .eql none (.t 67) (.c (.pv (.int .i64 2))), none, [1]⟩,
   ⟨some 69, .mv (.t 68), none, [2]⟩,
   ⟨some 70, .fieldAddr 1 (.t 15), some (69, true), [3]⟩,
   ⟨some 71, .load false 1 (.t 70), some (69, true), [4, 3]⟩,
   ⟨some 72, .mv (.t 4), some (69, true), [3]⟩,
   ⟨some 73, .bin .eql none (.t 71) (.t 72), some (69, true), [5, 6, 3]⟩,
   ⟨some 74, .pick (.t 69) (.t 73) (.c (.pv (.bool false))), none, [3, 7]⟩])
  (.cond (.t 74)
   (.ops [
     ⟨some 75, .mv (.t 19), none, []⟩,
     ⟨some 76, .bin .sub none (.t 75) (.c (.pv (.int .i64 1))), none, [0]⟩,
     ⟨some 19, .mv (.t 76), none, [1, 0, 1]⟩])
   .skip))
  (.seq (.seq (.ops [
   ⟨some 77, .fieldAddr 0 (.t 8), none, []⟩,
   ⟨some 78, .load false 1 (.t 77), none, [0]⟩,
   ⟨some 79, .bin .eql none (.t 78) (.c (.pv (.int .i64 1))), none, [1]⟩,
   ⟨some 80, .mv (.t 79), none, [2]⟩,
   ⟨some 81, .fieldAddr 0 (.t 8), some (80, false), [3]⟩,
   ⟨some 82, .load false 1 (.t 81), some (80, false), [4, 3]⟩,
   ⟨some 83, .bin .eql none (.t 82) (.c (.pv (.int .i64 4))), some (80, false), [5, 3]⟩,
   ⟨some 84, .pick (.t 80) (.c (.pv (.bool true))) (.t 83), none, [3, 6]⟩,
   ⟨some 85, .mv (.t 84), none, [7, 3]⟩,
   ⟨some 86, .fieldAddr 1 (.t 15), some (85, true), [8]⟩,
   ⟨some 87, .load false 1 (.t 86), some (85, true), [9, 8]⟩,
   ⟨some 88, .mv (.t 4), some (85, true), [8]⟩,
   ⟨some 89, .bin .eql none (.t 87) (.t 88), some (85, true), [10, 11, 8]⟩,
   ⟨some 90, .pick (.t 85) (.t 89) (.c (.pv (.bool false))), none, [8, 12]⟩])
  (.cond (.t 90)
   (.ops [
     ⟨some 91, .mv (.t 19), none, []⟩,
     ⟨some 92, .bin .add none (.t 91) (.c (.pv (.int .i64 1))), none, [0]⟩,
     ⟨some 19, .mv (.t 92), none, [1, 0, 1]⟩])
   .skip))
  (.seq (.seq (.ops [
   ⟨some 93, .fieldAddr 0 (.t 8), none, []⟩,
   ⟨some 94, .load false 1 (.t 93), none, [0]⟩,
   ⟨some 95, .bin .eql none (.t 94) (.c (.pv (.int .i64 4))), none, [1]⟩,
   ⟨some 96, .mv (.t 95), none, [2]⟩,
   ⟨some 97, .fieldAddr 1 (.t 17), some (96, true), [3]⟩,
   ⟨some 98, .load false 1 (.t 97), some (96, true), [4, 3]⟩,
   ⟨some 99, .mv (.t 4), some (96, true), [3]⟩,
   ⟨some 100, .bin .eql none (.t 98) (.t 99), some (96, true), [5, 6, 3]⟩,
   ⟨some 101, .pick (.t 96) (.t 100) (.c (.pv (.bool false))), none, [3, 7]⟩])
  (.cond (.t 101)
   (.ops [
     ⟨some 102, .mv (.t 19), none, []⟩,
     ⟨some 103, .bin .sub none (.t 102) (.c (.pv (.int .i64 1))), none, [0]⟩,
     ⟨some 19, .mv (.t 103), none, [1, 0, 1]⟩])
   .skip))
  (.seq (.ops [
   ⟨some 104, .mv (.t 11), none, []⟩,
   ⟨some 105, .mv (.t 104), none, [0]⟩,
   ⟨some 106, .load true 3 (.t 13), some (105, true), [1]⟩,
   ⟨some 107, .mv (.t 4), some (105, true), [1]⟩,
   ⟨some 108, .call 71 [(.t 106), (.t 107)], some (105, true), [2, 3, 1, 1]⟩,
   ⟨some 109, .mv (.t 19), some (105, true), [1]⟩,
   ⟨some 110, .bin .eql none (.t 108) (.t 109), some (105, true), [4, 5, 1]⟩,
   ⟨some 111, .pick (.t 105) (.t 110) (.c (.pv (.bool false))), none, [1, 6]⟩,
   ⟨some 10, .mv (.t 111), none, [7, 4, 0, 1, 2, 3, 4, 5, 6, 7]⟩])
  .ret)))))))))))))⟩

/-- dunnage/dunnagelaw07.up -/
def f324 : AFunc := ⟨26, [.t 0],
 (.seq (.ops [
   ⟨some 0, .mv (.c (.pv (.bool false))), none, []⟩])
  (.seq (.ops [
   ⟨some 3, .build [(.pv (.int .i64 0)), (.pv (.bool false)), (.pv (.int .i64 0)), (.pv (.int .i64 0)), (.pv (.int .i64 0))] [(0, 1, (.c (.pv (.int .i64 2)))), (1, 1, (.c (.pv (.bool true))))], none, []⟩,
   ⟨some 4, .bslice 5 1 [(.pv (.int .i64 0)), (.pv (.bool false)), (.pv (.int .i64 0)), (.pv (.int .i64 0)), (.pv (.int .i64 0))] [(0, 5, (.t 3))], none, [0]⟩,
   ⟨some 5, .build [.nils, .nils, .nils] [(1, 1, (.t 4))], none, [1]⟩,
   ⟨some 1, .alloc [.nils, .nils, .nils], none, []⟩,
   ⟨none, .store 3 (.t 1) (.t 5), none, [3, 2, 0, 1, 2, 3]⟩])
  (.seq (.ops [
   ⟨some 6, .build [(.pv (.int .i64 0)), (.pv (.int .i64 0)), (.pv (.int .i64 0)), (.pv (.int .u64 0)), (.pv (.int .u64 0)), (.pv (.int .u64 0)), (.pv (.int .u64 0)), (.pv (.int .i64 0))] [(0, 1, (.c (.pv (.int .i64 1)))), (1, 1, (.c (.pv (.int .i64 2)))), (7, 1, (.c (.pv (.int .i64 3))))], none, []⟩,
   ⟨some 7, .build [(.pv (.int .i64 0)), (.pv (.int .i64 0)), (.pv (.int .i64 0)), (.pv (.int .u64 0)), (.pv (.int .u64 0)), (.pv (.int .u64 0)), (.pv (.int .u64 0)), (.pv (.int .i64 0))] [(0, 1, (.c (.pv (.int .i64 4)))), (1, 1, (.c (.pv (.int .i64 2)))), (7, 1, (.c (.pv (.int .i64 3))))], none, []⟩,
   ⟨some 8, .bslice 8 2 [(.pv (.int .i64 0)), (.pv (.int .i64 0)), (.pv (.int .i64 0)), (.pv (.int .u64 0)), (.pv (.int .u64 0)), (.pv (.int .u64 0)), (.pv (.int .u64 0)), (.pv (.int .i64 0)), (.pv (.int .i64 0)), (.pv (.int .i64 0)), (.pv (.int .i64 0)), (.pv (.int .u64 0)), (.pv (.int .u64 0)), (.pv (.int .u64 0)), (.pv (.int .u64 0)), (.pv (.int .i64 0))] [(0, 8, (.t 6)), (8, 8, (.t 7))], none, [0, 1]⟩,
   ⟨some 9, .build [.nils, (.pv (.int .i64 0)), (.pv (.int .i64 0))] [(0, 1, (.t 8))], none, [2]⟩,
   ⟨some 2, .alloc [.nils, (.pv (.int .i64 0)), (.pv (.int .i64 0))], none, []⟩,
   ⟨none, .store 3 (.t 2) (.t 9), none, [4, 3, 0, 1, 2, 3, 4]⟩])
  (.seq (.ops [
   ⟨some 10, .load true 3 (.t 1), none, []⟩,
   ⟨some 11, .build [.nils, (.pv (.int .i64 0)), (.pv (.int .i64 0))] [], none, []⟩,
   ⟨some 12, .call 68 [(.t 10), (.t 11)], none, [0, 1]⟩,
   ⟨some 13, .bin .eql (some (.iface true)) (.t 12) (.c (.pv .nili)), none, [2]⟩,
   ⟨some 14, .mv (.t 13), none, [3, 2]⟩,
   ⟨some 15, .load true 3 (.t 1), some (14, true), [4]⟩,
   ⟨some 16, .load true 3 (.t 2), some (14, true), [4]⟩,
   ⟨some 17, .call 325 [(.t 15), (.t 16), (.c (.pv (.int .i64 1)))], some (14, true), [5, 6, 4, 4]⟩,
   ⟨some 18, .bin .eql none (.t 17) (.c (.pv (.int .i64 4))), some (14, true), [7, 4]⟩,
   ⟨some 19, .pick (.t 14) (.t 18) (.c (.pv (.bool false))), none, [4, 8]⟩,
   ⟨some 20, .mv (.t 19), none, [9, 7]⟩,
   ⟨some 21, .load true 3 (.t 1), some (20, true), [10]⟩,
   ⟨some 22, .load true 3 (.t 2), some (20, true), [10]⟩,
   ⟨some 23, .call 68 [(.t 21), (.t 22)], some (20, true), [11, 12, 10, 10]⟩,
   ⟨some 24, .call 103 [(.t 23), (.c (.pv (.int .i64 1))), (.c (.pv (.int .i64 10)))], some (20, true), [13, 13, 10]⟩,
   ⟨some 25, .pick (.t 20) (.t 24) (.c (.pv (.bool false))), none, [10, 14]⟩,
   ⟨some 0, .mv (.t 25), none, [15, 14, 0, 1, 2, 3, 4, 5, 6, 7, 8, 9, 10, 11, 12, 13, 14, 15]⟩])
  .ret))))⟩

def f325l0 : ACode :=
 (.seq (.ops [
   ⟨some 27, .bin .lss none (.t 26) (.t 25), none, []⟩])
  (.seq (.cond (.t 27)
   .skip
   (.exit 2))
  (.seq (.block 3
   (.seq (.ops [
     ⟨some 28, .mv (.t 26), none, []⟩,
     ⟨some 29, .idxAddr 8 (.t 24) (.t 26), none, []⟩,
     ⟨some 30, .load true 8 (.t 29), none, [1]⟩,
     ⟨some 10, .alloc [(.pv (.int .i64 0)), (.pv (.int .i64 0)), (.pv (.int .i64 0)), (.pv (.int .u64 0)), (.pv (.int .u64 0)), (.pv (.int .u64 0)), (.pv (.int .u64 0)), (.pv (.int .i64 0))], none, []⟩,
     ⟨some 9, .mv (.t 28), none, [0, 0, 1, 2, 3]⟩,
     ⟨none, .store 8 (.t 10) (.t 30), none, [3, 2, 4, 0, 1, 2, 3, 4]⟩])
    (.seq (.ops [
     ⟨some 31, .mv (.t 7), none, []⟩,
     ⟨some 32, .mv (.t 9), none, []⟩,
     ⟨some 33, .bin .neq none (.t 31) (.t 32), none, [0, 1]⟩,
     ⟨some 34, .mv (.t 33), none, [2]⟩,
     ⟨some 35, .load true 3 (.t 3), some (34, true), [3]⟩,
     ⟨some 36, .load true 8 (.t 8), some (34, true), [3]⟩,
     ⟨some 37, .load true 8 (.t 10), some (34, true), [3]⟩,
     ⟨some 38, .call 69 [(.t 35), (.t 36), (.t 37)], some (34, true), [4, 5, 6, 3, 3]⟩,
     ⟨some 39, .pick (.t 34) (.t 38) (.c (.pv (.bool false))), none, [3, 7]⟩])
    (.cond (.t 39)
     (.seq (.ops [
       ⟨some 40, .fieldAddr 0 (.t 10), none, []⟩,
       ⟨some 41, .load false 1 (.t 40), none, [0]⟩,
       ⟨some 6, .mv (.t 41), none, [1, 0, 1]⟩])
      .ret)
     .skip))))
  (.ops [
   ⟨some 42, .bin .add none (.t 26) (.c (.pv (.int .i64 1))), none, []⟩,
   ⟨some 26, .mv (.t 42), none, [0]⟩]))))
def f325l1 : ACode :=
 (.seq (.ops [
   ⟨some 15, .bin .lss none (.t 14) (.t 13), none, []⟩])
  (.seq (.cond (.t 15)
   .skip
   (.exit 0))
  (.seq (.block 1
   (.seq (.ops [
     ⟨some 16, .mv (.t 14), none, []⟩,
     ⟨some 17, .idxAddr 8 (.t 12) (.t 14), none, []⟩,
     ⟨some 18, .load true 8 (.t 17), none, [1]⟩,
     ⟨some 8, .alloc [(.pv (.int .i64 0)), (.pv (.int .i64 0)), (.pv (.int .i64 0)), (.pv (.int .u64 0)), (.pv (.int .u64 0)), (.pv (.int .u64 0)), (.pv (.int .u64 0)), (.pv (.int .i64 0))], none, []⟩,
     ⟨some 7, .mv (.t 16), none, [0, 0, 1, 2, 3]⟩,
     ⟨none, .store 8 (.t 8) (.t 18), none, [3, 2, 4, 0, 1, 2, 3, 4]⟩])
    (.seq (.seq (.ops [
     ⟨some 19, .fieldAddr 0 (.t 8), none, []⟩,
     ⟨some 20, .load false 1 (.t 19), none, [0]⟩,
     ⟨some 21, .mv (.t 2), none, []⟩,
     ⟨some 22, .bin .neq none (.t 20) (.t 21), none, [1, 2]⟩])
    (.cond (.t 22)
     (.exit 1)
     .skip))
    (.seq (.seq (.ops [
     ⟨some 23, .fieldAddr 0 (.t 4), none, []⟩,
     ⟨some 24, .load false 1 (.t 23), none, [0]⟩,
     ⟨some 25, .len (.t 24), none, [1]⟩,
     ⟨some 26, .mv (.c (.pv (.int .i64 0))), none, []⟩])
    (.block 2
     (.loop f325l0)))
    (.exit 0)))))
  (.ops [
   ⟨some 43, .bin .add none (.t 14) (.c (.pv (.int .i64 1))), none, []⟩,
   ⟨some 14, .mv (.t 43), none, [0]⟩]))))
/-- dunnage/apart.Clash -/
def f325 : AFunc := ⟨44, [.t 6],
 (.seq (.ops [
   ⟨some 3, .box (.t 0), none, []⟩,
   ⟨some 4, .box (.t 1), none, []⟩,
   ⟨some 6, .mv (.c (.pv (.int .i64 0))), none, []⟩])
  (.seq (.seq (.ops [
   ⟨some 11, .fieldAddr 0 (.t 4), none, []⟩,
   ⟨some 12, .load false 1 (.t 11), none, [0]⟩,
   ⟨some 13, .len (.t 12), none, [1]⟩,
   ⟨some 14, .mv (.c (.pv (.int .i64 0))), none, []⟩])
  (.block 0
   (.loop f325l1)))
  (.seq (.ops [
   ⟨some 6, .mv (.c (.pv (.int .i64 0))), none, []⟩])
  .ret)))⟩

/-- dunnage/dunnagelaw06.up -/
def f326 : AFunc := ⟨39, [.t 0],
 (.seq (.ops [
   ⟨some 0, .mv (.c (.pv (.bool false))), none, []⟩])
  (.seq (.ops [
   ⟨some 5, .build [(.pv (.int .u64 0)), (.pv (.int .u64 0)), (.pv (.int .u64 0)), (.pv (.int .u64 0))] [(0, 1, (.c (.pv (.int .u64 5))))], none, []⟩,
   ⟨some 6, .build [(.pv (.int .u64 0)), (.pv (.int .u64 0)), (.pv (.int .u64 0)), (.pv (.int .u64 0))] [(0, 1, (.c (.pv (.int .u64 1))))], none, []⟩,
   ⟨some 7, .build [(.pv (.int .i64 0)), (.pv (.int .i64 0)), (.pv (.int .u64 0)), (.pv (.int .u64 0)), (.pv (.int .u64 0)), (.pv (.int .u64 0)), (.pv (.int .u64 0)), (.pv (.int .u64 0)), (.pv (.int .u64 0)), (.pv (.int .u64 0))] [(0, 1, (.c (.pv (.int .i64 3)))), (1, 1, (.c (.pv (.int .i64 1)))), (2, 4, (.t 5)), (6, 4, (.t 6))], none, [0, 1]⟩,
   ⟨some 8, .bslice 10 1 [(.pv (.int .i64 0)), (.pv (.int .i64 0)), (.pv (.int .u64 0)), (.pv (.int .u64 0)), (.pv (.int .u64 0)), (.pv (.int .u64 0)), (.pv (.int .u64 0)), (.pv (.int .u64 0)), (.pv (.int .u64 0)), (.pv (.int .u64 0))] [(0, 10, (.t 7))], none, [2]⟩,
   ⟨some 9, .build [.nils, .nils, .nils] [(0, 1, (.t 8))], none, [3]⟩,
   ⟨some 1, .alloc [.nils, .nils, .nils], none, []⟩,
   ⟨none, .store 3 (.t 1) (.t 9), none, [5, 4, 0, 1, 2, 3, 4, 5]⟩])
  (.seq (.ops [
   ⟨some 11, .load true 3 (.t 1), none, []⟩,
   ⟨some 12, .build [.nils, (.pv (.int .i64 0)), (.pv (.int .i64 0))] [], none, []⟩,
   ⟨some 13, .call 220 [(.t 11), (.t 12), (.c (.pv (.int .i64 3)))], none, [0, 1]⟩,
   ⟨some 10, .mv (.t 13), none, [2]⟩,
   ⟨some 14, .extract (.t 10) 0, none, [3]⟩,
   ⟨some 15, .extract (.t 10) 1, none, [3]⟩,
   ⟨some 2, .alloc [(.pv (.int .u64 0)), (.pv (.int .u64 0)), (.pv (.int .u64 0)), (.pv (.int .u64 0))], none, []⟩,
   ⟨none, .store 4 (.t 2) (.t 14), none, [6, 4, 2, 0, 1, 2, 3, 4, 6]⟩,
   ⟨some 3, .mv (.t 15), none, [5, 7, 0, 1, 2, 3, 4, 5, 6, 7]⟩])
  (.seq (.ops [
   ⟨some 16, .load true 3 (.t 1), none, []⟩,
   ⟨some 17, .build [(.pv (.int .u64 0)), (.pv (.int .u64 0)), (.pv (.int .u64 0)), (.pv (.int .u64 0))] [(0, 1, (.c (.pv (.int .u64 5))))], none, []⟩,
   ⟨some 18, .build [(.pv (.int .i64 0)), (.pv (.int .i64 0)), (.pv (.int .i64 0)), (.pv (.int .u64 0)), (.pv (.int .u64 0)), (.pv (.int .u64 0)), (.pv (.int .u64 0)), (.pv (.int .i64 0))] [(0, 1, (.c (.pv (.int .i64 1)))), (7, 1, (.c (.pv (.int .i64 3)))), (3, 4, (.t 17))], none, [1]⟩,
   ⟨some 19, .bslice 8 1 [(.pv (.int .i64 0)), (.pv (.int .i64 0)), (.pv (.int .i64 0)), (.pv (.int .u64 0)), (.pv (.int .u64 0)), (.pv (.int .u64 0)), (.pv (.int .u64 0)), (.pv (.int .i64 0))] [(0, 8, (.t 18))], none, [2]⟩,
   ⟨some 20, .build [.nils, (.pv (.int .i64 0)), (.pv (.int .i64 0))] [(0, 1, (.t 19))], none, [3]⟩,
   ⟨some 21, .call 219 [(.t 16), (.t 20)], none, [0, 4]⟩,
   ⟨some 4, .mv (.t 21), none, [5, 5, 0, 1, 2, 3, 4, 5]⟩])
  (.seq (.ops [
   ⟨some 22, .mv (.t 3), none, []⟩,
   ⟨some 23, .bin .eql (some (.iface true)) (.t 22) (.c (.pv .nili)), none, [0]⟩,
   ⟨some 24, .mv (.t 23), none, [1]⟩,
   ⟨some 25, .load true 4 (.t 2), some (24, true), [2]⟩,
   ⟨some 26, .build [(.pv (.int .u64 0)), (.pv (.int .u64 0)), (.pv (.int .u64 0)), (.pv (.int .u64 0))] [(0, 1, (.c (.pv (.int .u64 4))))], some (24, true), [2]⟩,
   ⟨some 27, .bin .eql (some (.plain [false, false, false, false])) (.t 25) (.t 26), some (24, true), [3, 4, 2]⟩,
   ⟨some 28, .pick (.t 24) (.t 27) (.c (.pv (.bool false))), none, [2, 5]⟩,
   ⟨some 29, .mv (.t 28), none, [6, 2]⟩,
   ⟨some 30, .load true 3 (.t 1), some (29, true), [7]⟩,
   ⟨some 31, .build [.nils, (.pv (.int .i64 0)), (.pv (.int .i64 0))] [], some (29, true), [7]⟩,
   ⟨some 32, .call 219 [(.t 30), (.t 31)], some (29, true), [8, 9, 7, 7]⟩,
   ⟨some 33, .bin .eql (some (.iface true)) (.t 32) (.c (.pv .nili)), some (29, true), [10, 7]⟩,
   ⟨some 34, .pick (.t 29) (.t 33) (.c (.pv (.bool false))), none, [7, 11]⟩,
   ⟨some 35, .mv (.t 34), none, [12, 10]⟩,
   ⟨some 36, .mv (.t 4), some (35, true), [13]⟩,
   ⟨some 37, .call 103 [(.t 36), (.c (.pv (.int .i64 0))), (.c (.pv (.int .i64 9)))], some (35, true), [14, 13, 13]⟩,
   ⟨some 38, .pick (.t 35) (.t 37) (.c (.pv (.bool false))), none, [13, 15]⟩,
   ⟨some 0, .mv (.t 38), none, [16, 15, 0, 1, 2, 3, 4, 5, 6, 7, 8, 9, 10, 11, 12, 13, 14, 15, 16]⟩])
  .ret)))))⟩
end Go.Proofs.YtmeigdjfcecidaaDoor.Ab
/- Law 9: BudgetMoves. -/
set_option linter.unusedVariables false
set_option linter.unusedSimpArgs false
namespace Go.Proofs.YtmeigdjfcecidaaDoor.Ab
open Go

/-! ### The plain law: how a move changes a load's size -/
def cnt (load : Int) (p : Pod) : Nat := if p.load = load ∧ p.node ≠ 0 then 1 else 0
theorem sizeN_set (load : Int) : ∀ (l : List Pod) (i : Nat) (p q : Pod), l[i]? = some p → sizeN load (l.set i q) + cnt load p = sizeN load l + cnt load q
  | [], i, p, q, h => by simp at h
  | a :: r, 0, p, q, h => by
    simp at h
    subst h
    simp only [List.set_cons_zero, sizeN, cnt]
    omega
  | a :: r, i + 1, p, q, h => by
    have := sizeN_set load r i p q (by simpa using h)
    simp only [List.set_cons_succ, sizeN]
    omega
theorem comeS_load (x : Spec) (p : Pod) (n : Int) : (comeS x p n).load = p.load ∧ (comeS x p n).node = n := by
  unfold comeS
  split
  · split <;> exact ⟨rfl, rfl⟩
  · exact ⟨rfl, rfl⟩
theorem placeFrom_podOf {id : Int} {l : List Pod} {j : Nat} (h : placeFrom id 0 l = (j : Int)) : ∃ p, l[j]? = some p ∧ podOf id l = some p ∧ j < l.length := by
  rcases placeFrom_cases id l 0 with ⟨h1, h2⟩ | ⟨k, p, h1, h2, h3, h4⟩
  · omega
  · have : k = j := by omega
    subst this
    exact ⟨p, h1, h2, h4⟩

/-- What BudgetMoves reckons. -/
def wantN (t : State) (m : Move) (load : Int) (p q : Pod) : Int :=
  let a : Int := if m.kind = 2 ∧ p.load = load then (sizeN load t.pods : Int) - 1 else sizeN load t.pods
  let b : Int := if (m.kind = 1 ∨ m.kind = 4) ∧ p.load = load then a + 1 else a
  if m.kind = 4 ∧ q.load = load then b - 1 else b

theorem moves_plain (s : Snap) (x : Spec) (t u : State) (m : Move) (load : Int) (h : makeS s x t m = .inr u) (hn : m.kind = 2 ∨ m.node ≠ 0) :
    ∃ p q : Pod, podOf m.pod t.pods = some p ∧ (m.kind = 4 → podOf m.over t.pods = some q) ∧ (sizeN load u.pods : Int) = wantN t m load p q ∧ u.pods.length = t.pods.length := by
  unfold makeS at h
  split at h
  · simp at h
  · rename_i hf
    split at h
    · simp at h
    · rename_i hi
      split at h
      · simp at h
      · split at h
        · simp at h
        · rename_i hno ho
          obtain ⟨j, hj⟩ : ∃ j : Nat, placeFrom m.pod 0 t.pods = (j : Int) := ⟨(placeFrom m.pod 0 t.pods).toNat, by omega⟩
          obtain ⟨p, g1, g2, g3⟩ := placeFrom_podOf hj
          rw [hj] at h
          simp only [Int.toNat_natCast, g1] at h
          by_cases k2 : m.kind = 2
          · rw [if_pos k2] at h
            split at h
            · simp at h
            · rename_i c1
              simp only [Sum.inr.injEq] at h
              subst h
              refine ⟨p, p, g2, fun k => by omega, ?_, by simp⟩
              have := sizeN_set load t.pods j p { p with node := 0 } g1
              simp only [cnt] at this
              simp only [wantN, k2]
              by_cases cl : p.load = load
              · simp [cl, c1] at this ⊢
                omega
              · simp [cl] at this ⊢
                omega
          · have hn0 : m.node ≠ 0 := by omega
            rw [if_neg k2] at h
            obtain ⟨e1, e2⟩ := comeS_load x p m.node
            split at h
            · rename_i k3
              split at h
              · simp at h
              · rename_i c1
                split at h
                · simp at h
                · simp only [Sum.inr.injEq] at h
                  subst h
                  refine ⟨p, p, g2, fun k => by omega, ?_, by simp⟩
                  have := sizeN_set load t.pods j p (comeS x p m.node) g1
                  simp only [cnt, e1, e2] at this
                  simp only [wantN, k3]
                  simp [c1, hn0] at this ⊢
                  omega
            · rename_i k3
              split at h
              · rename_i k4
                have hov : ¬ placeFrom m.over 0 t.pods < 0 := fun hh => ho ⟨k4, hh⟩
                obtain ⟨k, hk⟩ : ∃ k : Nat, placeFrom m.over 0 t.pods = (k : Int) := ⟨(placeFrom m.over 0 t.pods).toNat, by omega⟩
                obtain ⟨q, f1, f2, f3⟩ := placeFrom_podOf hk
                rw [hk] at h
                simp only [Int.toNat_natCast, f1] at h
                split at h
                · simp at h
                · rename_i c0
                  split at h
                  · simp at h
                  · rename_i c1
                    split at h
                    · simp at h
                    · rename_i c2
                      simp only [ne_eq, Classical.not_not] at c1 c2
                      simp only [Sum.inr.injEq] at h
                      subst h
                      refine ⟨p, q, g2, fun _ => f2, ?_, by simp⟩
                      have a1 := sizeN_set load t.pods k q { q with node := 0 } f1
                      have a2 := sizeN_set load (t.pods.set k { q with node := 0 }) j p (comeS x p m.node) (by rw [List.getElem?_set_ne (fun h => c0 h.symm)]; exact g1)
                      simp only [cnt, e1, e2] at a1 a2
                      simp only [wantN, k4]
                      by_cases cl : p.load = load <;> by_cases cq : q.load = load <;> simp [cl, cq, c1, c2, hn0] at a1 a2 ⊢ <;> omega
              · rename_i k4
                split at h
                · simp at h
                · rename_i c1
                  simp only [ne_eq, Classical.not_not] at c1
                  simp only [Sum.inr.injEq] at h
                  subst h
                  have hk1 : m.kind = 1 := by
                    simp only [formB, k2, k3, k4, if_false, or_false] at hf
                    by_cases k1 : m.kind = 1
                    · exact k1
                    · simp [k1] at hf
                  refine ⟨p, p, g2, fun k => by omega, ?_, by simp⟩
                  have := sizeN_set load t.pods j p (comeS x p m.node) g1
                  simp only [cnt, e1, e2] at this
                  simp only [wantN, hk1]
                  by_cases cl : p.load = load
                  · simp [cl, c1, hn0] at this ⊢
                    omega
                  · simp [cl] at this ⊢
                    omega

/-! ### The walk -/
def l09m : List (Nat × AFunc) := [(70, f70), (71, f71), (72, f72), (82, f82), (83, f83), (153, f153), (163, f163), (239, f239), (240, f240), (242, f242), (243, f243), (244, f244), (245, f245), (287, f287), (317, f317), (323, f323)]
def p09m : List (Nat × Prm) := [(103, isP), (279, cloneP 8)]
def T09m : Tab := tabOf l09m [242] [287] [279] [317] p09m
theorem up09m : Gives T09m 317 [] (.bool true) := ⟨rfl, rfl, none, callP_true (k := 60) (by decide +kernel)⟩
theorem S09m : StdM T09m := ⟨⟨⟨rfl, rfl, rfl, rfl, rfl⟩, rfl, ⟨rfl, rfl, rfl, rfl, rfl⟩, ⟨rfl, rfl, rfl, rfl, rfl⟩⟩, ⟨rfl, rfl, rfl, rfl, rfl⟩, ⟨rfl, rfl, rfl, rfl, rfl⟩, ⟨rfl, rfl, rfl, rfl, rfl⟩, ⟨rfl, rfl, rfl, rfl⟩, ⟨rfl, rfl, rfl, rfl, rfl⟩, ⟨rfl, rfl, rfl⟩⟩

set_option maxRecDepth 100000 in
set_option maxHeartbeats 4000000 in
theorem law09b (s : Snap) (x : Spec) (t : State) (m : Move) (load : Int) (_ : s.wf) (_ : x.wf) (_ : t.wf) (_ : m.wf) (_ : inI load) : Gives T09m 323 [snapP s, specP x, stateP t, moveP m, .int .i64 load] (.bool true) := by
  refine gives (f := f323) ⟨rfl, rfl, rfl, rfl, rfl⟩ rfl ?_
  have kf := few5_ok (T := T09m) ⟨rfl, rfl, rfl, rfl, rfl⟩ ⟨rfl, rfl, rfl, rfl, rfl⟩ s x t
  simp only [f323, Wp_seq, Wp_ops, Wp_cond, Wp_skip, Wp_ret, Wp_exit, Wp_block, WpO_cons, WpO_nil, opQ, evOp, evO, evOs, evQ_some, guardV, guardQ_true, guardQ_false, boolQ_true, boolQ_false, argsA, pvs, putS, cellsOf, scals, scal, seqQ_normal, seqQ_ret, seqQ_exit, blkQ_normal, blkQ_ret, blkQ_exit, look_if, blkAt_if, if_true, if_false, Nat.reduceEqDiff, Nat.reduceAdd, true_implies, reduceCtorEq, false_implies, and_true, true_and, List.nil_append, List.cons_append, Bool.and_self, Nat.zero_add, Nat.add_zero, fieldA, nonNil, cellsAt, loadV_one, loadV_pvs, loadV_cons, mkAgg, allPV, List.drop_zero, List.drop_succ_cons, List.take_succ_cons, List.take_zero, List.length_cons, List.length_nil, Nat.beq_eq, storeB, patchL, beq_self_eq_true, ge_iff_le, gt_iff_lt, Int.reduceNeg, Int.reduceLE, Int.reduceLT, Int.reduceEq, extractV, List.getElem?_cons_zero, List.getElem?_cons_succ, mkAgg, Nat.add_eq_left, Nat.left_eq_add, Nat.one_ne_zero, ble_dec, beq_dec, decide_eq_true_eq, Nat.reduceLeDiff, Nat.le_refl, fillA, pureVs, pureV, beq_int, bne_int, Int.natCast_inj, eq_self, eqV, eqB, decide_true, decide_false, List.length_map, Int.toNat_natCast, List.getElem?_map, Option.map_some, Option.map_none, Int.natCast_nonneg, Option.some.injEq, lenV, binV, intBin, intV, idxA, ne_eq, not_true_eq_false, not_false_eq_true, List.drop, List.take, RetP, retP, resV, resOne, snapV, snapVs, snapR, snapRs, ownSz, pickV, cond_true, cond_false, bTT, bTF, bFT, bFF, Bool.not_true, Bool.not_false, AO.isC, Bool.or_true, Bool.true_or, Bool.or_false, Bool.false_or, WpE_cons, WpE_nil, opE, evE_some, guardE_true, guardE_false, WpD_cons, WpD_nil, opD, evD_some, guardD_true, guardD_false, up09m.call, snapP, specP, stateP, moveP, moveC, kf.call]
  cases hf : few5 s x t
  · simp only [Wp_seq, Wp_ops, Wp_cond, Wp_skip, Wp_ret, Wp_exit, Wp_block, WpO_cons, WpO_nil, opQ, evOp, evO, evOs, evQ_some, guardV, guardQ_true, guardQ_false, boolQ_true, boolQ_false, argsA, pvs, putS, cellsOf, scals, scal, seqQ_normal, seqQ_ret, seqQ_exit, blkQ_normal, blkQ_ret, blkQ_exit, look_if, blkAt_if, if_true, if_false, Nat.reduceEqDiff, Nat.reduceAdd, true_implies, reduceCtorEq, false_implies, and_true, true_and, List.nil_append, List.cons_append, Bool.and_self, Nat.zero_add, Nat.add_zero, fieldA, nonNil, cellsAt, loadV_one, loadV_pvs, loadV_cons, mkAgg, allPV, List.drop_zero, List.drop_succ_cons, List.take_succ_cons, List.take_zero, List.length_cons, List.length_nil, Nat.beq_eq, storeB, patchL, beq_self_eq_true, ge_iff_le, gt_iff_lt, Int.reduceNeg, Int.reduceLE, Int.reduceLT, Int.reduceEq, extractV, List.getElem?_cons_zero, List.getElem?_cons_succ, mkAgg, Nat.add_eq_left, Nat.left_eq_add, Nat.one_ne_zero, ble_dec, beq_dec, decide_eq_true_eq, Nat.reduceLeDiff, Nat.le_refl, fillA, pureVs, pureV, beq_int, bne_int, Int.natCast_inj, eq_self, eqV, eqB, decide_true, decide_false, List.length_map, Int.toNat_natCast, List.getElem?_map, Option.map_some, Option.map_none, Int.natCast_nonneg, Option.some.injEq, lenV, binV, intBin, intV, idxA, ne_eq, not_true_eq_false, not_false_eq_true, List.drop, List.take, RetP, retP, resV, resOne, snapV, snapVs, snapR, snapRs, ownSz, pickV, cond_true, cond_false, bTT, bTF, bFT, bFF, Bool.not_true, Bool.not_false, AO.isC, Bool.or_true, Bool.true_or, Bool.or_false, Bool.false_or, WpE_cons, WpE_nil, opE, evE_some, guardE_true, guardE_false, WpD_cons, WpD_nil, opD, evD_some, guardD_true, guardD_false]
  · have hf' := hf
    simp only [few5, few3, Bool.and_eq_true, decide_eq_true_eq] at hf'
    obtain ⟨⟨l1, l2, l3⟩, l4, l5⟩ := hf'
    have b1 : s.nodes.length ≤ 2 ^ 30 := by omega
    have b4 : x.wants.length ≤ 2 ^ 30 := by omega
    have b5 : t.pods.length ≤ 2 ^ 30 := by omega
    have km := make_ok S09m s x t m b1 b4 b5
    have kp := pod5_ok S09m.s5 (h240 := ⟨rfl, rfl, rfl, rfl, rfl⟩) t m.pod b5
    have ko := pod5_ok S09m.s5 (h240 := ⟨rfl, rfl, rfl, rfl, rfl⟩) t m.over b5
    have ks := size_ok (T := T09m) ⟨rfl, rfl, rfl, rfl, rfl⟩ t load b5
    simp only [snapP, specP, stateP, moveP, moveC] at km kp ko ks
    cases hm : makeS s x t m with
    | inl c =>
      rw [hm] at km
      simp only [makeR, codeE, stateP, List.map_nil] at km
      simp only [Wp_seq, Wp_ops, Wp_cond, Wp_skip, Wp_ret, Wp_exit, Wp_block, WpO_cons, WpO_nil, opQ, evOp, evO, evOs, evQ_some, guardV, guardQ_true, guardQ_false, boolQ_true, boolQ_false, argsA, pvs, putS, cellsOf, scals, scal, seqQ_normal, seqQ_ret, seqQ_exit, blkQ_normal, blkQ_ret, blkQ_exit, look_if, blkAt_if, if_true, if_false, Nat.reduceEqDiff, Nat.reduceAdd, true_implies, reduceCtorEq, false_implies, and_true, true_and, List.nil_append, List.cons_append, Bool.and_self, Nat.zero_add, Nat.add_zero, fieldA, nonNil, cellsAt, loadV_one, loadV_pvs, loadV_cons, mkAgg, allPV, List.drop_zero, List.drop_succ_cons, List.take_succ_cons, List.take_zero, List.length_cons, List.length_nil, Nat.beq_eq, storeB, patchL, beq_self_eq_true, ge_iff_le, gt_iff_lt, Int.reduceNeg, Int.reduceLE, Int.reduceLT, Int.reduceEq, extractV, List.getElem?_cons_zero, List.getElem?_cons_succ, mkAgg, Nat.add_eq_left, Nat.left_eq_add, Nat.one_ne_zero, ble_dec, beq_dec, decide_eq_true_eq, Nat.reduceLeDiff, Nat.le_refl, fillA, pureVs, pureV, beq_int, bne_int, Int.natCast_inj, eq_self, eqV, eqB, decide_true, decide_false, List.length_map, Int.toNat_natCast, List.getElem?_map, Option.map_some, Option.map_none, Int.natCast_nonneg, Option.some.injEq, lenV, binV, intBin, intV, idxA, ne_eq, not_true_eq_false, not_false_eq_true, List.drop, List.take, RetP, retP, resV, resOne, snapV, snapVs, snapR, snapRs, ownSz, pickV, cond_true, cond_false, bTT, bTF, bFT, bFF, Bool.not_true, Bool.not_false, AO.isC, Bool.or_true, Bool.true_or, Bool.or_false, Bool.false_or, WpE_cons, WpE_nil, opE, evE_some, guardE_true, guardE_false, WpD_cons, WpD_nil, opD, evD_some, guardD_true, guardD_false, km.call]
    | inr u =>
      rw [hm] at km
      simp only [makeR, stateP] at km
      simp only [Wp_seq, Wp_ops, Wp_cond, Wp_skip, Wp_ret, Wp_exit, Wp_block, WpO_cons, WpO_nil, opQ, evOp, evO, evOs, evQ_some, guardV, guardQ_true, guardQ_false, boolQ_true, boolQ_false, argsA, pvs, putS, cellsOf, scals, scal, seqQ_normal, seqQ_ret, seqQ_exit, blkQ_normal, blkQ_ret, blkQ_exit, look_if, blkAt_if, if_true, if_false, Nat.reduceEqDiff, Nat.reduceAdd, true_implies, reduceCtorEq, false_implies, and_true, true_and, List.nil_append, List.cons_append, Bool.and_self, Nat.zero_add, Nat.add_zero, fieldA, nonNil, cellsAt, loadV_one, loadV_pvs, loadV_cons, mkAgg, allPV, List.drop_zero, List.drop_succ_cons, List.take_succ_cons, List.take_zero, List.length_cons, List.length_nil, Nat.beq_eq, storeB, patchL, beq_self_eq_true, ge_iff_le, gt_iff_lt, Int.reduceNeg, Int.reduceLE, Int.reduceLT, Int.reduceEq, extractV, List.getElem?_cons_zero, List.getElem?_cons_succ, mkAgg, Nat.add_eq_left, Nat.left_eq_add, Nat.one_ne_zero, ble_dec, beq_dec, decide_eq_true_eq, Nat.reduceLeDiff, Nat.le_refl, fillA, pureVs, pureV, beq_int, bne_int, Int.natCast_inj, eq_self, eqV, eqB, decide_true, decide_false, List.length_map, Int.toNat_natCast, List.getElem?_map, Option.map_some, Option.map_none, Int.natCast_nonneg, Option.some.injEq, lenV, binV, intBin, intV, idxA, ne_eq, not_true_eq_false, not_false_eq_true, List.drop, List.take, RetP, retP, resV, resOne, snapV, snapVs, snapR, snapRs, ownSz, pickV, cond_true, cond_false, bTT, bTF, bFT, bFF, Bool.not_true, Bool.not_false, AO.isC, Bool.or_true, Bool.true_or, Bool.or_false, Bool.false_or, WpE_cons, WpE_nil, opE, evE_some, guardE_true, guardE_false, WpD_cons, WpD_nil, opD, evD_some, guardD_true, guardD_false, km.call]
      by_cases hn : m.kind = 2 ∨ m.node ≠ 0
      · obtain ⟨p, q, g1, g2, g3, g4⟩ := moves_plain s x t u m load hm hn
        have ku := size_ok (T := T09m) ⟨rfl, rfl, rfl, rfl, rfl⟩ u load (by rw [g4]; exact b5)
        simp only [stateP] at ku
        obtain ⟨q', hq'⟩ : ∃ q' : Pod, podR (podOf m.over t.pods) = .tuple [podP q', .bool (podOf m.over t.pods).isSome] ∧ (m.kind = 4 → q' = q) := by
          cases hh : podOf m.over t.pods with
          | none => exact ⟨pod0, rfl, fun k => by rw [g2 k] at hh; simp at hh⟩
          | some r => exact ⟨r, rfl, fun k => by rw [g2 k] at hh; simpa using hh.symm⟩
        obtain ⟨hq1, hq2⟩ := hq'
        rw [hq1] at ko
        rw [g1] at kp
        simp only [podR, podP, podC] at kp ko
        have hb := sizeN_le load t.pods
        have w1 : IntKind.i64.wrap ((sizeN load t.pods : Int) - 1) = (sizeN load t.pods : Int) - 1 := by rw [wrap6] <;> omega
        have w2 : IntKind.i64.wrap ((sizeN load t.pods : Int) + 1) = (sizeN load t.pods : Int) + 1 := by rw [wrap6] <;> omega
        have w3 : IntKind.i64.wrap ((sizeN load t.pods : Int) + 1 - 1) = (sizeN load t.pods : Int) + 1 - 1 := by rw [wrap6] <;> omega
        have w4 : (sizeN load t.pods : Int) + 1 - 1 = (sizeN load t.pods : Int) := by omega
        have w5 : IntKind.i64.wrap ((sizeN load t.pods : Int)) = (sizeN load t.pods : Int) := by rw [wrap6] <;> omega
        by_cases k2 : m.kind = 2
        · by_cases cl : p.load = load
          · simp [wantN, k2, cl] at g3
            simp only [Wp_seq, Wp_ops, Wp_cond, Wp_skip, Wp_ret, Wp_exit, Wp_block, WpO_cons, WpO_nil, opQ, evOp, evO, evOs, evQ_some, guardV, guardQ_true, guardQ_false, boolQ_true, boolQ_false, argsA, pvs, putS, cellsOf, scals, scal, seqQ_normal, seqQ_ret, seqQ_exit, blkQ_normal, blkQ_ret, blkQ_exit, look_if, blkAt_if, if_true, if_false, Nat.reduceEqDiff, Nat.reduceAdd, true_implies, reduceCtorEq, false_implies, and_true, true_and, List.nil_append, List.cons_append, Bool.and_self, Nat.zero_add, Nat.add_zero, fieldA, nonNil, cellsAt, loadV_one, loadV_pvs, loadV_cons, mkAgg, allPV, List.drop_zero, List.drop_succ_cons, List.take_succ_cons, List.take_zero, List.length_cons, List.length_nil, Nat.beq_eq, storeB, patchL, beq_self_eq_true, ge_iff_le, gt_iff_lt, Int.reduceNeg, Int.reduceLE, Int.reduceLT, Int.reduceEq, extractV, List.getElem?_cons_zero, List.getElem?_cons_succ, mkAgg, Nat.add_eq_left, Nat.left_eq_add, Nat.one_ne_zero, ble_dec, beq_dec, decide_eq_true_eq, Nat.reduceLeDiff, Nat.le_refl, fillA, pureVs, pureV, beq_int, bne_int, Int.natCast_inj, eq_self, eqV, eqB, decide_true, decide_false, List.length_map, Int.toNat_natCast, List.getElem?_map, Option.map_some, Option.map_none, Int.natCast_nonneg, Option.some.injEq, lenV, binV, intBin, intV, idxA, ne_eq, not_true_eq_false, not_false_eq_true, List.drop, List.take, RetP, retP, resV, resOne, snapV, snapVs, snapR, snapRs, ownSz, pickV, cond_true, cond_false, bTT, bTF, bFT, bFF, Bool.not_true, Bool.not_false, AO.isC, Bool.or_true, Bool.true_or, Bool.or_false, Bool.false_or, WpE_cons, WpE_nil, opE, evE_some, guardE_true, guardE_false, WpD_cons, WpD_nil, opD, evD_some, guardD_true, guardD_false, kp.call, ko.call, ks.call, k2, cl, w1, ku.call, g3]
          · simp [wantN, k2, cl] at g3
            simp only [Wp_seq, Wp_ops, Wp_cond, Wp_skip, Wp_ret, Wp_exit, Wp_block, WpO_cons, WpO_nil, opQ, evOp, evO, evOs, evQ_some, guardV, guardQ_true, guardQ_false, boolQ_true, boolQ_false, argsA, pvs, putS, cellsOf, scals, scal, seqQ_normal, seqQ_ret, seqQ_exit, blkQ_normal, blkQ_ret, blkQ_exit, look_if, blkAt_if, if_true, if_false, Nat.reduceEqDiff, Nat.reduceAdd, true_implies, reduceCtorEq, false_implies, and_true, true_and, List.nil_append, List.cons_append, Bool.and_self, Nat.zero_add, Nat.add_zero, fieldA, nonNil, cellsAt, loadV_one, loadV_pvs, loadV_cons, mkAgg, allPV, List.drop_zero, List.drop_succ_cons, List.take_succ_cons, List.take_zero, List.length_cons, List.length_nil, Nat.beq_eq, storeB, patchL, beq_self_eq_true, ge_iff_le, gt_iff_lt, Int.reduceNeg, Int.reduceLE, Int.reduceLT, Int.reduceEq, extractV, List.getElem?_cons_zero, List.getElem?_cons_succ, mkAgg, Nat.add_eq_left, Nat.left_eq_add, Nat.one_ne_zero, ble_dec, beq_dec, decide_eq_true_eq, Nat.reduceLeDiff, Nat.le_refl, fillA, pureVs, pureV, beq_int, bne_int, Int.natCast_inj, eq_self, eqV, eqB, decide_true, decide_false, List.length_map, Int.toNat_natCast, List.getElem?_map, Option.map_some, Option.map_none, Int.natCast_nonneg, Option.some.injEq, lenV, binV, intBin, intV, idxA, ne_eq, not_true_eq_false, not_false_eq_true, List.drop, List.take, RetP, retP, resV, resOne, snapV, snapVs, snapR, snapRs, ownSz, pickV, cond_true, cond_false, bTT, bTF, bFT, bFF, Bool.not_true, Bool.not_false, AO.isC, Bool.or_true, Bool.true_or, Bool.or_false, Bool.false_or, WpE_cons, WpE_nil, opE, evE_some, guardE_true, guardE_false, WpD_cons, WpD_nil, opD, evD_some, guardD_true, guardD_false, kp.call, ko.call, ks.call, k2, cl, ku.call, g3]
        · have hn0 : ¬ m.node = 0 := by omega
          by_cases k4 : m.kind = 4
          · have hqq := hq2 k4
            subst hqq
            by_cases cl : p.load = load <;> by_cases cq : q'.load = load <;>
            · simp [wantN, k4, cl, cq] at g3
              simp only [Wp_seq, Wp_ops, Wp_cond, Wp_skip, Wp_ret, Wp_exit, Wp_block, WpO_cons, WpO_nil, opQ, evOp, evO, evOs, evQ_some, guardV, guardQ_true, guardQ_false, boolQ_true, boolQ_false, argsA, pvs, putS, cellsOf, scals, scal, seqQ_normal, seqQ_ret, seqQ_exit, blkQ_normal, blkQ_ret, blkQ_exit, look_if, blkAt_if, if_true, if_false, Nat.reduceEqDiff, Nat.reduceAdd, true_implies, reduceCtorEq, false_implies, and_true, true_and, List.nil_append, List.cons_append, Bool.and_self, Nat.zero_add, Nat.add_zero, fieldA, nonNil, cellsAt, loadV_one, loadV_pvs, loadV_cons, mkAgg, allPV, List.drop_zero, List.drop_succ_cons, List.take_succ_cons, List.take_zero, List.length_cons, List.length_nil, Nat.beq_eq, storeB, patchL, beq_self_eq_true, ge_iff_le, gt_iff_lt, Int.reduceNeg, Int.reduceLE, Int.reduceLT, Int.reduceEq, extractV, List.getElem?_cons_zero, List.getElem?_cons_succ, mkAgg, Nat.add_eq_left, Nat.left_eq_add, Nat.one_ne_zero, ble_dec, beq_dec, decide_eq_true_eq, Nat.reduceLeDiff, Nat.le_refl, fillA, pureVs, pureV, beq_int, bne_int, Int.natCast_inj, eq_self, eqV, eqB, decide_true, decide_false, List.length_map, Int.toNat_natCast, List.getElem?_map, Option.map_some, Option.map_none, Int.natCast_nonneg, Option.some.injEq, lenV, binV, intBin, intV, idxA, ne_eq, not_true_eq_false, not_false_eq_true, List.drop, List.take, RetP, retP, resV, resOne, snapV, snapVs, snapR, snapRs, ownSz, pickV, cond_true, cond_false, bTT, bTF, bFT, bFF, Bool.not_true, Bool.not_false, AO.isC, Bool.or_true, Bool.true_or, Bool.or_false, Bool.false_or, WpE_cons, WpE_nil, opE, evE_some, guardE_true, guardE_false, WpD_cons, WpD_nil, opD, evD_some, guardD_true, guardD_false, kp.call, ko.call, ks.call, k4, hn0, cl, cq, w1, w2, w4, w5, ku.call, g3]
          · by_cases k1 : m.kind = 1
            · by_cases cl : p.load = load
              · simp [wantN, k1, cl] at g3
                simp only [Wp_seq, Wp_ops, Wp_cond, Wp_skip, Wp_ret, Wp_exit, Wp_block, WpO_cons, WpO_nil, opQ, evOp, evO, evOs, evQ_some, guardV, guardQ_true, guardQ_false, boolQ_true, boolQ_false, argsA, pvs, putS, cellsOf, scals, scal, seqQ_normal, seqQ_ret, seqQ_exit, blkQ_normal, blkQ_ret, blkQ_exit, look_if, blkAt_if, if_true, if_false, Nat.reduceEqDiff, Nat.reduceAdd, true_implies, reduceCtorEq, false_implies, and_true, true_and, List.nil_append, List.cons_append, Bool.and_self, Nat.zero_add, Nat.add_zero, fieldA, nonNil, cellsAt, loadV_one, loadV_pvs, loadV_cons, mkAgg, allPV, List.drop_zero, List.drop_succ_cons, List.take_succ_cons, List.take_zero, List.length_cons, List.length_nil, Nat.beq_eq, storeB, patchL, beq_self_eq_true, ge_iff_le, gt_iff_lt, Int.reduceNeg, Int.reduceLE, Int.reduceLT, Int.reduceEq, extractV, List.getElem?_cons_zero, List.getElem?_cons_succ, mkAgg, Nat.add_eq_left, Nat.left_eq_add, Nat.one_ne_zero, ble_dec, beq_dec, decide_eq_true_eq, Nat.reduceLeDiff, Nat.le_refl, fillA, pureVs, pureV, beq_int, bne_int, Int.natCast_inj, eq_self, eqV, eqB, decide_true, decide_false, List.length_map, Int.toNat_natCast, List.getElem?_map, Option.map_some, Option.map_none, Int.natCast_nonneg, Option.some.injEq, lenV, binV, intBin, intV, idxA, ne_eq, not_true_eq_false, not_false_eq_true, List.drop, List.take, RetP, retP, resV, resOne, snapV, snapVs, snapR, snapRs, ownSz, pickV, cond_true, cond_false, bTT, bTF, bFT, bFF, Bool.not_true, Bool.not_false, AO.isC, Bool.or_true, Bool.true_or, Bool.or_false, Bool.false_or, WpE_cons, WpE_nil, opE, evE_some, guardE_true, guardE_false, WpD_cons, WpD_nil, opD, evD_some, guardD_true, guardD_false, kp.call, ko.call, ks.call, k1, hn0, cl, w2, ku.call, g3]
              · simp [wantN, k1, cl] at g3
                simp only [Wp_seq, Wp_ops, Wp_cond, Wp_skip, Wp_ret, Wp_exit, Wp_block, WpO_cons, WpO_nil, opQ, evOp, evO, evOs, evQ_some, guardV, guardQ_true, guardQ_false, boolQ_true, boolQ_false, argsA, pvs, putS, cellsOf, scals, scal, seqQ_normal, seqQ_ret, seqQ_exit, blkQ_normal, blkQ_ret, blkQ_exit, look_if, blkAt_if, if_true, if_false, Nat.reduceEqDiff, Nat.reduceAdd, true_implies, reduceCtorEq, false_implies, and_true, true_and, List.nil_append, List.cons_append, Bool.and_self, Nat.zero_add, Nat.add_zero, fieldA, nonNil, cellsAt, loadV_one, loadV_pvs, loadV_cons, mkAgg, allPV, List.drop_zero, List.drop_succ_cons, List.take_succ_cons, List.take_zero, List.length_cons, List.length_nil, Nat.beq_eq, storeB, patchL, beq_self_eq_true, ge_iff_le, gt_iff_lt, Int.reduceNeg, Int.reduceLE, Int.reduceLT, Int.reduceEq, extractV, List.getElem?_cons_zero, List.getElem?_cons_succ, mkAgg, Nat.add_eq_left, Nat.left_eq_add, Nat.one_ne_zero, ble_dec, beq_dec, decide_eq_true_eq, Nat.reduceLeDiff, Nat.le_refl, fillA, pureVs, pureV, beq_int, bne_int, Int.natCast_inj, eq_self, eqV, eqB, decide_true, decide_false, List.length_map, Int.toNat_natCast, List.getElem?_map, Option.map_some, Option.map_none, Int.natCast_nonneg, Option.some.injEq, lenV, binV, intBin, intV, idxA, ne_eq, not_true_eq_false, not_false_eq_true, List.drop, List.take, RetP, retP, resV, resOne, snapV, snapVs, snapR, snapRs, ownSz, pickV, cond_true, cond_false, bTT, bTF, bFT, bFF, Bool.not_true, Bool.not_false, AO.isC, Bool.or_true, Bool.true_or, Bool.or_false, Bool.false_or, WpE_cons, WpE_nil, opE, evE_some, guardE_true, guardE_false, WpD_cons, WpD_nil, opD, evD_some, guardD_true, guardD_false, kp.call, ko.call, ks.call, k1, hn0, cl, ku.call, g3]
            · simp [wantN, k1, k2, k4] at g3
              simp only [Wp_seq, Wp_ops, Wp_cond, Wp_skip, Wp_ret, Wp_exit, Wp_block, WpO_cons, WpO_nil, opQ, evOp, evO, evOs, evQ_some, guardV, guardQ_true, guardQ_false, boolQ_true, boolQ_false, argsA, pvs, putS, cellsOf, scals, scal, seqQ_normal, seqQ_ret, seqQ_exit, blkQ_normal, blkQ_ret, blkQ_exit, look_if, blkAt_if, if_true, if_false, Nat.reduceEqDiff, Nat.reduceAdd, true_implies, reduceCtorEq, false_implies, and_true, true_and, List.nil_append, List.cons_append, Bool.and_self, Nat.zero_add, Nat.add_zero, fieldA, nonNil, cellsAt, loadV_one, loadV_pvs, loadV_cons, mkAgg, allPV, List.drop_zero, List.drop_succ_cons, List.take_succ_cons, List.take_zero, List.length_cons, List.length_nil, Nat.beq_eq, storeB, patchL, beq_self_eq_true, ge_iff_le, gt_iff_lt, Int.reduceNeg, Int.reduceLE, Int.reduceLT, Int.reduceEq, extractV, List.getElem?_cons_zero, List.getElem?_cons_succ, mkAgg, Nat.add_eq_left, Nat.left_eq_add, Nat.one_ne_zero, ble_dec, beq_dec, decide_eq_true_eq, Nat.reduceLeDiff, Nat.le_refl, fillA, pureVs, pureV, beq_int, bne_int, Int.natCast_inj, eq_self, eqV, eqB, decide_true, decide_false, List.length_map, Int.toNat_natCast, List.getElem?_map, Option.map_some, Option.map_none, Int.natCast_nonneg, Option.some.injEq, lenV, binV, intBin, intV, idxA, ne_eq, not_true_eq_false, not_false_eq_true, List.drop, List.take, RetP, retP, resV, resOne, snapV, snapVs, snapR, snapRs, ownSz, pickV, cond_true, cond_false, bTT, bTF, bFT, bFF, Bool.not_true, Bool.not_false, AO.isC, Bool.or_true, Bool.true_or, Bool.or_false, Bool.false_or, WpE_cons, WpE_nil, opE, evE_some, guardE_true, guardE_false, WpD_cons, WpD_nil, opD, evD_some, guardD_true, guardD_false, kp.call, ko.call, ks.call, k1, k2, k4, hn0, ku.call, g3]
      · have k2 : ¬ m.kind = 2 := fun h => hn (.inl h)
        have n0 : m.node = 0 := Classical.byContradiction fun h => hn (.inr h)
        simp only [Wp_seq, Wp_ops, Wp_cond, Wp_skip, Wp_ret, Wp_exit, Wp_block, WpO_cons, WpO_nil, opQ, evOp, evO, evOs, evQ_some, guardV, guardQ_true, guardQ_false, boolQ_true, boolQ_false, argsA, pvs, putS, cellsOf, scals, scal, seqQ_normal, seqQ_ret, seqQ_exit, blkQ_normal, blkQ_ret, blkQ_exit, look_if, blkAt_if, if_true, if_false, Nat.reduceEqDiff, Nat.reduceAdd, true_implies, reduceCtorEq, false_implies, and_true, true_and, List.nil_append, List.cons_append, Bool.and_self, Nat.zero_add, Nat.add_zero, fieldA, nonNil, cellsAt, loadV_one, loadV_pvs, loadV_cons, mkAgg, allPV, List.drop_zero, List.drop_succ_cons, List.take_succ_cons, List.take_zero, List.length_cons, List.length_nil, Nat.beq_eq, storeB, patchL, beq_self_eq_true, ge_iff_le, gt_iff_lt, Int.reduceNeg, Int.reduceLE, Int.reduceLT, Int.reduceEq, extractV, List.getElem?_cons_zero, List.getElem?_cons_succ, mkAgg, Nat.add_eq_left, Nat.left_eq_add, Nat.one_ne_zero, ble_dec, beq_dec, decide_eq_true_eq, Nat.reduceLeDiff, Nat.le_refl, fillA, pureVs, pureV, beq_int, bne_int, Int.natCast_inj, eq_self, eqV, eqB, decide_true, decide_false, List.length_map, Int.toNat_natCast, List.getElem?_map, Option.map_some, Option.map_none, Int.natCast_nonneg, Option.some.injEq, lenV, binV, intBin, intV, idxA, ne_eq, not_true_eq_false, not_false_eq_true, List.drop, List.take, RetP, retP, resV, resOne, snapV, snapVs, snapR, snapRs, ownSz, pickV, cond_true, cond_false, bTT, bTF, bFT, bFF, Bool.not_true, Bool.not_false, AO.isC, Bool.or_true, Bool.true_or, Bool.or_false, Bool.false_or, WpE_cons, WpE_nil, opE, evE_some, guardE_true, guardE_false, WpD_cons, WpD_nil, opD, evD_some, guardD_true, guardD_false, k2, n0]
end Go.Proofs.YtmeigdjfcecidaaDoor.Ab
