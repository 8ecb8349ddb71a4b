/-
  My walks and plain laws, part 1 of 5, joined by a program of my own: SkReg, SkCore, SkRules, SkOps, SkFn, SkSl, G1, G2, SkEq, Eq, G3, G4, R1, R2, R3, R4, R5, R6, R7, SkMk.
-/
import Derived.OrdersHeld
import Derived.WalkKit
import Derived.WalkSpells
import Derived.Laws.CopyRow
import Derived.Laws.OwnMore
import Derived.Laws.Append
import Derived.Great.Walk
import Derived.Test.YtmbibkifbehgnaaGreatDoorProg
import Derived.KernelRfl
import Derived.Laws.StructEq
import Derived.Tactics
namespace Go.Proofs.YtmbibkifbehgnaaGreatDoor.Sk
open Go
section
variable {P : Program} {ops : Array Oper} {Q : Exit → Act → World → Prop} {S : World → Prop}
/-- Does number t wait for number i? -/
def waitsB (ops : Array Oper) (t i : Nat) : Bool := match ops[t]? with
  | some o => o.after.any fun e => Region.binds .any e && e.on == i
  | none => false
/-- Calm: it may yield its value and do nothing else. -/
def calmB : Op → Bool
  | .move _ | .assign _ | .pick .. | .nilCheck _ | .binOp .. | .unOp .. | .convert .. | .fieldAddr .. | .indexAddr .. | .extract .. | .field .. | .build .. | .index .. | .slice .. | .load .. => true
  | .call c => match c.callee with
    | .builtin .len => true
    | .builtin .cap => true
    | .builtin .max => true
    | .builtin .min => true
    | _ => false
  | _ => false
def loadB : Op → Bool
  | .load .. => true
  | _ => false
/-- Behind n; it does not wait for all ahead of n; its value hangs on no world. -/
def neuB (ops : Array Oper) (n i : Nat) : Bool := decide (n ≤ i) && (!((List.range n).all fun k => waitsB ops i k) && (match ops[i]? with
  | some o => calmB o.op && !loadB o.op
  | none => false))
/-- Neither turns the world for those ahead of n. -/
def hdB (ops : Array Oper) (n i : Nat) : Bool := decide (i < n) || neuB ops n i
/-- From n on every operation waits for all those ahead of n, but for the neutral ones. -/
def tailB (ops : Array Oper) (n : Nat) : Bool := (List.range ops.size).all fun t => hdB ops n t || (List.range n).all fun i => waitsB ops t i
def wpT (P : Program) (ops : Array Oper) (Q : Exit → Act → World → Prop) (S : World → Prop) (n : Nat) : Nat → Array Bool → Act → World → Prop
  | 0, listed, a, w => Region.ready .any ops listed = [] ∧ Q .normal a w
  | fuel + 1, listed, a, w => (Region.ready .any ops listed = [] → Q .normal a w) ∧
    ∀ i ∈ Region.ready .any ops listed, wpOp P ops Q i (fun a' w' => (hdB ops n i = true → S w → S w') ∧ wpT P ops Q S n fuel (listed.setIfInBounds i true) a' w') a w
theorem wpT_any {n : Nat} : ∀ (fuel : Nat) (listed : Array Bool) (a : Act) (w : World), wpT P ops Q S n fuel listed a w → wpAny P .any ops Q fuel listed a w
  | 0, _, _, _, h => h
  | fuel + 1, _, _, _, h => ⟨h.1, fun i hi => wpOp_mono (fun a' w' h' => wpT_any fuel _ a' w' h'.2) (h.2 i hi)⟩
theorem tail_lt {n i j : Nat} (hT : tailB ops n = true) (hin : i < n) {oj : Oper} (hj : ops[j]? = some oj) (hnot : ∀ e ∈ oj.after, Region.binds .any e = true → e.on ≠ i) : hdB ops n j = true := by
  have h1 := List.all_eq_true.1 hT j (List.mem_range.2 (Array.getElem?_eq_some_iff.1 hj).1)
  simp only [Bool.or_eq_true] at h1
  rcases h1 with h1 | h1
  · exact h1
  · have h2 := List.all_eq_true.1 h1 i (List.mem_range.2 hin)
    simp only [waitsB, hj] at h2
    obtain ⟨e, he, hb⟩ := Array.any_eq_true'.1 h2
    simp only [Bool.and_eq_true, beq_iff_eq] at hb
    exact absurd hb.2 (hnot e he hb.1)
/-- The heart: taking number i first serves every order. 'gen': for an operation whose value hangs on no world S' is True and i may be in the tail. -/
theorem wpT_first {S' : World → Prop} {n i : Nat} {oi : Oper} {v : Value} (hi : ops[i]? = some oi) (hsel : ∀ (j : Nat) (o : Oper) cs b, ops[j]? = some o → o.op ≠ .select cs b)
    (hQ : ∀ c a w, Q (.panic c) (a.put oi.dst v) w → Q (.panic c) a w)
    (hgo : ∀ (j : Nat) (oj : Oper) (w w' : World), ops[j]? = some oj → (∀ e ∈ oj.after, Region.binds .any e = true → e.on ≠ i) → (hdB ops n j = true → S w → S w') → S' w → S' w') :
    ∀ (fuel : Nat) (listed : Array Bool) (a : Act) (w : World),
      (∀ j oj, ops[j]? = some oj → j ≠ i → listed.getD j true = false → (∀ e ∈ oj.after, Region.binds .any e = true → e.on ≠ i) → oi.apart ops oj = true) →
      i ∈ Region.ready .any ops listed → YieldsIf P ops S' oi v a → S' w →
      wpT P ops Q S n fuel (listed.setIfInBounds i true) (a.put oi.dst v) w → wpT P ops Q S n (fuel + 1) listed a w := by
  intro fuel
  induction fuel with
  | zero =>
    intro listed a w _ hr hy hS H
    refine ⟨fun h => (by rw [h] at hr; cases hr), fun j hj => ?_⟩
    by_cases hji : j = i
    · subst hji
      exact hy.wpOp hi hS ⟨fun _ h => h, H⟩
    · have h0 := ready_mono hj hji
      rw [H.1] at h0
      cases h0
  | succ fuel ih =>
    intro listed a w hfree hr hy hS H
    refine ⟨fun h => (by rw [h] at hr; cases hr), fun j hj => ?_⟩
    by_cases hji : j = i
    · subst hji
      exact hy.wpOp hi hS ⟨fun _ h => h, H⟩
    · have h1 := H.2 j (ready_mono hj hji)
      obtain ⟨hjun, oj, hoj, hall⟩ := mem_ready.1 hj
      have hnot : ∀ e ∈ oj.after, Region.binds .any e = true → e.on ≠ i := fun e he hb heq => by
        have h1 := hall e he hb
        have h0 := (mem_ready.1 hr).1
        rw [heq] at h1
        rcases Nat.lt_or_ge i listed.size with h' | h'
        · simp [h'] at h0 h1; rw [h0] at h1; cases h1
        · simp [Array.getElem?_eq_none h'] at h1
      have h2 := wpOp_putIf hoj (hfree j oj hoj hji hjun hnot) (fun cs b => hsel i oi cs b hi) (fun cs b => hsel j oj cs b hoj) hQ hy h1
      have hfree' : ∀ k ok, ops[k]? = some ok → k ≠ i → (listed.setIfInBounds j true).getD k true = false →
          (∀ e ∈ ok.after, Region.binds .any e = true → e.on ≠ i) → oi.apart ops ok = true := fun k ok hk hki hun hno => by
        refine hfree k ok hk hki ?_ hno
        by_cases hjk : j = k
        · subst hjk; exact hjun
        · rw [getD_set_ne true hjk] at hun; exact hun
      refine wpOp_mono (fun a' w' h3 => ⟨h3.2.1, ih (listed.setIfInBounds j true) a' w' hfree' (ready_mono hr (Ne.symm hji)) h3.1 (hgo j oj w w' hoj hnot h3.2.1 hS) ?_⟩) h2
      rw [Array.setIfInBounds_comm _ _ hji]
      exact h3.2.2
/-! ### The one order: calm operations as early as they may come, any other where it alone may come. -/
/-- The order, with 'is it taken as calm'; where two that act may come, both ways. -/
inductive Tr where
  | nil
  | cons (p : Nat × Bool) (t : Tr)
  | fork (i : Nat) (t : Tr) (j : Nat) (u : Tr)
deriving DecidableEq
/-- none: the region is not of this make. A load is calm in the head alone. -/
def canon (ops : Array Oper) (n : Nat) : Nat → Array Bool → Option Tr
  | 0, listed => if Region.ready .any ops listed = [] then some .nil else none
  | fuel + 1, listed => match Region.ready .any ops listed with
    | [] => some .nil
    | j :: rs => match (j :: rs).find? fun i => (match ops[i]? with | some o => calmB o.op && (decide (i < n) || !loadB o.op) | none => false) && Region.free .any ops listed i with
      | some i => (canon ops n fuel (listed.setIfInBounds i true)).map (Tr.cons (i, true) ·)
      | none => if neuB ops n j then none else match rs with
        | [] => (canon ops n fuel (listed.setIfInBounds j true)).map (Tr.cons (j, false) ·)
        | [j'] => if neuB ops n j' then none else (canon ops n fuel (listed.setIfInBounds j true)).bind fun t => (canon ops n fuel (listed.setIfInBounds j' true)).map fun u => Tr.fork j t j' u
        | _ => none
/-- One operation. -/
def stepC (P : Program) (ops : Array Oper) (Q : Exit → Act → World → Prop) (S : World → Prop) (n : Nat) (i : Nat) (c : Bool) (rest : Act → World → Prop) (a : Act) (w : World) : Prop := ∃ o, ops[i]? = some o ∧
    ((Region.wanted o (yielded ops a.tmps) = true ∧ c = true ∧ ∃ v, ((∀ w', (execOp a.eval o).run P w' = .ok (.value v) w') ∨ (i < n ∧ ∀ w', S w' → (execOp a.eval o).run P w' = .ok (.value v) w')) ∧ rest (a.put o.dst v) w) ∨
     (Region.wanted o (yielded ops a.tmps) = true ∧ c = false ∧ o.wp P a w (fun a' w' => (i < n → S w') ∧ rest a' w') Q) ∨
     (Region.wanted o (yielded ops a.tmps) = false ∧ rest (a.put o.dst undef) w))
/-- What is to be shown, operation by operation. -/
def wpC (P : Program) (ops : Array Oper) (Q : Exit → Act → World → Prop) (S : World → Prop) (n : Nat) : Tr → Act → World → Prop
  | .nil, a, w => Q .normal a w
  | .cons p rest, a, w => stepC P ops Q S n p.1 p.2 (wpC P ops Q S n rest) a w
  | .fork i t j u, a, w => stepC P ops Q S n i false (wpC P ops Q S n t) a w ∧ stepC P ops Q S n j false (wpC P ops Q S n u) a w
theorem listed_of_ready {i j : Nat} {listed : Array Bool} (hr : j ∈ Region.ready .any ops listed) (h : waitsB ops j i = true) : listed.getD i true = true := by
  obtain ⟨_, oj, hoj, hall⟩ := mem_ready.1 hr
  simp only [waitsB, hoj] at h
  obtain ⟨e, he, hb⟩ := Array.any_eq_true'.1 h
  simp only [Bool.and_eq_true, beq_iff_eq] at hb
  have h1 := hall e he hb.1
  rw [hb.2] at h1
  rcases Nat.lt_or_ge i listed.size with h' | h'
  · simp [h'] at h1 ⊢; exact h1
  · simp [Array.getElem?_eq_none h']
theorem canon_sound {n : Nat} (hs : Region.noSelect ops = true) (hT : tailB ops n = true) (hQ : ∀ c a d v w, Q (.panic c) (a.put d v) w → Q (.panic c) a w) :
    ∀ (fuel : Nat) (listed : Array Bool) (l : Tr) (a : Act) (w : World), canon ops n fuel listed = some l →
      (∀ i, i < n → listed.getD i true = false → S w) → wpC P ops Q S n l a w → wpT P ops Q S n fuel listed a w := by
  intro fuel
  induction fuel with
  | zero =>
    intro listed l a w hc _ H
    simp only [canon] at hc
    split at hc
    · cases hc; exact ⟨by assumption, H⟩
    · cases hc
  | succ fuel ih =>
    intro listed l a w hc hh H
    have keep : ∀ (i : Nat) (w' : World), (∀ k, k < n → listed.getD k true = false → S w') → ∀ k, k < n → (listed.setIfInBounds i true).getD k true = false → S w' := by
      intro i w' hh k hk hl
      by_cases hik : i = k
      · subst hik
        exfalso
        rcases Nat.lt_or_ge i listed.size with h' | h'
        · simp [h'] at hl
        · simp [h'] at hl
      · rw [getD_set_ne true hik] at hl
        exact hh k hk hl
    simp only [canon] at hc
    split at hc
    · rename_i h0
      cases hc
      exact ⟨fun _ => H, by rw [h0]; simp⟩
    · rename_i j rs h0
      split at hc
      · -- a calm one
        rename_i i hf
        have hmem : i ∈ Region.ready .any ops listed := by rw [h0]; exact List.mem_of_find?_eq_some hf
        have hp := List.find?_some hf
        simp only [Bool.and_eq_true] at hp
        obtain ⟨hp1, hp2⟩ := hp
        obtain ⟨l', hl', rfl⟩ := Option.map_eq_some_iff.1 hc
        obtain ⟨o, ho, H⟩ := H
        have hfr := Region.free_spec ho hp2
        have hsel := Region.noSelect_spec hs
        have hun := (mem_ready.1 hmem).1
        have head : ∀ (v : Value) (w0 : World), i < n → YieldsIf P ops S o v a → wpC P ops Q S n l' (a.put o.dst v) w → wpT P ops Q S n (fuel + 1) listed a w := fun v _ hin hy H =>
          wpT_first (S' := S) ho hsel (fun c a w => hQ c a o.dst v w) (fun j oj w w' hj hn h hS => h (tail_lt hT hin hj hn) hS) fuel listed a w
            (fun j oj hj hne hun hno => hfr j oj hj hne hun hno) hmem hy (hh i hin hun) (ih _ _ _ _ hl' (keep i w hh) H)
        have tail : ∀ (v : Value), ¬ i < n → YieldsIf P ops (fun _ => True) o v a → wpC P ops Q S n l' (a.put o.dst v) w → wpT P ops Q S n (fuel + 1) listed a w := fun v hin hy H =>
          wpT_first (S' := fun _ => True) ho hsel (fun c a w => hQ c a o.dst v w) (fun _ _ _ _ _ _ _ _ => trivial) fuel listed a w
            (fun j oj hj hne hun hno => hfr j oj hj hne hun hno) hmem hy trivial (ih _ _ _ _ hl' (keep i w hh) H)
        rcases H with ⟨hw, _, v, hv, H⟩ | ⟨_, h, _⟩ | ⟨hw, H⟩
        · rcases hv with hv | ⟨hin, hv⟩
          · by_cases hin : i < n
            · exact head v w hin (.inl ⟨hw, fun w _ => hv w⟩) H
            · exact tail v hin (.inl ⟨hw, fun w _ => hv w⟩) H
          · exact head v w hin (.inl ⟨hw, hv⟩) H
        · cases h
        · by_cases hin : i < n
          · exact head undef w hin (.inr ⟨hw, rfl⟩) H
          · exact tail undef hin (.inr ⟨hw, rfl⟩) H
      · have one : ∀ (k : Nat) (l' : Tr), neuB ops n k = false → k ∈ Region.ready .any ops listed → canon ops n fuel (listed.setIfInBounds k true) = some l' → stepC P ops Q S n k false (wpC P ops Q S n l') a w →
            wpOp P ops Q k (fun a' w' => (hdB ops n k = true → S w → S w') ∧ wpT P ops Q S n fuel (listed.setIfInBounds k true) a' w') a w := by
          intro k l' hneu hmem hl' H
          obtain ⟨o, ho, H⟩ := H
          have hlt : hdB ops n k = true → k < n := fun h => by
            unfold hdB at h
            rw [hneu] at h
            simpa using h
          have after : ∀ (w' : World), (k < n → S w') → ∀ i, i < n → (listed.setIfInBounds k true).getD i true = false → S w' := by
            intro w' hS i hi hl
            by_cases hkn : k < n
            · exact hS hkn
            · exfalso
              have h1 := List.all_eq_true.1 hT k (List.mem_range.2 (Array.getElem?_eq_some_iff.1 ho).1)
              simp only [Bool.or_eq_true] at h1
              have h1 := h1.resolve_left fun h => hkn (hlt h)
              have h2 := listed_of_ready hmem (List.all_eq_true.1 h1 i (List.mem_range.2 hi))
              rw [getD_set_ne true (show k ≠ i by omega)] at hl
              rw [h2] at hl
              cases hl
          unfold wpOp
          simp only [ho]
          rcases H with ⟨_, h, _⟩ | ⟨hw, _, H⟩ | ⟨hw, H⟩
          · cases h
          · simp only [hw, if_true]
            exact .inl (Oper.wp_mono (fun a' w' h => ⟨fun h' _ => h.1 (hlt h'), ih _ _ _ _ hl' (after w' h.1) h.2⟩) H)
          · simp only [hw, Bool.false_eq_true, if_false]
            have hS : k < n → S w := fun hk => hh k hk (mem_ready.1 hmem).1
            exact ⟨fun _ h => h, ih _ _ _ _ hl' (after w hS) H⟩
        split at hc
        · cases hc
        rename_i hneu
        have hneu : neuB ops n j = false := by simpa using hneu
        split at hc
        · obtain ⟨l', hl', rfl⟩ := Option.map_eq_some_iff.1 hc
          refine ⟨fun h => (by rw [h0] at h; cases h), fun k hk => ?_⟩
          rw [h0] at hk
          obtain rfl : k = j := by simpa using hk
          exact one k l' hneu (by rw [h0]; simp) hl' H
        · rename_i j' hf'
          split at hc
          · cases hc
          rename_i hneu'
          have hneu' : neuB ops n j' = false := by simpa using hneu'
          obtain ⟨t, ht, hc⟩ := Option.bind_eq_some_iff.1 hc
          obtain ⟨u, hu, rfl⟩ := Option.map_eq_some_iff.1 hc
          refine ⟨fun h => (by rw [h0] at h; cases h), fun k hk => ?_⟩
          rw [h0] at hk
          rcases (by simpa using hk : k = j ∨ k = j') with rfl | rfl
          · exact one k t hneu (by rw [h0]; simp) ht H.1
          · exact one k u hneu' (by rw [h0]; simp) hu H.2
        · cases hc
/-- **A region that draws, by its one order.** n: where its tail begins. -/
theorem wp_drawn {id : Nat} {a : Act} {w : World} (n : Nat) (l : Tr) (hm : P.follows .mixedOrders = true)
    (hb : (Region.noSelect ops && tailB ops n && (canon ops n ops.size (Array.replicate ops.size false) == some l)) = true) (S : World → Prop)
    (hS : S { w with drawn := w.drawn + 1 })
    (hQ : ∀ c a d v w, Q (.panic c) (a.put d v) w → Q (.panic c) a w)
    (h : wpC P ops Q S n l a { w with drawn := w.drawn + 1 }) : (Code.region id ops true).wp P Q a w := by
  simp only [Bool.and_eq_true, beq_iff_eq] at hb
  exact wp_region_any hm (wpT_any (S := S) (n := n) _ _ _ _ (canon_sound hb.1.1 hb.1.2 hQ _ _ _ _ _ hb.2 (fun _ _ _ => hS) h))
end
end Go.Proofs.YtmbibkifbehgnaaGreatDoor.Sk
namespace Go.Proofs.YtmbibkifbehgnaaGreatDoor.Sk
open Go
set_option linter.unusedVariables false
/-! ### 1. A frame of which some slots are known -/
abbrev L := List (Nat × Value)
def look : L → Nat → Option Value
  | [], _ => none
  | (k, v) :: r, t => match Nat.beq k t with
    | true => some v
    | false => look r t
def ev (l : L) : Operand → Option Value
  | .tmp t => look l t
  | .const v => some v
  | .global g => some (.pointer (some ⟨g, 0, none⟩))
  | .func f => some (.func (.func f) #[] #[])
/-- how many slots; what is deferred -/
structure NT where
  n : Nat
  ds : List Deferred
structure Kn (nt : NT) (l : L) (a : Act) : Prop where
  size : a.tmps.size = nt.n
  defers : a.defers = nt.ds
  known : ∀ t v, look l t = some v → a.tmps[t]? = some v
theorem Kn.ev {nt : NT} {l : L} {a : Act} (h : Kn nt l a) {x : Operand} {v : Value} (hx : ev l x = some v) : a.eval x = v := by
  cases x with
  | tmp t =>
    have := h.known t v hx
    simp only [Act.eval, Array.getD_eq_getD_getElem?, this, Option.getD_some]
  | const u => exact Option.some.inj hx
  | global g => exact Option.some.inj hx
  | func f => exact Option.some.inj hx
theorem Kn.put {nt : NT} {l : L} {a : Act} (h : Kn nt l a) {d : Nat} (hd : Nat.blt d nt.n = true) (v : Value) : Kn nt ((d, v) :: l) (a.put (some d) v) := by
  have hd' : d < a.tmps.size := by rw [h.size]; simpa [Nat.blt_eq] using hd
  refine ⟨by simp [Act.put, h.size], h.defers, fun t u ht => ?_⟩
  simp only [look] at ht
  simp only [Act.put]
  split at ht
  · rename_i hb
    obtain rfl : d = t := Nat.eq_of_beq_eq_true hb
    cases ht
    simp [hd']
  · rename_i hb
    have hne : d ≠ t := fun e => by subst e; simp at hb
    rw [Array.getElem?_setIfInBounds_ne hne]
    exact h.known t u ht
theorem Kn.put_none {nt : NT} {l : L} {a : Act} (h : Kn nt l a) (v : Value) : Kn nt l (a.put none v) := h
/-- A new list of what is known, slot by slot out of the old one. -/
inductive Pick (l : L) : L → Prop where
  | nil : Pick l []
  | cons {t : Nat} {v : Value} {l' : L} (h : look l t = some v) (r : Pick l l') : Pick l ((t, v) :: l')
theorem Pick.kn {nt : NT} {l l' : L} {a : Act} (hp : Pick l l') (h : Kn nt l a) : Kn nt l' a := by
  induction hp with
  | nil => exact ⟨h.size, h.defers, fun t v ht => by cases ht⟩
  | cons hl _ ih =>
    refine ⟨h.size, h.defers, fun t v ht => ?_⟩
    simp only [look] at ht
    split at ht
    · rename_i hb
      obtain rfl := Nat.eq_of_beq_eq_true hb
      cases ht
      exact h.known _ _ hl
    · exact ih.known t v ht
/-! ### 2. Assertions on memory, each with its footprint (the blocks it speaks of) -/
structure As where
  on : (Nat → Prop) → World → Prop
  loc : ∀ X w w', on X w → (∀ k, X k → w'.heap[k]? = w.heap[k]?) → on X w'
  lt : ∀ X w, on X w → ∀ k, X k → k < w.heap.size
/-- Owned memory: one behind the other, apart. -/
def Own : List As → (Nat → Prop) → World → Prop
  | [], X, _ => ∀ k, ¬ X k
  | f :: r, X, w => ∃ X1 X2, f.on X1 w ∧ Own r X2 w ∧ (∀ k, X1 k → ¬ X2 k) ∧ ∀ k, X k ↔ X1 k ∨ X2 k
/-- Memory that is only read: none of it is owned. -/
def Ro (R : List As) (X : Nat → Prop) (w : World) : Prop := ∀ r, r ∈ R → ∃ Y, r.on Y w ∧ ∀ k, Y k → ¬ X k
theorem Own.loc : ∀ {F : List As} {X : Nat → Prop} {w w' : World}, Own F X w → (∀ k, X k → w'.heap[k]? = w.heap[k]?) → Own F X w'
  | [], _, _, _, h, _ => h
  | f :: r, X, w, w', ⟨X1, X2, h1, h2, h3, h4⟩, h => ⟨X1, X2, f.loc X1 w w' h1 (fun k hk => h k ((h4 k).2 (.inl hk))), Own.loc h2 (fun k hk => h k ((h4 k).2 (.inr hk))), h3, h4⟩
theorem Own.lt : ∀ {F : List As} {X : Nat → Prop} {w : World}, Own F X w → ∀ k, X k → k < w.heap.size
  | [], _, _, h, k, hk => absurd hk (h k)
  | f :: r, X, w, ⟨X1, X2, h1, h2, _, h4⟩, k, hk => by
    rcases (h4 k).1 hk with h | h
    · exact f.lt X1 w h1 k h
    · exact Own.lt h2 k h
/-- f stands somewhere in F; F' is the rest. -/
inductive At : List As → As → List As → Prop where
  | here {f : As} {F : List As} : At (f :: F) f F
  | there {f g : As} {F F' : List As} (h : At F f F') : At (g :: F) f (g :: F')
theorem Own.pick {F F' : List As} {f : As} (h : At F f F') : ∀ {X : Nat → Prop} {w : World}, Own F X w → Own (f :: F') X w := by
  induction h with
  | here => exact fun h => h
  | there _ ih =>
    rintro X w ⟨X1, X2, h1, h2, h3, h4⟩
    obtain ⟨Y1, Y2, g1, g2, g3, g4⟩ := ih h2
    refine ⟨Y1, fun k => X1 k ∨ Y2 k, g1, ⟨X1, Y2, h1, g2, fun k hk hy => h3 k hk ((g4 k).2 (.inr hy)), fun k => Iff.rfl⟩, ?_, fun k => ?_⟩
    · rintro k hk (hx | hy)
      · exact h3 k hx ((g4 k).2 (.inl hk))
      · exact g3 k hk hy
    · rw [h4 k, g4 k]
      constructor
      · rintro (h | h | h)
        · exact .inr (.inl h)
        · exact .inl h
        · exact .inr (.inr h)
      · rintro (h | h | h)
        · exact .inr (.inl h)
        · exact .inl h
        · exact .inr (.inr h)
/-- Those of G stand in F, at different places; F' is the rest. -/
inductive Ats : List As → List As → List As → Prop where
  | nil {F : List As} : Ats F [] F
  | cons {F F1 F2 G : List As} {f : As} (h : At F f F1) (r : Ats F1 G F2) : Ats F (f :: G) F2
theorem Own.picks {F G F' : List As} (h : Ats F G F') : ∀ {X : Nat → Prop} {w : World}, Own F X w → ∃ X1 X2, Own G X1 w ∧ Own F' X2 w ∧ (∀ k, X1 k → ¬ X2 k) ∧ ∀ k, X k ↔ X1 k ∨ X2 k := by
  induction h with
  | nil => exact fun {X w} h => ⟨fun _ => False, X, fun _ h => h, h, fun _ h => h.elim, fun k => by simp⟩
  | cons hat _ ih =>
    intro X w h
    obtain ⟨Y1, Y2, h1, h2, h3, h4⟩ := Own.pick hat h
    obtain ⟨Z1, Z2, g1, g2, g3, g4⟩ := ih h2
    refine ⟨fun k => Y1 k ∨ Z1 k, Z2, ⟨Y1, Z1, h1, g1, fun k hk hz => h3 k hk ((g4 k).2 (.inl hz)), fun k => Iff.rfl⟩, g2, ?_, fun k => ?_⟩
    · rintro k (hk | hk) hz
      · exact h3 k hk ((g4 k).2 (.inr hz))
      · exact g3 k hk hz
    · rw [h4 k, g4 k]
      exact ⟨fun h => by rcases h with h | h | h <;> simp [h], fun h => by rcases h with (h | h) | h <;> simp [h]⟩
theorem Own.append : ∀ {F G : List As} {X1 X2 : Nat → Prop} {w : World}, Own F X1 w → Own G X2 w → (∀ k, X1 k → ¬ X2 k) → Own (F ++ G) (fun k => X1 k ∨ X2 k) w
  | [], G, X1, X2, w, h1, h2, _ => by
    have e : (fun k => X1 k ∨ X2 k) = X2 := funext fun k => propext ⟨fun h => h.resolve_left (h1 k), .inr⟩
    rw [e]; exact h2
  | f :: F, G, X1, X2, w, ⟨Y1, Y2, h1, h2, h3, h4⟩, hG, hd =>
    ⟨Y1, fun k => Y2 k ∨ X2 k, h1, Own.append h2 hG (fun k hk => hd k ((h4 k).2 (.inr hk))), fun k hk h => h.elim (h3 k hk) (hd k ((h4 k).2 (.inl hk))), fun k => by
      show X1 k ∨ X2 k ↔ Y1 k ∨ (Y2 k ∨ X2 k)
      rw [h4 k]; exact ⟨fun h => by rcases h with (h | h) | h <;> simp [h], fun h => by rcases h with h | h | h <;> simp [h]⟩⟩
theorem Own.mem {F : List As} {f : As} : ∀ {X : Nat → Prop} {w : World}, f ∈ F → Own F X w → ∃ Y, f.on Y w ∧ ∀ k, Y k → X k := by
  induction F with
  | nil => intro X w h; cases h
  | cons g F ih =>
    rintro X w hm ⟨X1, X2, h1, h2, _, h4⟩
    rcases List.mem_cons.1 hm with rfl | hm
    · exact ⟨X1, h1, fun k hk => (h4 k).2 (.inl hk)⟩
    · obtain ⟨Y, hY, hs⟩ := ih hm h2
      exact ⟨Y, hY, fun k hk => (h4 k).2 (.inr (hs k hk))⟩
/-! ### 3. How the world turns -/
/-- w' is w but for new blocks and the blocks of M. -/
structure Ext (M : Nat → Prop) (w w' : World) : Prop where
  os : w'.os = w.os
  tape : w'.tape = w.tape
  output : w'.output = w.output
  size : w.heap.size ≤ w'.heap.size
  block : ∀ k, k < w.heap.size → ¬ M k → w'.heap[k]? = w.heap[k]?
theorem Ext.refl (M : Nat → Prop) (w : World) : Ext M w w := ⟨rfl, rfl, rfl, Nat.le_refl _, fun _ _ _ => rfl⟩
theorem Ext.step {M N : Nat → Prop} {a b c : World} (h : Ext M a b) (k : Ext N b c) (hN : ∀ i, N i → M i ∨ a.heap.size ≤ i) : Ext M a c :=
  ⟨k.os.trans h.os, k.tape.trans h.tape, k.output.trans h.output, Nat.le_trans h.size k.size, fun i hi hM => by
    rw [k.block i (Nat.lt_of_lt_of_le hi h.size) (fun hn => (hN i hn).elim hM (by omega)), h.block i hi hM]⟩
/-- What a walk knows: the world w out of w0; M: which of w0's blocks may be written; R: what is only read; F: what is owned. -/
structure St (w0 w : World) (M : Nat → Prop) (R F : List As) : Prop where
  own : ∃ X, Own F X w ∧ Ro R X w ∧ ∀ k, X k → M k ∨ w0.heap.size ≤ k
  ext : Ext M w0 w
theorem St.start {w : World} {X : Nat → Prop} {R F : List As} (h : Own F X w) (hR : Ro R X w) : St w w X R F := ⟨⟨X, h, hR, fun _ hk => .inl hk⟩, Ext.refl _ _⟩
theorem St.drew {w0 w : World} {M : Nat → Prop} {R F : List As} (h : St w0 w M R F) : St w0 { w with drawn := w.drawn + 1 } M R F := by
  obtain ⟨⟨X, h1, h2, h3⟩, h4⟩ := h
  exact ⟨⟨X, Own.loc h1 (fun _ _ => rfl), fun r hr => by
    obtain ⟨Y, hY, hd⟩ := h2 r hr
    exact ⟨Y, r.loc Y w _ hY (fun _ _ => rfl), hd⟩, h3⟩, ⟨h4.os, h4.tape, h4.output, h4.size, h4.block⟩⟩
/-- Less is owned. -/
theorem St.sub {w0 w : World} {M : Nat → Prop} {R F G F' : List As} (h : St w0 w M R F) (hp : Ats F G F') : St w0 w M R G := by
  obtain ⟨⟨X, h1, h2, h3⟩, h4⟩ := h
  obtain ⟨X1, X2, g1, _, _, g4⟩ := Own.picks hp h1
  exact ⟨⟨X1, g1, fun r hr => by
    obtain ⟨Y, hY, hd⟩ := h2 r hr
    exact ⟨Y, hY, fun k hk hx => hd k hk ((g4 k).2 (.inl hx))⟩, fun k hk => h3 k ((g4 k).2 (.inl hk))⟩, h4⟩
/-- Those of Q stand in R or F. -/
inductive Sub (R F : List As) : List As → Prop where
  | nil : Sub R F []
  | ro {f : As} {Q R' : List As} (h : At R f R') (r : Sub R F Q) : Sub R F (f :: Q)
  | own {f : As} {Q F' : List As} (h : At F f F') (r : Sub R F Q) : Sub R F (f :: Q)
theorem At.mem {F F' : List As} {f : As} (h : At F f F') : f ∈ F := by
  induction h with
  | here => exact List.mem_cons_self
  | there _ ih => exact List.mem_cons_of_mem _ ih
theorem Sub.mem {R F Q : List As} (h : Sub R F Q) : ∀ q, q ∈ Q → q ∈ R ∨ q ∈ F := by
  induction h with
  | nil => intro q hq; cases hq
  | ro hat _ ih =>
    intro q hq
    rcases List.mem_cons.1 hq with rfl | hq
    · exact .inl hat.mem
    · exact ih q hq
  | own hat _ ih =>
    intro q hq
    rcases List.mem_cons.1 hq with rfl | hq
    · exact .inr hat.mem
    · exact ih q hq
theorem St.has {w0 w : World} {M : Nat → Prop} {R F : List As} (h : St w0 w M R F) {f : As} (hf : f ∈ R ∨ f ∈ F) : ∃ Y, f.on Y w := by
  obtain ⟨⟨X, h1, h2, _⟩, _⟩ := h
  rcases hf with hf | hf
  · obtain ⟨Y, hY, _⟩ := h2 f hf
    exact ⟨Y, hY⟩
  · obtain ⟨Y, hY, _⟩ := Own.mem hf h1
    exact ⟨Y, hY⟩
/-- From owned to only read, for good. -/
theorem St.toRo {w0 w : World} {M : Nat → Prop} {R F F' : List As} {f : As} (h : St w0 w M R F) (hat : At F f F') : St w0 w M (f :: R) F' := by
  obtain ⟨⟨X, h1, h2, h3⟩, h4⟩ := h
  obtain ⟨X1, X2, g1, g2, g3, g4⟩ := Own.pick hat h1
  refine ⟨⟨X2, g2, fun r hr => ?_, fun k hk => h3 k ((g4 k).2 (.inr hk))⟩, h4⟩
  rcases List.mem_cons.1 hr with rfl | hr
  · exact ⟨X1, g1, g3⟩
  · obtain ⟨Y, hY, hd⟩ := h2 r hr
    exact ⟨Y, hY, fun k hk hx => hd k hk ((g4 k).2 (.inr hx))⟩
/-! ### 4. Contracts -/
/-- A call with R only read, F owned: it ends with Post, F' owned. -/
def Spec (P : Program) (f : FuncId) (args : Array Value) (R F : List As) (Post : Ending → List As → Prop) : Prop :=
  ∀ (w : World) (X : Nat → Prop), Own F X w → Ro R X w → Calls P f args w fun e w' => ∃ F' X', Post e F' ∧ Own F' X' w' ∧ Ext X w w' ∧ ∀ k, X' k → X k ∨ w.heap.size ≤ k
theorem Spec.use {P : Program} {f : FuncId} {args : Array Value} {Rc Fc : List As} {Post : Ending → List As → Prop} (hs : Spec P f args Rc Fc Post)
    {w0 w : World} {M : Nat → Prop} {R F Fr : List As} (H : St w0 w M R F) (hF : Ats F Fc Fr) (hR : Sub R Fr Rc) :
    Calls P f args w fun e w' => ∃ F', Post e F' ∧ St w0 w' M R (F' ++ Fr) := by
  obtain ⟨⟨X, h1, h2, h3⟩, h4⟩ := H
  obtain ⟨X1, X2, g1, g2, g3, g4⟩ := Own.picks hF h1
  have hro : Ro Rc X1 w := fun r hr => by
    rcases hR.mem r hr with hr | hr
    · obtain ⟨Y, hY, hd⟩ := h2 r hr
      exact ⟨Y, hY, fun k hk hx => hd k hk ((g4 k).2 (.inl hx))⟩
    · obtain ⟨Y, hY, hs⟩ := Own.mem hr g2
      exact ⟨Y, hY, fun k hk hx => g3 k hx (hs k hk)⟩
  refine (hs w X1 g1 hro).mono fun e w' ⟨F', X', hp, hown, hext, hX'⟩ => ⟨F', hp, ⟨⟨fun k => X' k ∨ X2 k, ?_, ?_, ?_⟩, ?_⟩⟩
  · refine Own.append hown (Own.loc g2 fun k hk => hext.block k (Own.lt g2 k hk) (fun hx => g3 k hx hk)) fun k hk hx => ?_
    rcases hX' k hk with h | h
    · exact g3 k h hx
    · exact absurd (Own.lt g2 k hx) (by omega)
  · intro r hr
    obtain ⟨Y, hY, hd⟩ := h2 r hr
    have hlt := r.lt Y w hY
    refine ⟨Y, r.loc Y w w' hY fun k hk => hext.block k (hlt k hk) (fun hx => hd k hk ((g4 k).2 (.inl hx))), fun k hk hx => ?_⟩
    rcases hx with hx | hx
    · rcases hX' k hx with h | h
      · exact hd k hk ((g4 k).2 (.inl h))
      · exact absurd (hlt k hk) (by omega)
    · exact hd k hk ((g4 k).2 (.inr hx))
  · intro k hk
    rcases hk with hk | hk
    · rcases hX' k hk with h | h
      · exact h3 k ((g4 k).2 (.inl h))
      · exact .inr (Nat.le_trans h4.size h)
    · exact h3 k ((g4 k).2 (.inr hk))
  · exact h4.step hext fun k hk => h3 k ((g4 k).2 (.inl hk))
/-- The end of a walk, for 'Spec'. -/
theorem St.done {w0 w : World} {X : Nat → Prop} {R F : List As} (h : St w0 w X R F) : ∃ X', Own F X' w ∧ Ext X w0 w ∧ ∀ k, X' k → X k ∨ w0.heap.size ≤ k := by
  obtain ⟨⟨X', h1, _, h3⟩, h4⟩ := h
  exact ⟨X', h1, h4, h3⟩
end Go.Proofs.YtmbibkifbehgnaaGreatDoor.Sk
namespace Go.Proofs.YtmbibkifbehgnaaGreatDoor.Sk
open Go
set_option linter.unusedVariables false
/-- A function's end, without panics. -/
def FPost (P : Program) (fn : Func) (R : Ending → World → Prop) : Exit → Act → World → Prop
  | .normal, a, w | .ret, a, w => a.defers = [] ∧ ∃ v, (results fn a.tmps).run P w = .ok v w ∧ R (.returned v) w
  | _, _, _ => False
def CJ (P : Program) (nt : NT) (c : Code) (Q : Exit → Act → World → Prop) (k : L) (w : World) : Prop := ∀ a, Kn nt k a → c.wp P Q a w
def RJ (P : Program) (nt : NT) (ops : Array Oper) (Q : Exit → Act → World → Prop) (S : World → Prop) (n : Nat) (l : Tr) (k : L) (w : World) : Prop :=
  ∀ a, Kn nt k a → wpC P ops Q S n l a w
section
variable {P : Program} {nt : NT} {Q : Exit → Act → World → Prop} {k : L} {w : World}
/-! ### 1. Code -/
theorem CJ.seq {x y : Code} (h : CJ P nt x (Exit.then (y.wp P Q) Q) k w) : CJ P nt (.seq x y) Q k w := fun a ha => wp_seq (h a ha)
theorem CJ.skip (h : ∀ a, Kn nt k a → Q .normal a w) : CJ P nt .skip Q k w := fun a ha => wp_skip (h a ha)
theorem CJ.skip_then {y : Code} {Q' : Exit → Act → World → Prop} (h : CJ P nt y Q' k w) : CJ P nt .skip (Exit.then (y.wp P Q') Q) k w := fun a ha => wp_skip (h a ha)
theorem CJ.label {l : Nat} (h : ∀ a, Kn nt k a → Q .normal a w) : CJ P nt (.label l) Q k w := fun a ha => wp_label (h a ha)
theorem CJ.ret (h : ∀ a, Kn nt k a → Q .ret a w) : CJ P nt .ret Q k w := fun a ha => wp_ret (h a ha)
theorem CJ.exit {id : Nat} (h : ∀ a, Kn nt k a → Q (.exit id) a w) : CJ P nt (.exit id) Q k w := fun a ha => wp_exit (h a ha)
theorem CJ.block {id : Nat} {c : Code} (h : CJ P nt c (Exit.inBlock id Q) k w) : CJ P nt (.block id c) Q k w := fun a ha => wp_block (h a ha)
theorem CJ.cond_t {x : Operand} {c d : Code} (hx : ev k x = some (.bool true)) (h : CJ P nt c Q k w) : CJ P nt (.cond x c d) Q k w := fun a ha => wp_cond_true (ha.ev hx) (h a ha)
theorem CJ.cond_f {x : Operand} {c d : Code} (hx : ev k x = some (.bool false)) (h : CJ P nt d Q k w) : CJ P nt (.cond x c d) Q k w := fun a ha => wp_cond_false (ha.ev hx) (h a ha)
theorem CJ.cond {x : Operand} {c d : Code} {b : Bool} (hx : ev k x = some (.bool b)) (ht : b = true → CJ P nt c Q k w) (hf : b = false → CJ P nt d Q k w) : CJ P nt (.cond x c d) Q k w := by
  cases b
  · exact CJ.cond_f hx (hf rfl)
  · exact CJ.cond_t hx (ht rfl)
theorem CJ.pick {c : Code} {k' : L} (hp : Pick k k') (h : CJ P nt c Q k' w) : CJ P nt c Q k w := fun a ha => h a (hp.kn ha)
/-- What a piece of code ends in is less: for a cut. -/
theorem CJ.mono {c : Code} {Q' : Exit → Act → World → Prop} (h : CJ P nt c Q' k w) (hq : ∀ e a w, Q' e a w → Q e a w) : CJ P nt c Q k w := fun a ha => Code.wp_mono hq (h a ha)
theorem ex_least (p : Nat → Prop) : ∀ n, p n → ∃ n, p n ∧ ∀ m, p m → n ≤ m := by
  intro n
  induction n using Nat.strongRecOn with
  | _ n ih =>
    intro hn
    by_cases h : ∃ m, m < n ∧ p m
    · obtain ⟨m, hm, hp⟩ := h
      exact ih m hm hp
    · exact ⟨n, hn, fun m hm => Nat.le_of_not_lt fun hlt => h ⟨m, hlt, hm⟩⟩
open Classical in
noncomputable def least {ι : Type} (m : ι → Nat) (p : ι → Prop) : Nat := if h : ∃ n, (∃ x, p x ∧ m x = n) ∧ ∀ n', (∃ x, p x ∧ m x = n') → n ≤ n' then Classical.choose h else 0
theorem least_all {ι : Type} {m : ι → Nat} {p : ι → Prop} {x : ι} (hx : p x) : (∃ y, p y ∧ m y = least m p) ∧ ∀ y, p y → least m p ≤ m y := by
  obtain ⟨n, hn, hle⟩ := ex_least (fun n => ∃ x, p x ∧ m x = n) _ ⟨x, hx, rfl⟩
  have h : ∃ n, (∃ x, p x ∧ m x = n) ∧ ∀ n', (∃ x, p x ∧ m x = n') → n ≤ n' := ⟨n, hn, hle⟩
  unfold least
  rw [dif_pos h]
  exact ⟨(Classical.choose_spec h).1, fun y hy => (Classical.choose_spec h).2 _ ⟨y, hy, rfl⟩⟩
/-- A loop: x tells a round's beginning (what is known: K x; what holds: J x), m is lowered. -/
theorem CJ.loop {c : Code} {ι : Type} (K : ι → L) (J : ι → World → Prop) (m : ι → Nat) (x0 : ι) (h0 : Pick k (K x0)) (hJ : J x0 w)
    (round : ∀ x w, J x w → CJ P nt c (Exit.then (fun a' w' => ∃ y, Kn nt (K y) a' ∧ J y w' ∧ m y < m x) Q) (K x) w) : CJ P nt (.loop c) Q k w := by
  intro a ha
  refine wp_loop (fun a' w' => ∃ x, Kn nt (K x) a' ∧ J x w') (fun a' w' => least m fun x => Kn nt (K x) a' ∧ J x w') ⟨x0, h0.kn ha, hJ⟩ ?_
  rintro a' w' ⟨x, hx⟩
  obtain ⟨y, ⟨hk, hj⟩, hy⟩ := (least_all (m := m) (p := fun x => Kn nt (K x) a' ∧ J x w') hx).1
  refine Code.wp_mono ?_ (round y w' hj a' hk)
  intro e a2 w2 h
  cases e <;> first | exact h | skip
  obtain ⟨z, hz1, hz2, hz3⟩ := h
  refine ⟨⟨z, hz1, hz2⟩, ?_⟩
  have := (least_all (m := m) (p := fun x => Kn nt (K x) a2 ∧ J x w2) ⟨hz1, hz2⟩).2 z ⟨hz1, hz2⟩
  show least m _ < least m _
  omega
end
/-! ### 2. Regions -/
def ord : Nat → Nat → Tr
  | _, 0 => .nil
  | i, n + 1 => .cons (i, false) (ord (i + 1) n)
section
variable {P : Program} {nt : NT} {ops : Array Oper} {Q : Exit → Act → World → Prop} {S : World → Prop} {n : Nat} {k : L} {w : World}
theorem wpC_ops : ∀ (m i : Nat) (a : Act) (w : World), wpC P ops Q (fun _ => True) 0 (ord i m) a w → wpOps P ops Q (List.range' i m) a w
  | 0, _, _, _, h => h
  | m + 1, i, a, w, h => by
    obtain ⟨o, ho, h⟩ := h
    simp only [List.range'_succ, wpOps, ho]
    rcases h with ⟨_, h, _⟩ | ⟨hw, _, h⟩ | ⟨hw, h⟩
    · cases h
    · simp only [hw, if_true]
      exact .inl (Oper.wp_mono (fun a' w' h => wpC_ops m (i + 1) a' w' h.2) h)
    · simp only [hw, Bool.false_eq_true, if_false]
      exact wpC_ops m (i + 1) _ w h
theorem CJ.plain {id : Nat} {l : Tr} (hl : ord 0 ops.size = l) (h : RJ P nt ops Q (fun _ => True) 0 l k w) : CJ P nt (.region id ops false) Q k w := fun a ha => by
  subst hl
  have := wpC_ops _ _ _ _ (h a ha)
  rw [← List.range_eq_range'] at this
  exact wp_region this
/-- n: where the tail begins; l: the order. -/
theorem CJ.drawn {id : Nat} (n : Nat) (l : Tr) (hm : P.follows .mixedOrders = true)
    (hb : (Region.noSelect ops && tailB ops n && (canon ops n ops.size (Array.replicate ops.size false) == some l)) = true) (S : World → Prop)
    (hS : S { w with drawn := w.drawn + 1 }) (hQ : ∀ c a d v w, Q (.panic c) (a.put d v) w → Q (.panic c) a w)
    (h : RJ P nt ops Q S n l k { w with drawn := w.drawn + 1 }) : CJ P nt (.region id ops true) Q k w := fun a ha => wp_drawn n l hm hb S hS hQ (h a ha)
theorem RJ.nil (h : ∀ a, Kn nt k a → Q .normal a w) : RJ P nt ops Q S n .nil k w := h
theorem RJ.nil_then {y : Code} {Q' Q'' : Exit → Act → World → Prop} (h : CJ P nt y Q' k w) : RJ P nt ops (Exit.then (y.wp P Q') Q'') S n .nil k w := h
/-- Two that act may come: both ways. -/
theorem RJ.fork {i j : Nat} {t u : Tr} (h1 : RJ P nt ops Q S n (.cons (i, false) t) k w) (h2 : RJ P nt ops Q S n (.cons (j, false) u) k w) : RJ P nt ops Q S n (.fork i t j u) k w := fun a ha => ⟨h1 a ha, h2 a ha⟩
/-- What a guard says. -/
def gd (ops : Array Oper) (k : L) : Option (Nat × Bool) → Option Bool
  | none => some true
  | some (j, want) => match ops[j]? with
    | some o => match o.dst with
      | some t => match look k t with
        | some (.bool b) => some (b == want)
        | some _ => some false
        | none => none
      | none => none
    | none => none
theorem gd_wanted {o : Oper} {b : Bool} (h : gd ops k o.guard = some b) {a : Act} (ha : Kn nt k a) : Region.wanted o (yielded ops a.tmps) = b := by
  unfold Region.wanted
  cases hg : o.guard with
  | none => rw [hg] at h; exact Option.some.inj h
  | some p =>
    obtain ⟨j, want⟩ := p
    rw [hg] at h
    simp only [gd] at h
    simp only [yielded]
    cases ho : ops[j]? with
    | none => simp [ho] at h
    | some oj =>
      simp only [ho] at h
      cases hd : oj.dst with
      | none => simp [hd] at h
      | some t =>
        simp only [hd] at h
        cases hl : look k t with
        | none => simp [hl] at h
        | some v =>
          have hv := ha.known t v hl
          cases v
          case bool c =>
            simp [hl] at h
            simp only [Option.bind_some, hd, hv]
            rw [← h]
            rfl
          all_goals
            simp [hl] at h
            subst h
            simp [hd, hv]
/-- The operation yields v in every world. -/
def Val (P : Program) (nt : NT) (k : L) (op : Op) (v : Value) : Prop :=
  ∀ (a : Act), Kn nt k a → ∀ (d : Option Tmp) (t : TypeId) (pos : String) (af : Array Edge) (g : Option (Nat × Bool)) (w : World), (execOp a.eval (Oper.mk d op t pos af g)).run P w = .ok (.value v) w
/-- The operation yields v in each world with S. -/
def ValS (P : Program) (nt : NT) (S : World → Prop) (k : L) (op : Op) (v : Value) : Prop :=
  ∀ (a : Act), Kn nt k a → ∀ (d : Option Tmp) (t : TypeId) (pos : String) (af : Array Edge) (g : Option (Nat × Bool)) (w : World), S w → (execOp a.eval (Oper.mk d op t pos af g)).run P w = .ok (.value v) w
variable {i d : Nat} {op : Op} {ty : TypeId} {pos : String} {af : Array Edge} {g : Option (Nat × Bool)} {v : Value} {l : Tr}
/-- calm, whatever the world -/
theorem RJ.p (ho : ops[i]? = some (Oper.mk (some d) op ty pos af g)) (hg : gd ops k g = some true) (hd : Nat.blt d nt.n = true) (hv : Val P nt k op v) (h : RJ P nt ops Q S n l ((d, v) :: k) w) : RJ P nt ops Q S n (.cons (i, true) l) k w :=
  fun a ha => ⟨_, ho, .inl ⟨gd_wanted (o := Oper.mk (some d) op ty pos af g) hg ha, rfl, v, .inl (hv a ha _ _ _ _ _), h _ (ha.put hd v)⟩⟩
theorem RJ.q (ho : ops[i]? = some (Oper.mk (some d) op ty pos af g)) (hg : gd ops k g = some true) (hd : Nat.blt d nt.n = true) (hv : Val P nt k op v) (h : RJ P nt ops Q S 0 l ((d, v) :: k) w) : RJ P nt ops Q S 0 (.cons (i, false) l) k w :=
  fun a ha => ⟨_, ho, .inr (.inl ⟨gd_wanted (o := Oper.mk (some d) op ty pos af g) hg ha, rfl, by
    simp only [Oper.wp, hv a ha _ _ _ _ _ w, Oper.upon]
    exact ⟨fun h => absurd h (Nat.not_lt_zero _), h _ (ha.put hd v)⟩⟩)⟩
/-- a load: calm, in each world with S; or plainly -/
theorem RJ.ps (ho : ops[i]? = some (Oper.mk (some d) op ty pos af g)) (hg : gd ops k g = some true) (hd : Nat.blt d nt.n = true) (hin : Nat.blt i n = true) (hv : ValS P nt S k op v) (h : RJ P nt ops Q S n l ((d, v) :: k) w) : RJ P nt ops Q S n (.cons (i, true) l) k w :=
  fun a ha => ⟨_, ho, .inl ⟨gd_wanted (o := Oper.mk (some d) op ty pos af g) hg ha, rfl, v, .inr ⟨by simpa [Nat.blt_eq] using hin, hv a ha _ _ _ _ _⟩, h _ (ha.put hd v)⟩⟩
theorem RJ.qs {S' : World → Prop} (ho : ops[i]? = some (Oper.mk (some d) op ty pos af g)) (hg : gd ops k g = some true) (hd : Nat.blt d nt.n = true) (hS : S' w) (hv : ValS P nt S' k op v) (h : RJ P nt ops Q S 0 l ((d, v) :: k) w) : RJ P nt ops Q S 0 (.cons (i, false) l) k w :=
  fun a ha => ⟨_, ho, .inr (.inl ⟨gd_wanted (o := Oper.mk (some d) op ty pos af g) hg ha, rfl, by
    simp only [Oper.wp, hv a ha _ _ _ _ _ w hS, Oper.upon]
    exact ⟨fun h => absurd h (Nat.not_lt_zero _), h _ (ha.put hd v)⟩⟩)⟩
/-- the guard says no -/
theorem RJ.no {c : Bool} (ho : ops[i]? = some (Oper.mk (some d) op ty pos af g)) (hg : gd ops k g = some false) (hd : Nat.blt d nt.n = true) (h : RJ P nt ops Q S n l ((d, undef) :: k) w) : RJ P nt ops Q S n (.cons (i, c) l) k w :=
  fun a ha => ⟨_, ho, .inr (.inr ⟨gd_wanted (o := Oper.mk (some d) op ty pos af g) hg ha, h _ (ha.put hd undef)⟩)⟩
theorem RJ.no0 {c : Bool} (ho : ops[i]? = some (Oper.mk none op ty pos af g)) (hg : gd ops k g = some false) (h : RJ P nt ops Q S n l k w) : RJ P nt ops Q S n (.cons (i, c) l) k w :=
  fun a ha => ⟨_, ho, .inr (.inr ⟨gd_wanted (o := Oper.mk none op ty pos af g) hg ha, h _ ha⟩)⟩
/-- an operation that acts: its run is told; a value comes -/
theorem RJ.act {w' : World} (ho : ops[i]? = some (Oper.mk (some d) op ty pos af g)) (hg : gd ops k g = some true) (hd : Nat.blt d nt.n = true)
    (hv : ∀ (a : Act), Kn nt k a → (execOp a.eval (Oper.mk (some d) op ty pos af g)).run P w = .ok (.value v) w') (hS : i < n → S w') (h : RJ P nt ops Q S n l ((d, v) :: k) w') : RJ P nt ops Q S n (.cons (i, false) l) k w :=
  fun a ha => ⟨_, ho, .inr (.inl ⟨gd_wanted (o := Oper.mk (some d) op ty pos af g) hg ha, rfl, by
    simp only [Oper.wp, hv a ha, Oper.upon]
    exact ⟨hS, h _ (ha.put hd v)⟩⟩)⟩
/-- one that hands nothing back (a store) -/
theorem RJ.act0 {w' : World} (ho : ops[i]? = some (Oper.mk none op ty pos af g)) (hg : gd ops k g = some true)
    (hv : ∀ (a : Act), Kn nt k a → (execOp a.eval (Oper.mk none op ty pos af g)).run P w = .ok .skip w') (hS : i < n → S w') (h : RJ P nt ops Q S n l k w') : RJ P nt ops Q S n (.cons (i, false) l) k w :=
  fun a ha => ⟨_, ho, .inr (.inl ⟨gd_wanted (o := Oper.mk none op ty pos af g) hg ha, rfl, by
    simp only [Oper.wp, hv a ha, Oper.upon]
    exact ⟨hS, h _ ha⟩⟩)⟩
/-- a slot whose Bool is asked: two ways -/
theorem RJ.case {t : Nat} {b : Bool} (hl : look k t = some (.bool b)) (ht : b = true → RJ P nt ops Q S n l ((t, .bool true) :: k) w) (hf : b = false → RJ P nt ops Q S n l ((t, .bool false) :: k) w) : RJ P nt ops Q S n l k w := by
  have key : ∀ (c : Bool), b = c → ∀ a, Kn nt k a → Kn nt ((t, .bool c) :: k) a := by
    rintro c rfl a ha
    refine ⟨ha.size, ha.defers, fun t' u h => ?_⟩
    simp only [look] at h
    split at h
    · rename_i hb
      obtain rfl := Nat.eq_of_beq_eq_true hb
      cases h
      exact ha.known _ _ hl
    · exact ha.known t' u h
  intro a ha
  cases hb : b with
  | true => exact ht hb a (key true hb a ha)
  | false => exact hf hb a (key false hb a ha)
/-! ### 3. Calls -/
theorem eval_args {xs0 : List Operand} {vs : List Value} {a : Act} (ha : Kn nt k a) (h : xs0.map (ev k) = vs.map some) : (xs0.toArray.map a.eval) = vs.toArray := by
  have : xs0.map a.eval = vs := by
    induction xs0 generalizing vs with
    | nil => cases vs <;> simp_all
    | cons x xs0 ih =>
      cases vs with
      | nil => simp at h
      | cons v vs =>
        simp only [List.map_cons, List.cons.injEq] at h
        rw [List.map_cons, ha.ev h.1, ih h.2]
  simp [this]
/-- the values of operands -/
inductive Evs (k : L) : List Operand → List Value → Prop where
  | nil : Evs k [] []
  | cons {x : Operand} {v : Value} {xs : List Operand} {vs : List Value} (h : ev k x = some v) (r : Evs k xs vs) : Evs k (x :: xs) (v :: vs)
theorem Evs.map {xs0 : List Operand} {vs : List Value} (h : Evs k xs0 vs) : xs0.map (ev k) = vs.map some := by
  induction h with
  | nil => rfl
  | cons h _ ih => simp [h, ih]
/-- f, known by its body, is entered -/
def Enters (P : Program) (f : FuncId) : Prop := ∀ (args : Array Value) (w : World), (callFunc f args).run P w = .ok (.enter f args) w
theorem RJ.call {f : FuncId} {xs0 : List Operand} {ats : Array TypeId} {vs : List Value} {Rc Fc R F Fr : List As} {Post : Ending → List As → Prop} {w0 : World} {M : Nat → Prop}
    (ho : ops[i]? = some (Oper.mk (some d) (.call ⟨.value (.func f), xs0.toArray, ats⟩) ty pos af g)) (hg : gd ops k g = some true) (hd : Nat.blt d nt.n = true) (hf : Enters P f) (hvs : Evs k xs0 vs)
    (hs : Spec P f vs.toArray Rc Fc Post) (H : St w0 w M R F) (hF : Ats F Fc Fr) (hR : Sub R Fr Rc)
    (hret : ∀ e F', Post e F' → ∃ v, e = .returned v)
    (h : ∀ v F' w', Post (.returned v) F' → St w0 w' M R (F' ++ Fr) → (i < n → S w') ∧ RJ P nt ops Q S n l ((d, v) :: k) w') : RJ P nt ops Q S n (.cons (i, false) l) k w :=
  fun a ha => ⟨_, ho, .inr (.inl ⟨gd_wanted (o := Oper.mk (some d) (.call ⟨.value (.func f), xs0.toArray, ats⟩) ty pos af g) hg ha, rfl, by
    have hrun : (execOp a.eval (Oper.mk (some d) (.call ⟨.value (.func f), xs0.toArray, ats⟩) ty pos af g)).run P w = .ok (.enter f vs.toArray) w := by
      have h1 : (xs0.toArray.map a.eval) = vs.toArray := eval_args ha hvs.map
      have h2 := hf vs.toArray w
      simp only [execOp, resolve, h1, Act.eval, Deferred.ofValue]
      simpa [go_sem, invoke] using h2
    simp only [Oper.wp, hrun, Oper.upon_enter]
    refine (hs.use H hF hR).mono fun e w' ⟨F', hp, H'⟩ => ?_
    obtain ⟨v, rfl⟩ := hret e F' hp
    have := h v F' w' hp H'
    exact ⟨this.1, this.2 _ (ha.put hd v)⟩⟩)⟩
end
end Go.Proofs.YtmbibkifbehgnaaGreatDoor.Sk
namespace Go.Proofs.YtmbibkifbehgnaaGreatDoor.Sk
open Go
set_option linter.unusedVariables false
set_option linter.unusedSimpArgs false
/-! ### 1. Values that hang on no world -/
section
variable {P : Program} {nt : NT} {k : L}
theorem val_move {x : Operand} {v : Value} (hx : ev k x = some v) : Val P nt k (.move x) v := fun a ha d t pos af g w => by
  simp only [execOp, ha.ev hx]; rfl
theorem val_assign {x : Operand} {v : Value} (hx : ev k x = some v) : Val P nt k (.assign x) v := fun a ha d t pos af g w => by
  simp only [execOp, ha.ev hx]; rfl
theorem val_nilCheck {x : Operand} {p : Addr} (hx : ev k x = some (.pointer (some p))) : Val P nt k (.nilCheck x) (.pointer (some p)) := fun a ha d t pos af g w => by
  simp only [execOp, ha.ev hx]; rfl
theorem val_pick_t {c x y : Operand} {v : Value} (hc : ev k c = some (.bool true)) (hx : ev k x = some v) : Val P nt k (.pick c x y) v := fun a ha d t pos af g w => by
  simp only [execOp, ha.ev hc, ha.ev hx]; simp [go_sem, asBool]
theorem val_pick_f {c x y : Operand} {v : Value} (hc : ev k c = some (.bool false)) (hy : ev k y = some v) : Val P nt k (.pick c x y) v := fun a ha d t pos af g w => by
  simp only [execOp, ha.ev hc, ha.ev hy]; simp [go_sem, asBool]
theorem val_extract {x : Operand} {vs : List Value} {j : Nat} {v : Value} (hx : ev k x = some (.tuple vs.toArray)) (hj : vs[j]? = some v) : Val P nt k (.extract x j) v := fun a ha d t pos af g w => by
  simp only [execOp, ha.ev hx]; simp [Instr.extract, hj, go_sem]
theorem val_not {x : Operand} {b c : Bool} (hx : ev k x = some (.bool b)) (hc : (!b) = c) {t : TypeId} : Val P nt k (.unOp .not t x) (.bool c) := fun a ha d ty pos af g w => by
  subst hc
  simp only [execOp, ha.ev hx]; simp [Op.unary, go_sem]
/-! numbers -/
theorem run_eqGuard_int {op : BinOp} {t : TypeId} {X Y : Operand} {q q' : IntKind} {x y : Int} {w : World} : (eqGuard op t X Y (.int q x) (.int q' y)).run P w = .ok () w := by
  unfold eqGuard
  cases op <;> simp [go_sem] <;> rfl
theorem val_bin {op : BinOp} {t t2 : TypeId} {X Y : Operand} {q : IntKind} {x y : Int} {v : Value} (hx : ev k X = some (.int q x)) (hy : ev k Y = some (.int q y))
    (hv : ∀ w, (binOp op t (.int q x) (.int q y)).run P w = .ok v w) : Val P nt k (.binOp op t X Y t2) v := fun a ha d ty pos af g w => by
  simp only [execOp, ha.ev hx, ha.ev hy, Sem.run_bind, run_eqGuard_int, Result.andThen_ok, hv w]; rfl
variable {t t2 : TypeId} {X Y : Operand} {q : IntKind} {x y z : Int} {b : Bool}
theorem val_add (hx : ev k X = some (.int q x)) (hy : ev k Y = some (.int q y)) (hz : q.wrap (x + y) = z) : Val P nt k (.binOp .add t X Y t2) (.int q z) := val_bin hx hy fun w => by subst hz; simp [binOp, Op.intArith, go_sem]
theorem val_sub (hx : ev k X = some (.int q x)) (hy : ev k Y = some (.int q y)) (hz : q.wrap (x - y) = z) : Val P nt k (.binOp .sub t X Y t2) (.int q z) := val_bin hx hy fun w => by subst hz; simp [binOp, Op.intArith, go_sem]
theorem val_mul (hx : ev k X = some (.int q x)) (hy : ev k Y = some (.int q y)) (hz : q.wrap (x * y) = z) : Val P nt k (.binOp .mul t X Y t2) (.int q z) := val_bin hx hy fun w => by subst hz; simp [binOp, Op.intArith, go_sem]
theorem val_quo (hx : ev k X = some (.int q x)) (hy : ev k Y = some (.int q y)) (h0 : y ≠ 0) (hz : q.wrap (x.tdiv y) = z) : Val P nt k (.binOp .quo t X Y t2) (.int q z) := val_bin hx hy fun w => by subst hz; simp [binOp, Op.intDiv, go_sem, h0]
theorem val_rem (hx : ev k X = some (.int q x)) (hy : ev k Y = some (.int q y)) (h0 : y ≠ 0) (hz : x.tmod y = z) : Val P nt k (.binOp .rem t X Y t2) (.int q z) := val_bin hx hy fun w => by subst hz; simp [binOp, Op.intDiv, go_sem, h0]
theorem val_eql (hx : ev k X = some (.int q x)) (hy : ev k Y = some (.int q y)) (hb : (x == y) = b) : Val P nt k (.binOp .eql t X Y t2) (.bool b) := val_bin hx hy fun w => by subst hb; simp [binOp, Op.intCmp, go_sem]
theorem val_neq (hx : ev k X = some (.int q x)) (hy : ev k Y = some (.int q y)) (hb : (x != y) = b) : Val P nt k (.binOp .neq t X Y t2) (.bool b) := val_bin hx hy fun w => by subst hb; simp [binOp, Op.intCmp, go_sem]
theorem val_lss (hx : ev k X = some (.int q x)) (hy : ev k Y = some (.int q y)) (hb : decide (x < y) = b) : Val P nt k (.binOp .lss t X Y t2) (.bool b) := val_bin hx hy fun w => by subst hb; simp [binOp, Op.intCmp, go_sem]
theorem val_leq (hx : ev k X = some (.int q x)) (hy : ev k Y = some (.int q y)) (hb : decide (x ≤ y) = b) : Val P nt k (.binOp .leq t X Y t2) (.bool b) := val_bin hx hy fun w => by subst hb; simp [binOp, Op.intCmp, go_sem]
theorem val_gtr (hx : ev k X = some (.int q x)) (hy : ev k Y = some (.int q y)) (hb : decide (y < x) = b) : Val P nt k (.binOp .gtr t X Y t2) (.bool b) := val_bin hx hy fun w => by subst hb; simp [binOp, Op.intCmp, go_sem]
theorem val_geq (hx : ev k X = some (.int q x)) (hy : ev k Y = some (.int q y)) (hb : decide (y ≤ x) = b) : Val P nt k (.binOp .geq t X Y t2) (.bool b) := val_bin hx hy fun w => by subst hb; simp [binOp, Op.intCmp, go_sem]
/-! pointers against nil -/
theorem pointee_of {e : TypeId} (ht : P.underlying t = some (.pointer e)) : P.underlying t = some (.pointer (P.pointee t)) := by
  simp [Program.pointee, ht]
theorem val_binrun {op : BinOp} {u v r : Value} (hx : ev k X = some u) (hy : ev k Y = some v) (hr : ∀ w, (do eqGuard op t X Y u v; binOp op t u v).run P w = .ok r w) : Val P nt k (.binOp op t X Y t2) r := fun a ha d ty pos af g w => by
  have h := hr w
  simp only [execOp, ha.ev hx, ha.ev hy]
  simp only [Sem.run_bind] at h ⊢
  rw [h]; rfl
theorem guard_none {op : BinOp} {u v : Value} {w : World} (h : ∀ w, (eqGuard op t X Y u v).run P w = .ok () w) {r : Value} (hb : (binOp op t u v).run P w = .ok r w) : (do eqGuard op t X Y u v; binOp op t u v).run P w = .ok r w := by
  simp only [Sem.run_bind, h w, Result.andThen_ok, hb]
theorem guard_ptr {op : BinOp} {p q : Option Addr} (w : World) : (eqGuard op t X Y (.pointer p) (.pointer q)).run P w = .ok () w := by
  unfold eqGuard
  cases op <;> simp [go_sem] <;> rfl
theorem guard_bool {op : BinOp} {p q : Bool} (w : World) : (eqGuard op t X Y (.bool p) (.bool q)).run P w = .ok () w := by
  unfold eqGuard
  cases op <;> simp [go_sem] <;> rfl
theorem val_ptr_eq_nil {e : TypeId} {p : Option Addr} (ht : P.underlying t = some (.pointer e)) (hx : ev k X = some (.pointer p)) (hy : ev k Y = some (.pointer none)) (hb : p.isNone = b) : Val P nt k (.binOp .eql t X Y t2) (.bool b) :=
  val_binrun hx hy fun w => guard_none guard_ptr (by subst hb; exact run_eql_pointer_nil w t p (pointee_of ht))
theorem val_ptr_ne_nil {e : TypeId} {p : Option Addr} (ht : P.underlying t = some (.pointer e)) (hx : ev k X = some (.pointer p)) (hy : ev k Y = some (.pointer none)) (hb : (!p.isNone) = b) : Val P nt k (.binOp .neq t X Y t2) (.bool b) :=
  val_binrun hx hy fun w => guard_none guard_ptr (by subst hb; exact run_neq_pointer_nil w t p (pointee_of ht))
/-! bools -/
theorem run_equal_bool {c d' : Bool} (ht : P.underlying t = some .bool) (w : World) : (Op.equal t (.bool c) (.bool d')).run P w = .ok (c == d') w := by
  simp [Op.equal, Op.maxDepth, run_equalIn_bool' w 9999 t c d' ht]
theorem val_bool_eq {c d' : Bool} (ht : P.underlying t = some .bool) (hx : ev k X = some (.bool c)) (hy : ev k Y = some (.bool d')) (hb : (c == d') = b) : Val P nt k (.binOp .eql t X Y t2) (.bool b) :=
  val_binrun hx hy fun w => guard_none guard_bool (by
    subst hb
    show (do pure (Value.bool (← Op.equal t (.bool c) (.bool d'))) : Sem Value).run P w = _
    simp only [Sem.run_bind, run_equal_bool ht, Result.andThen_ok]; rfl)
theorem val_bool_ne {c d' : Bool} (ht : P.underlying t = some .bool) (hx : ev k X = some (.bool c)) (hy : ev k Y = some (.bool d')) (hb : (c != d') = b) : Val P nt k (.binOp .neq t X Y t2) (.bool b) :=
  val_binrun hx hy fun w => guard_none guard_bool (by
    subst hb
    show (do pure (Value.bool (!(← Op.equal t (.bool c) (.bool d')))) : Sem Value).run P w = _
    simp only [Sem.run_bind, run_equal_bool ht, Result.andThen_ok]; rfl)
/-! lengths, least and greatest -/
theorem val_len {e : TypeId} {A : Option Addr} {n c : Nat} (ht : P.underlying t = some (.slice e)) (hx : ev k X = some (.slice A n c)) : Val P nt k (.call ⟨.builtin .len, #[X], #[t]⟩) (.int .i64 (n : Int)) := fun a ha d ty pos af g w => by
  simp only [execOp, resolve, List.map_toArray, List.map_cons, List.map_nil, ha.ev hx]; simp [invoke, builtin, Builtin.len_, go_sem, run_underlying ht, goInt]
/-! addresses -/
theorem add_plain (b o j : Nat) : (⟨b, o, none⟩ : Addr).add j = ⟨b, o + j, none⟩ := by unfold Addr.add; split <;> simp_all
theorem val_fieldAddr {s f off : Nat} {b o : Nat} (hx : ev k X = some (.pointer (some ⟨b, o, none⟩)))
    (hr : ∀ (b o : Nat) (w : World), (Instr.fieldAt s (.pointer (some ⟨b, o, none⟩)) f).run P w = .ok (.pointer (some ⟨b, o + off, none⟩)) w) : Val P nt k (.fieldAddr s X f) (.pointer (some ⟨b, o + off, none⟩)) := fun a ha d ty pos af g w => by
  simp only [execOp, ha.ev hx, Sem.run_bind, hr b o w]; rfl
theorem val_build {s : TypeId} {ps : List (Nat × Operand)} {vs : List Value} {v : Value} (hvs : Evs k (ps.map (·.2)) vs)
    (hr : ∀ (w : World), (Instr.build s ((ps.map (·.1)).zip vs).toArray).run P w = .ok v w) : Val P nt k (.build s ps.toArray) v := fun a ha d ty pos af g w => by
  have key : ∀ (ps : List (Nat × Operand)) (vs : List Value), Evs k (ps.map (·.2)) vs → ps.map (fun x => (x.1, a.eval x.2)) = (ps.map (·.1)).zip vs := by
    intro ps
    induction ps with
    | nil => intro vs h; cases h; rfl
    | cons p ps ih =>
      intro vs h
      cases h with
      | cons h0 hr => simp [ha.ev h0, ih _ hr]
  have : (ps.toArray.map fun x => (x.1, a.eval x.2)) = ((ps.map (·.1)).zip vs).toArray := by
    rw [List.map_toArray, key ps vs hvs]
  simp only [execOp, this, Sem.run_bind, hr w]; rfl
end
/-! ### 2. Blocks of cells -/
/-- Block b holds just these cells. -/
def blk (b : Nat) (cs : List Value) (t : TypeId) : As where
  on X w := (∀ k, X k ↔ k = b) ∧ w.heap[b]? = some (.cells cs.toArray t (0, 0))
  loc X w w' h hk := ⟨h.1, (hk b ((h.1 b).2 rfl)).trans h.2⟩
  lt X w h k hk := by
    obtain rfl := (h.1 k).1 hk
    exact (Array.getElem?_eq_some_iff.1 h.2).1
/-- f is among what is known of memory. -/
inductive Has (R F : List As) (f : As) : Prop where
  | ro {R' : List As} (h : At R f R')
  | own {F' : List As} (h : At F f F')
theorem Has.get {R F : List As} {f : As} (h : Has R F f) {w0 w : World} {M : Nat → Prop} (H : St w0 w M R F) : ∃ Y, f.on Y w := by
  cases h with
  | ro h => exact H.has (.inl h.mem)
  | own h => exact H.has (.inr h.mem)
/-- the n-th of a list, by walking it -/
inductive Nth {α : Type} : List α → Nat → α → Prop where
  | zero {x : α} {xs : List α} : Nth (x :: xs) 0 x
  | succ {x y : α} {xs : List α} {n : Nat} (h : Nth xs n y) : Nth (x :: xs) (n + 1) y
theorem Nth.get {α : Type} {xs : List α} {n : Nat} {x : α} (h : Nth xs n x) : xs[n]? = some x := by
  induction h with
  | zero => rfl
  | succ _ ih => simpa using ih
/-- the first n -/
inductive Pre {α : Type} : List α → Nat → List α → Prop where
  | zero {xs : List α} : Pre xs 0 []
  | succ {x : α} {xs ys : List α} {n : Nat} (h : Pre xs n ys) : Pre (x :: xs) (n + 1) (x :: ys)
/-- n of them from o on -/
inductive Seg {α : Type} : List α → Nat → Nat → List α → Prop where
  | here {xs ys : List α} {n : Nat} (h : Pre xs n ys) : Seg xs 0 n ys
  | skip {x : α} {xs ys : List α} {o n : Nat} (h : Seg xs o n ys) : Seg (x :: xs) (o + 1) n ys
theorem Pre.get {α : Type} {xs ys : List α} {n : Nat} (h : Pre xs n ys) : ys.length = n ∧ ∀ (j : Nat) (y : α), ys[j]? = some y → xs[j]? = some y := by
  induction h with
  | zero => simp
  | succ _ ih =>
    refine ⟨by simp [ih.1], fun j y hy => ?_⟩
    cases j with
    | zero => simpa using hy
    | succ j => simpa using ih.2 j y (by simpa using hy)
theorem Seg.get {α : Type} {xs ys : List α} {o n : Nat} (h : Seg xs o n ys) : ys.length = n ∧ ∀ (j : Nat) (y : α), ys[j]? = some y → xs[o + j]? = some y := by
  induction h with
  | here h => simpa using h.get
  | skip _ ih =>
    refine ⟨ih.1, fun j y hy => ?_⟩
    rw [show ∀ o : Nat, o + 1 + j = (o + j) + 1 from fun o => by omega]
    simpa using ih.2 j y hy
/-- cells from o on are written over -/
inductive Ovr {α : Type} : List α → List α → List α → Prop where
  | nil {xs : List α} : Ovr xs [] xs
  | cons {x y : α} {xs ys zs : List α} (h : Ovr xs ys zs) : Ovr (x :: xs) (y :: ys) (y :: zs)
inductive Spl {α : Type} : List α → Nat → List α → List α → Prop where
  | here {xs ys zs : List α} (h : Ovr xs ys zs) : Spl xs 0 ys zs
  | skip {x : α} {xs ys zs : List α} {o : Nat} (h : Spl xs o ys zs) : Spl (x :: xs) (o + 1) ys (x :: zs)
theorem Ovr.eq {α : Type} {xs ys zs : List α} (h : Ovr xs ys zs) : ys.length ≤ xs.length ∧ zs = ys ++ xs.drop ys.length := by
  induction h with
  | nil => simp
  | cons _ ih => exact ⟨by simp; exact ih.1, by simp [← ih.2]⟩
theorem Spl.eq {α : Type} {xs ys zs : List α} {o : Nat} (h : Spl xs o ys zs) : o + ys.length ≤ xs.length ∧ zs = xs.take o ++ ys ++ xs.drop (o + ys.length) := by
  induction h with
  | here h => simpa using h.eq
  | skip _ ih =>
    refine ⟨by simp; omega, ?_⟩
    rw [show ∀ o m : Nat, o + 1 + m = (o + m) + 1 from fun o m => by omega]
    simp [← ih.2]
section
variable {P : Program} {nt : NT} {k : L} {R F : List As} {M : Nat → Prop} {w0 : World}
/-- 't' is laid in one cell. -/
def oneB (P : Program) (t : TypeId) : Bool := match P.underlying t with
  | some (.struct _) => false
  | some (.array _ _) => false
  | some _ => true
  | none => false
/-- 't' is a struct or an array of n cells. -/
def aggB (P : Program) (t : TypeId) (n : Nat) : Bool := (match P.underlying t with
  | some (.struct _) => true
  | some (.array _ _) => true
  | _ => false) && ((P.info? t).map (·.size) == some n)
theorem run_load_one {t : TypeId} (ht : oneB P t = true) {p : Addr} {v : Value} {w : World} (hc : w.cell? p = some v) : (Instr.loadAt t (.pointer (some p))).run P w = .ok v w := by
  unfold oneB at ht
  cases hu : P.underlying t with
  | none => simp [hu] at ht
  | some d =>
    have hagg : (isAgg t).run P w = .ok false w := by
      simp only [isAgg]
      simp only [Sem.run_bind, run_underlying hu, Result.andThen_ok]
      cases d <;> simp [hu] at ht <;> rfl
    simp [Instr.loadAt, Instr.sureAddr, loadVar, go_sem, hagg, hc]
theorem run_load_agg {t : TypeId} {n : Nat} (ht : aggB P t n = true) {b o : Nat} {vs : List Value} (hn : vs.length = n) {w : World} (hc : ∀ j v, vs[j]? = some v → w.cell? ⟨b, o + j, none⟩ = some v) :
    (Instr.loadAt t (.pointer (some ⟨b, o, none⟩))).run P w = .ok (.agg vs.toArray) w := by
  unfold aggB at ht
  simp only [Bool.and_eq_true, beq_iff_eq] at ht
  obtain ⟨h1, h2⟩ := ht
  cases hu : P.underlying t with
  | none => simp [hu] at h1
  | some d =>
    have hagg : (isAgg t).run P w = .ok true w := by
      simp only [isAgg]
      simp only [Sem.run_bind, run_underlying hu, Result.andThen_ok]
      cases d <;> simp [hu] at h1 <;> rfl
    cases hi : P.info? t with
    | none => simp [hi] at h2
    | some i =>
      have hs : i.size = vs.length := by simp [hi] at h2; omega
      have hl := run_loadCells_list (P := P) w ⟨b, o, none⟩ vs (fun j v hv => by rw [add_plain]; exact hc j v hv)
      have hsz : (sizeOf t).run P w = .ok vs.length w := by simp [sizeOf, typeInfo, go_sem, hi, hs]
      simp only [Instr.loadAt, Instr.sureAddr, loadVar, Sem.run_bind, Sem.run_pure, Result.andThen_ok, hagg, if_true, hsz, hl]
/-- A load of one cell, from any assertion that tells it. -/
theorem ld_one {x : Operand} {t : TypeId} {p : Addr} {v : Value} {f : As} (hx : ev k x = some (.pointer (some p))) (ht : oneB P t = true) (hf : Has R F f) (hc : ∀ Y w, f.on Y w → w.cell? p = some v) :
    ValS P nt (fun w => St w0 w M R F) k (.load t x) v := fun a ha d ty pos af g w H => by
  obtain ⟨Y, hY⟩ := hf.get H
  simp only [execOp, ha.ev hx, Sem.run_bind, run_load_one ht (hc Y w hY)]; rfl
theorem ld_agg {x : Operand} {t : TypeId} {b o n : Nat} {vs : List Value} {f : As} (hx : ev k x = some (.pointer (some ⟨b, o, none⟩))) (ht : aggB P t n = true) (hn : vs.length = n) (hf : Has R F f)
    (hc : ∀ Y w, f.on Y w → ∀ j v, vs[j]? = some v → w.cell? ⟨b, o + j, none⟩ = some v) : ValS P nt (fun w => St w0 w M R F) k (.load t x) (.agg vs.toArray) := fun a ha d ty pos af g w H => by
  obtain ⟨Y, hY⟩ := hf.get H
  simp only [execOp, ha.ev hx, Sem.run_bind, run_load_agg ht hn (hc Y w hY)]; rfl
theorem blk_cell {b o : Nat} {cs : List Value} {t : TypeId} {v : Value} (h : Nth cs o v) : ∀ Y w, (blk b cs t).on Y w → w.cell? ⟨b, o, none⟩ = some v := fun Y w hb => by
  have := h.get
  simp [World.cell?, hb.2, this]
theorem blk_cells {b o n : Nat} {cs vs : List Value} {t : TypeId} (h : Seg cs o n vs) : ∀ Y w, (blk b cs t).on Y w → ∀ j v, vs[j]? = some v → w.cell? ⟨b, o + j, none⟩ = some v := fun Y w hb j v hv => by
  have := h.get.2 j v hv
  simp [World.cell?, hb.2, this]
theorem ld_blk {x : Operand} {t T : TypeId} {b o : Nat} {cs : List Value} {v : Value} (hx : ev k x = some (.pointer (some ⟨b, o, none⟩))) (ht : oneB P t = true) (hf : Has R F (blk b cs T)) (h : Nth cs o v) :
    ValS P nt (fun w => St w0 w M R F) k (.load t x) v := ld_one hx ht hf (blk_cell h)
theorem ld_blks {x : Operand} {t T : TypeId} {b o n : Nat} {cs vs : List Value} (hx : ev k x = some (.pointer (some ⟨b, o, none⟩))) (ht : aggB P t n = true) (hf : Has R F (blk b cs T)) (h : Seg cs o n vs) :
    ValS P nt (fun w => St w0 w M R F) k (.load t x) (.agg vs.toArray) := ld_agg hx ht h.get.1 hf (blk_cells h)
/-! ### 3. New blocks -/
theorem St.alloc {w : World} (H : St w0 w M R F) (cs : List Value) (t : TypeId) : St w0 (w.alloc (.cells cs.toArray t)) M R (blk w.heap.size cs t :: F) := by
  obtain ⟨⟨X, h1, h2, h3⟩, h4⟩ := H
  have hold : ∀ k, k < w.heap.size → (w.alloc (.cells cs.toArray t)).heap[k]? = w.heap[k]? := fun k hk => by
    show (w.heap.push _)[k]? = _
    rw [Array.getElem?_push, if_neg (by omega)]
  refine ⟨⟨fun k => k = w.heap.size ∨ X k, ⟨fun k => k = w.heap.size, X, ⟨fun k => Iff.rfl, ?_⟩, Own.loc h1 fun k hk => hold k (Own.lt h1 k hk), ?_, fun k => Iff.rfl⟩, ?_, ?_⟩, ?_⟩
  · show (w.heap.push _)[w.heap.size]? = _
    simp
  · rintro k rfl hx
    exact absurd (Own.lt h1 _ hx) (by omega)
  · intro r hr
    obtain ⟨Y, hY, hd⟩ := h2 r hr
    refine ⟨Y, r.loc Y w _ hY fun k hk => hold k (r.lt Y w hY k hk), ?_⟩
    rintro k hk (rfl | hx)
    · exact absurd (r.lt Y w hY _ hk) (by omega)
    · exact hd k hk hx
  · rintro k (rfl | hx)
    · exact .inr h4.size
    · exact h3 k hx
  · exact h4.step (N := fun _ => False) ⟨rfl, rfl, rfl, by simp, fun k hk _ => hold k hk⟩ (fun _ h => h.elim)
variable {ops : Array Oper} {Q : Exit → Act → World → Prop} {S : World → Prop} {n i d : Nat} {ty : TypeId} {pos : String} {af : Array Edge} {g : Option (Nat × Bool)} {l : Tr} {w : World}
/-- A new block: the world's own name for it is forgotten. -/
theorem RJ.new {op : Op} {cs : List Value} {t : TypeId} {v : Nat → Value} (ho : ops[i]? = some (Oper.mk (some d) op ty pos af g)) (hg : gd ops k g = some true) (hd : Nat.blt d nt.n = true)
    (hv : ∀ (a : Act), Kn nt k a → ∀ w : World, (execOp a.eval (Oper.mk (some d) op ty pos af g)).run P w = .ok (.value (v w.heap.size)) (w.alloc (.cells cs.toArray t))) (H : St w0 w M R F)
    (h : ∀ w' b, St w0 w' M R (blk b cs t :: F) → (i < n → S w') ∧ RJ P nt ops Q S n l ((d, v b) :: k) w') : RJ P nt ops Q S n (.cons (i, false) l) k w := by
  have := h _ _ (H.alloc cs t)
  exact RJ.act ho hg hd (fun a ha => hv a ha w) this.1 this.2
theorem RJ.box {e : TypeId} {x : Operand} {u : Value} {cs : List Value} (ho : ops[i]? = some (Oper.mk (some d) (.box e x) ty pos af g)) (hg : gd ops k g = some true) (hd : Nat.blt d nt.n = true) (hx : ev k x = some u) (hc : u.cells = cs.toArray)
    (H : St w0 w M R F) (h : ∀ w' b, St w0 w' M R (blk b cs e :: F) → (i < n → S w') ∧ RJ P nt ops Q S n l ((d, .pointer (some ⟨b, 0, none⟩)) :: k) w') : RJ P nt ops Q S n (.cons (i, false) l) k w :=
  RJ.new ho hg hd (v := fun b => .pointer (some ⟨b, 0, none⟩)) (fun a ha w => by
    simp only [execOp, ha.ev hx, Instr.box, Sem.run_bind, newVar, newRow, newObj, hc]; rfl) H h
theorem RJ.alloc {e : TypeId} {z : Value} {cs : List Value} (ho : ops[i]? = some (Oper.mk (some d) (.alloc e) ty pos af g)) (hg : gd ops k g = some true) (hd : Nat.blt d nt.n = true) (hz : (P.info? e).bind (·.zero) = some z) (hc : z.cells = cs.toArray)
    (H : St w0 w M R F) (h : ∀ w' b, St w0 w' M R (blk b cs e :: F) → (i < n → S w') ∧ RJ P nt ops Q S n l ((d, .pointer (some ⟨b, 0, none⟩)) :: k) w') : RJ P nt ops Q S n (.cons (i, false) l) k w :=
  RJ.new ho hg hd (v := fun b => .pointer (some ⟨b, 0, none⟩)) (fun a ha w => by
    cases hi : P.info? e with
    | none => simp [hi] at hz
    | some inf =>
      have hz' : inf.zero = some z := by simpa [hi] using hz
      have e1 : (zeroValue e).run P w = .ok z w := by simp [zeroValue, typeInfo, hi, hz', go_sem]
      simp only [execOp, Instr.alloc, Sem.run_bind, e1, Result.andThen_ok, newVar, newRow, newObj, hc]; rfl) H h
/-! ### 4. Stores into an owned block -/
theorem St.store {b o : Nat} {cs vs cs' : List Value} {t : TypeId} {F' : List As} (H : St w0 w M R F) (hat : At F (blk b cs t) F') (hs : Spl cs o vs cs') :
    St w0 (w.setRow b cs'.toArray) M R (blk b cs' t :: F') := by
  obtain ⟨⟨X, h1, h2, h3⟩, h4⟩ := H
  obtain ⟨X1, X2, ⟨g1, g1'⟩, g2, g3, g4⟩ := Own.pick hat h1
  have hb := g1'
  have hold : ∀ k, k ≠ b → (w.setRow b cs'.toArray).heap[k]? = w.heap[k]? := fun k hk => by
    simp only [World.setRow, Array.getElem?_modify]
    rw [if_neg (by omega)]
  have hx1 : X1 b := (g1 b).2 rfl
  refine ⟨⟨X, ⟨X1, X2, ⟨g1, setRow_heap w b _ _ t _ hb⟩, Own.loc g2 fun k hk => hold k (fun e => g3 b hx1 (e ▸ hk)), g3, g4⟩, ?_, h3⟩, ?_⟩
  · intro r hr
    obtain ⟨Y, hY, hd⟩ := h2 r hr
    exact ⟨Y, r.loc Y w _ hY fun k hk => hold k (fun e => hd k hk ((g4 k).2 (.inl (e ▸ hx1)))), hd⟩
  · refine h4.step (N := fun k => k = b) ⟨rfl, rfl, rfl, by simp [World.setRow], fun k _ hk => hold k hk⟩ ?_
    rintro k rfl
    exact h3 _ ((g4 _).2 (.inl hx1))
theorem RJ.store {e t : TypeId} {x y : Operand} {b o : Nat} {v : Value} {cs vs cs' : List Value} {F' : List As} (ho : ops[i]? = some (Oper.mk none (.store e x y) ty pos af g)) (hg : gd ops k g = some true)
    (hx : ev k x = some (.pointer (some ⟨b, o, none⟩))) (hy : ev k y = some v) (hv : v.cells = vs.toArray) (he : (P.info? e).map (·.size) = some vs.length) (h1 : vs.all (·.oneCell') = true)
    (H : St w0 w M R F) (hat : At F (blk b cs t) F') (hs : Spl cs o vs cs')
    (h : ∀ w', St w0 w' M R (blk b cs' t :: F') → (i < n → S w') ∧ RJ P nt ops Q S n l k w') : RJ P nt ops Q S n (.cons (i, false) l) k w := by
  have hb : w.heap[b]? = some (.cells cs.toArray t (0, 0)) := by
    obtain ⟨⟨X, hX, _⟩, _⟩ := H
    obtain ⟨X1, X2, ⟨_, g⟩, _⟩ := Own.pick hat hX
    exact g
  have hl := hs.eq
  have hrun := run_storeCells_at (P := P) b o t vs 0 cs.toArray w hb (by simp; omega) (fun u hu => (List.all_eq_true.1 h1) u hu)
  simp only [Nat.add_zero, List.toList_toArray] at hrun
  rw [← hl.2] at hrun
  have := h _ (H.store hat hs)
  refine RJ.act0 ho hg (fun a ha => ?_) this.1 this.2
  cases hi : P.info? e with
  | none => simp [hi] at he
  | some inf =>
    have hsz : inf.size = vs.length := by simp [hi] at he; omega
    have e1 : (sizeOf e).run P w = .ok vs.length w := by simp [sizeOf, typeInfo, hi, hsz, go_sem]
    simp only [execOp, ha.ev hx, ha.ev hy, Instr.storeAt, Instr.sureAddr, storeVar, Sem.run_bind, Sem.run_pure, e1, Result.andThen_ok, hv, List.size_toArray, ne_eq, not_true_eq_false, if_false, hrun]
end
end Go.Proofs.YtmbibkifbehgnaaGreatDoor.Sk
namespace Go.Proofs.YtmbibkifbehgnaaGreatDoor.Sk
open Go
set_option linter.unusedVariables false
set_option linter.unusedSimpArgs false
inductive ArgK : Nat → List Value → L → Prop where
  | nil {i : Nat} : ArgK i [] []
  | cons {i : Nat} {v : Value} {vs : List Value} {k : L} (h : ArgK (i + 1) vs k) : ArgK i (v :: vs) ((i, v) :: k)
theorem ArgK.look : ∀ {vs : List Value} {i : Nat} {k : L}, ArgK i vs k → ∀ t v, Sk.look k t = some v → i ≤ t ∧ vs[t - i]? = some v
  | [], _, _, .nil, t, v, h => by cases h
  | u :: vs, i, _, .cons (k := k) hr, t, v, h => by
    simp only [Sk.look] at h
    split at h
    · rename_i hb
      obtain rfl := Nat.eq_of_beq_eq_true hb
      cases h
      simp
    · obtain ⟨h1, h2⟩ := ArgK.look hr t v h
      refine ⟨by omega, ?_⟩
      rw [show t - i = (t - (i + 1)) + 1 by omega]
      simpa using h2
/-- The contract of a function with a body, from its code. -/
theorem Spec.of_code {P : Program} {f : FuncId} {fn : Func} {c : Code} {vs : List Value} {k0 : L} {R F : List As} {Post : Ending → List As → Prop} (nt : Nat)
    (hf : P.funcs[f]? = some fn) (hb : fn.body = some c) (hn : fn.ntmps = nt) (hl : Nat.ble vs.length nt = true) (hk : ArgK 0 vs k0)
    (h : ∀ w X RR, (∀ e w', (∃ F', Post e F' ∧ St w w' X R F') → RR e w') → St w w X R F → CJ P ⟨nt, []⟩ c (FPost P fn RR) k0 w) : Spec P f vs.toArray R F Post := by
  intro w X hF hR
  have hle : vs.length ≤ nt := by simpa using hl
  refine calls_of_wp hf hb (Code.wp_mono ?_ (h w X _ (fun _ _ h => h) (St.start hF hR) { tmps := vs.toArray ++ Array.replicate (fn.ntmps - vs.toArray.size) undef, defers := [] } ⟨?_, rfl, ?_⟩))
  · intro e a w' hq
    cases e <;> simp only [FPost] at hq <;> first | exact hq.elim | skip
    all_goals
      obtain ⟨hd, v, hv, F', hp, hs⟩ := hq
      obtain ⟨X', h1, h2, h3⟩ := hs.done
      exact ⟨hd, v, hv, F', X', hp, h1, h2, h3⟩
  · simp; omega
  · intro t v ht
    have := (hk.look t v ht).2
    simp only [Nat.sub_zero] at this
    have hlt : t < vs.length := (List.getElem?_eq_some_iff.1 this).1
    show (vs.toArray ++ Array.replicate (fn.ntmps - vs.toArray.size) undef)[t]? = some v
    rw [Array.getElem?_append_left (by simpa using hlt)]
    simpa using this
/-- What the result variables hold at the end. -/
def Res (P : Program) (nt : NT) (fn : Func) (k : L) (w : World) (v : Value) : Prop := ∀ a, Kn nt k a → (results fn a.tmps).run P w = .ok v w
section
variable {P : Program} {nt : NT} {fn : Func} {k : L} {w : World} {R : Ending → World → Prop} {c : Code}
theorem fret {m : Nat} {v : Value} (hr : Res P ⟨m, []⟩ fn k w v) (h : R (.returned v) w) : ∀ a, Kn ⟨m, []⟩ k a → FPost P fn R .ret a w := fun a ha => ⟨ha.defers, v, hr a ha, h⟩
theorem fend {m : Nat} {v : Value} (hr : Res P ⟨m, []⟩ fn k w v) (h : R (.returned v) w) : ∀ a, Kn ⟨m, []⟩ k a → FPost P fn R .normal a w := fun a ha => ⟨ha.defers, v, hr a ha, h⟩
theorem Kn.getD {a : Act} (ha : Kn nt k a) {t : Nat} {v : Value} (h : look k t = some v) : a.tmps.getD t undef = v := by
  simp [Array.getD_eq_getD_getElem?, ha.known t v h]
theorem res0 (hf : fn.results = #[]) : Res P nt fn k w (.tuple #[]) := fun a ha => by simp [results, hf, go_sem]
theorem res1 {t : Nat} {v : Value} (hf : fn.results = #[.tmp t]) (h : look k t = some v) : Res P nt fn k w v := fun a ha => by
  have := ha.getD h
  simp only [results, hf]
  simp [go_sem, ← Array.getD_eq_getD_getElem?, this]
theorem res2 {t u : Nat} {v v' : Value} (hf : fn.results = #[.tmp t, .tmp u]) (h : look k t = some v) (h' : look k u = some v') : Res P nt fn k w (.tuple #[v, v']) := fun a ha => by
  have e1 := ha.getD h
  have e2 := ha.getD h'
  simp only [results, hf]
  simp [go_sem, ← Array.getD_eq_getD_getElem?, e1, e2]
theorem res3 {t u s : Nat} {v v' v'' : Value} (hf : fn.results = #[.tmp t, .tmp u, .tmp s]) (h : look k t = some v) (h' : look k u = some v') (h'' : look k s = some v'') : Res P nt fn k w (.tuple #[v, v', v'']) := fun a ha => by
  have e1 := ha.getD h
  have e2 := ha.getD h'
  have e3 := ha.getD h''
  simp only [results, hf]
  simp [go_sem, ← Array.getD_eq_getD_getElem?, e1, e2, e3]
/-- what loading a result's cell yields -/
def Lds (P : Program) (ty : TypeId) (p : Addr) (v : Value) (w : World) : Prop := (loadVar ty p).run P w = .ok v w
theorem resc {t : Nat} {ty : TypeId} {p : Addr} {v : Value} (hf : fn.results = #[.cell t ty]) (h : look k t = some (.pointer (some p))) (hl : Lds P ty p v w) : Res P nt fn k w v := fun a ha => by
  have e1 := ha.getD h
  have e2 : (loadVar ty p).run P w = .ok v w := hl
  simp only [results, hf]
  simp [← Array.getD_eq_getD_getElem?, e1, asAddr, e2]
theorem resct {t u : Nat} {ty : TypeId} {p : Addr} {v v' : Value} (hf : fn.results = #[.cell t ty, .tmp u]) (h : look k t = some (.pointer (some p))) (hl : Lds P ty p v w) (h' : look k u = some v') : Res P nt fn k w (.tuple #[v, v']) := fun a ha => by
  have e1 := ha.getD h
  have e2 : (loadVar ty p).run P w = .ok v w := hl
  have e3 := ha.getD h'
  simp only [results, hf]
  simp [← Array.getD_eq_getD_getElem?, e1, e3, asAddr, e2]
theorem restc {t u : Nat} {ty : TypeId} {p : Addr} {v v' : Value} (hf : fn.results = #[.tmp u, .cell t ty]) (h' : look k u = some v') (h : look k t = some (.pointer (some p))) (hl : Lds P ty p v w) : Res P nt fn k w (.tuple #[v', v]) := fun a ha => by
  have e1 := ha.getD h
  have e2 : (loadVar ty p).run P w = .ok v w := hl
  have e3 := ha.getD h'
  simp only [results, hf]
  simp [← Array.getD_eq_getD_getElem?, e1, e3, asAddr, e2]
theorem resctt {t u s : Nat} {ty : TypeId} {p : Addr} {v v' v'' : Value} (hf : fn.results = #[.cell t ty, .tmp u, .tmp s]) (h : look k t = some (.pointer (some p))) (hl : Lds P ty p v w) (h' : look k u = some v') (h'' : look k s = some v'') : Res P nt fn k w (.tuple #[v, v', v'']) := fun a ha => by
  have e1 := ha.getD h
  have e2 : (loadVar ty p).run P w = .ok v w := hl
  have e3 := ha.getD h'
  have e4 := ha.getD h''
  simp only [results, hf]
  simp [← Array.getD_eq_getD_getElem?, e1, e3, e4, asAddr, e2]
variable {R0 F : List As} {M : Nat → Prop} {w0 : World}
theorem lds_blks {ty T : TypeId} {b o n : Nat} {cs vs : List Value} (ht : aggB P ty n = true) (hf : Has R0 F (blk b cs T)) (h : Seg cs o n vs) (H : St w0 w M R0 F) : Lds P ty ⟨b, o, none⟩ (.agg vs.toArray) w := by
  obtain ⟨Y, hY⟩ := hf.get H
  have := run_load_agg ht h.get.1 (blk_cells h Y w hY)
  unfold Lds
  simpa [Instr.loadAt, Instr.sureAddr] using this
end
end Go.Proofs.YtmbibkifbehgnaaGreatDoor.Sk
namespace Go.Proofs.YtmbibkifbehgnaaGreatDoor.Sk
open Go
set_option linter.unusedVariables false
set_option linter.unusedSimpArgs false
/-! ### 1. Ends and cuts -/
section
variable {P : Program} {nt : NT} {Q Q' : Exit → Act → World → Prop} {k : L} {w : World}
theorem cj {y : Code} (h : CJ P nt y Q' k w) : ∀ a, Kn nt k a → y.wp P Q' a w := h
theorem lb {ι : Type} {K : ι → L} {J : ι → World → Prop} {m : ι → Nat} {x : ι} (y : ι) (hp : Pick k (K y)) (hj : J y w) (hm : m y < m x) : ∀ a, Kn nt k a → ∃ y, Kn nt (K y) a ∧ J y w ∧ m y < m x :=
  fun a ha => ⟨y, hp.kn ha, hj, hm⟩
/-- A region that draws; S: what is known of memory at its beginning. -/
theorem CJ.drawS {id : Nat} {ops : Array Oper} {w0 : World} {M : Nat → Prop} {R F : List As} (n : Nat) (l : Tr) (hm : P.follows .mixedOrders = true)
    (hb : (Region.noSelect ops && tailB ops n && (canon ops n ops.size (Array.replicate ops.size false) == some l)) = true) (H : St w0 w M R F)
    (hQ : ∀ c a d v w, Q (.panic c) (a.put d v) w → Q (.panic c) a w)
    (h : ∀ w', St w0 w' M R F → RJ P nt ops Q (fun w' => St w0 w' M R F) n l k w') : CJ P nt (.region id ops true) Q k w :=
  CJ.drawn n l hm hb _ H.drew hQ (h _ H.drew)
/-- A cut behind x: what is known there is K i, and J i holds. -/
theorem CJ.cut {x y : Code} {ι : Type} (K : ι → L) (J : ι → World → Prop) (h1 : CJ P nt x (Exit.then (fun a' w' => ∃ i, Kn nt (K i) a' ∧ J i w') Q) k w) (h2 : ∀ i w', J i w' → CJ P nt y Q (K i) w') : CJ P nt (.seq x y) Q k w :=
  fun a ha => wp_seq (Code.wp_mono (fun e a' w' h => by
    cases e <;> first | exact h | skip
    obtain ⟨i, hk, hj⟩ := h
    exact h2 i w' hj a' hk) (h1 a ha))
theorem ct {ι : Type} {K : ι → L} {J : ι → World → Prop} (i : ι) (hp : Pick k (K i)) (hj : J i w) : ∀ a, Kn nt k a → ∃ i, Kn nt (K i) a ∧ J i w := fun a ha => ⟨i, hp.kn ha, hj⟩
variable {ops : Array Oper} {S : World → Prop} {n i d : Nat} {op : Op} {ty : TypeId} {pos : String} {af : Array Edge} {g : Option (Nat × Bool)} {v : Value} {l : Tr}
/-- not calm, pure, in a region that draws -/
theorem RJ.qd (ho : ops[i]? = some (Oper.mk (some d) op ty pos af g)) (hg : gd ops k g = some true) (hd : Nat.blt d nt.n = true) (hS : i < n → S w) (hv : Val P nt k op v) (h : RJ P nt ops Q S n l ((d, v) :: k) w) : RJ P nt ops Q S n (.cons (i, false) l) k w :=
  RJ.act ho hg hd (fun a ha => hv a ha _ _ _ _ _ w) hS h
theorem RJ.qsd {S' : World → Prop} (ho : ops[i]? = some (Oper.mk (some d) op ty pos af g)) (hg : gd ops k g = some true) (hd : Nat.blt d nt.n = true) (hS : i < n → S w) (hS' : S' w) (hv : ValS P nt S' k op v) (h : RJ P nt ops Q S n l ((d, v) :: k) w) : RJ P nt ops Q S n (.cons (i, false) l) k w :=
  RJ.act ho hg hd (fun a ha => hv a ha _ _ _ _ _ w hS') hS h
/-- A call of which all is told. -/
theorem RJ.call1 {f : FuncId} {xs : List Operand} {ats : Array TypeId} {vs : List Value} {Rc Fc R F Fr G : List As} {w0 : World} {M : Nat → Prop}
    (ho : ops[i]? = some (Oper.mk (some d) (.call ⟨.value (.func f), xs.toArray, ats⟩) ty pos af g)) (hg : gd ops k g = some true) (hd : Nat.blt d nt.n = true) (hf : Enters P f) (hvs : Evs k xs vs)
    (hs : Sk.Spec P f vs.toArray Rc Fc (fun e F' => e = .returned v ∧ F' = G)) (H : St w0 w M R F) (hF : Ats F Fc Fr) (hR : Sub R Fr Rc)
    (h : ∀ w', St w0 w' M R (G ++ Fr) → (i < n → S w') ∧ RJ P nt ops Q S n l ((d, v) :: k) w') : RJ P nt ops Q S n (.cons (i, false) l) k w :=
  RJ.call ho hg hd hf hvs hs H hF hR (fun e F' h => ⟨v, h.1⟩) fun v' F' w' ⟨h1, h2⟩ H' => by cases h1; subst h2; exact h w' H'
/-- A call whose answer is told by one of ι. -/
theorem RJ.callx {f : FuncId} {xs : List Operand} {ats : Array TypeId} {vs : List Value} {Rc Fc R F Fr : List As} {ι : Type} {val : ι → Value} {G : ι → List As} {C : ι → Prop} {w0 : World} {M : Nat → Prop}
    (ho : ops[i]? = some (Oper.mk (some d) (.call ⟨.value (.func f), xs.toArray, ats⟩) ty pos af g)) (hg : gd ops k g = some true) (hd : Nat.blt d nt.n = true) (hf : Enters P f) (hvs : Evs k xs vs)
    (hs : Sk.Spec P f vs.toArray Rc Fc (fun e F' => ∃ x, e = .returned (val x) ∧ F' = G x ∧ C x)) (H : St w0 w M R F) (hF : Ats F Fc Fr) (hR : Sub R Fr Rc)
    (h : ∀ x w', C x → St w0 w' M R (G x ++ Fr) → (i < n → S w') ∧ RJ P nt ops Q S n l ((d, val x) :: k) w') : RJ P nt ops Q S n (.cons (i, false) l) k w :=
  RJ.call ho hg hd hf hvs hs H hF hR (fun e F' ⟨x, h, _⟩ => ⟨_, h⟩) fun v' F' w' ⟨x, h1, h2, h3⟩ H' => by cases h1; subst h2; exact h x w' h3 H'
/-- A call without an answer. -/
theorem RJ.call0 {f : FuncId} {xs : List Operand} {ats : Array TypeId} {vs : List Value} {Rc Fc R F Fr G : List As} {w0 : World} {M : Nat → Prop} {v : Value}
    (ho : ops[i]? = some (Oper.mk none (.call ⟨.value (.func f), xs.toArray, ats⟩) ty pos af g)) (hg : gd ops k g = some true) (hf : Enters P f) (hvs : Evs k xs vs)
    (hs : Sk.Spec P f vs.toArray Rc Fc (fun e F' => e = .returned v ∧ F' = G)) (H : St w0 w M R F) (hF : Ats F Fc Fr) (hR : Sub R Fr Rc)
    (h : ∀ w', St w0 w' M R (G ++ Fr) → (i < n → S w') ∧ RJ P nt ops Q S n l k w') : RJ P nt ops Q S n (.cons (i, false) l) k w :=
  fun a ha => ⟨_, ho, .inr (.inl ⟨gd_wanted (o := Oper.mk none (.call ⟨.value (.func f), xs.toArray, ats⟩) ty pos af g) hg ha, rfl, by
    have hrun : (execOp a.eval (Oper.mk none (.call ⟨.value (.func f), xs.toArray, ats⟩) ty pos af g)).run P w = .ok (.enter f vs.toArray) w := by
      have h1 : (xs.toArray.map a.eval) = vs.toArray := eval_args ha hvs.map
      have h2 := hf vs.toArray w
      simp only [execOp, resolve, h1, Act.eval, Deferred.ofValue]
      simpa [go_sem, invoke] using h2
    simp only [Oper.wp, hrun, Oper.upon_enter]
    refine (hs.use H hF hR).mono fun e w' ⟨F', hp, H'⟩ => ?_
    obtain ⟨rfl, rfl⟩ := hp
    have := h w' H'
    exact ⟨this.1, this.2 _ ha⟩⟩)⟩
end
theorem St.rest {w0 w : World} {M : Nat → Prop} {R R' F : List As} (h : St w0 w M R F) (hs : Sub R [] R') : St w0 w M R' F := by
  obtain ⟨⟨X, h1, h2, h3⟩, h4⟩ := h
  refine ⟨⟨X, h1, fun r hr => ?_, h3⟩, h4⟩
  rcases hs.mem r hr with h | h
  · exact h2 r h
  · cases h
/-! ### 2. More pure values -/
section
variable {P : Program} {nt : NT} {k : L} {t t2 : TypeId} {X Y : Operand} {q : IntKind} {x y z : Int}
theorem val_max {ts : Array TypeId} (hx : ev k X = some (.int q x)) (hy : ev k Y = some (.int q y)) (hz : max x y = z) : Val P nt k (.call ⟨.builtin .max, #[X, Y], ts⟩) (.int q z) := fun a ha d ty pos af g w => by
  subst hz
  simp only [execOp, resolve, List.map_toArray, List.map_cons, List.map_nil, ha.ev hx, ha.ev hy]; simp [invoke, builtin, go_sem] <;> omega
theorem val_min {ts : Array TypeId} (hx : ev k X = some (.int q x)) (hy : ev k Y = some (.int q y)) (hz : min x y = z) : Val P nt k (.call ⟨.builtin .min, #[X, Y], ts⟩) (.int q z) := fun a ha d ty pos af g w => by
  subst hz
  simp only [execOp, resolve, List.map_toArray, List.map_cons, List.map_nil, ha.ev hx, ha.ev hy]; simp [invoke, builtin, go_sem] <;> omega
theorem val_min3 {ts : Array TypeId} {Z : Operand} {u : Int} (hx : ev k X = some (.int q x)) (hy : ev k Y = some (.int q y)) (hu : ev k Z = some (.int q u)) (hz : min (min x y) u = z) : Val P nt k (.call ⟨.builtin .min, #[X, Y, Z], ts⟩) (.int q z) := fun a ha d ty pos af g w => by
  subst hz
  simp only [execOp, resolve, List.map_toArray, List.map_cons, List.map_nil, ha.ev hx, ha.ev hy, ha.ev hu]; simp [invoke, builtin, go_sem, Builtin.min_, Builtin.min2] <;> omega
/-- size of a slice's element -/
def elB (P : Program) (t : TypeId) (sz : Nat) : Bool := match P.underlying t with
  | some (.slice e) => (P.info? e).map (·.size) == some sz
  | _ => false
theorem elB_spec {sz : Nat} (h : elB P t sz = true) : P.underlying t = some (.slice (P.elem t)) ∧ ∀ w, (sizeOf (P.elem t)).run P w = .ok sz w := by
  unfold elB at h
  cases hu : P.underlying t with
  | none => simp [hu] at h
  | some d =>
    cases d <;> simp [hu] at h
    rename_i e
    have he : P.elem t = e := by simp [Program.elem, hu]
    rw [he]
    obtain ⟨i, hi, rfl⟩ := h
    exact ⟨rfl, fun w => by simp [sizeOf, typeInfo, hi, go_sem]⟩
def arB (P : Program) (t : TypeId) (n sz : Nat) : Bool := match P.underlying t with
  | some (.array m e) => m == n && (P.info? e).map (·.size) == some sz
  | _ => false
theorem arB_spec {n sz : Nat} (h : arB P t n sz = true) : P.underlying t = some (.array (P.arrayLen t) (P.elem t)) ∧ P.arrayLen t = n ∧ ∀ w, (sizeOf (P.elem t)).run P w = .ok sz w := by
  unfold arB at h
  cases hu : P.underlying t with
  | none => simp [hu] at h
  | some d =>
    cases d <;> simp [hu] at h
    rename_i m e
    have he : P.elem t = e := by simp [Program.elem, hu]
    have hn : P.arrayLen t = m := by simp [Program.arrayLen, hu]
    rw [he, hn]
    obtain ⟨hm, i, hi, rfl⟩ := h
    exact ⟨rfl, hm, fun w => by simp [sizeOf, typeInfo, hi, go_sem]⟩
theorem val_ix {sz b o len cap i : Nat} {j : Int} {A : Option Addr} (ht : elB P t sz = true) (hA : A = some ⟨b, o, none⟩) (hx : ev k X = some (.slice A len cap)) (hy : ev k Y = some (.int q j)) (hj : j = (i : Int)) (hi : i < len) :
    Val P nt k (.indexAddr t X Y) (.pointer (some ⟨b, o + i * sz, none⟩)) := fun a ha d ty pos af g w => by
  obtain ⟨h1, h2⟩ := elB_spec ht
  subst hj
  subst hA
  have h0 : (0 : Int) ≤ (i : Int) ∧ (i : Int) < (len : Int) := by omega
  simp only [execOp, ha.ev hx, ha.ev hy, Sem.run_bind, run_indexAt_slice w t _ len cap q _ h1, if_pos h0, h2 w, Result.andThen_ok, Int.toNat_natCast, add_plain]; rfl
theorem val_ixa {sz b o n i : Nat} {j : Int} (ht : arB P t n sz = true) (hx : ev k X = some (.pointer (some ⟨b, o, none⟩))) (hy : ev k Y = some (.int q j)) (hj : j = (i : Int)) (hi : i < n) :
    Val P nt k (.indexAddr t X Y) (.pointer (some ⟨b, o + i * sz, none⟩)) := fun a ha d ty pos af g w => by
  obtain ⟨h1, h3, h2⟩ := arB_spec ht
  subst hj
  have h0 : (0 : Int) ≤ (i : Int) ∧ (i : Int) < (P.arrayLen t : Int) := by rw [h3]; omega
  simp only [execOp, ha.ev hx, ha.ev hy, Sem.run_bind, run_indexAt_array w t _ q _ h1, if_pos h0, h2 w, Result.andThen_ok, Int.toNat_natCast, add_plain]; rfl
theorem val_mk {s : TypeId} {ps : List (Nat × Operand)} {vs cells : List Value} (hvs : Evs k (ps.map (·.2)) vs)
    (hr : P.built s ((ps.map (·.1)).zip vs) = some cells.toArray) : Val P nt k (.build s ps.toArray) (.agg cells.toArray) :=
  val_build hvs fun w => run_build w s _ _ (by simpa using hr)
end
/-! ### 3. Cells that are read from an address on -/
/-- A: where a slice's cells lie (none: nowhere); cs: the cells. -/
def arr (A : Option Addr) (cs : List Value) : As where
  on X w := (cs = [] ∧ ∀ k, ¬ X k) ∨ ∃ b o, A = some ⟨b, o, none⟩ ∧ (∀ k, X k ↔ k = b) ∧ b < w.heap.size ∧ ∀ j u, cs[j]? = some u → w.cell? ⟨b, o + j, none⟩ = some u
  loc X w w' h hk := h.imp id fun ⟨b, o, h1, h2, h3, h4⟩ => by
    have hb := hk b ((h2 b).2 rfl)
    refine ⟨b, o, h1, h2, ?_, fun j u hu => ?_⟩
    · have := Array.getElem?_eq_getElem h3
      rw [this] at hb
      exact (Array.getElem?_eq_some_iff.1 hb).1
    · rw [← h4 j u hu]
      exact World.cell?_of_block hb
  lt X w h k hk := by
    rcases h with ⟨_, h⟩ | ⟨b, o, _, h2, h3, _⟩
    · exact absurd hk (h k)
    · obtain rfl := (h2 k).1 hk
      exact h3
section
variable {P : Program} {nt : NT} {k : L} {R F : List As} {M : Nat → Prop} {w0 w : World}
theorem Has.base {A : Option Addr} {cs : List Value} (h : Has R F (arr A cs)) (H : St w0 w M R F) (hne : cs ≠ []) : ∃ b o, A = some ⟨b, o, none⟩ := by
  obtain ⟨Y, h | ⟨b, o, h, _⟩⟩ := h.get H
  · exact absurd h.1 hne
  · exact ⟨b, o, h⟩
theorem arr_cell {b o j : Nat} {cs : List Value} {u : Value} (h : cs[j]? = some u) : ∀ Y w, (arr (some ⟨b, o, none⟩) cs).on Y w → w.cell? ⟨b, o + j, none⟩ = some u := fun Y w hb => by
  rcases hb with ⟨h0, _⟩ | ⟨b', o', h0, _, _, h4⟩
  · subst h0; cases h
  · cases h0
    exact h4 j u h
/-- an offset in an element -/
inductive Off : Nat → Nat → Nat → Nat → Nat → Prop where
  | base {o i sz : Nat} : Off (o + i * sz) o i sz 0
  | zero {o sz : Nat} : Off o o 0 sz 0
  | add {q o i sz c d : Nat} (h : Off q o i sz c) : Off (q + d) o i sz (c + d)
theorem Off.eq {q o i sz c : Nat} (h : Off q o i sz c) : q = o + (i * sz + c) := by
  induction h with
  | base => rfl
  | zero => simp
  | add _ ih => omega
theorem flat_get {α : Type} {enc : α → List Value} {sz : Nat} (hl : ∀ x, (enc x).length = sz) : ∀ (l : List α) (i c : Nat) (x : α), l[i]? = some x → c < sz → (l.flatMap enc)[i * sz + c]? = (enc x)[c]?
  | [], i, c, x, h, _ => by simp at h
  | y :: l, i, c, x, h, hc => by
    cases i with
    | zero =>
      obtain rfl : y = x := by simpa using h
      rw [List.flatMap_cons, Nat.zero_mul, Nat.zero_add, List.getElem?_append_left (by rw [hl]; exact hc)]
    | succ i =>
      rw [List.flatMap_cons, List.getElem?_append_right (by rw [hl, Nat.succ_mul]; omega), hl, ← flat_get hl l i c x (by simpa using h) hc]
      congr 1
      rw [Nat.succ_mul]; omega
theorem flat_len {α : Type} {enc : α → List Value} {sz : Nat} (hl : ∀ x, (enc x).length = sz) (l : List α) : (l.flatMap enc).length = l.length * sz := by
  induction l with
  | nil => simp
  | cons x l ih => rw [List.flatMap_cons, List.length_append, hl, ih, List.length_cons, Nat.succ_mul]; omega
/-- one cell of an element -/
theorem ld_el {α : Type} {l : List α} {enc : α → List Value} {x : α} {X : Operand} {t : TypeId} {b q o i sz c : Nat} {v : Value} {A : Option Addr} (hx : ev k X = some (.pointer (some ⟨b, q, none⟩))) (ht : oneB P t = true) (hq : Off q o i sz c)
    (hA : A = some ⟨b, o, none⟩) (hf : Has R F (arr A (l.flatMap enc))) (hl : ∀ x, (enc x).length = sz) (hi : l[i]? = some x) (hv : (enc x)[c]? = some v) : ValS P nt (fun w => St w0 w M R F) k (.load t X) v :=
  ld_one hx ht hf fun Y w hb => by
    subst hA
    rw [hq.eq]
    exact arr_cell (by rw [flat_get hl l i c x hi (by rw [← hl x]; exact (List.getElem?_eq_some_iff.1 hv).1), hv]) Y w hb
/-- some cells of an element -/
theorem ld_els {α : Type} {l : List α} {enc : α → List Value} {x : α} {X : Operand} {t : TypeId} {b q o i sz c n : Nat} {vs : List Value} {A : Option Addr} (hx : ev k X = some (.pointer (some ⟨b, q, none⟩))) (ht : aggB P t n = true) (hq : Off q o i sz c)
    (hA : A = some ⟨b, o, none⟩) (hf : Has R F (arr A (l.flatMap enc))) (hl : ∀ x, (enc x).length = sz) (hi : l[i]? = some x) (hv : Seg (enc x) c n vs) : ValS P nt (fun w => St w0 w M R F) k (.load t X) (.agg vs.toArray) :=
  ld_agg hx ht hv.get.1 hf fun Y w hb j v hj => by
    subst hA
    rw [hq.eq, Nat.add_assoc, Nat.add_assoc]
    have h1 := hv.get.2 j v hj
    exact arr_cell (by rw [flat_get hl l i (c + j) x hi (by rw [← hl x]; exact (List.getElem?_eq_some_iff.1 h1).1), h1]) Y w hb
/-- an element, whole -/
theorem ld_ela {α : Type} {l : List α} {enc : α → List Value} {x : α} {X : Operand} {t : TypeId} {b q o i sz : Nat} {A : Option Addr} (hx : ev k X = some (.pointer (some ⟨b, q, none⟩))) (ht : aggB P t sz = true) (hq : Off q o i sz 0)
    (hA : A = some ⟨b, o, none⟩) (hf : Has R F (arr A (l.flatMap enc))) (hl : ∀ x, (enc x).length = sz) (hi : l[i]? = some x) : ValS P nt (fun w => St w0 w M R F) k (.load t X) (.agg (enc x).toArray) :=
  ld_agg hx ht (hl x) hf fun Y w hb j v hj => by
    subst hA
    rw [hq.eq, Nat.add_assoc, Nat.add_assoc]
    exact arr_cell (by rw [Nat.zero_add, flat_get hl l i j x hi (by rw [← hl x]; exact (List.getElem?_eq_some_iff.1 hj).1), hj]) Y w hb
/-- an integer of a list of integers -/
theorem ld_int {l : List Int} {X : Operand} {t : TypeId} {b q o i : Nat} {z : Int} {A : Option Addr} (hx : ev k X = some (.pointer (some ⟨b, q, none⟩))) (ht : oneB P t = true) (hq : Off q o i 1 0)
    (hA : A = some ⟨b, o, none⟩) (hf : Has R F (arr A (l.map (Value.int .i64)))) (hi : l[i]? = some z) : ValS P nt (fun w => St w0 w M R F) k (.load t X) (.int .i64 z) :=
  ld_one hx ht hf fun Y w hb => by
    subst hA
    rw [hq.eq]
    exact arr_cell (by simp [hi]) Y w hb
/-- a cell of a block, by its number -/
theorem ld_b {x : Operand} {t T : TypeId} {b o : Nat} {cs : List Value} {v : Value} (hx : ev k x = some (.pointer (some ⟨b, o, none⟩))) (ht : oneB P t = true) (hf : Has R F (blk b cs T)) (h : cs[o]? = some v) :
    ValS P nt (fun w => St w0 w M R F) k (.load t x) v := ld_one hx ht hf fun Y w hb => by simp [World.cell?, hb.2, h]
/-- a block, whole -/
theorem ld_w {x : Operand} {t T : TypeId} {b n : Nat} {cs : List Value} (hx : ev k x = some (.pointer (some ⟨b, 0, none⟩))) (ht : aggB P t n = true) (hf : Has R F (blk b cs T)) (hn : cs.length = n) :
    ValS P nt (fun w => St w0 w M R F) k (.load t x) (.agg cs.toArray) := ld_agg hx ht hn hf fun Y w hb j v hj => by simp [World.cell?, hb.2, hj]
theorem lds_w {ty T : TypeId} {b n : Nat} {cs : List Value} (ht : aggB P ty n = true) (hf : Has R F (blk b cs T)) (hn : cs.length = n) (H : St w0 w M R F) : Lds P ty ⟨b, 0, none⟩ (.agg cs.toArray) w := by
  obtain ⟨Y, hY⟩ := hf.get H
  have := run_load_agg (P := P) (b := b) (o := 0) (w := w) ht hn (fun j v hj => by simp [World.cell?, hY.2, hj])
  unfold Lds
  simpa [Instr.loadAt, Instr.sureAddr] using this
/-! ### 4. Owned rows -/
/-- v: a slice of its own memory with n elements of sz cells, these being xs. -/
def row (v : Value) (e : TypeId) (sz n : Nat) (xs : List Value) : As where
  on X w := w.ownsRow 0 e sz v n xs ∧ ∀ k, X k ↔ v.ownBlock = some k
  loc X w w' h hk := by
    obtain ⟨⟨h1, h2⟩, h3⟩ := h
    refine ⟨⟨h1, ?_⟩, h3⟩
    rcases h2 with h2 | ⟨g, cap, cur, rfl, hb, hg, rest⟩
    · exact .inl h2
    · exact .inr ⟨g, cap, cur, rfl, hb, (hk g ((h3 g).2 rfl)).trans hg, rest⟩
  lt X w h k hk := (h.1.lt k ((h.2 k).1 hk)).2
theorem row_nil_on {e : TypeId} {sz : Nat} {w : World} : (row (.slice none 0 0) e sz 0 []).on (fun _ => False) w := ⟨World.ownsRow_nil w 0 e sz, fun k => by simp [Value.ownBlock]⟩
theorem St.rowNil (H : St w0 w M R F) (e : TypeId) (sz : Nat) : St w0 w M R (row (.slice none 0 0) e sz 0 [] :: F) := by
  obtain ⟨⟨X, h1, h2, h3⟩, h4⟩ := H
  exact ⟨⟨X, ⟨fun _ => False, X, row_nil_on, h1, fun _ h => h.elim, fun k => by simp⟩, h2, h3⟩, h4⟩
/-- a new block becomes an owned row -/
theorem blk_row {b n cap : Nat} {cs : List Value} {e : TypeId} {sz : Nat} {X : Nat → Prop} (hc : cs.length = cap * sz) (hn : n ≤ cap) (hm : cap ≤ maxLen) (h : (blk b cs e).on X w) : (row (.slice (some ⟨b, 0, none⟩) n cap) e sz n (cs.take (n * sz))).on X w := by
  refine ⟨⟨?_, .inr ⟨b, cap, cs.toArray, rfl, Nat.zero_le _, h.2, hn, hm, by simpa using hc, by simp⟩⟩, fun k => by rw [h.1 k]; simp [Value.ownBlock, eq_comm]⟩
  rw [List.length_take, hc]
  exact Nat.min_eq_left (Nat.mul_le_mul_right _ hn)
theorem Own.map1 {f g : As} {F' : List As} (hfg : ∀ X w, f.on X w → g.on X w) {X : Nat → Prop} {w : World} : Own (f :: F') X w → Own (g :: F') X w := fun ⟨X1, X2, h1, h2, h3, h4⟩ => ⟨X1, X2, hfg _ _ h1, h2, h3, h4⟩
theorem St.blkRow {b n cap : Nat} {cs : List Value} {e : TypeId} {sz : Nat} {F' : List As} (H : St w0 w M R F) (hat : At F (blk b cs e) F') (hc : cs.length = cap * sz) (hn : n ≤ cap) (hm : cap ≤ maxLen) :
    St w0 w M R (row (.slice (some ⟨b, 0, none⟩) n cap) e sz n (cs.take (n * sz)) :: F') := by
  obtain ⟨⟨X, h1, h2, h3⟩, h4⟩ := H
  exact ⟨⟨X, Own.map1 (fun X w => blk_row hc hn hm) (Own.pick hat h1), h2, h3⟩, h4⟩
/-- an owned row is read from now on -/
theorem St.rowArr {v : Value} {e : TypeId} {sz n : Nat} {xs : List Value} {F' : List As} (H : St w0 w M R F) (hat : At F (row v e sz n xs) F') :
    ∃ A cap, v = .slice A n cap ∧ (A = none → n = 0 ∧ cap = 0) ∧ St w0 w M (arr A xs :: R) F' := by
  have H1 := H.toRo hat
  obtain ⟨⟨X, h1, h2, h3⟩, h4⟩ := H1
  obtain ⟨Y, hY, hd⟩ := h2 _ List.mem_cons_self
  obtain ⟨hrow, hblk⟩ := hY
  have mk : ∀ A cap, v = .slice A n cap → (A = none → n = 0 ∧ cap = 0) → (arr A xs).on Y w → ∃ A cap, v = .slice A n cap ∧ (A = none → n = 0 ∧ cap = 0) ∧ St w0 w M (arr A xs :: R) F' := fun A cap hv hn ha =>
    ⟨A, cap, hv, hn, ⟨X, h1, fun r hr => by
      rcases List.mem_cons.1 hr with rfl | hr
      · exact ⟨Y, ha, hd⟩
      · exact h2 r (List.mem_cons_of_mem _ hr), h3⟩, h4⟩
  rcases hrow.2 with ⟨rfl, rfl⟩ | ⟨g, cap, cur, rfl, hb, hg, hnc, hcm, hcs, htake⟩
  · refine mk none 0 rfl (fun _ => ⟨rfl, rfl⟩) (.inl ⟨List.eq_nil_of_length_eq_zero (by simpa using hrow.1), fun k hk => by have := (hblk k).1 hk; simp [Value.ownBlock] at this⟩)
  · refine mk (some ⟨g, 0, none⟩) cap rfl (fun h => by cases h) (.inr ⟨g, 0, rfl, fun k => by rw [hblk k]; simp [Value.ownBlock, eq_comm], (Array.getElem?_eq_some_iff.1 hg).1, fun j u hu => ?_⟩)
    have := hrow.cells (g := g) rfl j u hu
    rwa [add_plain] at this
/-- a new block is read from now on -/
theorem St.blkArr {b : Nat} {cs : List Value} {e : TypeId} {F' : List As} (H : St w0 w M R F) (hat : At F (blk b cs e) F') : St w0 w M (arr (some ⟨b, 0, none⟩) cs :: R) F' := by
  have H1 := H.toRo hat
  obtain ⟨⟨X, h1, h2, h3⟩, h4⟩ := H1
  refine ⟨⟨X, h1, fun r hr => ?_, h3⟩, h4⟩
  rcases List.mem_cons.1 hr with rfl | hr
  · obtain ⟨Y, hY, hd⟩ := h2 _ List.mem_cons_self
    exact ⟨Y, .inr ⟨b, 0, rfl, hY.1, (Array.getElem?_eq_some_iff.1 hY.2).1, fun j u hu => by simp [World.cell?, hY.2, hu]⟩, hd⟩
  · exact h2 r (List.mem_cons_of_mem _ hr)
/-- What can be appended: its cells can be read. -/
def Src (w : World) (A : Option Addr) (m c : Nat) (news : List Value) : Prop := (A = none ∧ m = 0 ∧ c = 0 ∧ news = []) ∨ ∃ a : Addr, A = some a ∧ ∀ j u, news[j]? = some u → w.cell? (a.add j) = some u
/-- What is asked of an array that is read is told of a block. -/
theorem Spec.blkR {f : FuncId} {args : Array Value} {b : Nat} {cs : List Value} {e : TypeId} {Rc : List As} {Post : Ending → List As → Prop} (h : Sk.Spec P f args (arr (some ⟨b, 0, none⟩) cs :: Rc) [] Post) : Sk.Spec P f args (blk b cs e :: Rc) [] Post := by
  intro w X hF hR
  refine h w X hF fun r hr => ?_
  rcases List.mem_cons.1 hr with rfl | hr
  · obtain ⟨Y, hY, hd⟩ := hR _ List.mem_cons_self
    exact ⟨Y, .inr ⟨b, 0, rfl, hY.1, (Array.getElem?_eq_some_iff.1 hY.2).1, fun j u hu => by simp [World.cell?, hY.2, hu]⟩, hd⟩
  · exact hR r (List.mem_cons_of_mem _ hr)
theorem Has.srcArr {A : Option Addr} {m c : Nat} {news : List Value} (h : Has R F (arr A news)) (hn : A = none → m = 0 ∧ c = 0) (H : St w0 w M R F) : Src w A m c news := by
  obtain ⟨Y, ⟨h1, _⟩ | ⟨b, o, h1, _, _, h4⟩⟩ := h.get H
  · cases A with
    | none => exact .inl ⟨rfl, (hn rfl).1, (hn rfl).2, h1⟩
    | some a => exact .inr ⟨a, rfl, fun j u hu => by subst h1; cases hu⟩
  · exact .inr ⟨_, h1, fun j u hu => by rw [add_plain]; exact h4 j u hu⟩
theorem Has.srcBlk {b m c : Nat} {T : TypeId} {news : List Value} (h : Has R F (blk b news T)) (H : St w0 w M R F) : Src w (some ⟨b, 0, none⟩) m c news := by
  obtain ⟨Y, hY⟩ := h.get H
  exact .inr ⟨_, rfl, fun j u hu => by rw [add_plain]; simp [World.cell?, hY.2, hu]⟩
theorem Has.srcRow {v : Value} {e : TypeId} {sz m : Nat} {news : List Value} (h : Has R F (row v e sz m news)) (H : St w0 w M R F) : ∃ A c, v = .slice A m c ∧ Src w A m c news := by
  obtain ⟨Y, hrow, hb⟩ := h.get H
  rcases hrow.2 with ⟨rfl, rfl⟩ | ⟨g, cap, cur, rfl, _⟩
  · exact ⟨none, 0, rfl, .inl ⟨rfl, rfl, rfl, List.eq_nil_of_length_eq_zero (by simpa using hrow.1)⟩⟩
  · exact ⟨some ⟨g, 0, none⟩, cap, rfl, .inr ⟨_, rfl, fun j u hu => hrow.cells (g := g) rfl j u hu⟩⟩
/-- the facts on an element's type that 'append' asks -/
def apB (P : Program) (t e : TypeId) (sz bytes : Nat) : Bool := match P.underlying t, P.info? e with
  | some (.slice e'), some i => e' == e && i.size == sz && i.bytes == bytes && (match i.zero with
    | some z => z.cells.size == sz
    | none => false) && decide (0 < sz)
  | _, _ => false
theorem apB_spec {t e : TypeId} {sz bytes : Nat} (h : apB P t e sz bytes = true) : ∃ i z, P.underlying t = some (.slice e) ∧ P.info? e = some i ∧ i.zero = some z ∧ i.size = sz ∧ i.bytes = bytes ∧ z.cells.size = sz ∧ 0 < sz := by
  unfold apB at h
  cases hu : P.underlying t with
  | none => simp [hu] at h
  | some d =>
    cases hi : P.info? e with
    | none => cases d <;> simp [hu, hi] at h
    | some i =>
      cases d <;> simp [hu, hi] at h
      rename_i e'
      cases hz : i.zero with
      | none => simp [hz] at h
      | some z =>
        simp [hz] at h
        exact ⟨i, z, by rw [h.1.1.1.1], rfl, hz, h.1.1.1.2, h.1.1.2, h.1.2, h.2⟩
theorem St.append {t ty e : TypeId} {sz bytes : Nat} (hap : apB P t e sz bytes = true) {v : Value} {n m c : Nat} {xs news : List Value} {A : Option Addr} {F' : List As} (H : St w0 w M R F) (hat : At F (row v e sz n xs) F')
    (hsrc : Src w A m c news) (hl : news.length = m * sz) (h1 : ∀ u ∈ news, u.oneCell' = true) (h63 : n + m ≤ maxLen) (hbytes : (n + m) * bytes ≤ 140737488355328) :
    ∃ v' w', (Builtin.append_ #[t, t] ty #[v, .slice A m c]).run P w = .ok v' w' ∧ St w0 w' M R (row v' e sz (n + m) (xs ++ news) :: F') := by
  obtain ⟨i, z, ht, hi, hz, hsize, hby, hzs, hsz⟩ := apB_spec hap
  clear hap
  subst hsize
  subst hby
  obtain ⟨⟨X, g1, g2, g3⟩, g4⟩ := H
  obtain ⟨X1, X2, ⟨hown, hblk⟩, k2, k3, k4⟩ := Own.pick hat g1
  have hlen : (xs ++ news).length = (n + m) * i.size := by rw [List.length_append, hown.1, hl, Nat.add_mul]
  rcases hsrc with ⟨rfl, rfl, rfl, rfl⟩ | ⟨a0, rfl, hcell⟩
  · refine ⟨v, w, run_append_owned_none w 0 t ty e i _ ht hi v n xs hown, ?_⟩
    simp only [Nat.add_zero, List.append_nil]
    exact ⟨⟨X, ⟨X1, X2, ⟨hown, hblk⟩, k2, k3, k4⟩, g2, g3⟩, g4⟩
  · have hnews : ∀ j u, news[j]? = some u → w.cell? (a0.add j) = some u := hcell
    -- a new block, the old one is let go
    have fresh : ∀ (cs : Array Value) (cap : Nat), n + m ≤ cap → cap ≤ maxLen → cs.size = cap * i.size → cs.toList.take ((n + m) * i.size) = xs ++ news →
        St w0 (w.drew.alloc (.cells cs e)) M R (row (.slice (some ⟨w.heap.size, 0, none⟩) (n + m) cap) e i.size (n + m) (xs ++ news) :: F') := by
      intro cs cap hc hm hs htake
      have H2 : St w0 w M R F' := ⟨⟨X2, k2, fun r hr => by
        obtain ⟨Y, hY, hd⟩ := g2 r hr
        exact ⟨Y, hY, fun k hk hx => hd k hk ((k4 k).2 (.inr hx))⟩, fun k hk => g3 k ((k4 k).2 (.inr hk))⟩, g4⟩
      have H3 := (St.drew H2).alloc cs.toList e
      have H4 := St.blkRow (n := n + m) (cap := cap) (sz := i.size) H3 .here (by simpa using hs) hc hm
      rw [htake] at H4
      simpa using H4
    rcases hown.2 with ⟨rfl, rfl⟩ | ⟨g, cap, cur, rfl, hbg, hg, hnc, hcm, hcs, htake⟩
    · have hx : xs = [] := List.eq_nil_of_length_eq_zero (by simpa using hown.1)
      subst hx
      by_cases hm : m = 0
      · subst hm
        have hn : news = [] := List.eq_nil_of_length_eq_zero (by simpa using hl)
        subst hn
        refine ⟨.slice none 0 0, w, ?_, ⟨⟨X, ⟨X1, X2, ⟨by simpa using hown, hblk⟩, k2, k3, k4⟩, g2, g3⟩, g4⟩⟩
        simp [Builtin.append_, run_underlying ht, sizeOf, typeInfo, hi, Builtin.lenOf, Builtin.firstCells, loadCells, loadCellsFrom]
      · have hr := run_append_nil (P := P) w t ty e i z ht hi hz a0 m c news hl hnews (by omega) (by simp only [maxLen] at h63; omega) (by have hb := hbytes; simp only [Nat.zero_add] at hb; omega)
        have hge := grownCap_ge w m 0 e
        refine ⟨_, _, hr, ?_⟩
        have := fresh (news.toArray ++ Builtin.zeroCells z.cells (grownCap w m 0 e - m)) (grownCap w m 0 e) (by omega) (grownCap_le_maxLen w m 0 e (by omega)) (by
          simp only [Array.size_append, List.size_toArray, size_zeroCells, hzs, hl, ← Nat.add_mul]
          congr 1
          omega) (by
          simp only [Array.toList_append, List.nil_append]
          rw [show (0 + m) * i.size = news.length by rw [hl, Nat.zero_add]]
          exact List.take_left)
        simpa using this
    · have hb1 : X1 g := (hblk g).2 rfl
      by_cases hroom : n + m ≤ cap
      · have hfit : n * i.size + news.length ≤ cur.size := by rw [hl, hcs, ← Nat.add_mul]; exact Nat.mul_le_mul_right _ hroom
        have hr := run_append_room (P := P) w t ty e i ht hi g n cap cur hg a0 m c news hl hnews h1 hroom hfit
        refine ⟨_, _, hr, ?_⟩
        have hB : St w0 w M R (blk g cur.toList e :: F') := ⟨⟨X, ⟨X1, X2, ⟨fun k => by rw [hblk k]; simp [Value.ownBlock, eq_comm], by simpa using hg⟩, k2, k3, k4⟩, g2, g3⟩, g4⟩
        have hold : ∀ k, k ≠ g → (w.setRow g (cur.toList.take (n * i.size) ++ news ++ cur.toList.drop (n * i.size + news.length)).toArray).heap[k]? = w.heap[k]? := fun k hk => by
          simp only [World.setRow, Array.getElem?_modify]
          rw [if_neg (by omega)]
        refine ⟨⟨X, ⟨X1, X2, ⟨⟨hlen, .inr ⟨g, cap, _, rfl, hbg, setRow_heap w g cur _ e _ hg, hroom, hcm, ?_, ?_⟩⟩, fun k => by rw [hblk k]; simp [Value.ownBlock]⟩, Own.loc k2 fun k hk => hold k (fun e => k3 g hb1 (e ▸ hk)), k3, k4⟩, ?_, g3⟩, ?_⟩
        · simp only [List.size_toArray, List.length_append, List.length_take, List.length_drop, Array.length_toList]
          omega
        · rw [htake, ← hlen]
          exact List.take_left
        · intro r hr'
          obtain ⟨Y, hY, hd⟩ := g2 r hr'
          exact ⟨Y, r.loc Y w _ hY fun k hk => hold k (fun e => hd k hk ((k4 k).2 (.inl (e ▸ hb1)))), hd⟩
        · refine g4.step (N := fun k => k = g) ⟨rfl, rfl, rfl, by simp [World.setRow], fun k _ hk => hold k hk⟩ ?_
          rintro k rfl
          exact g3 _ ((k4 _).2 (.inl hb1))
      · have holds : ∀ j u, xs[j]? = some u → w.cell? ((⟨g, 0, none⟩ : Addr).add j) = some u := hown.cells (g := g) rfl
        have hr := run_append_grow (P := P) w t ty e i z ht hi hz ⟨g, 0, none⟩ n cap xs hown.1 holds a0 m c news hl hnews (by omega) (by simp only [maxLen] at h63; omega) (growslice_fits (by omega) hbytes)
        have hge := grownCap_ge w (n + m) cap e
        refine ⟨_, _, hr, ?_⟩
        have := fresh (xs.toArray ++ news.toArray ++ Builtin.zeroCells z.cells (grownCap w (n + m) cap e - (n + m))) (grownCap w (n + m) cap e) hge (grownCap_le_maxLen w (n + m) cap e h63) (by
          simp only [Array.size_append, List.size_toArray, size_zeroCells, hzs, hown.1, hl, ← Nat.add_mul]
          congr 1
          omega) (by
          simp only [Array.toList_append, List.append_assoc]
          rw [← List.append_assoc, ← hlen]
          exact List.take_left)
        exact this
variable {ops : Array Oper} {Q : Exit → Act → World → Prop} {S : World → Prop} {n i d : Nat} {ty : TypeId} {pos : String} {af : Array Edge} {g : Option (Nat × Bool)} {l : Tr}
theorem RJ.append {s x : Operand} {t e : TypeId} {sz bytes n' m c : Nat} {v : Value} {xs news : List Value} {A : Option Addr} {F' : List As}
    (ho : ops[i]? = some (Oper.mk (some d) (.call ⟨.builtin .append, #[s, x], #[t, t]⟩) ty pos af g)) (hg : gd ops k g = some true) (hd : Nat.blt d nt.n = true) (ht : apB P t e sz bytes = true)
    (hs : ev k s = some v) (hx : ev k x = some (.slice A m c)) (H : St w0 w M R F) (hat : At F (row v e sz n' xs) F') (hsrc : Src w A m c news) (hl : news.length = m * sz) (h1 : ∀ u ∈ news, u.oneCell' = true) (h63 : n' + m ≤ maxLen) (hbytes : (n' + m) * bytes ≤ 140737488355328)
    (h : ∀ v' w', St w0 w' M R (row v' e sz (n' + m) (xs ++ news) :: F') → (i < n → S w') ∧ RJ P nt ops Q S n l ((d, v') :: k) w') : RJ P nt ops Q S n (.cons (i, false) l) k w := by
  obtain ⟨v', w', hr, H'⟩ := H.append (ty := ty) ht hat hsrc hl h1 h63 hbytes
  have := h v' w' H'
  refine RJ.act ho hg hd (fun a ha => ?_) this.1 this.2
  simp only [execOp, resolve, List.map_toArray, List.map_cons, List.map_nil, ha.ev hs, ha.ev hx, invoke, builtin, Sem.run_bind, Sem.run_pure, Result.andThen_ok, hr]
/-- a slice literal -/
theorem RJ.lit {t e : TypeId} {len : Nat} {ps : List (Nat × Operand)} {vs cells : List Value} (ho : ops[i]? = some (Oper.mk (some d) (.buildSlice t len ps.toArray) ty pos af g)) (hg : gd ops k g = some true) (hd : Nat.blt d nt.n = true)
    (hu : P.underlying t = some (.slice e)) (hvs : Evs k (ps.map (·.2)) vs) (hc : P.builtSlice e len ((ps.map (·.1)).zip vs) = some cells.toArray) (H : St w0 w M R F)
    (h : ∀ w' b, St w0 w' M R (blk b cells e :: F) → (i < n → S w') ∧ RJ P nt ops Q S n l ((d, .slice (some ⟨b, 0, none⟩) len len) :: k) w') : RJ P nt ops Q S n (.cons (i, false) l) k w :=
  RJ.new ho hg hd (v := fun b => .slice (some ⟨b, 0, none⟩) len len) (fun a ha w => by
    have key : ∀ (ps : List (Nat × Operand)) (vs : List Value), Evs k (ps.map (·.2)) vs → ps.map (fun x => (x.1, a.eval x.2)) = (ps.map (·.1)).zip vs := by
      intro ps
      induction ps with
      | nil => intro vs h; cases h; rfl
      | cons p ps ih =>
        intro vs h
        cases h with
        | cons h0 hr => simp [ha.ev h0, ih _ hr]
    have hp : (ps.toArray.map fun x => (x.1, a.eval x.2)) = ((ps.map (·.1)).zip vs).toArray := by
      rw [List.map_toArray, key ps vs hvs]
    unfold Program.builtSlice at hc
    cases hie : P.info? e with
    | none => simp [hie] at hc
    | some ie =>
      simp only [hie] at hc
      cases hz : ie.zero with
      | none => simp [hz] at hc
      | some z =>
        simp only [hz] at hc
        by_cases hcc : len * ie.size > 2 ^ 24 ∨ len * ie.size = 0
        · simp [hcc] at hc
        · rw [if_neg hcc] at hc
          have := run_buildSlice (P := P) w t e len ((ps.map (·.1)).zip vs).toArray cells.toArray ie z hu hie hz (fun h' => hcc (Or.inl h')) (fun h' => hcc (Or.inr h')) (by simpa using hc)
          simp only [execOp, hp, Sem.run_bind, this]; rfl) H h
/-- a new slice, all zero -/
theorem RJ.make {t e : TypeId} {x y : Operand} {ki kj : IntKind} {len cap : Nat} {zs : List Value} {inf : TypeInfo} {z : Value} (ho : ops[i]? = some (Oper.mk (some d) (.makeSlice t x y) ty pos af g)) (hg : gd ops k g = some true) (hd : Nat.blt d nt.n = true)
    (hu : P.underlying t = some (.slice e)) (hi : P.info? e = some inf) (hz : inf.zero = some z) (hx : ev k x = some (.int ki (len : Int))) (hy : ev k y = some (.int kj (cap : Int))) (hlc : len ≤ cap) (hb : inf.bytes * cap ≤ 281474976710656) (h63 : cap ≤ maxLen)
    (hzs : (madeCells z.cells (cap * inf.size)).toList = zs) (H : St w0 w M R F)
    (h : ∀ w' b, St w0 w' M R (blk b zs e :: F) → (i < n → S w') ∧ RJ P nt ops Q S n l ((d, .slice (some ⟨b, 0, none⟩) len cap) :: k) w') : RJ P nt ops Q S n (.cons (i, false) l) k w :=
  RJ.new ho hg hd (v := fun b => .slice (some ⟨b, 0, none⟩) len cap) (fun a ha w => by
    have hb' : (inf.bytes : Int) * (cap : Int) ≤ 281474976710656 := by
      have h : ((inf.bytes * cap : Nat) : Int) ≤ 281474976710656 := by omega
      rwa [Int.natCast_mul] at h
    have := run_make (P := P) w t e inf z hu hi hz ki kj (len : Int) (cap : Int) (by omega) (by omega) hb' (by simp only [maxLen] at h63; omega)
    simp only [Int.toNat_natCast] at this
    subst hzs
    simp only [execOp, ha.ev hx, ha.ev hy, Sem.run_bind, this]; rfl) H h
end
end Go.Proofs.YtmbibkifbehgnaaGreatDoor.Sk
namespace Go.Proofs.YtmbibkifbehgnaaGreatDoor
open Go Sk
set_option linter.unusedVariables false
set_option linter.unusedSimpArgs false
theorem mo : Tryz.prog.follows .mixedOrders = true := by kernel_rfl
abbrev i64 (x : Int) : Value := .int .i64 x
abbrev w64 (x : Int) : Int := IntKind.i64.wrap x
abbrev ptr (b : Nat) : Value := .pointer (some ⟨b, 0, none⟩)
theorem w64_of {x : Int} (h : -9223372036854775808 ≤ x ∧ x ≤ 9223372036854775807) : w64 x = x := by
  show IntKind.i64.wrap x = x
  rw [IntKind.wrap_i64]; omega
theorem fa_38_0 (b o : Nat) (w : World) : (Instr.fieldAt 38 (.pointer (some ⟨b, o, none⟩)) 0).run Tryz.prog w = .ok (.pointer (some ⟨b, o + 0, none⟩)) w := by kernel_rfl
theorem fa_38_1 (b o : Nat) (w : World) : (Instr.fieldAt 38 (.pointer (some ⟨b, o, none⟩)) 1).run Tryz.prog w = .ok (.pointer (some ⟨b, o + 1, none⟩)) w := by kernel_rfl
theorem fa_183_0 (b o : Nat) (w : World) : (Instr.fieldAt 183 (.pointer (some ⟨b, o, none⟩)) 0).run Tryz.prog w = .ok (.pointer (some ⟨b, o + 0, none⟩)) w := by kernel_rfl
theorem fa_183_1 (b o : Nat) (w : World) : (Instr.fieldAt 183 (.pointer (some ⟨b, o, none⟩)) 1).run Tryz.prog w = .ok (.pointer (some ⟨b, o + 1, none⟩)) w := by kernel_rfl
theorem fa_183_2 (b o : Nat) (w : World) : (Instr.fieldAt 183 (.pointer (some ⟨b, o, none⟩)) 2).run Tryz.prog w = .ok (.pointer (some ⟨b, o + 2, none⟩)) w := by kernel_rfl
theorem en86 : Enters Tryz.prog 86 := fun args w => by kernel_rfl
theorem en97 : Enters Tryz.prog 97 := fun args w => by kernel_rfl
theorem ag_38  : aggB Tryz.prog 38 2 = true := by kernel_rfl
theorem el_27  : elB Tryz.prog 27 1 = true := by kernel_rfl
theorem ob_27  : oneB Tryz.prog 27 = true := by kernel_rfl
theorem ob_3  : oneB Tryz.prog 3 = true := by kernel_rfl
/-! ### within, Number -/
def withinB (n a b : Int) : Bool := decide (a ≤ n) && decide (n ≤ b)
theorem within_spec (n a b : Int) : Sk.Spec Tryz.prog 97 #[i64 n, i64 a, i64 b] [] [] fun e F' => e = .returned (.bool (withinB n a b)) ∧ F' = [] := by
  refine Spec.of_code (vs := [_, _, _]) (k0 := [(0, _), (1, _), (2, _)]) 15 Tryz.func97 rfl Tryz.ntmps97 rfl (.cons (.cons (.cons .nil))) fun w X RR hRR H => ?_
  refine .seq ?_
  refine .plain rfl ?_
  refine .q rfl rfl rfl (val_assign rfl) ?_
  refine .nil (cj ?_)
  refine .seq ?_
  refine .plain rfl ?_
  refine .q rfl rfl rfl (val_move rfl) ?_
  refine .q rfl rfl rfl (val_move rfl) ?_
  refine .q rfl rfl rfl (val_geq rfl rfl rfl) ?_
  refine .q rfl rfl rfl (val_move rfl) ?_
  refine .case (t := 10) rfl (fun hs10 => ?_) (fun hs10 => ?_)
  · refine .q rfl rfl rfl (val_move rfl) ?_
    refine .q rfl rfl rfl (val_move rfl) ?_
    refine .q rfl rfl rfl (val_leq rfl rfl rfl) ?_
    refine .q rfl rfl rfl (val_pick_t rfl rfl) ?_
    refine .q rfl rfl rfl (val_assign rfl) ?_
    refine .nil (cj ?_)
    refine .ret (fret (res1 rfl rfl) ?_)
    refine hRR _ _ ⟨_, ⟨?_, rfl⟩, H.sub .nil⟩
    simp [withinB, *]
  · refine .no rfl rfl rfl ?_
    refine .no rfl rfl rfl ?_
    refine .no rfl rfl rfl ?_
    refine .q rfl rfl rfl (val_pick_f rfl rfl) ?_
    refine .q rfl rfl rfl (val_assign rfl) ?_
    refine .nil (cj ?_)
    refine .ret (fret (res1 rfl rfl) ?_)
    refine hRR _ _ ⟨_, ⟨?_, rfl⟩, H.sub .nil⟩
    simp [withinB, *]
structure Gd where
  w : Int
  h : Int
  kinds : List Int
structure Gd.Ok (g : Gd) : Prop where
  w1 : 1 ≤ g.w
  w2 : g.w ≤ 16
  h1 : 1 ≤ g.h
  h2 : g.h ≤ 16
  len : (g.kinds.length : Int) = g.w * g.h
def numB (g : Gd) (x y : Int) : Int := if withinB x 0 (w64 (g.w - 1)) && withinB y 0 (w64 (g.h - 1)) then w64 (w64 (y * g.w) + x) else -1
theorem mul_lt {a b c d : Int} (h0 : 0 ≤ a) (h1 : a < b) (h2 : 0 ≤ c) (h3 : c < d) : 0 ≤ c * b + a ∧ c * b + a < b * d := by
  have e1 : 0 ≤ c * b := Int.mul_nonneg h2 (by omega)
  have e2 : (c + 1) * b ≤ d * b := Int.mul_le_mul_of_nonneg_right (by omega) (by omega)
  rw [Int.add_mul, Int.one_mul] at e2
  rw [Int.mul_comm b d]
  omega
theorem Gd.Ok.area {g : Gd} (h : g.Ok) : g.w * g.h ≤ 256 := by
  have := Int.mul_le_mul h.w2 h.h2 (by have := h.h1; omega) (by omega)
  simpa using this
theorem numB_in {g : Gd} (h : g.Ok) {x y : Int} (hx : 0 ≤ x ∧ x < g.w) (hy : 0 ≤ y ∧ y < g.h) : numB g x y = y * g.w + x ∧ 0 ≤ y * g.w + x ∧ y * g.w + x < g.kinds.length := by
  have ha := h.area
  have := mul_lt hx.1 hx.2 hy.1 hy.2
  have e0 : 0 ≤ y * g.w := Int.mul_nonneg hy.1 (by omega)
  have e1 : w64 (g.w - 1) = g.w - 1 := w64_of (by have := h.w1; have := h.w2; omega)
  have e2 : w64 (g.h - 1) = g.h - 1 := w64_of (by have := h.h1; have := h.h2; omega)
  have e3 : w64 (y * g.w) = y * g.w := w64_of (by omega)
  have e4 : w64 (y * g.w + x) = y * g.w + x := w64_of (by omega)
  refine ⟨?_, this.1, by rw [h.len]; exact this.2⟩
  unfold numB withinB
  rw [e1, e2, e3, e4]
  simp; omega
theorem numB_out {g : Gd} (h : g.Ok) {x y : Int} (ho : ¬ ((0 ≤ x ∧ x < g.w) ∧ (0 ≤ y ∧ y < g.h))) : numB g x y = -1 := by
  have e1 : w64 (g.w - 1) = g.w - 1 := w64_of (by have := h.w1; have := h.w2; omega)
  have e2 : w64 (g.h - 1) = g.h - 1 := w64_of (by have := h.h1; have := h.h2; omega)
  unfold numB withinB
  rw [e1, e2, if_neg]
  simp; omega
theorem numB_cases {g : Gd} (h : g.Ok) (x y : Int) : (numB g x y = -1 ∧ ¬ ((0 ≤ x ∧ x < g.w) ∧ (0 ≤ y ∧ y < g.h))) ∨ ∃ i : Nat, numB g x y = (i : Int) ∧ i < g.kinds.length ∧ (i : Int) = y * g.w + x ∧ (0 ≤ x ∧ x < g.w) ∧ (0 ≤ y ∧ y < g.h) := by
  by_cases hc : (0 ≤ x ∧ x < g.w) ∧ (0 ≤ y ∧ y < g.h)
  · obtain ⟨h1, h2, h3⟩ := numB_in h hc.1 hc.2
    exact .inr ⟨(y * g.w + x).toNat, by rw [h1]; omega, by omega, by omega, hc⟩
  · exact .inl ⟨numB_out h hc, hc⟩
abbrev gblk (bg : Nat) (A : Option Addr) (cap : Nat) (g : Gd) : As := blk bg [i64 g.w, i64 g.h, .slice A g.kinds.length cap] 183
abbrev garr (A : Option Addr) (g : Gd) : As := arr A (g.kinds.map (Value.int .i64))
theorem number_spec (bg : Nat) (v : Value) (g : Gd) (x y : Int) : Sk.Spec Tryz.prog 86 #[ptr bg, .agg #[i64 x, i64 y]] [blk bg [i64 g.w, i64 g.h, v] 183] [] fun e F' => e = .returned (i64 (numB g x y)) ∧ F' = [] := by
  refine Spec.of_code (vs := [_, _]) (k0 := [(0, _), (1, _)]) 39 Tryz.func86 rfl Tryz.ntmps86 rfl (.cons (.cons .nil)) fun w X RR hRR H => ?_
  refine .seq ?_
  refine .plain rfl ?_
  refine .box rfl rfl rfl rfl rfl H (fun w1 b1 H1 => ⟨fun _ => trivial, ?_⟩)
  refine .q rfl rfl rfl (val_assign rfl) ?_
  refine .nil (cj ?_)
  refine .seq ?_
  refine .seq ?_
  refine .drawS 24 (.cons (0, true) (.cons (1, true) (.cons (2, true) (.cons (3, true) (.cons (4, true) (.cons (5, true) (.cons (6, true) (.cons (7, true) (.cons (8, true) (.cons (9, true) (.cons (10, false) (.cons (11, true) (.cons (12, true) (.cons (13, true) (.cons (14, true) (.cons (15, true) (.cons (16, true) (.cons (17, true) (.cons (18, true) (.cons (19, true) (.cons (20, true) (.cons (21, false) (.cons (22, true) (.cons (23, true) .nil)))))))))))))))))))))))) mo (by kernel_rfl) H1 (fun _ _ _ _ _ h => h) (fun w2 H2 => ?_)
  refine .p rfl rfl rfl (val_move rfl) ?_
  refine .p rfl rfl rfl (val_ptr_eq_nil Tryz.underlying84 rfl rfl rfl) ?_
  refine .p rfl rfl rfl (val_move rfl) ?_
  refine .p rfl rfl rfl (val_fieldAddr rfl fa_38_0) ?_
  refine .ps rfl rfl rfl rfl (ld_b rfl ob_3 (.own .here) rfl) ?_
  refine .p rfl rfl rfl (val_move rfl) ?_
  refine .p rfl rfl rfl (val_nilCheck rfl) ?_
  refine .p rfl rfl rfl (val_fieldAddr rfl fa_183_0) ?_
  refine .ps rfl rfl rfl rfl (ld_b rfl ob_3 (.ro .here) rfl) ?_
  refine .p rfl rfl rfl (val_sub rfl rfl rfl) ?_
  refine .call1 rfl rfl rfl en97 (.cons rfl (.cons rfl (.cons rfl .nil))) (within_spec _ _ _) H2 .nil .nil (fun w3 H3 => ⟨fun _ => H3, ?_⟩)
  refine .p rfl rfl rfl (val_not rfl rfl) ?_
  refine .p rfl rfl rfl (val_pick_f rfl rfl) ?_
  refine .p rfl rfl rfl (val_move rfl) ?_
  refine .case (t := 18) rfl (fun hs18 => ?_) (fun hs18 => ?_)
  · refine .no rfl rfl rfl ?_
    refine .no rfl rfl rfl ?_
    refine .no rfl rfl rfl ?_
    refine .no rfl rfl rfl ?_
    refine .no rfl rfl rfl ?_
    refine .no rfl rfl rfl ?_
    refine .no rfl rfl rfl ?_
    refine .no rfl rfl rfl ?_
    refine .no rfl rfl rfl ?_
    refine .p rfl rfl rfl (val_pick_t rfl rfl) ?_
    refine .nil (cj ?_)
    refine .cond_t rfl ?_
    refine .seq ?_
    refine .plain rfl ?_
    refine .q rfl rfl rfl (val_assign rfl) ?_
    refine .nil (cj ?_)
    refine .ret (fret (res1 rfl rfl) ?_)
    refine hRR _ _ ⟨_, ⟨?_, rfl⟩, H3.sub .nil⟩
    simp_all [numB]
  · refine .p rfl rfl rfl (val_fieldAddr rfl fa_38_1) ?_
    refine .ps rfl rfl rfl rfl (ld_b rfl ob_3 (.own .here) rfl) ?_
    refine .p rfl rfl rfl (val_move rfl) ?_
    refine .p rfl rfl rfl (val_nilCheck rfl) ?_
    refine .p rfl rfl rfl (val_fieldAddr rfl fa_183_1) ?_
    refine .ps rfl rfl rfl rfl (ld_b rfl ob_3 (.ro .here) rfl) ?_
    refine .p rfl rfl rfl (val_sub rfl rfl rfl) ?_
    refine .call1 rfl rfl rfl en97 (.cons rfl (.cons rfl (.cons rfl .nil))) (within_spec _ _ _) H3 .nil .nil (fun w4 H4 => ⟨fun _ => H4, ?_⟩)
    refine .p rfl rfl rfl (val_not rfl rfl) ?_
    refine .p rfl rfl rfl (val_pick_f rfl rfl) ?_
    refine .nil (cj ?_)
    refine .cond rfl (fun hc0 => ?_) (fun hc0 => ?_)
    · refine .seq ?_
      refine .plain rfl ?_
      refine .q rfl rfl rfl (val_assign rfl) ?_
      refine .nil (cj ?_)
      refine .ret (fret (res1 rfl rfl) ?_)
      refine hRR _ _ ⟨_, ⟨?_, rfl⟩, H4.sub .nil⟩
      simp_all [numB]
    · refine .skip (cj ?_)
      refine .seq ?_
      refine .drawS 11 (.cons (0, true) (.cons (1, true) (.cons (2, true) (.cons (3, true) (.cons (4, true) (.cons (5, true) (.cons (6, true) (.cons (7, true) (.cons (8, true) (.cons (9, true) (.cons (10, true) .nil))))))))))) mo (by kernel_rfl) H4 (fun _ _ _ _ _ h => h) (fun w5 H5 => ?_)
      refine .p rfl rfl rfl (val_fieldAddr rfl fa_38_1) ?_
      refine .ps rfl rfl rfl rfl (ld_b rfl ob_3 (.own .here) rfl) ?_
      refine .p rfl rfl rfl (val_move rfl) ?_
      refine .p rfl rfl rfl (val_nilCheck rfl) ?_
      refine .p rfl rfl rfl (val_fieldAddr rfl fa_183_0) ?_
      refine .ps rfl rfl rfl rfl (ld_b rfl ob_3 (.ro .here) rfl) ?_
      refine .p rfl rfl rfl (val_mul rfl rfl rfl) ?_
      refine .p rfl rfl rfl (val_fieldAddr rfl fa_38_0) ?_
      refine .ps rfl rfl rfl rfl (ld_b rfl ob_3 (.own .here) rfl) ?_
      refine .p rfl rfl rfl (val_add rfl rfl rfl) ?_
      refine .p rfl rfl rfl (val_assign rfl) ?_
      refine .nil (cj ?_)
      refine .ret (fret (res1 rfl rfl) ?_)
      refine hRR _ _ ⟨_, ⟨?_, rfl⟩, H5.sub .nil⟩
      simp_all [numB]
/-! ### a cell's kind -/
/-- the kind of a cell; -1 (blocked) outside -/
def kindB (g : Gd) (x y : Int) : Int := if numB g x y < 0 then -1 else g.kinds.getD (numB g x y).toNat 0
def openB (g : Gd) (x y : Int) : Bool := decide (0 ≤ numB g x y) && (kindB g x y != -1)
theorem kind_get {g : Gd} {x y : Int} {i : Nat} (h : numB g x y = (i : Int)) (hi : i < g.kinds.length) : g.kinds[i]? = some (kindB g x y) := by
  unfold kindB
  rw [h, if_neg (by omega)]
  simp [hi]
theorem garr_base {R F : List As} {A : Option Addr} {g : Gd} {w0 w : World} {M : Nat → Prop} (hf : Has R F (garr A g)) (H : St w0 w M R F) (hne : 0 < g.kinds.length) : ∃ b o, A = some ⟨b, o, none⟩ :=
  hf.base H (by intro h; have := congrArg List.length h; simp at this; simp [this] at hne)
theorem open_spec (bg : Nat) (A : Option Addr) (cap : Nat) (g : Gd) (hg : g.Ok) (x y : Int) : Sk.Spec Tryz.prog 141 #[ptr bg, .agg #[i64 x, i64 y]] [gblk bg A cap g, garr A g] [] fun e F' => e = .returned (.bool (openB g x y)) ∧ F' = [] := by
  refine Spec.of_code (vs := [_, _]) (k0 := [(0, _), (1, _)]) 21 Tryz.func141 rfl Tryz.ntmps141 rfl (.cons (.cons .nil)) fun w X RR hRR H => ?_
  rcases numB_cases hg x y with ⟨h0, _⟩ | ⟨i, hi, hil, _⟩
  · skip
    refine .seq ?_
    refine .plain rfl ?_
    refine .box rfl rfl rfl rfl rfl H (fun w1 b1 H1 => ⟨fun _ => trivial, ?_⟩)
    refine .q rfl rfl rfl (val_assign rfl) ?_
    refine .nil (cj ?_)
    refine .seq ?_
    refine .plain rfl ?_
    refine .q rfl rfl rfl (val_move rfl) ?_
    refine .qs rfl rfl rfl H1 (ld_w rfl ag_38 (.own .here) rfl) ?_
    refine .call1 rfl rfl rfl en86 (.cons rfl (.cons rfl .nil)) (number_spec _ _ _ _ _) H1 .nil (.ro .here .nil) (fun w2 H2 => ⟨fun _ => trivial, ?_⟩)
    refine .q rfl rfl rfl (val_assign rfl) ?_
    refine .nil (cj ?_)
    refine .seq ?_
    refine .plain rfl ?_
    refine .q rfl rfl rfl (val_move rfl) ?_
    refine .q rfl rfl rfl (val_geq rfl rfl rfl) ?_
    refine .q rfl rfl rfl (val_move rfl) ?_
    refine .case (t := 11) rfl (fun hs11 => ?_) (fun hs11 => ?_)
    · simp [h0] at hs11
    · refine .no rfl rfl rfl ?_
      refine .no rfl rfl rfl ?_
      refine .no rfl rfl rfl ?_
      refine .no rfl rfl rfl ?_
      refine .no rfl rfl rfl ?_
      refine .no rfl rfl rfl ?_
      refine .no rfl rfl rfl ?_
      refine .no rfl rfl rfl ?_
      refine .q rfl rfl rfl (val_pick_f rfl rfl) ?_
      refine .q rfl rfl rfl (val_assign rfl) ?_
      refine .nil (cj ?_)
      refine .ret (fret (res1 rfl rfl) ?_)
      refine hRR _ _ ⟨_, ⟨?_, rfl⟩, H2.sub .nil⟩
      simp_all [openB]
  · have hk := kind_get hi hil
    obtain ⟨b, o, rfl⟩ := garr_base (.ro (.there .here)) H (by omega)
    refine .seq ?_
    refine .plain rfl ?_
    refine .box rfl rfl rfl rfl rfl H (fun w1 b1 H1 => ⟨fun _ => trivial, ?_⟩)
    refine .q rfl rfl rfl (val_assign rfl) ?_
    refine .nil (cj ?_)
    refine .seq ?_
    refine .plain rfl ?_
    refine .q rfl rfl rfl (val_move rfl) ?_
    refine .qs rfl rfl rfl H1 (ld_w rfl ag_38 (.own .here) rfl) ?_
    refine .call1 rfl rfl rfl en86 (.cons rfl (.cons rfl .nil)) (number_spec _ _ _ _ _) H1 .nil (.ro .here .nil) (fun w2 H2 => ⟨fun _ => trivial, ?_⟩)
    refine .q rfl rfl rfl (val_assign rfl) ?_
    refine .nil (cj ?_)
    refine .seq ?_
    refine .plain rfl ?_
    refine .q rfl rfl rfl (val_move rfl) ?_
    refine .q rfl rfl rfl (val_geq rfl rfl rfl) ?_
    refine .q rfl rfl rfl (val_move rfl) ?_
    refine .case (t := 11) rfl (fun hs11 => ?_) (fun hs11 => ?_)
    · refine .q rfl rfl rfl (val_move rfl) ?_
      refine .q rfl rfl rfl (val_nilCheck rfl) ?_
      refine .q rfl rfl rfl (val_fieldAddr rfl fa_183_2) ?_
      refine .qs rfl rfl rfl H2 (ld_b rfl ob_27 (.ro .here) rfl) ?_
      refine .q rfl rfl rfl (val_move rfl) ?_
      refine .q rfl rfl rfl (val_ix el_27 rfl rfl rfl hi hil) ?_
      refine .qs rfl rfl rfl H2 (ld_int rfl ob_3 .base rfl (.ro (.there .here)) (by first | assumption | rfl)) ?_
      refine .q rfl rfl rfl (val_neq rfl rfl rfl) ?_
      refine .q rfl rfl rfl (val_pick_t rfl rfl) ?_
      refine .q rfl rfl rfl (val_assign rfl) ?_
      refine .nil (cj ?_)
      refine .ret (fret (res1 rfl rfl) ?_)
      refine hRR _ _ ⟨_, ⟨?_, rfl⟩, H2.sub .nil⟩
      simp_all [openB]
    · rw [hi] at hs11; simp at hs11
end Go.Proofs.YtmbibkifbehgnaaGreatDoor
namespace Go.Proofs.YtmbibkifbehgnaaGreatDoor
open Go Sk
set_option linter.unusedVariables false
set_option linter.unusedSimpArgs false
theorem fa_40_0 (b o : Nat) (w : World) : (Instr.fieldAt 40 (.pointer (some ⟨b, o, none⟩)) 0).run Tryz.prog w = .ok (.pointer (some ⟨b, o + 0, none⟩)) w := by kernel_rfl
theorem fa_40_1 (b o : Nat) (w : World) : (Instr.fieldAt 40 (.pointer (some ⟨b, o, none⟩)) 1).run Tryz.prog w = .ok (.pointer (some ⟨b, o + 2, none⟩)) w := by kernel_rfl
theorem en120 : Enters Tryz.prog 120 := fun args w => by kernel_rfl
theorem en141 : Enters Tryz.prog 141 := fun args w => by kernel_rfl
theorem ag_40  : aggB Tryz.prog 40 3 = true := by kernel_rfl
theorem ar_214  : arB Tryz.prog 214 4 2 = true := by kernel_rfl
theorem bs_38_2_0_1 (x0_0_ : Int) (x0_1_ : Int) (x1_0_ : Int) (x1_1_ : Int) : Tryz.prog.builtSlice 38 2 [(0, .agg (List.toArray [.int .i64 x0_0_, .int .i64 x0_1_])), (1, .agg (List.toArray [.int .i64 x1_0_, .int .i64 x1_1_]))] = some (List.toArray [.int .i64 x0_0_, .int .i64 x0_1_, .int .i64 x1_0_, .int .i64 x1_1_]) := by kernel_rfl
theorem el_22  : elB Tryz.prog 22 2 = true := by kernel_rfl
theorem mk_38_0_1 (x0_ : Int) (x1_ : Int) : Tryz.prog.built 38 [(0, .int .i64 x0_), (1, .int .i64 x1_)] = some (List.toArray [.int .i64 x0_, .int .i64 x1_]) := by kernel_rfl
theorem ob_4  : oneB Tryz.prog 4 = true := by kernel_rfl
theorem sz_38  : (Tryz.prog.info? 38).map (·.size) = some 2 := by kernel_rfl
theorem ze_38  : (Tryz.prog.info? 38).bind (·.zero) = some (.agg (List.toArray [.int .i64 0, .int .i64 0])) := by kernel_rfl
def portB (g : Gd) (x y : Int) : Int := if kindB g x y < 1 then -1 else kindB g x y - 1
/-- kinds are -2 .. -/
structure Gd.Kinds (g : Gd) : Prop where
  all : ∀ (i : Nat) (k : Int), g.kinds[i]? = some k → -2 ≤ k ∧ k ≤ 8
theorem port_spec (bg : Nat) (A : Option Addr) (cap : Nat) (g : Gd) (hg : g.Ok) (hk : g.Kinds) (x y : Int) : Sk.Spec Tryz.prog 91 #[ptr bg, .agg #[i64 x, i64 y]] [gblk bg A cap g, garr A g] [] fun e F' => e = .returned (i64 (portB g x y)) ∧ F' = [] := by
  refine Spec.of_code (vs := [_, _]) (k0 := [(0, _), (1, _)]) 29 Tryz.func91 rfl Tryz.ntmps91 rfl (.cons (.cons .nil)) fun w X RR hRR H => ?_
  rcases numB_cases hg x y with ⟨h0, _⟩ | ⟨i, hi, hil, _⟩
  · have hk0 : kindB g x y = -1 := by simp [kindB, h0]
    refine .seq ?_
    refine .plain rfl ?_
    refine .box rfl rfl rfl rfl rfl H (fun w1 b1 H1 => ⟨fun _ => trivial, ?_⟩)
    refine .q rfl rfl rfl (val_assign rfl) ?_
    refine .nil (cj ?_)
    refine .seq ?_
    refine .plain rfl ?_
    refine .q rfl rfl rfl (val_move rfl) ?_
    refine .qs rfl rfl rfl H1 (ld_w rfl ag_38 (.own .here) rfl) ?_
    refine .call1 rfl rfl rfl en86 (.cons rfl (.cons rfl .nil)) (number_spec _ _ _ _ _) H1 .nil (.ro .here .nil) (fun w2 H2 => ⟨fun _ => trivial, ?_⟩)
    refine .q rfl rfl rfl (val_assign rfl) ?_
    refine .nil (cj ?_)
    refine .seq ?_
    refine .seq ?_
    refine .plain rfl ?_
    refine .q rfl rfl rfl (val_move rfl) ?_
    refine .q rfl rfl rfl (val_lss rfl rfl rfl) ?_
    refine .q rfl rfl rfl (val_move rfl) ?_
    refine .case (t := 11) rfl (fun hs11 => ?_) (fun hs11 => ?_)
    · refine .no rfl rfl rfl ?_
      refine .no rfl rfl rfl ?_
      refine .no rfl rfl rfl ?_
      refine .no rfl rfl rfl ?_
      refine .no rfl rfl rfl ?_
      refine .no rfl rfl rfl ?_
      refine .no rfl rfl rfl ?_
      refine .no rfl rfl rfl ?_
      refine .q rfl rfl rfl (val_pick_t rfl rfl) ?_
      refine .nil (cj ?_)
      refine .cond_t rfl ?_
      refine .seq ?_
      refine .plain rfl ?_
      refine .q rfl rfl rfl (val_assign rfl) ?_
      refine .nil (cj ?_)
      refine .ret (fret (res1 rfl rfl) ?_)
      refine hRR _ _ ⟨_, ⟨?_, rfl⟩, H2.sub .nil⟩
      simp_all [portB]
    · simp [h0] at hs11
  · have hk' := kind_get hi hil
    have hb := hk.all _ _ hk'
    obtain ⟨b, o, rfl⟩ := garr_base (.ro (.there .here)) H (by omega)
    refine .seq ?_
    refine .plain rfl ?_
    refine .box rfl rfl rfl rfl rfl H (fun w1 b1 H1 => ⟨fun _ => trivial, ?_⟩)
    refine .q rfl rfl rfl (val_assign rfl) ?_
    refine .nil (cj ?_)
    refine .seq ?_
    refine .plain rfl ?_
    refine .q rfl rfl rfl (val_move rfl) ?_
    refine .qs rfl rfl rfl H1 (ld_w rfl ag_38 (.own .here) rfl) ?_
    refine .call1 rfl rfl rfl en86 (.cons rfl (.cons rfl .nil)) (number_spec _ _ _ _ _) H1 .nil (.ro .here .nil) (fun w2 H2 => ⟨fun _ => trivial, ?_⟩)
    refine .q rfl rfl rfl (val_assign rfl) ?_
    refine .nil (cj ?_)
    refine .seq ?_
    refine .seq ?_
    refine .plain rfl ?_
    refine .q rfl rfl rfl (val_move rfl) ?_
    refine .q rfl rfl rfl (val_lss rfl rfl rfl) ?_
    refine .q rfl rfl rfl (val_move rfl) ?_
    refine .case (t := 11) rfl (fun hs11 => ?_) (fun hs11 => ?_)
    · exfalso; simp [hi] at hs11 <;> omega
    · refine .q rfl rfl rfl (val_move rfl) ?_
      refine .q rfl rfl rfl (val_nilCheck rfl) ?_
      refine .q rfl rfl rfl (val_fieldAddr rfl fa_183_2) ?_
      refine .qs rfl rfl rfl H2 (ld_b rfl ob_27 (.ro .here) rfl) ?_
      refine .q rfl rfl rfl (val_move rfl) ?_
      refine .q rfl rfl rfl (val_ix el_27 rfl rfl rfl hi hil) ?_
      refine .qs rfl rfl rfl H2 (ld_int rfl ob_3 .base rfl (.ro (.there .here)) (by first | assumption | rfl)) ?_
      refine .q rfl rfl rfl (val_lss rfl rfl rfl) ?_
      refine .q rfl rfl rfl (val_pick_f rfl rfl) ?_
      refine .nil (cj ?_)
      refine .cond rfl (fun hc0 => ?_) (fun hc0 => ?_)
      · refine .seq ?_
        refine .plain rfl ?_
        refine .q rfl rfl rfl (val_assign rfl) ?_
        refine .nil (cj ?_)
        refine .ret (fret (res1 rfl rfl) ?_)
        refine hRR _ _ ⟨_, ⟨?_, rfl⟩, H2.sub .nil⟩
        simp_all [portB] <;> omega
      · refine .skip (cj ?_)
        refine .seq ?_
        refine .plain rfl ?_
        refine .q rfl rfl rfl (val_move rfl) ?_
        refine .q rfl rfl rfl (val_nilCheck rfl) ?_
        refine .q rfl rfl rfl (val_fieldAddr rfl fa_183_2) ?_
        refine .qs rfl rfl rfl H2 (ld_b rfl ob_27 (.ro .here) rfl) ?_
        refine .q rfl rfl rfl (val_move rfl) ?_
        refine .q rfl rfl rfl (val_ix el_27 rfl rfl rfl hi hil) ?_
        refine .qs rfl rfl rfl H2 (ld_int rfl ob_3 .base rfl (.ro (.there .here)) (by first | assumption | rfl)) ?_
        refine .q rfl rfl rfl (val_sub rfl rfl (w64_of (by omega))) ?_
        refine .q rfl rfl rfl (val_assign rfl) ?_
        refine .nil (cj ?_)
        refine .ret (fret (res1 rfl rfl) ?_)
        refine hRR _ _ ⟨_, ⟨?_, rfl⟩, H2.sub .nil⟩
        simp_all [portB] <;> omega
def stackedB (g : Gd) (x y : Int) : Bool := decide (0 ≤ numB g x y) && (kindB g x y == 0)
theorem stacked_spec (bg : Nat) (A : Option Addr) (cap : Nat) (g : Gd) (hg : g.Ok) (x y : Int) : Sk.Spec Tryz.prog 112 #[ptr bg, .agg #[i64 x, i64 y]] [gblk bg A cap g, garr A g] [] fun e F' => e = .returned (.bool (stackedB g x y)) ∧ F' = [] := by
  refine Spec.of_code (vs := [_, _]) (k0 := [(0, _), (1, _)]) 21 Tryz.func112 rfl Tryz.ntmps112 rfl (.cons (.cons .nil)) fun w X RR hRR H => ?_
  rcases numB_cases hg x y with ⟨h0, _⟩ | ⟨i, hi, hil, _⟩
  · skip
    refine .seq ?_
    refine .plain rfl ?_
    refine .box rfl rfl rfl rfl rfl H (fun w1 b1 H1 => ⟨fun _ => trivial, ?_⟩)
    refine .q rfl rfl rfl (val_assign rfl) ?_
    refine .nil (cj ?_)
    refine .seq ?_
    refine .plain rfl ?_
    refine .q rfl rfl rfl (val_move rfl) ?_
    refine .qs rfl rfl rfl H1 (ld_w rfl ag_38 (.own .here) rfl) ?_
    refine .call1 rfl rfl rfl en86 (.cons rfl (.cons rfl .nil)) (number_spec _ _ _ _ _) H1 .nil (.ro .here .nil) (fun w2 H2 => ⟨fun _ => trivial, ?_⟩)
    refine .q rfl rfl rfl (val_assign rfl) ?_
    refine .nil (cj ?_)
    refine .seq ?_
    refine .plain rfl ?_
    refine .q rfl rfl rfl (val_move rfl) ?_
    refine .q rfl rfl rfl (val_geq rfl rfl rfl) ?_
    refine .q rfl rfl rfl (val_move rfl) ?_
    refine .case (t := 11) rfl (fun hs11 => ?_) (fun hs11 => ?_)
    · simp [h0] at hs11
    · refine .no rfl rfl rfl ?_
      refine .no rfl rfl rfl ?_
      refine .no rfl rfl rfl ?_
      refine .no rfl rfl rfl ?_
      refine .no rfl rfl rfl ?_
      refine .no rfl rfl rfl ?_
      refine .no rfl rfl rfl ?_
      refine .no rfl rfl rfl ?_
      refine .q rfl rfl rfl (val_pick_f rfl rfl) ?_
      refine .q rfl rfl rfl (val_assign rfl) ?_
      refine .nil (cj ?_)
      refine .ret (fret (res1 rfl rfl) ?_)
      refine hRR _ _ ⟨_, ⟨?_, rfl⟩, H2.sub .nil⟩
      simp_all [stackedB]
  · have hk := kind_get hi hil
    obtain ⟨b, o, rfl⟩ := garr_base (.ro (.there .here)) H (by omega)
    refine .seq ?_
    refine .plain rfl ?_
    refine .box rfl rfl rfl rfl rfl H (fun w1 b1 H1 => ⟨fun _ => trivial, ?_⟩)
    refine .q rfl rfl rfl (val_assign rfl) ?_
    refine .nil (cj ?_)
    refine .seq ?_
    refine .plain rfl ?_
    refine .q rfl rfl rfl (val_move rfl) ?_
    refine .qs rfl rfl rfl H1 (ld_w rfl ag_38 (.own .here) rfl) ?_
    refine .call1 rfl rfl rfl en86 (.cons rfl (.cons rfl .nil)) (number_spec _ _ _ _ _) H1 .nil (.ro .here .nil) (fun w2 H2 => ⟨fun _ => trivial, ?_⟩)
    refine .q rfl rfl rfl (val_assign rfl) ?_
    refine .nil (cj ?_)
    refine .seq ?_
    refine .plain rfl ?_
    refine .q rfl rfl rfl (val_move rfl) ?_
    refine .q rfl rfl rfl (val_geq rfl rfl rfl) ?_
    refine .q rfl rfl rfl (val_move rfl) ?_
    refine .case (t := 11) rfl (fun hs11 => ?_) (fun hs11 => ?_)
    · refine .q rfl rfl rfl (val_move rfl) ?_
      refine .q rfl rfl rfl (val_nilCheck rfl) ?_
      refine .q rfl rfl rfl (val_fieldAddr rfl fa_183_2) ?_
      refine .qs rfl rfl rfl H2 (ld_b rfl ob_27 (.ro .here) rfl) ?_
      refine .q rfl rfl rfl (val_move rfl) ?_
      refine .q rfl rfl rfl (val_ix el_27 rfl rfl rfl hi hil) ?_
      refine .qs rfl rfl rfl H2 (ld_int rfl ob_3 .base rfl (.ro (.there .here)) (by first | assumption | rfl)) ?_
      refine .q rfl rfl rfl (val_eql rfl rfl rfl) ?_
      refine .q rfl rfl rfl (val_pick_t rfl rfl) ?_
      refine .q rfl rfl rfl (val_assign rfl) ?_
      refine .nil (cj ?_)
      refine .ret (fret (res1 rfl rfl) ?_)
      refine hRR _ _ ⟨_, ⟨?_, rfl⟩, H2.sub .nil⟩
      simp_all [stackedB]
    · rw [hi] at hs11; simp at hs11
/-! ### poses -/
structure Cl where
  x : Int
  y : Int
deriving DecidableEq
abbrev encC (c : Cl) : List Value := [i64 c.x, i64 c.y]
structure Ps where
  x : Int
  y : Int
  d : Bool
deriving DecidableEq
abbrev encP (p : Ps) : List Value := [i64 p.x, i64 p.y, .bool p.d]
def stepsL : List Cl := [⟨0, -1⟩, ⟨1, 0⟩, ⟨0, 1⟩, ⟨-1, 0⟩]
abbrev stepsA : As := arr (some ⟨0, 0, none⟩) (stepsL.flatMap encC)
theorem encC_len (c : Cl) : (encC c).length = 2 := rfl
theorem encP_len (p : Ps) : (encP p).length = 3 := rfl
def cell2 (p : Ps) : Cl := if p.d then ⟨w64 (p.x + 0), w64 (p.y + 1)⟩ else ⟨w64 (p.x + 1), w64 (p.y + 0)⟩
abbrev cellsA (b : Nat) (p : Ps) : As := blk b [i64 p.x, i64 p.y, i64 (cell2 p).x, i64 (cell2 p).y] 38
theorem cells_spec (v : Value) (x y : Int) (d : Bool) : Sk.Spec Tryz.prog 120 #[v, .agg #[i64 x, i64 y, .bool d]] [stepsA] [] fun e F' => ∃ b : Nat, e = .returned (.slice (some ⟨b, 0, none⟩) 2 2) ∧ F' = [cellsA b ⟨x, y, d⟩] ∧ True := by
  refine Spec.of_code (vs := [_, _]) (k0 := [(0, _), (1, _)]) 28 Tryz.func120 rfl Tryz.ntmps120 rfl (.cons (.cons .nil)) fun w X RR hRR H => ?_
  refine .seq ?_
  refine .plain rfl ?_
  refine .box rfl rfl rfl rfl rfl H (fun w1 b1 H1 => ⟨fun _ => trivial, ?_⟩)
  refine .q rfl rfl rfl (val_assign rfl) ?_
  refine .nil (cj ?_)
  refine .seq ?_
  refine .plain rfl ?_
  refine .q rfl rfl rfl (val_ixa ar_214 rfl rfl (i := 1) rfl (by decide)) ?_
  refine .qs rfl rfl rfl H1 (ld_ela rfl ag_38 .base rfl (.ro .here) encC_len (by first | assumption | rfl)) ?_
  refine .alloc rfl rfl rfl ze_38 rfl H1 (fun w2 b2 H2 => ⟨fun _ => trivial, ?_⟩)
  refine .store rfl rfl rfl rfl rfl sz_38 rfl H2 .here (by repeat constructor) (fun w3 H3 => ⟨fun _ => trivial, ?_⟩)
  refine .nil (cj ?_)
  refine .seq ?_
  refine .seq ?_
  refine .plain rfl ?_
  refine .q rfl rfl rfl (val_fieldAddr rfl fa_40_1) ?_
  refine .qs rfl rfl rfl H3 (ld_b rfl ob_4 (.own (.there .here)) rfl) ?_
  refine .nil (cj ?_)
  refine .cond rfl (fun hc0 => ?_) (fun hc0 => ?_)
  · refine .plain rfl ?_
    refine .q rfl rfl rfl (val_ixa ar_214 rfl rfl (i := 2) rfl (by decide)) ?_
    refine .qs rfl rfl rfl H3 (ld_ela rfl ag_38 .base rfl (.ro .here) encC_len (by first | assumption | rfl)) ?_
    refine .store rfl rfl rfl rfl rfl sz_38 rfl H3 .here (by repeat constructor) (fun w4 H4 => ⟨fun _ => trivial, ?_⟩)
    refine .nil (cj ?_)
    refine .seq ?_
    refine .plain rfl ?_
    refine .q rfl rfl rfl (val_fieldAddr rfl fa_40_0) ?_
    refine .qs rfl rfl rfl H4 (ld_blks rfl ag_38 (.own (.there .here)) (by repeat constructor)) ?_
    refine .q rfl rfl rfl (val_fieldAddr rfl fa_40_0) ?_
    refine .q rfl rfl rfl (val_fieldAddr rfl fa_38_0) ?_
    refine .qs rfl rfl rfl H4 (ld_b rfl ob_3 (.own (.there .here)) rfl) ?_
    refine .q rfl rfl rfl (val_fieldAddr rfl fa_38_0) ?_
    refine .qs rfl rfl rfl H4 (ld_b rfl ob_3 (.own .here) rfl) ?_
    refine .q rfl rfl rfl (val_add rfl rfl rfl) ?_
    refine .q rfl rfl rfl (val_fieldAddr rfl fa_40_0) ?_
    refine .q rfl rfl rfl (val_fieldAddr rfl fa_38_1) ?_
    refine .qs rfl rfl rfl H4 (ld_b rfl ob_3 (.own (.there .here)) rfl) ?_
    refine .q rfl rfl rfl (val_fieldAddr rfl fa_38_1) ?_
    refine .qs rfl rfl rfl H4 (ld_b rfl ob_3 (.own .here) rfl) ?_
    refine .q rfl rfl rfl (val_add rfl rfl rfl) ?_
    refine .q rfl rfl rfl (val_mk (.cons rfl (.cons rfl .nil)) (mk_38_0_1 _ _)) ?_
    refine .lit rfl rfl rfl Tryz.underlying22 (.cons rfl (.cons rfl .nil)) (bs_38_2_0_1 _ _ _ _) H4 (fun w5 b5 H5 => ⟨fun _ => trivial, ?_⟩)
    refine .q rfl rfl rfl (val_assign rfl) ?_
    refine .nil (cj ?_)
    refine .ret (fret (res1 rfl rfl) ?_)
    subst hc0; exact hRR _ _ ⟨_, ⟨_, rfl, rfl, trivial⟩, H5.sub (.cons .here .nil)⟩
  · refine .skip (cj ?_)
    refine .seq ?_
    refine .plain rfl ?_
    refine .q rfl rfl rfl (val_fieldAddr rfl fa_40_0) ?_
    refine .qs rfl rfl rfl H3 (ld_blks rfl ag_38 (.own (.there .here)) (by repeat constructor)) ?_
    refine .q rfl rfl rfl (val_fieldAddr rfl fa_40_0) ?_
    refine .q rfl rfl rfl (val_fieldAddr rfl fa_38_0) ?_
    refine .qs rfl rfl rfl H3 (ld_b rfl ob_3 (.own (.there .here)) rfl) ?_
    refine .q rfl rfl rfl (val_fieldAddr rfl fa_38_0) ?_
    refine .qs rfl rfl rfl H3 (ld_b rfl ob_3 (.own .here) rfl) ?_
    refine .q rfl rfl rfl (val_add rfl rfl rfl) ?_
    refine .q rfl rfl rfl (val_fieldAddr rfl fa_40_0) ?_
    refine .q rfl rfl rfl (val_fieldAddr rfl fa_38_1) ?_
    refine .qs rfl rfl rfl H3 (ld_b rfl ob_3 (.own (.there .here)) rfl) ?_
    refine .q rfl rfl rfl (val_fieldAddr rfl fa_38_1) ?_
    refine .qs rfl rfl rfl H3 (ld_b rfl ob_3 (.own .here) rfl) ?_
    refine .q rfl rfl rfl (val_add rfl rfl rfl) ?_
    refine .q rfl rfl rfl (val_mk (.cons rfl (.cons rfl .nil)) (mk_38_0_1 _ _)) ?_
    refine .lit rfl rfl rfl Tryz.underlying22 (.cons rfl (.cons rfl .nil)) (bs_38_2_0_1 _ _ _ _) H3 (fun w6 b6 H6 => ⟨fun _ => trivial, ?_⟩)
    refine .q rfl rfl rfl (val_assign rfl) ?_
    refine .nil (cj ?_)
    refine .ret (fret (res1 rfl rfl) ?_)
    subst hc0; exact hRR _ _ ⟨_, ⟨_, rfl, rfl, trivial⟩, H6.sub (.cons .here .nil)⟩
def fitsB (g : Gd) (p : Ps) : Bool := openB g p.x p.y && openB g (cell2 p).x (cell2 p).y
theorem fits_spec (bg : Nat) (A : Option Addr) (cap : Nat) (g : Gd) (hg : g.Ok) (x y : Int) (d : Bool) : Sk.Spec Tryz.prog 119 #[ptr bg, .agg #[i64 x, i64 y, .bool d]] [gblk bg A cap g, garr A g, stepsA] [] fun e F' => e = .returned (.bool (fitsB g ⟨x, y, d⟩)) ∧ F' = [] := by
  refine Spec.of_code (vs := [_, _]) (k0 := [(0, _), (1, _)]) 21 Tryz.func119 rfl Tryz.ntmps119 rfl (.cons (.cons .nil)) fun w X RR hRR H => ?_
  refine .seq ?_
  refine .plain rfl ?_
  refine .box rfl rfl rfl rfl rfl H (fun w1 b1 H1 => ⟨fun _ => trivial, ?_⟩)
  refine .q rfl rfl rfl (val_assign rfl) ?_
  refine .nil (cj ?_)
  refine .seq ?_
  refine .plain rfl ?_
  refine .q rfl rfl rfl (val_move rfl) ?_
  refine .qs rfl rfl rfl H1 (ld_w rfl ag_40 (.own .here) rfl) ?_
  refine .callx rfl rfl rfl en120 (.cons rfl (.cons rfl .nil)) (cells_spec _ _ _ _) H1 .nil (.ro (.there (.there .here)) .nil) (fun b2 w2 C2 H2 => ⟨fun _ => trivial, ?_⟩)
  refine .q rfl rfl rfl (val_assign rfl) ?_
  refine .nil (cj ?_)
  refine .seq ?_
  refine .plain rfl ?_
  refine .q rfl rfl rfl (val_move rfl) ?_
  refine .q rfl rfl rfl (val_move rfl) ?_
  refine .q rfl rfl rfl (val_ix el_22 rfl rfl rfl (i := 0) rfl (by decide)) ?_
  refine .qs rfl rfl rfl H2 (ld_blks rfl ag_38 (.own .here) (by repeat constructor)) ?_
  refine .call1 rfl rfl rfl en141 (.cons rfl (.cons rfl .nil)) (open_spec _ _ _ _ (by assumption) _ _) H2 .nil (.ro .here (.ro (.there .here) .nil)) (fun w3 H3 => ⟨fun _ => trivial, ?_⟩)
  refine .q rfl rfl rfl (val_move rfl) ?_
  refine .case (t := 14) rfl (fun hs14 => ?_) (fun hs14 => ?_)
  · refine .q rfl rfl rfl (val_move rfl) ?_
    refine .q rfl rfl rfl (val_move rfl) ?_
    refine .q rfl rfl rfl (val_ix el_22 rfl rfl rfl (i := 1) rfl (by decide)) ?_
    refine .qs rfl rfl rfl H3 (ld_blks rfl ag_38 (.own .here) (by repeat constructor)) ?_
    refine .call1 rfl rfl rfl en141 (.cons rfl (.cons rfl .nil)) (open_spec _ _ _ _ (by assumption) _ _) H3 .nil (.ro .here (.ro (.there .here) .nil)) (fun w4 H4 => ⟨fun _ => trivial, ?_⟩)
    refine .q rfl rfl rfl (val_pick_t rfl rfl) ?_
    refine .q rfl rfl rfl (val_assign rfl) ?_
    refine .nil (cj ?_)
    refine .ret (fret (res1 rfl rfl) ?_)
    refine hRR _ _ ⟨_, ⟨?_, rfl⟩, H4.sub .nil⟩
    simp_all [fitsB]
  · refine .no rfl rfl rfl ?_
    refine .no rfl rfl rfl ?_
    refine .no rfl rfl rfl ?_
    refine .no rfl rfl rfl ?_
    refine .no rfl rfl rfl ?_
    refine .q rfl rfl rfl (val_pick_f rfl rfl) ?_
    refine .q rfl rfl rfl (val_assign rfl) ?_
    refine .nil (cj ?_)
    refine .ret (fret (res1 rfl rfl) ?_)
    refine hRR _ _ ⟨_, ⟨?_, rfl⟩, H3.sub .nil⟩
    simp_all [fitsB]
end Go.Proofs.YtmbibkifbehgnaaGreatDoor
namespace Go.Proofs.YtmbibkifbehgnaaGreatDoor.Sk
open Go
set_option linter.unusedVariables false
section
variable {P : Program} {d : Nat} {xs ys : Array Value} {f : Field} {fs : List Field} {a b : Value} {r s : Bool} {w : World}
theorem eqf1 (hn : (f.name == "_") = false) (ha : (part f.type xs f.offset).run P w = .ok a w) (hb : (part f.type ys f.offset).run P w = .ok b w) (he : (Op.equalIn d f.type a b).run P w = .ok r w) (hr : (Op.eqFields d xs ys fs).run P w = .ok s w) : (Op.eqFields d xs ys (f :: fs)).run P w = .ok (r && s) w := by
  have hn' : f.name ≠ "_" := by simpa using hn
  unfold Op.eqFields
  simp only [if_pos hn', Sem.run_bind, ha, hb, he, Result.andThen_ok]
  cases r with
  | false => simp
  | true => simpa using hr
theorem eqf0 : (Op.eqFields d xs ys []).run P w = .ok true w := by simp [Op.eqFields]
theorem eqfA {t : TypeId} {gs : Array Field} (hu : P.underlying t = some (.struct gs)) (hp : P.stoodInHeld t = false) (h : (Op.eqFields d xs ys gs.toList).run P w = .ok r w) : (Op.equalIn (d + 1) t (.agg xs) (.agg ys)).run P w = .ok r w := by
  have hf : P.fieldsOf t = gs := by simp [Program.fieldsOf, hu]
  rw [run_equalIn_struct (P := P) w d t xs ys (by rw [hf]; exact hu) hp, hf, h]
theorem eqfI {t : TypeId} {q k' : IntKind} {x y : Int} (h : P.underlying t = some (.int k')) : (Op.equalIn (d + 1) t (.int q x) (.int q y)).run P w = .ok (x == y) w := run_equalIn_int w d t q k' x y h
theorem eqfB {t : TypeId} {x y : Bool} (h : P.underlying t = some .bool) : (Op.equalIn (d + 1) t (.bool x) (.bool y)).run P w = .ok (x == y) w := run_equalIn_bool' w d t x y h
theorem eql_of {t : TypeId} {X Y : Operand} (hm : P.eqGuardType P.depth t = false) (h : ∀ w : World, (Op.equalIn 10000 t (.agg xs) (.agg ys)).run P w = .ok r w) (w : World) : (do eqGuard .eql t X Y (.agg xs) (.agg ys); binOp .eql t (.agg xs) (.agg ys)).run P w = .ok (.bool r) w := by
  simp only [Sem.run_bind, run_eqGuard_agg w .eql t X Y xs ys hm, Result.andThen_ok, run_eql_struct, h w]
theorem neq_of {t : TypeId} {X Y : Operand} (hm : P.eqGuardType P.depth t = false) (h : ∀ w : World, (Op.equalIn 10000 t (.agg xs) (.agg ys)).run P w = .ok r w) (w : World) : (do eqGuard .neq t X Y (.agg xs) (.agg ys); binOp .neq t (.agg xs) (.agg ys)).run P w = .ok (.bool (!r)) w := by
  simp only [Sem.run_bind, run_eqGuard_agg w .neq t X Y xs ys hm, Result.andThen_ok, run_neq_struct, h w]
end
end Go.Proofs.YtmbibkifbehgnaaGreatDoor.Sk
namespace Go.Proofs.YtmbibkifbehgnaaGreatDoor
open Go Sk
set_option linter.unusedVariables false
set_option linter.unusedSimpArgs false
structure Mv where
  kind : Int
  dir : Int
  n : Int
  fr : Ps
  to : Ps
  st : Int
  en : Int
deriving DecidableEq
abbrev encM (m : Mv) : List Value := [i64 m.kind, i64 m.dir, i64 m.n, i64 m.fr.x, i64 m.fr.y, .bool m.fr.d, i64 m.to.x, i64 m.to.y, .bool m.to.d, i64 m.st, i64 m.en]
structure Te where
  kind : Int
  robot : Int
  epoch : Int
  num : Int
  move : Mv
  pose : Ps
  load : Int
deriving DecidableEq
abbrev encT (t : Te) : List Value := [i64 t.kind, i64 t.robot, i64 t.epoch, i64 t.num, i64 t.move.kind, i64 t.move.dir, i64 t.move.n, i64 t.move.fr.x, i64 t.move.fr.y, .bool t.move.fr.d, i64 t.move.to.x, i64 t.move.to.y, .bool t.move.to.d, i64 t.move.st, i64 t.move.en, i64 t.pose.x, i64 t.pose.y, .bool t.pose.d, i64 t.load]
theorem encT_len (t : Te) : (encT t).length = 19 := rfl
section
variable (d : Nat) (w : World)
theorem eqC0 (a b a' b' : Int) : (Op.equalIn (d + 2) 38 (.agg #[i64 a, i64 b]) (.agg #[i64 a', i64 b'])).run Tryz.prog w = .ok (a == a' && (b == b' && true)) w :=
  eqfA Tryz.underlying38 (by kernel_rfl) (eqf1 rfl (by go_simp <;> rfl) (by go_simp <;> rfl) (eqfI Tryz.underlying3) (eqf1 rfl (by go_simp <;> rfl) (by go_simp <;> rfl) (eqfI Tryz.underlying3) eqf0))
theorem eqP0 (a b a' b' : Int) (c c' : Bool) : (Op.equalIn (d + 3) 40 (.agg #[i64 a, i64 b, .bool c]) (.agg #[i64 a', i64 b', .bool c'])).run Tryz.prog w = .ok ((a == a' && (b == b' && true)) && (c == c' && true)) w :=
  eqfA Tryz.underlying40 (by kernel_rfl) (eqf1 rfl (by go_simp <;> rfl) (by go_simp <;> rfl) (eqC0 d w a b a' b') (eqf1 rfl (by go_simp <;> rfl) (by go_simp <;> rfl) (eqfB Tryz.underlying4) eqf0))
end
theorem decP (a b a' b' : Int) (c c' : Bool) : ((a == a' && (b == b' && true)) && (c == c' && true)) = decide ((⟨a, b, c⟩ : Ps) = ⟨a', b', c'⟩) := by
  simp [Bool.decide_and, Bool.beq_eq_decide_eq, Bool.and_assoc]
theorem seq_40_eql {X Y : Operand} {a b : Int} {c : Bool} {a' b' : Int} {c' : Bool} (w : World) : (do eqGuard .eql 40 X Y (.agg #[i64 a, i64 b, .bool c]) (.agg #[i64 a', i64 b', .bool c']); binOp .eql 40 (.agg #[i64 a, i64 b, .bool c]) (.agg #[i64 a', i64 b', .bool c'])).run Tryz.prog w = .ok (.bool (decide ((⟨a, b, c⟩ : Ps) = ⟨a', b', c'⟩))) w :=
  eql_of (by kernel_rfl) (fun w => by rw [← decP]; exact eqP0 9997 w _ _ _ _ _ _) w
theorem seq_40_neq {X Y : Operand} {a b : Int} {c : Bool} {a' b' : Int} {c' : Bool} (w : World) : (do eqGuard .neq 40 X Y (.agg #[i64 a, i64 b, .bool c]) (.agg #[i64 a', i64 b', .bool c']); binOp .neq 40 (.agg #[i64 a, i64 b, .bool c]) (.agg #[i64 a', i64 b', .bool c'])).run Tryz.prog w = .ok (.bool (!decide ((⟨a, b, c⟩ : Ps) = ⟨a', b', c'⟩))) w :=
  neq_of (by kernel_rfl) (fun w => by rw [← decP]; exact eqP0 9997 w _ _ _ _ _ _) w
end Go.Proofs.YtmbibkifbehgnaaGreatDoor
namespace Go.Proofs.YtmbibkifbehgnaaGreatDoor
open Go Sk
set_option linter.unusedVariables false
set_option linter.unusedSimpArgs false
theorem en114 : Enters Tryz.prog 114 := fun args w => by kernel_rfl
theorem en142 : Enters Tryz.prog 142 := fun args w => by kernel_rfl
theorem ag_189  : aggB Tryz.prog 189 2 = true := by kernel_rfl
theorem ar_189  : arB Tryz.prog 189 2 1 = true := by kernel_rfl
theorem bs_38_4_0_1_2_3 (x0_0_ : Int) (x0_1_ : Int) (x1_0_ : Int) (x1_1_ : Int) (x2_0_ : Int) (x2_1_ : Int) (x3_0_ : Int) (x3_1_ : Int) : Tryz.prog.builtSlice 38 4 [(0, .agg (List.toArray [.int .i64 x0_0_, .int .i64 x0_1_])), (1, .agg (List.toArray [.int .i64 x1_0_, .int .i64 x1_1_])), (2, .agg (List.toArray [.int .i64 x2_0_, .int .i64 x2_1_])), (3, .agg (List.toArray [.int .i64 x3_0_, .int .i64 x3_1_]))] = some (List.toArray [.int .i64 x0_0_, .int .i64 x0_1_, .int .i64 x1_0_, .int .i64 x1_1_, .int .i64 x2_0_, .int .i64 x2_1_, .int .i64 x3_0_, .int .i64 x3_1_]) := by kernel_rfl
theorem mk_189_0_1 (x0_ : Int) (x1_ : Int) : Tryz.prog.built 189 [(0, .int .i64 x0_), (1, .int .i64 x1_)] = some (List.toArray [.int .i64 x0_, .int .i64 x1_]) := by kernel_rfl
theorem mk_40_  : Tryz.prog.built 40 [] = some (List.toArray [.int .i64 0, .int .i64 0, .bool false]) := by kernel_rfl
theorem sz_189  : (Tryz.prog.info? 189).map (·.size) = some 2 := by kernel_rfl
theorem sz_3  : (Tryz.prog.info? 3).map (·.size) = some 1 := by kernel_rfl
theorem sz_40  : (Tryz.prog.info? 40).map (·.size) = some 3 := by kernel_rfl
theorem ze_189  : (Tryz.prog.info? 189).bind (·.zero) = some (.agg (List.toArray [.int .i64 0, .int .i64 0])) := by kernel_rfl
theorem ze_40  : (Tryz.prog.info? 40).bind (·.zero) = some (.agg (List.toArray [.int .i64 0, .int .i64 0, .bool false])) := by kernel_rfl
theorem dir_nat {n : Int} (h : (!withinB n 0 3) = false) : ∃ i : Nat, n = (i : Int) ∧ i < 4 := by
  simp [withinB] at h
  exact ⟨n.toNat, by omega, by omega⟩
theorem steps_get {i : Nat} (h : i < 4) : stepsL[i]? = some (stepsL.getD i ⟨0, 0⟩) := by
  rw [List.getD_eq_getElem?_getD, List.getElem?_eq_getElem (by simpa [stepsL] using h)]; rfl
def shiftP (p : Ps) (dir n : Int) : Ps := ⟨w64 (p.x + w64 (n * (stepsL.getD dir.toNat ⟨0, 0⟩).x)), w64 (p.y + w64 (n * (stepsL.getD dir.toNat ⟨0, 0⟩).y)), p.d⟩
def shiftOk (dir n : Int) : Bool := withinB n 0 16 && withinB dir 0 3
def shiftR (p : Ps) (dir n : Int) : Ps := if shiftOk dir n then shiftP p dir n else ⟨0, 0, false⟩
theorem shift_yes {dir n : Int} (h1 : (!withinB n 0 16) = false) (h2 : (!withinB dir 0 3) = false) : shiftOk dir n = true := by
  simp at h1 h2
  simp [shiftOk, h1, h2]
theorem shift_no1 {dir n : Int} (h1 : (!withinB n 0 16) = true) : shiftOk dir n = false := by
  simp at h1
  simp [shiftOk, h1]
theorem shift_no2 {dir n : Int} (h1 : (!withinB dir 0 3) = true) : shiftOk dir n = false := by
  simp at h1
  simp [shiftOk, h1]
theorem shift_spec (v : Value) (x y : Int) (d : Bool) (dir n : Int) : Sk.Spec Tryz.prog 117 #[v, .agg #[i64 x, i64 y, .bool d], i64 dir, i64 n] [stepsA] [] fun e F' => e = .returned (.tuple #[.agg (encP (shiftR ⟨x, y, d⟩ dir n)).toArray, .bool (shiftOk dir n)]) ∧ F' = [] := by
  refine Spec.of_code (vs := [_, _, _, _]) (k0 := [(0, _), (1, _), (2, _), (3, _)]) 44 Tryz.func117 rfl Tryz.ntmps117 rfl (.cons (.cons (.cons (.cons .nil)))) fun w X RR hRR H => ?_
  refine .seq ?_
  refine .plain rfl ?_
  refine .box rfl rfl rfl rfl rfl H (fun w1 b1 H1 => ⟨fun _ => trivial, ?_⟩)
  refine .alloc rfl rfl rfl ze_40 rfl H1 (fun w2 b2 H2 => ⟨fun _ => trivial, ?_⟩)
  refine .q rfl rfl rfl (val_assign rfl) ?_
  refine .nil (cj ?_)
  refine .seq ?_
  refine .seq ?_
  refine .plain rfl ?_
  refine .q rfl rfl rfl (val_move rfl) ?_
  refine .call1 rfl rfl rfl en97 (.cons rfl (.cons rfl (.cons rfl .nil))) (within_spec _ _ _) H2 .nil .nil (fun w3 H3 => ⟨fun _ => trivial, ?_⟩)
  refine .q rfl rfl rfl (val_not rfl rfl) ?_
  refine .q rfl rfl rfl (val_move rfl) ?_
  refine .case (t := 13) rfl (fun hs13 => ?_) (fun hs13 => ?_)
  · refine .no rfl rfl rfl ?_
    refine .no rfl rfl rfl ?_
    refine .no rfl rfl rfl ?_
    refine .q rfl rfl rfl (val_pick_t rfl rfl) ?_
    refine .nil (cj ?_)
    refine .cond_t rfl ?_
    refine .seq ?_
    refine .plain rfl ?_
    refine .q rfl rfl rfl (val_mk .nil mk_40_) ?_
    refine .store rfl rfl rfl rfl rfl sz_40 rfl H3 .here (by repeat constructor) (fun w4 H4 => ⟨fun _ => trivial, ?_⟩)
    refine .q rfl rfl rfl (val_assign rfl) ?_
    refine .nil (cj ?_)
    refine .ret (fret (resct rfl rfl (lds_w ag_40 (.own .here) rfl H4) rfl) ?_)
    refine hRR _ _ ⟨_, ⟨?_, rfl⟩, H4.sub .nil⟩
    first | (rw [shiftR, shift_yes hs13 hc0, hi]; rfl) | (rw [shiftR, shift_no1 hs13]; rfl) | (rw [shiftR, shift_no2 hc0]; rfl)
  · refine .q rfl rfl rfl (val_move rfl) ?_
    refine .call1 rfl rfl rfl en97 (.cons rfl (.cons rfl (.cons rfl .nil))) (within_spec _ _ _) H3 .nil .nil (fun w5 H5 => ⟨fun _ => trivial, ?_⟩)
    refine .q rfl rfl rfl (val_not rfl rfl) ?_
    refine .q rfl rfl rfl (val_pick_f rfl rfl) ?_
    refine .nil (cj ?_)
    refine .cond rfl (fun hc0 => ?_) (fun hc0 => ?_)
    · refine .seq ?_
      refine .plain rfl ?_
      refine .q rfl rfl rfl (val_mk .nil mk_40_) ?_
      refine .store rfl rfl rfl rfl rfl sz_40 rfl H5 .here (by repeat constructor) (fun w6 H6 => ⟨fun _ => trivial, ?_⟩)
      refine .q rfl rfl rfl (val_assign rfl) ?_
      refine .nil (cj ?_)
      refine .ret (fret (resct rfl rfl (lds_w ag_40 (.own .here) rfl H6) rfl) ?_)
      refine hRR _ _ ⟨_, ⟨?_, rfl⟩, H6.sub .nil⟩
      first | (rw [shiftR, shift_yes hs13 hc0, hi]; rfl) | (rw [shiftR, shift_no1 hs13]; rfl) | (rw [shiftR, shift_no2 hc0]; rfl)
    · refine .skip (cj ?_)
      refine .seq ?_
      obtain ⟨i, hi, hi4⟩ := dir_nat hc0
      have hs := steps_get hi4
      refine .drawS 10 (.cons (0, true) (.cons (1, true) (.cons (2, true) (.cons (3, true) (.cons (4, true) (.cons (5, true) (.cons (6, true) (.cons (7, true) (.cons (8, true) (.cons (9, true) (.cons (10, true) (.cons (11, true) (.cons (12, false) .nil))))))))))))) mo (by kernel_rfl) H5 (fun _ _ _ _ _ h => h) (fun w7 H7 => ?_)
      refine .p rfl rfl rfl (val_fieldAddr rfl fa_40_0) ?_
      refine .p rfl rfl rfl (val_fieldAddr rfl fa_38_0) ?_
      refine .ps rfl rfl rfl rfl (ld_b rfl ob_3 (.own (.there .here)) rfl) ?_
      refine .p rfl rfl rfl (val_move rfl) ?_
      refine .p rfl rfl rfl (val_move rfl) ?_
      refine .p rfl rfl rfl (val_ixa ar_214 rfl rfl hi hi4) ?_
      refine .p rfl rfl rfl (val_fieldAddr rfl fa_38_0) ?_
      refine .ps rfl rfl rfl rfl (ld_el rfl ob_3 (.add .base) rfl (.ro .here) encC_len (by first | assumption | rfl) rfl) ?_
      refine .p rfl rfl rfl (val_mul rfl rfl rfl) ?_
      refine .p rfl rfl rfl (val_add rfl rfl rfl) ?_
      refine .p rfl rfl rfl (val_fieldAddr rfl fa_40_0) ?_
      refine .p rfl rfl rfl (val_fieldAddr rfl fa_38_0) ?_
      refine .store rfl rfl rfl rfl rfl sz_3 rfl H7 (.there .here) (by repeat constructor) (fun w8 H8 => ⟨fun h => absurd h (by decide), ?_⟩)
      refine .nil (cj ?_)
      refine .seq ?_
      refine .drawS 10 (.cons (0, true) (.cons (1, true) (.cons (2, true) (.cons (3, true) (.cons (4, true) (.cons (5, true) (.cons (6, true) (.cons (7, true) (.cons (8, true) (.cons (9, true) (.cons (10, true) (.cons (11, true) (.cons (12, false) .nil))))))))))))) mo (by kernel_rfl) H8 (fun _ _ _ _ _ h => h) (fun w9 H9 => ?_)
      refine .p rfl rfl rfl (val_fieldAddr rfl fa_40_0) ?_
      refine .p rfl rfl rfl (val_fieldAddr rfl fa_38_1) ?_
      refine .ps rfl rfl rfl rfl (ld_b rfl ob_3 (.own .here) rfl) ?_
      refine .p rfl rfl rfl (val_move rfl) ?_
      refine .p rfl rfl rfl (val_move rfl) ?_
      refine .p rfl rfl rfl (val_ixa ar_214 rfl rfl hi hi4) ?_
      refine .p rfl rfl rfl (val_fieldAddr rfl fa_38_1) ?_
      refine .ps rfl rfl rfl rfl (ld_el rfl ob_3 (.add .base) rfl (.ro .here) encC_len (by first | assumption | rfl) rfl) ?_
      refine .p rfl rfl rfl (val_mul rfl rfl rfl) ?_
      refine .p rfl rfl rfl (val_add rfl rfl rfl) ?_
      refine .p rfl rfl rfl (val_fieldAddr rfl fa_40_0) ?_
      refine .p rfl rfl rfl (val_fieldAddr rfl fa_38_1) ?_
      refine .store rfl rfl rfl rfl rfl sz_3 rfl H9 .here (by repeat constructor) (fun w10 H10 => ⟨fun h => absurd h (by decide), ?_⟩)
      refine .nil (cj ?_)
      refine .seq ?_
      refine .plain rfl ?_
      refine .qs rfl rfl rfl H10 (ld_w rfl ag_40 (.own .here) rfl) ?_
      refine .store rfl rfl rfl rfl rfl sz_40 rfl H10 (.there .here) (by repeat constructor) (fun w11 H11 => ⟨fun _ => trivial, ?_⟩)
      refine .q rfl rfl rfl (val_assign rfl) ?_
      refine .nil (cj ?_)
      refine .ret (fret (resct rfl rfl (lds_w ag_40 (.own .here) rfl H11) rfl) ?_)
      refine hRR _ _ ⟨_, ⟨?_, rfl⟩, H11.sub .nil⟩
      first | (rw [shiftR, shift_yes hs13 hc0, hi]; rfl) | (rw [shiftR, shift_no1 hs13]; rfl) | (rw [shiftR, shift_no2 hc0]; rfl)
abbrev squareL (x y : Int) : List Cl := [⟨x, y⟩, ⟨w64 (x + 1), y⟩, ⟨x, w64 (y + 1)⟩, ⟨w64 (x + 1), w64 (y + 1)⟩]
theorem square_spec (x y : Int) : Sk.Spec Tryz.prog 143 #[.agg #[i64 x, i64 y]] [] [] fun e F' => ∃ b : Nat, e = .returned (.slice (some ⟨b, 0, none⟩) 4 4) ∧ F' = [blk b ((squareL x y).flatMap encC) 38] ∧ True := by
  refine Spec.of_code (vs := [_]) (k0 := [(0, _)]) 24 Tryz.func143 rfl Tryz.ntmps143 rfl (.cons .nil) fun w X RR hRR H => ?_
  refine .seq ?_
  refine .plain rfl ?_
  refine .box rfl rfl rfl rfl rfl H (fun w1 b1 H1 => ⟨fun _ => trivial, ?_⟩)
  refine .q rfl rfl rfl (val_assign rfl) ?_
  refine .nil (cj ?_)
  refine .seq ?_
  refine .plain rfl ?_
  refine .qs rfl rfl rfl H1 (ld_w rfl ag_38 (.own .here) rfl) ?_
  refine .q rfl rfl rfl (val_fieldAddr rfl fa_38_0) ?_
  refine .qs rfl rfl rfl H1 (ld_b rfl ob_3 (.own .here) rfl) ?_
  refine .q rfl rfl rfl (val_add rfl rfl rfl) ?_
  refine .q rfl rfl rfl (val_fieldAddr rfl fa_38_1) ?_
  refine .qs rfl rfl rfl H1 (ld_b rfl ob_3 (.own .here) rfl) ?_
  refine .q rfl rfl rfl (val_mk (.cons rfl (.cons rfl .nil)) (mk_38_0_1 _ _)) ?_
  refine .q rfl rfl rfl (val_fieldAddr rfl fa_38_0) ?_
  refine .qs rfl rfl rfl H1 (ld_b rfl ob_3 (.own .here) rfl) ?_
  refine .q rfl rfl rfl (val_fieldAddr rfl fa_38_1) ?_
  refine .qs rfl rfl rfl H1 (ld_b rfl ob_3 (.own .here) rfl) ?_
  refine .q rfl rfl rfl (val_add rfl rfl rfl) ?_
  refine .q rfl rfl rfl (val_mk (.cons rfl (.cons rfl .nil)) (mk_38_0_1 _ _)) ?_
  refine .q rfl rfl rfl (val_fieldAddr rfl fa_38_0) ?_
  refine .qs rfl rfl rfl H1 (ld_b rfl ob_3 (.own .here) rfl) ?_
  refine .q rfl rfl rfl (val_add rfl rfl rfl) ?_
  refine .q rfl rfl rfl (val_fieldAddr rfl fa_38_1) ?_
  refine .qs rfl rfl rfl H1 (ld_b rfl ob_3 (.own .here) rfl) ?_
  refine .q rfl rfl rfl (val_add rfl rfl rfl) ?_
  refine .q rfl rfl rfl (val_mk (.cons rfl (.cons rfl .nil)) (mk_38_0_1 _ _)) ?_
  refine .lit rfl rfl rfl Tryz.underlying22 (.cons rfl (.cons rfl (.cons rfl (.cons rfl .nil)))) (bs_38_4_0_1_2_3 _ _ _ _ _ _ _ _) H1 (fun w2 b2 H2 => ⟨fun _ => trivial, ?_⟩)
  refine .q rfl rfl rfl (val_assign rfl) ?_
  refine .nil (cj ?_)
  refine .ret (fret (res1 rfl rfl) ?_)
  exact hRR _ _ ⟨_, ⟨_, rfl, rfl, trivial⟩, H2.sub (.cons .here .nil)⟩
/-! ### ticks -/
def cutI (a : Int) : Int := max 0 (min a 4611686018427387904)
theorem cut_spec (a : Int) : Sk.Spec Tryz.prog 142 #[i64 a] [] [] fun e F' => e = .returned (i64 (cutI a)) ∧ F' = [] := by
  refine Spec.of_code (vs := [_]) (k0 := [(0, _)]) 6 Tryz.func142 rfl Tryz.ntmps142 rfl (.cons .nil) fun w X RR hRR H => ?_
  refine .seq ?_
  refine .plain rfl ?_
  refine .q rfl rfl rfl (val_assign rfl) ?_
  refine .nil (cj ?_)
  refine .seq ?_
  refine .plain rfl ?_
  refine .q rfl rfl rfl (val_move rfl) ?_
  refine .q rfl rfl rfl (val_min rfl rfl rfl) ?_
  refine .q rfl rfl rfl (val_max rfl rfl rfl) ?_
  refine .q rfl rfl rfl (val_assign rfl) ?_
  refine .nil (cj ?_)
  refine .ret (fret (res1 rfl rfl) ?_)
  refine hRR _ _ ⟨_, ⟨?_, rfl⟩, H.sub .nil⟩
  rfl
theorem both_spec (a b : Int) : Sk.Spec Tryz.prog 114 #[i64 a, i64 b] [] [] fun e F' => e = .returned (.agg #[i64 (cutI a), i64 (cutI b)]) ∧ F' = [] := by
  refine Spec.of_code (vs := [_, _]) (k0 := [(0, _), (1, _)]) 10 Tryz.func114 rfl Tryz.ntmps114 rfl (.cons (.cons .nil)) fun w X RR hRR H => ?_
  refine .seq ?_
  refine .plain rfl ?_
  refine .alloc rfl rfl rfl ze_189 rfl H (fun w1 b1 H1 => ⟨fun _ => trivial, ?_⟩)
  refine .nil (cj ?_)
  refine .seq ?_
  refine .plain rfl ?_
  refine .q rfl rfl rfl (val_move rfl) ?_
  refine .call1 rfl rfl rfl en142 (.cons rfl .nil) (cut_spec _) H1 .nil .nil (fun w2 H2 => ⟨fun _ => trivial, ?_⟩)
  refine .q rfl rfl rfl (val_move rfl) ?_
  refine .call1 rfl rfl rfl en142 (.cons rfl .nil) (cut_spec _) H2 .nil .nil (fun w3 H3 => ⟨fun _ => trivial, ?_⟩)
  refine .q rfl rfl rfl (val_mk (.cons rfl (.cons rfl .nil)) (mk_189_0_1 _ _)) ?_
  refine .store rfl rfl rfl rfl rfl sz_189 rfl H3 .here (by repeat constructor) (fun w4 H4 => ⟨fun _ => trivial, ?_⟩)
  refine .nil (cj ?_)
  refine .ret (fret (resc rfl rfl (lds_w ag_189 (.own .here) rfl H4)) ?_)
  refine hRR _ _ ⟨_, ⟨?_, rfl⟩, H4.sub .nil⟩
  rfl
def lessI (a b : Int) : Int := if cutI a = 4611686018427387904 then cutI a else max 0 (w64 (cutI a - cutI b))
theorem less_spec (a b : Int) : Sk.Spec Tryz.prog 94 #[i64 a, i64 b] [] [] fun e F' => e = .returned (i64 (lessI a b)) ∧ F' = [] := by
  refine Spec.of_code (vs := [_, _]) (k0 := [(0, _), (1, _)]) 20 Tryz.func94 rfl Tryz.ntmps94 rfl (.cons (.cons .nil)) fun w X RR hRR H => ?_
  refine .seq ?_
  refine .plain rfl ?_
  refine .q rfl rfl rfl (val_assign rfl) ?_
  refine .nil (cj ?_)
  refine .seq ?_
  refine .plain rfl ?_
  refine .q rfl rfl rfl (val_move rfl) ?_
  refine .q rfl rfl rfl (val_move rfl) ?_
  refine .call1 rfl rfl rfl en114 (.cons rfl (.cons rfl .nil)) (both_spec _ _) H .nil .nil (fun w1 H1 => ⟨fun _ => trivial, ?_⟩)
  refine .alloc rfl rfl rfl ze_189 rfl H1 (fun w2 b2 H2 => ⟨fun _ => trivial, ?_⟩)
  refine .store rfl rfl rfl rfl rfl sz_189 rfl H2 .here (by repeat constructor) (fun w3 H3 => ⟨fun _ => trivial, ?_⟩)
  refine .nil (cj ?_)
  refine .seq ?_
  refine .seq ?_
  refine .plain rfl ?_
  refine .q rfl rfl rfl (val_ixa ar_189 rfl rfl (i := 0) rfl (by decide)) ?_
  refine .qs rfl rfl rfl H3 (ld_b rfl ob_3 (.own .here) rfl) ?_
  refine .q rfl rfl rfl (val_eql rfl rfl rfl) ?_
  refine .nil (cj ?_)
  refine .cond rfl (fun hc0 => ?_) (fun hc0 => ?_)
  · refine .seq ?_
    refine .plain rfl ?_
    refine .q rfl rfl rfl (val_ixa ar_189 rfl rfl (i := 0) rfl (by decide)) ?_
    refine .qs rfl rfl rfl H3 (ld_b rfl ob_3 (.own .here) rfl) ?_
    refine .q rfl rfl rfl (val_assign rfl) ?_
    refine .nil (cj ?_)
    refine .ret (fret (res1 rfl rfl) ?_)
    refine hRR _ _ ⟨_, ⟨?_, rfl⟩, H3.sub .nil⟩
    simp_all [lessI]
  · refine .skip (cj ?_)
    refine .seq ?_
    refine .plain rfl ?_
    refine .q rfl rfl rfl (val_ixa ar_189 rfl rfl (i := 0) rfl (by decide)) ?_
    refine .qs rfl rfl rfl H3 (ld_b rfl ob_3 (.own .here) rfl) ?_
    refine .q rfl rfl rfl (val_ixa ar_189 rfl rfl (i := 1) rfl (by decide)) ?_
    refine .qs rfl rfl rfl H3 (ld_b rfl ob_3 (.own .here) rfl) ?_
    refine .q rfl rfl rfl (val_sub rfl rfl rfl) ?_
    refine .q rfl rfl rfl (val_max rfl rfl rfl) ?_
    refine .q rfl rfl rfl (val_assign rfl) ?_
    refine .nil (cj ?_)
    refine .ret (fret (res1 rfl rfl) ?_)
    refine hRR _ _ ⟨_, ⟨?_, rfl⟩, H3.sub .nil⟩
    simp_all [lessI]
end Go.Proofs.YtmbibkifbehgnaaGreatDoor
namespace Go.Proofs.YtmbibkifbehgnaaGreatDoor
open Go Sk
set_option linter.unusedVariables false
set_option linter.unusedSimpArgs false
theorem fa_42_0 (b o : Nat) (w : World) : (Instr.fieldAt 42 (.pointer (some ⟨b, o, none⟩)) 0).run Tryz.prog w = .ok (.pointer (some ⟨b, o + 0, none⟩)) w := by kernel_rfl
theorem fa_42_1 (b o : Nat) (w : World) : (Instr.fieldAt 42 (.pointer (some ⟨b, o, none⟩)) 1).run Tryz.prog w = .ok (.pointer (some ⟨b, o + 1, none⟩)) w := by kernel_rfl
theorem fa_42_2 (b o : Nat) (w : World) : (Instr.fieldAt 42 (.pointer (some ⟨b, o, none⟩)) 2).run Tryz.prog w = .ok (.pointer (some ⟨b, o + 2, none⟩)) w := by kernel_rfl
theorem fa_42_3 (b o : Nat) (w : World) : (Instr.fieldAt 42 (.pointer (some ⟨b, o, none⟩)) 3).run Tryz.prog w = .ok (.pointer (some ⟨b, o + 3, none⟩)) w := by kernel_rfl
theorem fa_42_4 (b o : Nat) (w : World) : (Instr.fieldAt 42 (.pointer (some ⟨b, o, none⟩)) 4).run Tryz.prog w = .ok (.pointer (some ⟨b, o + 6, none⟩)) w := by kernel_rfl
theorem en115 : Enters Tryz.prog 115 := fun args w => by kernel_rfl
theorem en117 : Enters Tryz.prog 117 := fun args w => by kernel_rfl
theorem en119 : Enters Tryz.prog 119 := fun args w => by kernel_rfl
theorem en143 : Enters Tryz.prog 143 := fun args w => by kernel_rfl
theorem ag_42  : aggB Tryz.prog 42 11 = true := by kernel_rfl
theorem mk_40_0_1 (x0_0_ : Int) (x0_1_ : Int) (x1_ : Bool) : Tryz.prog.built 40 [(0, .agg (List.toArray [.int .i64 x0_0_, .int .i64 x0_1_])), (1, .bool x1_)] = some (List.toArray [.int .i64 x0_0_, .int .i64 x0_1_, .bool x1_]) := by kernel_rfl
/-- the first k places of a run -/
def runB (g : Gd) (fr : Ps) (dir : Int) : Nat → Bool
  | 0 => true
  | k + 1 => runB g fr dir k && (shiftOk dir k && fitsB g (shiftR fr dir k))
def lastP (fr : Ps) (dir : Int) : Nat → Ps
  | 0 => fr
  | k + 1 => shiftR fr dir k
theorem runB_le {g : Gd} {fr : Ps} {dir : Int} {k : Nat} : ∀ {n : Nat}, k ≤ n → runB g fr dir n = true → runB g fr dir k = true := by
  intro n
  induction n with
  | zero => intro h h'; obtain rfl : k = 0 := by omega
            rfl
  | succ n ih =>
    intro h h'
    rcases Nat.lt_or_ge n k with hk | hk
    · obtain rfl : k = n + 1 := by omega
      exact h'
    · simp only [runB, Bool.and_eq_true] at h'
      exact ih hk h'.1
def legalB (g : Gd) (m : Mv) : Bool :=
  if fitsB g m.fr = false then false
  else if m.kind = 1 then runB g m.fr m.dir (m.n + 1).toNat && (decide (1 ≤ m.n) && decide (m.to = lastP m.fr m.dir (m.n + 1).toNat))
  else if m.dir ≠ 0 ∨ m.n ≠ 0 then false
  else if m.kind = 2 then (squareL m.fr.x m.fr.y).all (fun c => openB g c.x c.y) && decide (m.to = ⟨m.fr.x, m.fr.y, !m.fr.d⟩)
  else if m.kind = 3 ∨ m.kind = 4 then decide (m.to = m.fr) else false
theorem legal_run_no {g : Gd} {m : Mv} {k : Nat} (hk : m.kind = 1) (hn : (k : Int) ≤ m.n) (h : runB g m.fr m.dir (k + 1) = false) : legalB g m = false := by
  have h2 : runB g m.fr m.dir (m.n + 1).toNat = false := by
    cases h3 : runB g m.fr m.dir (m.n + 1).toNat with
    | false => rfl
    | true => rw [runB_le (by omega) h3] at h; cases h
  simp [legalB, hk, h2]
theorem legal_run {g : Gd} {m : Mv} {k : Nat} {p : Ps} (hf : fitsB g m.fr = true) (hk : m.kind = 1) (hn : ¬ ((k : Int) ≤ m.n)) (hk0 : k = 0 ∨ (k : Int) ≤ m.n + 1) (h : runB g m.fr m.dir k = true) (hp : lastP m.fr m.dir k = p) :
    legalB g m = (decide (1 ≤ m.n) && decide (m.to = p)) := by
  by_cases h1 : 1 ≤ m.n
  · have e : (m.n + 1).toNat = k := by omega
    simp [legalB, hf, hk, e, h, hp]
  · simp [legalB, hf, hk, h1]
structure WI where
  i : Nat
  n : Nat
  v : Value
  xs : List Value
  p : Ps
theorem legal_turn_no {g : Gd} {m : Mv} (hk : (m.kind == 2) = true) (h : (squareL m.fr.x m.fr.y).all (fun c => openB g c.x c.y) = false) : legalB g m = false := by
  have hk : m.kind = 2 := by simpa using hk
  simp only [legalB, hk, h]
  simp
theorem legal_turn {g : Gd} {m : Mv} (hf : (!fitsB g m.fr) = false) (hk : (m.kind == 2) = true) (hd : (m.dir != 0) = false) (hn : (m.n != 0) = false) (h : (squareL m.fr.x m.fr.y).all (fun c => openB g c.x c.y) = true) :
    legalB g m = decide (m.to = ⟨m.fr.x, m.fr.y, !m.fr.d⟩) := by
  have hk : m.kind = 2 := by simpa using hk
  have hf : fitsB g m.fr = true := by simpa using hf
  have hd : m.dir = 0 := by simpa using hd
  have hn : m.n = 0 := by simpa using hn
  simp only [legalB, hk, h, hf, hd, hn]
  simp
theorem legal_hoist {g : Gd} {m : Mv} (hf : (!fitsB g m.fr) = false) (h1 : (m.kind == 1) = false) (h2 : (m.kind == 2) = false) (hd : (m.dir != 0) = false) (hn : (m.n != 0) = false) (hk : (m.kind == 3) = true ∨ (m.kind == 4) = true) :
    legalB g m = decide (m.to = m.fr) := by
  have hf : fitsB g m.fr = true := by simpa using hf
  have hd : m.dir = 0 := by simpa using hd
  have hn : m.n = 0 := by simpa using hn
  have h1 : ¬ m.kind = 1 := by simpa using h1
  have h2 : ¬ m.kind = 2 := by simpa using h2
  have hk : m.kind = 3 ∨ m.kind = 4 := by simpa using hk
  simp only [legalB, hf, hd, hn]
  rw [if_neg (by simp), if_neg h1, if_neg (by simp), if_neg h2, if_pos hk]
theorem legal_run1 {g : Gd} {m : Mv} {q : WI} (hf : (!fitsB g m.fr) = false) (hk : (m.kind == 1) = true) (hn : m.n < (q.i : Int)) (hk0 : q.i = 0 ∨ (q.i : Int) ≤ m.n + 1) (h : runB g m.fr m.dir q.i = true) (hp : lastP m.fr m.dir q.i = q.p) (h1 : decide (1 ≤ m.n) = true) :
    legalB g m = decide (m.to = q.p) := by
  rw [legal_run (by simpa using hf) (by simpa using hk) (by omega) hk0 h hp, h1, Bool.true_and]
theorem legal_run0 {g : Gd} {m : Mv} {q : WI} (hf : (!fitsB g m.fr) = false) (hk : (m.kind == 1) = true) (hn : m.n < (q.i : Int)) (hk0 : q.i = 0 ∨ (q.i : Int) ≤ m.n + 1) (h : runB g m.fr m.dir q.i = true) (hp : lastP m.fr m.dir q.i = q.p) (h1 : decide (1 ≤ m.n) = false) :
    legalB g m = false := by
  rw [legal_run (by simpa using hf) (by simpa using hk) (by omega) hk0 h hp, h1, Bool.false_and]
theorem retv {v : Value} {b c : Bool} (h : b = c) : Ending.returned (.tuple #[v, .bool b]) = Ending.returned (.tuple #[v, .bool c]) := by rw [h]
theorem all_take {g : Gd} {l : List Cl} {i : Nat} {c : Cl} (h : (l.take i).all (fun c => openB g c.x c.y) = true) (hc : l[i]? = some c) (ho : openB g c.x c.y = true) : (l.take (i + 1)).all (fun c => openB g c.x c.y) = true := by
  rw [List.take_add_one, hc]
  simp only [Option.toList_some, List.all_append, h, List.all_cons, ho, List.all_nil, Bool.and_self]
theorem all_no {g : Gd} {l : List Cl} {i : Nat} {c : Cl} (hc : l[i]? = some c) (ho : (!openB g c.x c.y) = true) : l.all (fun c => openB g c.x c.y) = false := by
  rw [List.all_eq_false]
  refine ⟨c, List.mem_of_getElem? hc, by simpa using ho⟩
theorem way_spec (bg : Nat) (A : Option Addr) (cap : Nat) (g : Gd) (hg : g.Ok) (m : Mv) : Sk.Spec Tryz.prog 115 #[ptr bg, .agg (encM m).toArray] [gblk bg A cap g, garr A g, stepsA] [] fun e F' => ∃ v, e = .returned (.tuple #[v, .bool (legalB g m)]) ∧ F' = [] ∧ True := by
  refine Spec.of_code (vs := [_, _]) (k0 := [(0, _), (1, _)]) 119 Tryz.func115 rfl Tryz.ntmps115 rfl (.cons (.cons .nil)) fun w X RR hRR H => ?_
  refine .seq ?_
  refine .plain rfl ?_
  refine .box rfl rfl rfl rfl rfl H (fun w1 b1 H1 => ⟨fun _ => trivial, ?_⟩)
  refine .q rfl rfl rfl (val_assign rfl) ?_
  refine .q rfl rfl rfl (val_assign rfl) ?_
  refine .nil (cj ?_)
  refine .seq ?_
  refine .seq ?_
  refine .plain rfl ?_
  refine .q rfl rfl rfl (val_move rfl) ?_
  refine .q rfl rfl rfl (val_fieldAddr rfl fa_42_3) ?_
  refine .qs rfl rfl rfl H1 (ld_blks rfl ag_40 (.own .here) (by repeat constructor)) ?_
  refine .call1 rfl rfl rfl en119 (.cons rfl (.cons rfl .nil)) (fits_spec _ _ _ _ (by assumption) _ _ _) H1 .nil (.ro .here (.ro (.there .here) (.ro (.there (.there .here)) .nil))) (fun w2 H2 => ⟨fun _ => trivial, ?_⟩)
  refine .q rfl rfl rfl (val_not rfl rfl) ?_
  refine .nil (cj ?_)
  refine .cond rfl (fun hc0 => ?_) (fun hc0 => ?_)
  · refine .seq ?_
    refine .plain rfl ?_
    refine .q rfl rfl rfl (val_assign rfl) ?_
    refine .q rfl rfl rfl (val_assign rfl) ?_
    refine .nil (cj ?_)
    refine .ret (fret (res2 rfl rfl rfl) ?_)
    refine hRR _ _ ⟨_, ⟨_, retv ?_, rfl, trivial⟩, H2.sub .nil⟩
    first | exact (legal_hoist hc0 hc2 hc5 hs26 hc1 (.inl hc9)).symm | exact (legal_hoist hc0 hc2 hc5 hs26 hc1 (.inr hc9)).symm | exact (legal_run1 hc0 hc2 hc3 hle hrun hlast hs72).symm | exact (legal_run0 hc0 hc2 hc3 hle hrun hlast hs72).symm | exact (legal_turn hc0 hc5 hs26 hc1 hall).symm | exact (legal_turn_no hc5 (all_no hx hc7)).symm | (simp_all [legalB]; done) | exact (legal_run_no (by simp_all) hc3 (by simp_all [runB])).symm
  · refine .skip (cj ?_)
    refine .seq ?_
    refine .seq ?_
    refine .plain rfl ?_
    refine .q rfl rfl rfl (val_fieldAddr rfl fa_42_0) ?_
    refine .qs rfl rfl rfl H2 (ld_b rfl ob_3 (.own .here) rfl) ?_
    refine .q rfl rfl rfl (val_neq rfl rfl rfl) ?_
    refine .q rfl rfl rfl (val_move rfl) ?_
    refine .case (t := 22) rfl (fun hs22 => ?_) (fun hs22 => ?_)
    · refine .q rfl rfl rfl (val_fieldAddr rfl fa_42_1) ?_
      refine .qs rfl rfl rfl H2 (ld_b rfl ob_3 (.own .here) rfl) ?_
      refine .q rfl rfl rfl (val_neq rfl rfl rfl) ?_
      refine .q rfl rfl rfl (val_move rfl) ?_
      refine .case (t := 26) rfl (fun hs26 => ?_) (fun hs26 => ?_)
      · refine .no rfl rfl rfl ?_
        refine .no rfl rfl rfl ?_
        refine .no rfl rfl rfl ?_
        refine .q rfl rfl rfl (val_pick_t rfl rfl) ?_
        refine .q rfl rfl rfl (val_pick_t rfl rfl) ?_
        refine .nil (cj ?_)
        refine .cond_t rfl ?_
        refine .seq ?_
        refine .plain rfl ?_
        refine .q rfl rfl rfl (val_assign rfl) ?_
        refine .q rfl rfl rfl (val_assign rfl) ?_
        refine .nil (cj ?_)
        refine .ret (fret (res2 rfl rfl rfl) ?_)
        refine hRR _ _ ⟨_, ⟨_, retv ?_, rfl, trivial⟩, H2.sub .nil⟩
        first | exact (legal_hoist hc0 hc2 hc5 hs26 hc1 (.inl hc9)).symm | exact (legal_hoist hc0 hc2 hc5 hs26 hc1 (.inr hc9)).symm | exact (legal_run1 hc0 hc2 hc3 hle hrun hlast hs72).symm | exact (legal_run0 hc0 hc2 hc3 hle hrun hlast hs72).symm | exact (legal_turn hc0 hc5 hs26 hc1 hall).symm | exact (legal_turn_no hc5 (all_no hx hc7)).symm | (simp_all [legalB]; done) | exact (legal_run_no (by simp_all) hc3 (by simp_all [runB])).symm
      · refine .q rfl rfl rfl (val_fieldAddr rfl fa_42_2) ?_
        refine .qs rfl rfl rfl H2 (ld_b rfl ob_3 (.own .here) rfl) ?_
        refine .q rfl rfl rfl (val_neq rfl rfl rfl) ?_
        refine .q rfl rfl rfl (val_pick_f rfl rfl) ?_
        refine .q rfl rfl rfl (val_pick_t rfl rfl) ?_
        refine .nil (cj ?_)
        refine .cond rfl (fun hc1 => ?_) (fun hc1 => ?_)
        · refine .seq ?_
          refine .plain rfl ?_
          refine .q rfl rfl rfl (val_assign rfl) ?_
          refine .q rfl rfl rfl (val_assign rfl) ?_
          refine .nil (cj ?_)
          refine .ret (fret (res2 rfl rfl rfl) ?_)
          refine hRR _ _ ⟨_, ⟨_, retv ?_, rfl, trivial⟩, H2.sub .nil⟩
          first | exact (legal_hoist hc0 hc2 hc5 hs26 hc1 (.inl hc9)).symm | exact (legal_hoist hc0 hc2 hc5 hs26 hc1 (.inr hc9)).symm | exact (legal_run1 hc0 hc2 hc3 hle hrun hlast hs72).symm | exact (legal_run0 hc0 hc2 hc3 hle hrun hlast hs72).symm | exact (legal_turn hc0 hc5 hs26 hc1 hall).symm | exact (legal_turn_no hc5 (all_no hx hc7)).symm | (simp_all [legalB]; done) | exact (legal_run_no (by simp_all) hc3 (by simp_all [runB])).symm
        · refine .skip (cj ?_)
          refine .seq ?_
          refine .seq ?_
          refine .plain rfl ?_
          refine .q rfl rfl rfl (val_fieldAddr rfl fa_42_0) ?_
          refine .qs rfl rfl rfl H2 (ld_b rfl ob_3 (.own .here) rfl) ?_
          refine .nil (cj ?_)
          refine .block ?_
          refine .seq ?_
          refine .plain rfl ?_
          refine .q rfl rfl rfl (val_eql rfl rfl rfl) ?_
          refine .q rfl rfl rfl (val_assign rfl) ?_
          refine .nil (cj ?_)
          refine .cond rfl (fun hc2 => ?_) (fun hc2 => ?_)
          · refine .seq ?_
            refine .plain rfl ?_
            refine .q rfl rfl rfl (val_assign rfl) ?_
            refine .nil (cj ?_)
            refine .seq ?_
            refine .plain rfl ?_
            refine .q rfl rfl rfl (val_fieldAddr rfl fa_42_3) ?_
            refine .qs rfl rfl rfl H2 (ld_blks rfl ag_40 (.own .here) (by repeat constructor)) ?_
            refine .alloc rfl rfl rfl ze_40 rfl H2 (fun w3 b3 H3 => ⟨fun _ => trivial, ?_⟩)
            refine .store rfl rfl rfl rfl rfl sz_40 rfl H3 .here (by repeat constructor) (fun w4 H4 => ⟨fun _ => trivial, ?_⟩)
            refine .nil (cj ?_)
            refine .seq ?_
            refine .seq ?_
            refine .plain rfl ?_
            refine .q rfl rfl rfl (val_assign rfl) ?_
            refine .nil (cj ?_)
            refine .block ?_
            have H6 := H4.rowNil 38 2
            refine .loop (ι := WI) (fun x => [(0, ptr bg), (3, ptr b1), (6, x.v), (7, ptr b3), (8, i64 (x.i : Int))]) (fun x w' => St w w' X [gblk bg A cap g, garr A g, stepsA] [row x.v 38 2 x.n x.xs, blk b1 (encM m) 42, blk b3 (encP x.p) 40] ∧ x.i ≤ 17 ∧ x.n = 2 * x.i ∧ runB g m.fr m.dir x.i = true ∧ lastP m.fr m.dir x.i = x.p ∧ (x.i = 0 ∨ (x.i : Int) ≤ m.n + 1)) (fun x => 18 - x.i) ⟨0, 0, .slice none 0 0, [], m.fr⟩ (by repeat (first | exact Pick.nil | refine Pick.cons rfl ?_)) ⟨H6.sub (.cons .here (.cons (.there .here) (.cons .here .nil))), Nat.zero_le _, rfl, rfl, rfl, .inl rfl⟩ ?_
            rintro q w5 ⟨H5, hi, hn, hrun, hlast, hle⟩
            refine .seq ?_
            refine .seq ?_
            refine .plain rfl ?_
            refine .q rfl rfl rfl (val_move rfl) ?_
            refine .q rfl rfl rfl (val_fieldAddr rfl fa_42_2) ?_
            refine .qs rfl rfl rfl H5 (ld_b rfl ob_3 (.own (.there .here)) rfl) ?_
            refine .q rfl rfl rfl (val_leq rfl rfl rfl) ?_
            refine .nil (cj ?_)
            refine .cond rfl (fun hc3 => ?_) (fun hc3 => ?_)
            · simp at hc3
              refine .skip (cj ?_)
              refine .seq ?_
              refine .block ?_
              refine .seq ?_
              refine .plain rfl ?_
              refine .q rfl rfl rfl (val_move rfl) ?_
              refine .q rfl rfl rfl (val_fieldAddr rfl fa_42_3) ?_
              refine .qs rfl rfl rfl H5 (ld_blks rfl ag_40 (.own (.there .here)) (by repeat constructor)) ?_
              refine .q rfl rfl rfl (val_fieldAddr rfl fa_42_1) ?_
              refine .qs rfl rfl rfl H5 (ld_b rfl ob_3 (.own (.there .here)) rfl) ?_
              refine .q rfl rfl rfl (val_move rfl) ?_
              refine .call1 rfl rfl rfl en117 (.cons rfl (.cons rfl (.cons rfl (.cons rfl .nil)))) (shift_spec _ _ _ _ _ _) H5 .nil (.ro (.there (.there .here)) .nil) (fun w7 H7 => ⟨fun _ => trivial, ?_⟩)
              refine .q rfl rfl rfl (val_move rfl) ?_
              refine .q rfl rfl rfl (val_extract rfl rfl) ?_
              refine .q rfl rfl rfl (val_extract rfl rfl) ?_
              refine .alloc rfl rfl rfl ze_40 rfl H7 (fun w8 b8 H8 => ⟨fun _ => trivial, ?_⟩)
              refine .store rfl rfl rfl rfl rfl sz_40 rfl H8 .here (by repeat constructor) (fun w9 H9 => ⟨fun _ => trivial, ?_⟩)
              refine .q rfl rfl rfl (val_assign rfl) ?_
              refine .nil (cj ?_)
              refine .seq ?_
              refine .seq ?_
              refine .plain rfl ?_
              refine .q rfl rfl rfl (val_move rfl) ?_
              refine .q rfl rfl rfl (val_not rfl rfl) ?_
              refine .q rfl rfl rfl (val_move rfl) ?_
              refine .case (t := 56) rfl (fun hs56 => ?_) (fun hs56 => ?_)
              · refine .no rfl rfl rfl ?_
                refine .no rfl rfl rfl ?_
                refine .no rfl rfl rfl ?_
                refine .no rfl rfl rfl ?_
                refine .q rfl rfl rfl (val_pick_t rfl rfl) ?_
                refine .nil (cj ?_)
                refine .cond_t rfl ?_
                refine .seq ?_
                refine .plain rfl ?_
                refine .q rfl rfl rfl (val_assign rfl) ?_
                refine .q rfl rfl rfl (val_assign rfl) ?_
                refine .nil (cj ?_)
                refine .ret (fret (res2 rfl rfl rfl) ?_)
                refine hRR _ _ ⟨_, ⟨_, retv ?_, rfl, trivial⟩, H9.sub .nil⟩
                first | exact (legal_hoist hc0 hc2 hc5 hs26 hc1 (.inl hc9)).symm | exact (legal_hoist hc0 hc2 hc5 hs26 hc1 (.inr hc9)).symm | exact (legal_run1 hc0 hc2 hc3 hle hrun hlast hs72).symm | exact (legal_run0 hc0 hc2 hc3 hle hrun hlast hs72).symm | exact (legal_turn hc0 hc5 hs26 hc1 hall).symm | exact (legal_turn_no hc5 (all_no hx hc7)).symm | (simp_all [legalB]; done) | exact (legal_run_no (by simp_all) hc3 (by simp_all [runB])).symm
              · refine .q rfl rfl rfl (val_move rfl) ?_
                refine .qs rfl rfl rfl H9 (ld_w rfl ag_40 (.own .here) rfl) ?_
                refine .call1 rfl rfl rfl en119 (.cons rfl (.cons rfl .nil)) (fits_spec _ _ _ _ (by assumption) _ _ _) H9 .nil (.ro .here (.ro (.there .here) (.ro (.there (.there .here)) .nil))) (fun w10 H10 => ⟨fun _ => trivial, ?_⟩)
                refine .q rfl rfl rfl (val_not rfl rfl) ?_
                refine .q rfl rfl rfl (val_pick_f rfl rfl) ?_
                refine .nil (cj ?_)
                refine .cond rfl (fun hc4 => ?_) (fun hc4 => ?_)
                · refine .seq ?_
                  refine .plain rfl ?_
                  refine .q rfl rfl rfl (val_assign rfl) ?_
                  refine .q rfl rfl rfl (val_assign rfl) ?_
                  refine .nil (cj ?_)
                  refine .ret (fret (res2 rfl rfl rfl) ?_)
                  refine hRR _ _ ⟨_, ⟨_, retv ?_, rfl, trivial⟩, H10.sub .nil⟩
                  first | exact (legal_hoist hc0 hc2 hc5 hs26 hc1 (.inl hc9)).symm | exact (legal_hoist hc0 hc2 hc5 hs26 hc1 (.inr hc9)).symm | exact (legal_run1 hc0 hc2 hc3 hle hrun hlast hs72).symm | exact (legal_run0 hc0 hc2 hc3 hle hrun hlast hs72).symm | exact (legal_turn hc0 hc5 hs26 hc1 hall).symm | exact (legal_turn_no hc5 (all_no hx hc7)).symm | (simp_all [legalB]; done) | exact (legal_run_no (by simp_all) hc3 (by simp_all [runB])).symm
                · obtain ⟨hok, hfit⟩ : shiftOk m.dir q.i = true ∧ fitsB g (shiftR m.fr m.dir q.i) = true := ⟨by simpa using hs56, by simpa using hc4⟩
                  have hi17 : q.i ≤ 16 := by (simp only [shiftOk, withinB, Bool.and_eq_true, decide_eq_true_eq] at hok; omega)
                  have hi' : q.i + 1 ≤ 17 := by omega
                  have hn' : q.n + 2 = 2 * (q.i + 1) := by omega
                  have hrun' : runB g m.fr m.dir (q.i + 1) = true := by simp [runB, hrun, hok, hfit]
                  have hle' : q.i + 1 = 0 ∨ ((q.i + 1 : Nat) : Int) ≤ m.n + 1 := by omega
                  refine .skip (cj ?_)
                  refine .seq ?_
                  refine .plain rfl ?_
                  refine .q rfl rfl rfl (val_move rfl) ?_
                  refine .q rfl rfl rfl (val_move rfl) ?_
                  refine .qs rfl rfl rfl H10 (ld_w rfl ag_40 (.own .here) rfl) ?_
                  refine .callx rfl rfl rfl en120 (.cons rfl (.cons rfl .nil)) (cells_spec _ _ _ _) H10 .nil (.ro (.there (.there .here)) .nil) (fun b11 w11 C11 H11 => ⟨fun _ => trivial, ?_⟩)
                  refine .append rfl rfl rfl ((by kernel_rfl : apB Tryz.prog 22 38 2 16 = true)) rfl rfl H11 (.there (.there .here)) (Has.srcBlk (.own .here) H11) rfl (by simp [Value.oneCell']) (by simp only [maxLen]; omega) (by first | omega | (dsimp only; omega)) (fun v12 w12 H12 => ⟨fun _ => trivial, ?_⟩)
                  refine .q rfl rfl rfl (val_assign rfl) ?_
                  refine .nil (cj ?_)
                  refine .plain rfl ?_
                  refine .qs rfl rfl rfl H12 (ld_w rfl ag_40 (.own (.there (.there .here))) rfl) ?_
                  refine .store rfl rfl rfl rfl rfl sz_40 rfl H12 (.there (.there (.there (.there .here)))) (by repeat constructor) (fun w13 H13 => ⟨fun _ => trivial, ?_⟩)
                  refine .nil (cj ?_)
                  refine .plain rfl ?_
                  refine .q rfl rfl rfl (val_move rfl) ?_
                  refine .q rfl rfl rfl (val_add rfl rfl (z := ((q.i + 1 : Nat) : Int)) (w64_of (by omega))) ?_
                  refine .q rfl rfl rfl (val_assign rfl) ?_
                  refine .nil ?_
                  intro act0 hact0; change Exists _
                  refine ⟨⟨q.i + 1, q.n + 2, _, _, shiftR m.fr m.dir q.i⟩, Pick.kn (by repeat (first | exact Pick.nil | refine Pick.cons rfl ?_)) hact0, ⟨H13.sub (.cons (.there .here) (.cons (.there (.there (.there .here))) (.cons .here .nil))), hi', hn', hrun', rfl, hle'⟩, (show 18 - (q.i + 1) < 18 - q.i by omega)⟩
            · simp at hc3
              refine .exit (cj ?_)
              refine .seq ?_
              refine .drawS 12 (.cons (0, true) (.cons (1, true) (.cons (2, true) (.cons (3, true) (.cons (4, true) (.cons (5, true) (.cons (6, true) (.cons (7, true) (.cons (8, true) (.cons (9, true) (.cons (10, true) (.cons (11, true) .nil)))))))))))) mo (by kernel_rfl) H5 (fun _ _ _ _ _ h => h) (fun w14 H14 => ?_)
              refine .p rfl rfl rfl (val_move rfl) ?_
              refine .p rfl rfl rfl (val_fieldAddr rfl fa_42_2) ?_
              refine .ps rfl rfl rfl rfl (ld_b rfl ob_3 (.own (.there .here)) rfl) ?_
              refine .p rfl rfl rfl (val_geq rfl rfl rfl) ?_
              refine .p rfl rfl rfl (val_move rfl) ?_
              refine .case (t := 72) rfl (fun hs72 => ?_) (fun hs72 => ?_)
              · refine .p rfl rfl rfl (val_fieldAddr rfl fa_42_4) ?_
                refine .ps rfl rfl rfl rfl (ld_blks rfl ag_40 (.own (.there .here)) (by repeat constructor)) ?_
                refine .ps rfl rfl rfl rfl (ld_w rfl ag_40 (.own (.there (.there .here))) rfl) ?_
                refine .p rfl rfl rfl (val_binrun rfl rfl seq_40_eql) ?_
                refine .p rfl rfl rfl (val_pick_t rfl rfl) ?_
                refine .p rfl rfl rfl (val_assign rfl) ?_
                refine .p rfl rfl rfl (val_assign rfl) ?_
                refine .nil (cj ?_)
                refine .ret (fret (res2 rfl rfl rfl) ?_)
                refine hRR _ _ ⟨_, ⟨_, retv ?_, rfl, trivial⟩, H14.sub .nil⟩
                first | exact (legal_hoist hc0 hc2 hc5 hs26 hc1 (.inl hc9)).symm | exact (legal_hoist hc0 hc2 hc5 hs26 hc1 (.inr hc9)).symm | exact (legal_run1 hc0 hc2 hc3 hle hrun hlast hs72).symm | exact (legal_run0 hc0 hc2 hc3 hle hrun hlast hs72).symm | exact (legal_turn hc0 hc5 hs26 hc1 hall).symm | exact (legal_turn_no hc5 (all_no hx hc7)).symm | (simp_all [legalB]; done) | exact (legal_run_no (by simp_all) hc3 (by simp_all [runB])).symm
              · refine .no rfl rfl rfl ?_
                refine .no rfl rfl rfl ?_
                refine .no rfl rfl rfl ?_
                refine .no rfl rfl rfl ?_
                refine .p rfl rfl rfl (val_pick_f rfl rfl) ?_
                refine .p rfl rfl rfl (val_assign rfl) ?_
                refine .p rfl rfl rfl (val_assign rfl) ?_
                refine .nil (cj ?_)
                refine .ret (fret (res2 rfl rfl rfl) ?_)
                refine hRR _ _ ⟨_, ⟨_, retv ?_, rfl, trivial⟩, H14.sub .nil⟩
                first | exact (legal_hoist hc0 hc2 hc5 hs26 hc1 (.inl hc9)).symm | exact (legal_hoist hc0 hc2 hc5 hs26 hc1 (.inr hc9)).symm | exact (legal_run1 hc0 hc2 hc3 hle hrun hlast hs72).symm | exact (legal_run0 hc0 hc2 hc3 hle hrun hlast hs72).symm | exact (legal_turn hc0 hc5 hs26 hc1 hall).symm | exact (legal_turn_no hc5 (all_no hx hc7)).symm | (simp_all [legalB]; done) | exact (legal_run_no (by simp_all) hc3 (by simp_all [runB])).symm
          · refine .seq ?_
            refine .plain rfl ?_
            refine .q rfl rfl rfl (val_eql rfl rfl rfl) ?_
            refine .q rfl rfl rfl (val_assign rfl) ?_
            refine .nil (cj ?_)
            refine .cond rfl (fun hc5 => ?_) (fun hc5 => ?_)
            · refine .seq ?_
              refine .plain rfl ?_
              refine .q rfl rfl rfl (val_fieldAddr rfl fa_42_3) ?_
              refine .q rfl rfl rfl (val_fieldAddr rfl fa_40_0) ?_
              refine .qs rfl rfl rfl H2 (ld_blks rfl ag_38 (.own .here) (by repeat constructor)) ?_
              refine .callx rfl rfl rfl en143 (.cons rfl .nil) (square_spec _ _) H2 .nil .nil (fun b15 w15 C15 H15 => ⟨fun _ => trivial, ?_⟩)
              have H16 := H15.blkArr .here
              refine .q rfl rfl rfl (val_assign rfl) ?_
              refine .nil (cj ?_)
              refine .seq ?_
              refine .seq ?_
              refine .plain rfl ?_
              refine .q rfl rfl rfl (val_move rfl) ?_
              refine .q rfl rfl rfl (val_len Tryz.underlying22 rfl) ?_
              refine .q rfl rfl rfl (val_move rfl) ?_
              refine .nil (cj ?_)
              refine .block ?_
              refine .loop (ι := Nat) (fun i => [(0, ptr bg), (3, ptr b1), (11, .slice (some ⟨b15, 0, none⟩) 4 4), (84, .slice (some ⟨b15, 0, none⟩) 4 4), (85, i64 ((4 : Nat) : Int)), (86, i64 (i : Int))]) (fun i w' => St w w' X [arr (some ⟨b15, 0, none⟩) ((squareL m.fr.x m.fr.y).flatMap encC), gblk bg A cap g, garr A g, stepsA] [blk b1 (encM m) 42] ∧ i ≤ 4 ∧ ((squareL m.fr.x m.fr.y).take i).all (fun c => openB g c.x c.y) = true) (fun i => 5 - i) 0 (by repeat (first | exact Pick.nil | refine Pick.cons rfl ?_)) ⟨H16.sub (.cons .here .nil), by decide, rfl⟩ ?_
              rintro i w6 ⟨H17, hi, hall⟩
              refine .seq ?_
              refine .plain rfl ?_
              refine .q rfl rfl rfl (val_lss rfl rfl rfl) ?_
              refine .nil (cj ?_)
              refine .seq ?_
              refine .cond rfl (fun hc6 => ?_) (fun hc6 => ?_)
              · have hi4 : i < 4 := by simp at hc6; omega
                have hx : (squareL m.fr.x m.fr.y)[i]? = some ((squareL m.fr.x m.fr.y).getD i ⟨0, 0⟩) := by rw [List.getD_eq_getElem?_getD, List.getElem?_eq_getElem (by simpa using hi4)]; rfl
                refine .skip (cj ?_)
                refine .seq ?_
                refine .block ?_
                refine .seq ?_
                refine .plain rfl ?_
                refine .q rfl rfl rfl (val_ix el_22 rfl rfl rfl rfl hi4) ?_
                refine .qs rfl rfl rfl H17 (ld_ela rfl ag_38 .base rfl (.ro .here) encC_len (by first | assumption | rfl)) ?_
                refine .alloc rfl rfl rfl ze_38 rfl H17 (fun w18 b18 H18 => ⟨fun _ => trivial, ?_⟩)
                refine .store rfl rfl rfl rfl rfl sz_38 rfl H18 .here (by repeat constructor) (fun w19 H19 => ⟨fun _ => trivial, ?_⟩)
                refine .nil (cj ?_)
                refine .seq ?_
                refine .plain rfl ?_
                refine .q rfl rfl rfl (val_move rfl) ?_
                refine .qs rfl rfl rfl H19 (ld_w rfl ag_38 (.own .here) rfl) ?_
                refine .call1 rfl rfl rfl en141 (.cons rfl (.cons rfl .nil)) (open_spec _ _ _ _ (by assumption) _ _) H19 .nil (.ro (.there .here) (.ro (.there (.there .here)) .nil)) (fun w20 H20 => ⟨fun _ => trivial, ?_⟩)
                refine .q rfl rfl rfl (val_not rfl rfl) ?_
                refine .nil (cj ?_)
                refine .cond rfl (fun hc7 => ?_) (fun hc7 => ?_)
                · refine .seq ?_
                  refine .plain rfl ?_
                  refine .q rfl rfl rfl (val_assign rfl) ?_
                  refine .q rfl rfl rfl (val_assign rfl) ?_
                  refine .nil (cj ?_)
                  refine .ret (fret (res2 rfl rfl rfl) ?_)
                  refine hRR _ _ ⟨_, ⟨_, retv ?_, rfl, trivial⟩, (H20.rest (.ro (.there .here) (.ro (.there (.there .here)) (.ro (.there (.there (.there .here))) .nil)))).sub .nil⟩
                  first | exact (legal_hoist hc0 hc2 hc5 hs26 hc1 (.inl hc9)).symm | exact (legal_hoist hc0 hc2 hc5 hs26 hc1 (.inr hc9)).symm | exact (legal_run1 hc0 hc2 hc3 hle hrun hlast hs72).symm | exact (legal_run0 hc0 hc2 hc3 hle hrun hlast hs72).symm | exact (legal_turn hc0 hc5 hs26 hc1 hall).symm | exact (legal_turn_no hc5 (all_no hx hc7)).symm | (simp_all [legalB]; done) | exact (legal_run_no (by simp_all) hc3 (by simp_all [runB])).symm
                · refine .skip (cj ?_)
                  refine .plain rfl ?_
                  refine .q rfl rfl rfl (val_add rfl rfl (z := ((i + 1 : Nat) : Int)) (w64_of (by omega))) ?_
                  refine .q rfl rfl rfl (val_move rfl) ?_
                  refine .nil ?_
                  intro act0 hact0; change Exists _
                  refine ⟨(i + 1), Pick.kn (by repeat (first | exact Pick.nil | refine Pick.cons rfl ?_)) hact0, ⟨H20.sub (.cons (.there .here) .nil), by omega, all_take hall hx (by simpa using hc7)⟩, (by omega)⟩
              · have hi4 : i = 4 := by simp at hc6; omega
                subst hi4
                refine .exit (cj ?_)
                refine .seq ?_
                refine .drawS 14 (.cons (0, true) (.cons (1, true) (.cons (2, true) (.cons (3, true) (.cons (4, true) (.cons (5, true) (.cons (6, true) (.cons (7, true) (.cons (8, true) (.cons (9, true) (.cons (10, true) (.cons (11, true) (.cons (12, true) (.cons (13, true) .nil)))))))))))))) mo (by kernel_rfl) H17 (fun _ _ _ _ _ h => h) (fun w21 H21 => ?_)
                refine .p rfl rfl rfl (val_move rfl) ?_
                refine .p rfl rfl rfl (val_fieldAddr rfl fa_42_4) ?_
                refine .ps rfl rfl rfl rfl (ld_blks rfl ag_40 (.own .here) (by repeat constructor)) ?_
                refine .p rfl rfl rfl (val_fieldAddr rfl fa_42_3) ?_
                refine .p rfl rfl rfl (val_fieldAddr rfl fa_40_0) ?_
                refine .ps rfl rfl rfl rfl (ld_blks rfl ag_38 (.own .here) (by repeat constructor)) ?_
                refine .p rfl rfl rfl (val_fieldAddr rfl fa_42_3) ?_
                refine .p rfl rfl rfl (val_fieldAddr rfl fa_40_1) ?_
                refine .ps rfl rfl rfl rfl (ld_b rfl ob_4 (.own .here) rfl) ?_
                refine .p rfl rfl rfl (val_not rfl rfl) ?_
                refine .p rfl rfl rfl (val_mk (.cons rfl (.cons rfl .nil)) (mk_40_0_1 _ _ _)) ?_
                refine .p rfl rfl rfl (val_binrun rfl rfl seq_40_eql) ?_
                refine .p rfl rfl rfl (val_assign rfl) ?_
                refine .p rfl rfl rfl (val_assign rfl) ?_
                refine .nil (cj ?_)
                refine .ret (fret (res2 rfl rfl rfl) ?_)
                refine hRR _ _ ⟨_, ⟨_, retv ?_, rfl, trivial⟩, (H21.rest (.ro (.there .here) (.ro (.there (.there .here)) (.ro (.there (.there (.there .here))) .nil)))).sub .nil⟩
                first | exact (legal_hoist hc0 hc2 hc5 hs26 hc1 (.inl hc9)).symm | exact (legal_hoist hc0 hc2 hc5 hs26 hc1 (.inr hc9)).symm | exact (legal_run1 hc0 hc2 hc3 hle hrun hlast hs72).symm | exact (legal_run0 hc0 hc2 hc3 hle hrun hlast hs72).symm | exact (legal_turn hc0 hc5 hs26 hc1 hall).symm | exact (legal_turn_no hc5 (all_no hx hc7)).symm | (simp_all [legalB]; done) | exact (legal_run_no (by simp_all) hc3 (by simp_all [runB])).symm
            · refine .seq ?_
              refine .seq ?_
              refine .plain rfl ?_
              refine .q rfl rfl rfl (val_eql rfl rfl rfl) ?_
              refine .q rfl rfl rfl (val_assign rfl) ?_
              refine .nil (cj ?_)
              refine .cond rfl (fun hc8 => ?_) (fun hc8 => ?_)
              · refine .skip (cj ?_)
                refine .cond rfl (fun hc9 => ?_) (fun hc9 => ?_)
                · refine .seq ?_
                  refine .drawS 11 (.cons (0, true) (.cons (1, true) (.cons (2, true) (.cons (4, true) (.cons (5, true) (.cons (6, true) (.cons (7, true) (.cons (8, true) (.cons (3, false) (.cons (9, true) (.cons (10, true) .nil))))))))))) mo (by kernel_rfl) H2 (fun _ _ _ _ _ h => h) (fun w22 H22 => ?_)
                  refine .p rfl rfl rfl (val_move rfl) ?_
                  refine .p rfl rfl rfl (val_fieldAddr rfl fa_42_3) ?_
                  refine .ps rfl rfl rfl rfl (ld_blks rfl ag_40 (.own .here) (by repeat constructor)) ?_
                  refine .p rfl rfl rfl (val_fieldAddr rfl fa_42_4) ?_
                  refine .ps rfl rfl rfl rfl (ld_blks rfl ag_40 (.own .here) (by repeat constructor)) ?_
                  refine .p rfl rfl rfl (val_fieldAddr rfl fa_42_3) ?_
                  refine .ps rfl rfl rfl rfl (ld_blks rfl ag_40 (.own .here) (by repeat constructor)) ?_
                  refine .p rfl rfl rfl (val_binrun rfl rfl seq_40_eql) ?_
                  refine .callx rfl rfl rfl en120 (.cons rfl (.cons rfl .nil)) (cells_spec _ _ _ _) H22 .nil (.ro (.there (.there .here)) .nil) (fun b23 w23 C23 H23 => ⟨fun _ => (H23.sub (.cons (.there .here) .nil)), ?_⟩)
                  refine .p rfl rfl rfl (val_assign rfl) ?_
                  refine .p rfl rfl rfl (val_assign rfl) ?_
                  refine .nil (cj ?_)
                  refine .ret (fret (res2 rfl rfl rfl) ?_)
                  refine hRR _ _ ⟨_, ⟨_, retv ?_, rfl, trivial⟩, H23.sub .nil⟩
                  first | exact (legal_hoist hc0 hc2 hc5 hs26 hc1 (.inl hc9)).symm | exact (legal_hoist hc0 hc2 hc5 hs26 hc1 (.inr hc9)).symm | exact (legal_run1 hc0 hc2 hc3 hle hrun hlast hs72).symm | exact (legal_run0 hc0 hc2 hc3 hle hrun hlast hs72).symm | exact (legal_turn hc0 hc5 hs26 hc1 hall).symm | exact (legal_turn_no hc5 (all_no hx hc7)).symm | (simp_all [legalB]; done) | exact (legal_run_no (by simp_all) hc3 (by simp_all [runB])).symm
                · refine .skip (cj ?_)
                  refine .seq ?_
                  refine .plain rfl ?_
                  refine .q rfl rfl rfl (val_assign rfl) ?_
                  refine .q rfl rfl rfl (val_assign rfl) ?_
                  refine .nil (cj ?_)
                  refine .ret (fret (res2 rfl rfl rfl) ?_)
                  refine hRR _ _ ⟨_, ⟨_, retv ?_, rfl, trivial⟩, H2.sub .nil⟩
                  first | exact (legal_hoist hc0 hc2 hc5 hs26 hc1 (.inl hc9)).symm | exact (legal_hoist hc0 hc2 hc5 hs26 hc1 (.inr hc9)).symm | exact (legal_run1 hc0 hc2 hc3 hle hrun hlast hs72).symm | exact (legal_run0 hc0 hc2 hc3 hle hrun hlast hs72).symm | exact (legal_turn hc0 hc5 hs26 hc1 hall).symm | exact (legal_turn_no hc5 (all_no hx hc7)).symm | (simp_all [legalB]; done) | exact (legal_run_no (by simp_all) hc3 (by simp_all [runB])).symm
              · refine .plain rfl ?_
                refine .q rfl rfl rfl (val_eql rfl rfl rfl) ?_
                refine .q rfl rfl rfl (val_assign rfl) ?_
                refine .nil (cj ?_)
                refine .cond rfl (fun hc9 => ?_) (fun hc9 => ?_)
                · refine .seq ?_
                  refine .drawS 11 (.cons (0, true) (.cons (1, true) (.cons (2, true) (.cons (4, true) (.cons (5, true) (.cons (6, true) (.cons (7, true) (.cons (8, true) (.cons (3, false) (.cons (9, true) (.cons (10, true) .nil))))))))))) mo (by kernel_rfl) H2 (fun _ _ _ _ _ h => h) (fun w24 H24 => ?_)
                  refine .p rfl rfl rfl (val_move rfl) ?_
                  refine .p rfl rfl rfl (val_fieldAddr rfl fa_42_3) ?_
                  refine .ps rfl rfl rfl rfl (ld_blks rfl ag_40 (.own .here) (by repeat constructor)) ?_
                  refine .p rfl rfl rfl (val_fieldAddr rfl fa_42_4) ?_
                  refine .ps rfl rfl rfl rfl (ld_blks rfl ag_40 (.own .here) (by repeat constructor)) ?_
                  refine .p rfl rfl rfl (val_fieldAddr rfl fa_42_3) ?_
                  refine .ps rfl rfl rfl rfl (ld_blks rfl ag_40 (.own .here) (by repeat constructor)) ?_
                  refine .p rfl rfl rfl (val_binrun rfl rfl seq_40_eql) ?_
                  refine .callx rfl rfl rfl en120 (.cons rfl (.cons rfl .nil)) (cells_spec _ _ _ _) H24 .nil (.ro (.there (.there .here)) .nil) (fun b25 w25 C25 H25 => ⟨fun _ => (H25.sub (.cons (.there .here) .nil)), ?_⟩)
                  refine .p rfl rfl rfl (val_assign rfl) ?_
                  refine .p rfl rfl rfl (val_assign rfl) ?_
                  refine .nil (cj ?_)
                  refine .ret (fret (res2 rfl rfl rfl) ?_)
                  refine hRR _ _ ⟨_, ⟨_, retv ?_, rfl, trivial⟩, H25.sub .nil⟩
                  first | exact (legal_hoist hc0 hc2 hc5 hs26 hc1 (.inl hc9)).symm | exact (legal_hoist hc0 hc2 hc5 hs26 hc1 (.inr hc9)).symm | exact (legal_run1 hc0 hc2 hc3 hle hrun hlast hs72).symm | exact (legal_run0 hc0 hc2 hc3 hle hrun hlast hs72).symm | exact (legal_turn hc0 hc5 hs26 hc1 hall).symm | exact (legal_turn_no hc5 (all_no hx hc7)).symm | (simp_all [legalB]; done) | exact (legal_run_no (by simp_all) hc3 (by simp_all [runB])).symm
                · refine .skip (cj ?_)
                  refine .seq ?_
                  refine .plain rfl ?_
                  refine .q rfl rfl rfl (val_assign rfl) ?_
                  refine .q rfl rfl rfl (val_assign rfl) ?_
                  refine .nil (cj ?_)
                  refine .ret (fret (res2 rfl rfl rfl) ?_)
                  refine hRR _ _ ⟨_, ⟨_, retv ?_, rfl, trivial⟩, H2.sub .nil⟩
                  first | exact (legal_hoist hc0 hc2 hc5 hs26 hc1 (.inl hc9)).symm | exact (legal_hoist hc0 hc2 hc5 hs26 hc1 (.inr hc9)).symm | exact (legal_run1 hc0 hc2 hc3 hle hrun hlast hs72).symm | exact (legal_run0 hc0 hc2 hc3 hle hrun hlast hs72).symm | exact (legal_turn hc0 hc5 hs26 hc1 hall).symm | exact (legal_turn_no hc5 (all_no hx hc7)).symm | (simp_all [legalB]; done) | exact (legal_run_no (by simp_all) hc3 (by simp_all [runB])).symm
    · refine .no rfl rfl rfl ?_
      refine .no rfl rfl rfl ?_
      refine .no rfl rfl rfl ?_
      refine .no rfl rfl rfl ?_
      refine .no rfl rfl rfl ?_
      refine .no rfl rfl rfl ?_
      refine .no rfl rfl rfl ?_
      refine .no rfl rfl rfl ?_
      refine .q rfl rfl rfl (val_pick_f rfl rfl) ?_
      refine .nil (cj ?_)
      refine .cond_f rfl ?_
      refine .skip (cj ?_)
      refine .seq ?_
      refine .seq ?_
      refine .plain rfl ?_
      refine .q rfl rfl rfl (val_fieldAddr rfl fa_42_0) ?_
      refine .qs rfl rfl rfl H2 (ld_b rfl ob_3 (.own .here) rfl) ?_
      refine .nil (cj ?_)
      refine .block ?_
      refine .seq ?_
      refine .plain rfl ?_
      refine .q rfl rfl rfl (val_eql rfl rfl rfl) ?_
      refine .q rfl rfl rfl (val_assign rfl) ?_
      refine .nil (cj ?_)
      refine .cond rfl (fun hc2 => ?_) (fun hc2 => ?_)
      · refine .seq ?_
        refine .plain rfl ?_
        refine .q rfl rfl rfl (val_assign rfl) ?_
        refine .nil (cj ?_)
        refine .seq ?_
        refine .plain rfl ?_
        refine .q rfl rfl rfl (val_fieldAddr rfl fa_42_3) ?_
        refine .qs rfl rfl rfl H2 (ld_blks rfl ag_40 (.own .here) (by repeat constructor)) ?_
        refine .alloc rfl rfl rfl ze_40 rfl H2 (fun w26 b26 H26 => ⟨fun _ => trivial, ?_⟩)
        refine .store rfl rfl rfl rfl rfl sz_40 rfl H26 .here (by repeat constructor) (fun w27 H27 => ⟨fun _ => trivial, ?_⟩)
        refine .nil (cj ?_)
        refine .seq ?_
        refine .seq ?_
        refine .plain rfl ?_
        refine .q rfl rfl rfl (val_assign rfl) ?_
        refine .nil (cj ?_)
        refine .block ?_
        have H29 := H27.rowNil 38 2
        refine .loop (ι := WI) (fun x => [(0, ptr bg), (3, ptr b1), (6, x.v), (7, ptr b26), (8, i64 (x.i : Int))]) (fun x w' => St w w' X [gblk bg A cap g, garr A g, stepsA] [row x.v 38 2 x.n x.xs, blk b1 (encM m) 42, blk b26 (encP x.p) 40] ∧ x.i ≤ 17 ∧ x.n = 2 * x.i ∧ runB g m.fr m.dir x.i = true ∧ lastP m.fr m.dir x.i = x.p ∧ (x.i = 0 ∨ (x.i : Int) ≤ m.n + 1)) (fun x => 18 - x.i) ⟨0, 0, .slice none 0 0, [], m.fr⟩ (by repeat (first | exact Pick.nil | refine Pick.cons rfl ?_)) ⟨H29.sub (.cons .here (.cons (.there .here) (.cons .here .nil))), Nat.zero_le _, rfl, rfl, rfl, .inl rfl⟩ ?_
        rintro q w5 ⟨H28, hi, hn, hrun, hlast, hle⟩
        refine .seq ?_
        refine .seq ?_
        refine .plain rfl ?_
        refine .q rfl rfl rfl (val_move rfl) ?_
        refine .q rfl rfl rfl (val_fieldAddr rfl fa_42_2) ?_
        refine .qs rfl rfl rfl H28 (ld_b rfl ob_3 (.own (.there .here)) rfl) ?_
        refine .q rfl rfl rfl (val_leq rfl rfl rfl) ?_
        refine .nil (cj ?_)
        refine .cond rfl (fun hc3 => ?_) (fun hc3 => ?_)
        · simp at hc3
          refine .skip (cj ?_)
          refine .seq ?_
          refine .block ?_
          refine .seq ?_
          refine .plain rfl ?_
          refine .q rfl rfl rfl (val_move rfl) ?_
          refine .q rfl rfl rfl (val_fieldAddr rfl fa_42_3) ?_
          refine .qs rfl rfl rfl H28 (ld_blks rfl ag_40 (.own (.there .here)) (by repeat constructor)) ?_
          refine .q rfl rfl rfl (val_fieldAddr rfl fa_42_1) ?_
          refine .qs rfl rfl rfl H28 (ld_b rfl ob_3 (.own (.there .here)) rfl) ?_
          refine .q rfl rfl rfl (val_move rfl) ?_
          refine .call1 rfl rfl rfl en117 (.cons rfl (.cons rfl (.cons rfl (.cons rfl .nil)))) (shift_spec _ _ _ _ _ _) H28 .nil (.ro (.there (.there .here)) .nil) (fun w30 H30 => ⟨fun _ => trivial, ?_⟩)
          refine .q rfl rfl rfl (val_move rfl) ?_
          refine .q rfl rfl rfl (val_extract rfl rfl) ?_
          refine .q rfl rfl rfl (val_extract rfl rfl) ?_
          refine .alloc rfl rfl rfl ze_40 rfl H30 (fun w31 b31 H31 => ⟨fun _ => trivial, ?_⟩)
          refine .store rfl rfl rfl rfl rfl sz_40 rfl H31 .here (by repeat constructor) (fun w32 H32 => ⟨fun _ => trivial, ?_⟩)
          refine .q rfl rfl rfl (val_assign rfl) ?_
          refine .nil (cj ?_)
          refine .seq ?_
          refine .seq ?_
          refine .plain rfl ?_
          refine .q rfl rfl rfl (val_move rfl) ?_
          refine .q rfl rfl rfl (val_not rfl rfl) ?_
          refine .q rfl rfl rfl (val_move rfl) ?_
          refine .case (t := 56) rfl (fun hs56 => ?_) (fun hs56 => ?_)
          · refine .no rfl rfl rfl ?_
            refine .no rfl rfl rfl ?_
            refine .no rfl rfl rfl ?_
            refine .no rfl rfl rfl ?_
            refine .q rfl rfl rfl (val_pick_t rfl rfl) ?_
            refine .nil (cj ?_)
            refine .cond_t rfl ?_
            refine .seq ?_
            refine .plain rfl ?_
            refine .q rfl rfl rfl (val_assign rfl) ?_
            refine .q rfl rfl rfl (val_assign rfl) ?_
            refine .nil (cj ?_)
            refine .ret (fret (res2 rfl rfl rfl) ?_)
            refine hRR _ _ ⟨_, ⟨_, retv ?_, rfl, trivial⟩, H32.sub .nil⟩
            first | exact (legal_hoist hc0 hc2 hc5 hs26 hc1 (.inl hc9)).symm | exact (legal_hoist hc0 hc2 hc5 hs26 hc1 (.inr hc9)).symm | exact (legal_run1 hc0 hc2 hc3 hle hrun hlast hs72).symm | exact (legal_run0 hc0 hc2 hc3 hle hrun hlast hs72).symm | exact (legal_turn hc0 hc5 hs26 hc1 hall).symm | exact (legal_turn_no hc5 (all_no hx hc7)).symm | (simp_all [legalB]; done) | exact (legal_run_no (by simp_all) hc3 (by simp_all [runB])).symm
          · refine .q rfl rfl rfl (val_move rfl) ?_
            refine .qs rfl rfl rfl H32 (ld_w rfl ag_40 (.own .here) rfl) ?_
            refine .call1 rfl rfl rfl en119 (.cons rfl (.cons rfl .nil)) (fits_spec _ _ _ _ (by assumption) _ _ _) H32 .nil (.ro .here (.ro (.there .here) (.ro (.there (.there .here)) .nil))) (fun w33 H33 => ⟨fun _ => trivial, ?_⟩)
            refine .q rfl rfl rfl (val_not rfl rfl) ?_
            refine .q rfl rfl rfl (val_pick_f rfl rfl) ?_
            refine .nil (cj ?_)
            refine .cond rfl (fun hc4 => ?_) (fun hc4 => ?_)
            · refine .seq ?_
              refine .plain rfl ?_
              refine .q rfl rfl rfl (val_assign rfl) ?_
              refine .q rfl rfl rfl (val_assign rfl) ?_
              refine .nil (cj ?_)
              refine .ret (fret (res2 rfl rfl rfl) ?_)
              refine hRR _ _ ⟨_, ⟨_, retv ?_, rfl, trivial⟩, H33.sub .nil⟩
              first | exact (legal_hoist hc0 hc2 hc5 hs26 hc1 (.inl hc9)).symm | exact (legal_hoist hc0 hc2 hc5 hs26 hc1 (.inr hc9)).symm | exact (legal_run1 hc0 hc2 hc3 hle hrun hlast hs72).symm | exact (legal_run0 hc0 hc2 hc3 hle hrun hlast hs72).symm | exact (legal_turn hc0 hc5 hs26 hc1 hall).symm | exact (legal_turn_no hc5 (all_no hx hc7)).symm | (simp_all [legalB]; done) | exact (legal_run_no (by simp_all) hc3 (by simp_all [runB])).symm
            · obtain ⟨hok, hfit⟩ : shiftOk m.dir q.i = true ∧ fitsB g (shiftR m.fr m.dir q.i) = true := ⟨by simpa using hs56, by simpa using hc4⟩
              have hi17 : q.i ≤ 16 := by (simp only [shiftOk, withinB, Bool.and_eq_true, decide_eq_true_eq] at hok; omega)
              have hi' : q.i + 1 ≤ 17 := by omega
              have hn' : q.n + 2 = 2 * (q.i + 1) := by omega
              have hrun' : runB g m.fr m.dir (q.i + 1) = true := by simp [runB, hrun, hok, hfit]
              have hle' : q.i + 1 = 0 ∨ ((q.i + 1 : Nat) : Int) ≤ m.n + 1 := by omega
              refine .skip (cj ?_)
              refine .seq ?_
              refine .plain rfl ?_
              refine .q rfl rfl rfl (val_move rfl) ?_
              refine .q rfl rfl rfl (val_move rfl) ?_
              refine .qs rfl rfl rfl H33 (ld_w rfl ag_40 (.own .here) rfl) ?_
              refine .callx rfl rfl rfl en120 (.cons rfl (.cons rfl .nil)) (cells_spec _ _ _ _) H33 .nil (.ro (.there (.there .here)) .nil) (fun b34 w34 C34 H34 => ⟨fun _ => trivial, ?_⟩)
              refine .append rfl rfl rfl ((by kernel_rfl : apB Tryz.prog 22 38 2 16 = true)) rfl rfl H34 (.there (.there .here)) (Has.srcBlk (.own .here) H34) rfl (by simp [Value.oneCell']) (by simp only [maxLen]; omega) (by first | omega | (dsimp only; omega)) (fun v35 w35 H35 => ⟨fun _ => trivial, ?_⟩)
              refine .q rfl rfl rfl (val_assign rfl) ?_
              refine .nil (cj ?_)
              refine .plain rfl ?_
              refine .qs rfl rfl rfl H35 (ld_w rfl ag_40 (.own (.there (.there .here))) rfl) ?_
              refine .store rfl rfl rfl rfl rfl sz_40 rfl H35 (.there (.there (.there (.there .here)))) (by repeat constructor) (fun w36 H36 => ⟨fun _ => trivial, ?_⟩)
              refine .nil (cj ?_)
              refine .plain rfl ?_
              refine .q rfl rfl rfl (val_move rfl) ?_
              refine .q rfl rfl rfl (val_add rfl rfl (z := ((q.i + 1 : Nat) : Int)) (w64_of (by omega))) ?_
              refine .q rfl rfl rfl (val_assign rfl) ?_
              refine .nil ?_
              intro act0 hact0; change Exists _
              refine ⟨⟨q.i + 1, q.n + 2, _, _, shiftR m.fr m.dir q.i⟩, Pick.kn (by repeat (first | exact Pick.nil | refine Pick.cons rfl ?_)) hact0, ⟨H36.sub (.cons (.there .here) (.cons (.there (.there (.there .here))) (.cons .here .nil))), hi', hn', hrun', rfl, hle'⟩, (show 18 - (q.i + 1) < 18 - q.i by omega)⟩
        · simp at hc3
          refine .exit (cj ?_)
          refine .seq ?_
          refine .drawS 12 (.cons (0, true) (.cons (1, true) (.cons (2, true) (.cons (3, true) (.cons (4, true) (.cons (5, true) (.cons (6, true) (.cons (7, true) (.cons (8, true) (.cons (9, true) (.cons (10, true) (.cons (11, true) .nil)))))))))))) mo (by kernel_rfl) H28 (fun _ _ _ _ _ h => h) (fun w37 H37 => ?_)
          refine .p rfl rfl rfl (val_move rfl) ?_
          refine .p rfl rfl rfl (val_fieldAddr rfl fa_42_2) ?_
          refine .ps rfl rfl rfl rfl (ld_b rfl ob_3 (.own (.there .here)) rfl) ?_
          refine .p rfl rfl rfl (val_geq rfl rfl rfl) ?_
          refine .p rfl rfl rfl (val_move rfl) ?_
          refine .case (t := 72) rfl (fun hs72 => ?_) (fun hs72 => ?_)
          · refine .p rfl rfl rfl (val_fieldAddr rfl fa_42_4) ?_
            refine .ps rfl rfl rfl rfl (ld_blks rfl ag_40 (.own (.there .here)) (by repeat constructor)) ?_
            refine .ps rfl rfl rfl rfl (ld_w rfl ag_40 (.own (.there (.there .here))) rfl) ?_
            refine .p rfl rfl rfl (val_binrun rfl rfl seq_40_eql) ?_
            refine .p rfl rfl rfl (val_pick_t rfl rfl) ?_
            refine .p rfl rfl rfl (val_assign rfl) ?_
            refine .p rfl rfl rfl (val_assign rfl) ?_
            refine .nil (cj ?_)
            refine .ret (fret (res2 rfl rfl rfl) ?_)
            refine hRR _ _ ⟨_, ⟨_, retv ?_, rfl, trivial⟩, H37.sub .nil⟩
            first | exact (legal_hoist hc0 hc2 hc5 hs26 hc1 (.inl hc9)).symm | exact (legal_hoist hc0 hc2 hc5 hs26 hc1 (.inr hc9)).symm | exact (legal_run1 hc0 hc2 hc3 hle hrun hlast hs72).symm | exact (legal_run0 hc0 hc2 hc3 hle hrun hlast hs72).symm | exact (legal_turn hc0 hc5 hs26 hc1 hall).symm | exact (legal_turn_no hc5 (all_no hx hc7)).symm | (simp_all [legalB]; done) | exact (legal_run_no (by simp_all) hc3 (by simp_all [runB])).symm
          · refine .no rfl rfl rfl ?_
            refine .no rfl rfl rfl ?_
            refine .no rfl rfl rfl ?_
            refine .no rfl rfl rfl ?_
            refine .p rfl rfl rfl (val_pick_f rfl rfl) ?_
            refine .p rfl rfl rfl (val_assign rfl) ?_
            refine .p rfl rfl rfl (val_assign rfl) ?_
            refine .nil (cj ?_)
            refine .ret (fret (res2 rfl rfl rfl) ?_)
            refine hRR _ _ ⟨_, ⟨_, retv ?_, rfl, trivial⟩, H37.sub .nil⟩
            first | exact (legal_hoist hc0 hc2 hc5 hs26 hc1 (.inl hc9)).symm | exact (legal_hoist hc0 hc2 hc5 hs26 hc1 (.inr hc9)).symm | exact (legal_run1 hc0 hc2 hc3 hle hrun hlast hs72).symm | exact (legal_run0 hc0 hc2 hc3 hle hrun hlast hs72).symm | exact (legal_turn hc0 hc5 hs26 hc1 hall).symm | exact (legal_turn_no hc5 (all_no hx hc7)).symm | (simp_all [legalB]; done) | exact (legal_run_no (by simp_all) hc3 (by simp_all [runB])).symm
      · refine .seq ?_
        refine .plain rfl ?_
        refine .q rfl rfl rfl (val_eql rfl rfl rfl) ?_
        refine .q rfl rfl rfl (val_assign rfl) ?_
        refine .nil (cj ?_)
        refine .cond rfl (fun hc5 => ?_) (fun hc5 => ?_)
        · refine .seq ?_
          refine .plain rfl ?_
          refine .q rfl rfl rfl (val_fieldAddr rfl fa_42_3) ?_
          refine .q rfl rfl rfl (val_fieldAddr rfl fa_40_0) ?_
          refine .qs rfl rfl rfl H2 (ld_blks rfl ag_38 (.own .here) (by repeat constructor)) ?_
          refine .callx rfl rfl rfl en143 (.cons rfl .nil) (square_spec _ _) H2 .nil .nil (fun b38 w38 C38 H38 => ⟨fun _ => trivial, ?_⟩)
          have H39 := H38.blkArr .here
          refine .q rfl rfl rfl (val_assign rfl) ?_
          refine .nil (cj ?_)
          refine .seq ?_
          refine .seq ?_
          refine .plain rfl ?_
          refine .q rfl rfl rfl (val_move rfl) ?_
          refine .q rfl rfl rfl (val_len Tryz.underlying22 rfl) ?_
          refine .q rfl rfl rfl (val_move rfl) ?_
          refine .nil (cj ?_)
          refine .block ?_
          refine .loop (ι := Nat) (fun i => [(0, ptr bg), (3, ptr b1), (11, .slice (some ⟨b38, 0, none⟩) 4 4), (84, .slice (some ⟨b38, 0, none⟩) 4 4), (85, i64 ((4 : Nat) : Int)), (86, i64 (i : Int))]) (fun i w' => St w w' X [arr (some ⟨b38, 0, none⟩) ((squareL m.fr.x m.fr.y).flatMap encC), gblk bg A cap g, garr A g, stepsA] [blk b1 (encM m) 42] ∧ i ≤ 4 ∧ ((squareL m.fr.x m.fr.y).take i).all (fun c => openB g c.x c.y) = true) (fun i => 5 - i) 0 (by repeat (first | exact Pick.nil | refine Pick.cons rfl ?_)) ⟨H39.sub (.cons .here .nil), by decide, rfl⟩ ?_
          rintro i w6 ⟨H40, hi, hall⟩
          refine .seq ?_
          refine .plain rfl ?_
          refine .q rfl rfl rfl (val_lss rfl rfl rfl) ?_
          refine .nil (cj ?_)
          refine .seq ?_
          refine .cond rfl (fun hc6 => ?_) (fun hc6 => ?_)
          · have hi4 : i < 4 := by simp at hc6; omega
            have hx : (squareL m.fr.x m.fr.y)[i]? = some ((squareL m.fr.x m.fr.y).getD i ⟨0, 0⟩) := by rw [List.getD_eq_getElem?_getD, List.getElem?_eq_getElem (by simpa using hi4)]; rfl
            refine .skip (cj ?_)
            refine .seq ?_
            refine .block ?_
            refine .seq ?_
            refine .plain rfl ?_
            refine .q rfl rfl rfl (val_ix el_22 rfl rfl rfl rfl hi4) ?_
            refine .qs rfl rfl rfl H40 (ld_ela rfl ag_38 .base rfl (.ro .here) encC_len (by first | assumption | rfl)) ?_
            refine .alloc rfl rfl rfl ze_38 rfl H40 (fun w41 b41 H41 => ⟨fun _ => trivial, ?_⟩)
            refine .store rfl rfl rfl rfl rfl sz_38 rfl H41 .here (by repeat constructor) (fun w42 H42 => ⟨fun _ => trivial, ?_⟩)
            refine .nil (cj ?_)
            refine .seq ?_
            refine .plain rfl ?_
            refine .q rfl rfl rfl (val_move rfl) ?_
            refine .qs rfl rfl rfl H42 (ld_w rfl ag_38 (.own .here) rfl) ?_
            refine .call1 rfl rfl rfl en141 (.cons rfl (.cons rfl .nil)) (open_spec _ _ _ _ (by assumption) _ _) H42 .nil (.ro (.there .here) (.ro (.there (.there .here)) .nil)) (fun w43 H43 => ⟨fun _ => trivial, ?_⟩)
            refine .q rfl rfl rfl (val_not rfl rfl) ?_
            refine .nil (cj ?_)
            refine .cond rfl (fun hc7 => ?_) (fun hc7 => ?_)
            · refine .seq ?_
              refine .plain rfl ?_
              refine .q rfl rfl rfl (val_assign rfl) ?_
              refine .q rfl rfl rfl (val_assign rfl) ?_
              refine .nil (cj ?_)
              refine .ret (fret (res2 rfl rfl rfl) ?_)
              refine hRR _ _ ⟨_, ⟨_, retv ?_, rfl, trivial⟩, (H43.rest (.ro (.there .here) (.ro (.there (.there .here)) (.ro (.there (.there (.there .here))) .nil)))).sub .nil⟩
              first | exact (legal_hoist hc0 hc2 hc5 hs26 hc1 (.inl hc9)).symm | exact (legal_hoist hc0 hc2 hc5 hs26 hc1 (.inr hc9)).symm | exact (legal_run1 hc0 hc2 hc3 hle hrun hlast hs72).symm | exact (legal_run0 hc0 hc2 hc3 hle hrun hlast hs72).symm | exact (legal_turn hc0 hc5 hs26 hc1 hall).symm | exact (legal_turn_no hc5 (all_no hx hc7)).symm | (simp_all [legalB]; done) | exact (legal_run_no (by simp_all) hc3 (by simp_all [runB])).symm
            · refine .skip (cj ?_)
              refine .plain rfl ?_
              refine .q rfl rfl rfl (val_add rfl rfl (z := ((i + 1 : Nat) : Int)) (w64_of (by omega))) ?_
              refine .q rfl rfl rfl (val_move rfl) ?_
              refine .nil ?_
              intro act0 hact0; change Exists _
              refine ⟨(i + 1), Pick.kn (by repeat (first | exact Pick.nil | refine Pick.cons rfl ?_)) hact0, ⟨H43.sub (.cons (.there .here) .nil), by omega, all_take hall hx (by simpa using hc7)⟩, (by omega)⟩
          · have hi4 : i = 4 := by simp at hc6; omega
            subst hi4
            refine .exit (cj ?_)
            refine .seq ?_
            refine .drawS 14 (.cons (0, true) (.cons (1, true) (.cons (2, true) (.cons (3, true) (.cons (4, true) (.cons (5, true) (.cons (6, true) (.cons (7, true) (.cons (8, true) (.cons (9, true) (.cons (10, true) (.cons (11, true) (.cons (12, true) (.cons (13, true) .nil)))))))))))))) mo (by kernel_rfl) H40 (fun _ _ _ _ _ h => h) (fun w44 H44 => ?_)
            refine .p rfl rfl rfl (val_move rfl) ?_
            refine .p rfl rfl rfl (val_fieldAddr rfl fa_42_4) ?_
            refine .ps rfl rfl rfl rfl (ld_blks rfl ag_40 (.own .here) (by repeat constructor)) ?_
            refine .p rfl rfl rfl (val_fieldAddr rfl fa_42_3) ?_
            refine .p rfl rfl rfl (val_fieldAddr rfl fa_40_0) ?_
            refine .ps rfl rfl rfl rfl (ld_blks rfl ag_38 (.own .here) (by repeat constructor)) ?_
            refine .p rfl rfl rfl (val_fieldAddr rfl fa_42_3) ?_
            refine .p rfl rfl rfl (val_fieldAddr rfl fa_40_1) ?_
            refine .ps rfl rfl rfl rfl (ld_b rfl ob_4 (.own .here) rfl) ?_
            refine .p rfl rfl rfl (val_not rfl rfl) ?_
            refine .p rfl rfl rfl (val_mk (.cons rfl (.cons rfl .nil)) (mk_40_0_1 _ _ _)) ?_
            refine .p rfl rfl rfl (val_binrun rfl rfl seq_40_eql) ?_
            refine .p rfl rfl rfl (val_assign rfl) ?_
            refine .p rfl rfl rfl (val_assign rfl) ?_
            refine .nil (cj ?_)
            refine .ret (fret (res2 rfl rfl rfl) ?_)
            refine hRR _ _ ⟨_, ⟨_, retv ?_, rfl, trivial⟩, (H44.rest (.ro (.there .here) (.ro (.there (.there .here)) (.ro (.there (.there (.there .here))) .nil)))).sub .nil⟩
            first | exact (legal_hoist hc0 hc2 hc5 hs26 hc1 (.inl hc9)).symm | exact (legal_hoist hc0 hc2 hc5 hs26 hc1 (.inr hc9)).symm | exact (legal_run1 hc0 hc2 hc3 hle hrun hlast hs72).symm | exact (legal_run0 hc0 hc2 hc3 hle hrun hlast hs72).symm | exact (legal_turn hc0 hc5 hs26 hc1 hall).symm | exact (legal_turn_no hc5 (all_no hx hc7)).symm | (simp_all [legalB]; done) | exact (legal_run_no (by simp_all) hc3 (by simp_all [runB])).symm
        · refine .seq ?_
          refine .seq ?_
          refine .plain rfl ?_
          refine .q rfl rfl rfl (val_eql rfl rfl rfl) ?_
          refine .q rfl rfl rfl (val_assign rfl) ?_
          refine .nil (cj ?_)
          refine .cond rfl (fun hc8 => ?_) (fun hc8 => ?_)
          · refine .skip (cj ?_)
            refine .cond rfl (fun hc9 => ?_) (fun hc9 => ?_)
            · refine .seq ?_
              refine .drawS 11 (.cons (0, true) (.cons (1, true) (.cons (2, true) (.cons (4, true) (.cons (5, true) (.cons (6, true) (.cons (7, true) (.cons (8, true) (.cons (3, false) (.cons (9, true) (.cons (10, true) .nil))))))))))) mo (by kernel_rfl) H2 (fun _ _ _ _ _ h => h) (fun w45 H45 => ?_)
              refine .p rfl rfl rfl (val_move rfl) ?_
              refine .p rfl rfl rfl (val_fieldAddr rfl fa_42_3) ?_
              refine .ps rfl rfl rfl rfl (ld_blks rfl ag_40 (.own .here) (by repeat constructor)) ?_
              refine .p rfl rfl rfl (val_fieldAddr rfl fa_42_4) ?_
              refine .ps rfl rfl rfl rfl (ld_blks rfl ag_40 (.own .here) (by repeat constructor)) ?_
              refine .p rfl rfl rfl (val_fieldAddr rfl fa_42_3) ?_
              refine .ps rfl rfl rfl rfl (ld_blks rfl ag_40 (.own .here) (by repeat constructor)) ?_
              refine .p rfl rfl rfl (val_binrun rfl rfl seq_40_eql) ?_
              refine .callx rfl rfl rfl en120 (.cons rfl (.cons rfl .nil)) (cells_spec _ _ _ _) H45 .nil (.ro (.there (.there .here)) .nil) (fun b46 w46 C46 H46 => ⟨fun _ => (H46.sub (.cons (.there .here) .nil)), ?_⟩)
              refine .p rfl rfl rfl (val_assign rfl) ?_
              refine .p rfl rfl rfl (val_assign rfl) ?_
              refine .nil (cj ?_)
              refine .ret (fret (res2 rfl rfl rfl) ?_)
              refine hRR _ _ ⟨_, ⟨_, retv ?_, rfl, trivial⟩, H46.sub .nil⟩
              first | exact (legal_hoist hc0 hc2 hc5 hs26 hc1 (.inl hc9)).symm | exact (legal_hoist hc0 hc2 hc5 hs26 hc1 (.inr hc9)).symm | exact (legal_run1 hc0 hc2 hc3 hle hrun hlast hs72).symm | exact (legal_run0 hc0 hc2 hc3 hle hrun hlast hs72).symm | exact (legal_turn hc0 hc5 hs26 hc1 hall).symm | exact (legal_turn_no hc5 (all_no hx hc7)).symm | (simp_all [legalB]; done) | exact (legal_run_no (by simp_all) hc3 (by simp_all [runB])).symm
            · refine .skip (cj ?_)
              refine .seq ?_
              refine .plain rfl ?_
              refine .q rfl rfl rfl (val_assign rfl) ?_
              refine .q rfl rfl rfl (val_assign rfl) ?_
              refine .nil (cj ?_)
              refine .ret (fret (res2 rfl rfl rfl) ?_)
              refine hRR _ _ ⟨_, ⟨_, retv ?_, rfl, trivial⟩, H2.sub .nil⟩
              first | exact (legal_hoist hc0 hc2 hc5 hs26 hc1 (.inl hc9)).symm | exact (legal_hoist hc0 hc2 hc5 hs26 hc1 (.inr hc9)).symm | exact (legal_run1 hc0 hc2 hc3 hle hrun hlast hs72).symm | exact (legal_run0 hc0 hc2 hc3 hle hrun hlast hs72).symm | exact (legal_turn hc0 hc5 hs26 hc1 hall).symm | exact (legal_turn_no hc5 (all_no hx hc7)).symm | (simp_all [legalB]; done) | exact (legal_run_no (by simp_all) hc3 (by simp_all [runB])).symm
          · refine .plain rfl ?_
            refine .q rfl rfl rfl (val_eql rfl rfl rfl) ?_
            refine .q rfl rfl rfl (val_assign rfl) ?_
            refine .nil (cj ?_)
            refine .cond rfl (fun hc9 => ?_) (fun hc9 => ?_)
            · refine .seq ?_
              refine .drawS 11 (.cons (0, true) (.cons (1, true) (.cons (2, true) (.cons (4, true) (.cons (5, true) (.cons (6, true) (.cons (7, true) (.cons (8, true) (.cons (3, false) (.cons (9, true) (.cons (10, true) .nil))))))))))) mo (by kernel_rfl) H2 (fun _ _ _ _ _ h => h) (fun w47 H47 => ?_)
              refine .p rfl rfl rfl (val_move rfl) ?_
              refine .p rfl rfl rfl (val_fieldAddr rfl fa_42_3) ?_
              refine .ps rfl rfl rfl rfl (ld_blks rfl ag_40 (.own .here) (by repeat constructor)) ?_
              refine .p rfl rfl rfl (val_fieldAddr rfl fa_42_4) ?_
              refine .ps rfl rfl rfl rfl (ld_blks rfl ag_40 (.own .here) (by repeat constructor)) ?_
              refine .p rfl rfl rfl (val_fieldAddr rfl fa_42_3) ?_
              refine .ps rfl rfl rfl rfl (ld_blks rfl ag_40 (.own .here) (by repeat constructor)) ?_
              refine .p rfl rfl rfl (val_binrun rfl rfl seq_40_eql) ?_
              refine .callx rfl rfl rfl en120 (.cons rfl (.cons rfl .nil)) (cells_spec _ _ _ _) H47 .nil (.ro (.there (.there .here)) .nil) (fun b48 w48 C48 H48 => ⟨fun _ => (H48.sub (.cons (.there .here) .nil)), ?_⟩)
              refine .p rfl rfl rfl (val_assign rfl) ?_
              refine .p rfl rfl rfl (val_assign rfl) ?_
              refine .nil (cj ?_)
              refine .ret (fret (res2 rfl rfl rfl) ?_)
              refine hRR _ _ ⟨_, ⟨_, retv ?_, rfl, trivial⟩, H48.sub .nil⟩
              first | exact (legal_hoist hc0 hc2 hc5 hs26 hc1 (.inl hc9)).symm | exact (legal_hoist hc0 hc2 hc5 hs26 hc1 (.inr hc9)).symm | exact (legal_run1 hc0 hc2 hc3 hle hrun hlast hs72).symm | exact (legal_run0 hc0 hc2 hc3 hle hrun hlast hs72).symm | exact (legal_turn hc0 hc5 hs26 hc1 hall).symm | exact (legal_turn_no hc5 (all_no hx hc7)).symm | (simp_all [legalB]; done) | exact (legal_run_no (by simp_all) hc3 (by simp_all [runB])).symm
            · refine .skip (cj ?_)
              refine .seq ?_
              refine .plain rfl ?_
              refine .q rfl rfl rfl (val_assign rfl) ?_
              refine .q rfl rfl rfl (val_assign rfl) ?_
              refine .nil (cj ?_)
              refine .ret (fret (res2 rfl rfl rfl) ?_)
              refine hRR _ _ ⟨_, ⟨_, retv ?_, rfl, trivial⟩, H2.sub .nil⟩
              first | exact (legal_hoist hc0 hc2 hc5 hs26 hc1 (.inl hc9)).symm | exact (legal_hoist hc0 hc2 hc5 hs26 hc1 (.inr hc9)).symm | exact (legal_run1 hc0 hc2 hc3 hle hrun hlast hs72).symm | exact (legal_run0 hc0 hc2 hc3 hle hrun hlast hs72).symm | exact (legal_turn hc0 hc5 hs26 hc1 hall).symm | exact (legal_turn_no hc5 (all_no hx hc7)).symm | (simp_all [legalB]; done) | exact (legal_run_no (by simp_all) hc3 (by simp_all [runB])).symm
theorem legal_spec (bg : Nat) (A : Option Addr) (cap : Nat) (g : Gd) (hg : g.Ok) (m : Mv) : Sk.Spec Tryz.prog 95 #[ptr bg, .agg (encM m).toArray] [gblk bg A cap g, garr A g, stepsA] [] fun e F' => e = .returned (.bool (legalB g m)) ∧ F' = [] := by
  refine Spec.of_code (vs := [_, _]) (k0 := [(0, _), (1, _)]) 14 Tryz.func95 rfl Tryz.ntmps95 rfl (.cons (.cons .nil)) fun w X RR hRR H => ?_
  refine .seq ?_
  refine .plain rfl ?_
  refine .box rfl rfl rfl rfl rfl H (fun w1 b1 H1 => ⟨fun _ => trivial, ?_⟩)
  refine .q rfl rfl rfl (val_assign rfl) ?_
  refine .nil (cj ?_)
  refine .seq ?_
  refine .plain rfl ?_
  refine .q rfl rfl rfl (val_move rfl) ?_
  refine .qs rfl rfl rfl H1 (ld_w rfl ag_42 (.own .here) rfl) ?_
  refine .callx rfl rfl rfl en115 (.cons rfl (.cons rfl .nil)) (way_spec _ _ _ _ (by first | assumption | rfl) _) H1 .nil (.ro .here (.ro (.there .here) (.ro (.there (.there .here)) .nil))) (fun v2 w2 C2 H2 => ⟨fun _ => trivial, ?_⟩)
  refine .q rfl rfl rfl (val_move rfl) ?_
  refine .q rfl rfl rfl (val_extract rfl rfl) ?_
  refine .q rfl rfl rfl (val_extract rfl rfl) ?_
  refine .q rfl rfl rfl (val_assign rfl) ?_
  refine .q rfl rfl rfl (val_assign rfl) ?_
  refine .nil (cj ?_)
  refine .seq ?_
  refine .plain rfl ?_
  refine .q rfl rfl rfl (val_move rfl) ?_
  refine .q rfl rfl rfl (val_assign rfl) ?_
  refine .nil (cj ?_)
  refine .ret (fret (res1 rfl rfl) ?_)
  refine hRR _ _ ⟨_, ⟨?_, rfl⟩, H2.sub .nil⟩
  rfl
end Go.Proofs.YtmbibkifbehgnaaGreatDoor
namespace Go.Proofs.YtmbibkifbehgnaaGreatDoor
open Go Sk
set_option linter.unusedVariables false
set_option linter.unusedSimpArgs false
theorem fa_26_0 (b o : Nat) (w : World) : (Instr.fieldAt 26 (.pointer (some ⟨b, o, none⟩)) 0).run Tryz.prog w = .ok (.pointer (some ⟨b, o + 0, none⟩)) w := by kernel_rfl
theorem fa_26_1 (b o : Nat) (w : World) : (Instr.fieldAt 26 (.pointer (some ⟨b, o, none⟩)) 1).run Tryz.prog w = .ok (.pointer (some ⟨b, o + 1, none⟩)) w := by kernel_rfl
theorem fa_26_3 (b o : Nat) (w : World) : (Instr.fieldAt 26 (.pointer (some ⟨b, o, none⟩)) 3).run Tryz.prog w = .ok (.pointer (some ⟨b, o + 3, none⟩)) w := by kernel_rfl
theorem fa_26_4 (b o : Nat) (w : World) : (Instr.fieldAt 26 (.pointer (some ⟨b, o, none⟩)) 4).run Tryz.prog w = .ok (.pointer (some ⟨b, o + 4, none⟩)) w := by kernel_rfl
theorem ag_26  : aggB Tryz.prog 26 16 = true := by kernel_rfl
theorem ob_22  : oneB Tryz.prog 22 = true := by kernel_rfl
/-! ### a config, as it lies -/
structure Sk1 where
  x : Int
  y : Int
  A : Option Addr
  cap : Nat
  bins : List Int
structure Cf where
  w : Int
  h : Int
  height : Int
  bA : Option Addr
  bc : Nat
  blocked : List Cl
  pA : Option Addr
  pc : Nat
  ports : List Cl
  rA : Option Addr
  rc : Nat
  robots : List Ps
  sA : Option Addr
  sc : Nat
  stacks : List Sk1
  unit : Int
  accel : Int
  speed : Int
  turn : Int
  hoist : Int
  queue : Int
  resend : Int
  budget : Int
  back : Bool
abbrev encS (s : Sk1) : List Value := [i64 s.x, i64 s.y, .slice s.A s.bins.length s.cap]
theorem encS_len (s : Sk1) : (encS s).length = 3 := rfl
abbrev encCf (c : Cf) : List Value := [i64 c.w, i64 c.h, i64 c.height, .slice c.bA c.blocked.length c.bc, .slice c.pA c.ports.length c.pc, .slice c.rA c.robots.length c.rc, .slice c.sA c.stacks.length c.sc,
  i64 c.unit, i64 c.accel, i64 c.speed, i64 c.turn, i64 c.hoist, i64 c.queue, i64 c.resend, i64 c.budget, .bool c.back]
abbrev cb (c : Cf) : As := arr c.bA (c.blocked.flatMap encC)
abbrev cp (c : Cf) : As := arr c.pA (c.ports.flatMap encC)
abbrev cr (c : Cf) : As := arr c.rA (c.robots.flatMap encP)
abbrev cs (c : Cf) : As := arr c.sA (c.stacks.flatMap encS)
/-- no list is longer than a slice can be -/
structure Cf.Fit (c : Cf) : Prop where
  b : c.blocked.length ≤ maxLen
  p : c.ports.length ≤ maxLen
  r : c.robots.length ≤ maxLen
  s : c.stacks.length ≤ maxLen
  k : ∀ x ∈ c.stacks, x.bins.length ≤ maxLen
  bn : c.bA = none → c.blocked.length = 0 ∧ c.bc = 0
  pn : c.pA = none → c.ports.length = 0 ∧ c.pc = 0
  rn : c.rA = none → c.robots.length = 0 ∧ c.rc = 0
  sn : c.sA = none → c.stacks.length = 0 ∧ c.sc = 0
theorem getD_get {α : Type} {l : List α} {i : Nat} (h : i < l.length) (d : α) : l[i]? = some (l.getD i d) := by
  rw [List.getD_eq_getElem?_getD, List.getElem?_eq_getElem h]; rfl
theorem take_snoc {α : Type} {l : List α} {i : Nat} {c : α} (h : l[i]? = some c) : l.take (i + 1) = l.take i ++ [c] := by
  rw [List.take_add_one, h]; rfl
theorem nil_of_flat {α : Type} {enc : α → List Value} {sz : Nat} (hl : ∀ x, (enc x).length = sz) (hz : 0 < sz) {l : List α} {i : Nat} (h : i < l.length) : l.flatMap enc ≠ [] := by
  intro e
  have := flat_len hl l
  rw [e] at this
  have h2 : 0 < l.length * sz := Nat.mul_pos (by omega) hz
  simp at this
  omega
def inR (c : Cf) (x y : Int) : Bool := decide (0 ≤ x) && decide (0 ≤ y) && decide (x < c.w) && decide (y < c.h)
def openR (c : Cf) (x y : Int) : Bool := inR c x y && (((c.blocked.count ⟨x, y⟩ : Nat) : Int) == 0)
/-- the first port there; -1: none -/
def portFrom (l : List Cl) (x y : Int) : Int := match l.findIdx? (fun c => decide (c = ⟨x, y⟩)) with
  | some i => (i : Int)
  | none => -1
theorem portFrom_none {l : List Cl} {x y : Int} (h : ∀ j, j < l.length → l[j]? ≠ some ⟨x, y⟩) : portFrom l x y = -1 := by
  unfold portFrom
  rw [List.findIdx?_eq_none_iff.2]
  intro c hc
  obtain ⟨j, hj, rfl⟩ := List.mem_iff_getElem.1 hc
  exact decide_eq_false fun e => h j hj (by rw [List.getElem?_eq_getElem hj, e])
theorem portFrom_some {l : List Cl} {x y : Int} {i : Nat} {c : Cl} (hi : l[i]? = some c) (hc : c = ⟨x, y⟩) (h : ∀ j, j < i → l[j]? ≠ some ⟨x, y⟩) : portFrom l x y = (i : Int) := by
  unfold portFrom
  have : l.findIdx? (fun c => decide (c = ⟨x, y⟩)) = some i := by
    rw [List.findIdx?_eq_some_iff_getElem]
    obtain ⟨hl, hx⟩ := List.getElem?_eq_some_iff.1 hi
    refine ⟨hl, by rw [hx, hc]; simp, fun j hj => ?_⟩
    simp only [decide_eq_true_eq, Bool.not_eq_true, decide_eq_false_iff_not]
    intro e
    exact h j hj (by rw [List.getElem?_eq_getElem (by omega), e])
  rw [this]
end Go.Proofs.YtmbibkifbehgnaaGreatDoor
namespace Go.Proofs.YtmbibkifbehgnaaGreatDoor
open Go Sk
set_option linter.unusedVariables false
set_option linter.unusedSimpArgs false
theorem fa_26_5 (b o : Nat) (w : World) : (Instr.fieldAt 26 (.pointer (some ⟨b, o, none⟩)) 5).run Tryz.prog w = .ok (.pointer (some ⟨b, o + 5, none⟩)) w := by kernel_rfl
theorem el_23  : elB Tryz.prog 23 3 = true := by kernel_rfl
theorem ob_23  : oneB Tryz.prog 23 = true := by kernel_rfl
def cell2R (p : Ps) : Cl := if p.d then ⟨p.x, w64 (p.y + 1)⟩ else ⟨w64 (p.x + 1), p.y⟩
abbrev cellsL (p : Ps) : List Cl := [⟨p.x, p.y⟩, cell2R p]
def besideR (c : Cf) (x y : Int) : Bool := openR c (w64 (x + 1)) y || openR c x (w64 (y + 1))
def homeR (c : Cf) (x y : Int) : Bool := c.robots.any fun p => decide (0 < (((cellsL p).count ⟨x, y⟩ : Nat) : Int))
theorem any_some {α : Type} {f : α → Bool} {l : List α} {i : Nat} {c : α} (hc : l[i]? = some c) (ho : f c = true) : l.any f = true := List.any_eq_true.2 ⟨c, List.mem_of_getElem? hc, ho⟩
def stackedR (c : Cf) (x y : Int) : Bool := openR c x y && decide (portFrom c.ports x y < 0) && (!homeR c x y) && besideR c x y
def fitsR (c : Cf) (p : Ps) : Bool := openR c p.x p.y && openR c (cell2R p).x (cell2R p).y
def shiftS (p : Ps) (dir n : Int) : Ps :=
  if dir = 0 then ⟨p.x, w64 (p.y - n), p.d⟩ else if dir = 1 then ⟨w64 (p.x + n), p.y, p.d⟩ else if dir = 2 then ⟨p.x, w64 (p.y + n), p.d⟩ else if dir = 3 then ⟨w64 (p.x - n), p.y, p.d⟩ else p
end Go.Proofs.YtmbibkifbehgnaaGreatDoor
namespace Go.Proofs.YtmbibkifbehgnaaGreatDoor
open Go Sk
set_option linter.unusedVariables false
set_option linter.unusedSimpArgs false
/-- places 1 to k of a run fit -/
def fitR (c : Cf) (fr : Ps) (dir : Int) : Nat → Bool
  | 0 => true
  | k + 1 => fitR c fr dir k && fitsR c (shiftS fr dir ((k + 1 : Nat) : Int))
def legalR (c : Cf) (m : Mv) : Bool :=
  if fitsR c m.fr = false then false
  else if m.kind = 1 then withinB m.n 1 16 && (withinB m.dir 0 3 && (decide (m.to = shiftS m.fr m.dir m.n) && fitR c m.fr m.dir m.n.toNat))
  else if m.kind = 2 then (squareL m.fr.x m.fr.y).all (fun x => openR c x.x x.y) && ((m.n == 0) && ((m.dir == 0) && decide (m.to = ⟨m.fr.x, m.fr.y, !m.fr.d⟩)))
  else if m.kind = 3 ∨ m.kind = 4 then (m.n == 0) && ((m.dir == 0) && decide (m.to = m.fr)) else false
theorem nf {b : Bool} (h : (!b) = false) : b = true := by simpa using h
theorem nt {b : Bool} (h : (!b) = true) : b = false := by simpa using h
end Go.Proofs.YtmbibkifbehgnaaGreatDoor
namespace Go.Proofs.YtmbibkifbehgnaaGreatDoor
open Go Sk
set_option linter.unusedVariables false
set_option linter.unusedSimpArgs false
theorem sz_42  : (Tryz.prog.info? 42).map (·.size) = some 11 := by kernel_rfl
theorem ze_42  : (Tryz.prog.info? 42).bind (·.zero) = some (.agg (List.toArray [.int .i64 0, .int .i64 0, .int .i64 0, .int .i64 0, .int .i64 0, .bool false, .int .i64 0, .int .i64 0, .bool false, .int .i64 0, .int .i64 0])) := by kernel_rfl
structure MI where
  v : Value
  acc : List Mv
structure MJ where
  i : Nat
  v : Value
  acc : List Mv
end Go.Proofs.YtmbibkifbehgnaaGreatDoor
namespace Go.Proofs.YtmbibkifbehgnaaGreatDoor
open Go Sk
set_option linter.unusedVariables false
set_option linter.unusedSimpArgs false
theorem fa_26_2 (b o : Nat) (w : World) : (Instr.fieldAt 26 (.pointer (some ⟨b, o, none⟩)) 2).run Tryz.prog w = .ok (.pointer (some ⟨b, o + 2, none⟩)) w := by kernel_rfl
theorem fa_26_7 (b o : Nat) (w : World) : (Instr.fieldAt 26 (.pointer (some ⟨b, o, none⟩)) 7).run Tryz.prog w = .ok (.pointer (some ⟨b, o + 7, none⟩)) w := by kernel_rfl
theorem fa_26_8 (b o : Nat) (w : World) : (Instr.fieldAt 26 (.pointer (some ⟨b, o, none⟩)) 8).run Tryz.prog w = .ok (.pointer (some ⟨b, o + 8, none⟩)) w := by kernel_rfl
theorem fa_26_9 (b o : Nat) (w : World) : (Instr.fieldAt 26 (.pointer (some ⟨b, o, none⟩)) 9).run Tryz.prog w = .ok (.pointer (some ⟨b, o + 9, none⟩)) w := by kernel_rfl
theorem fa_26_10 (b o : Nat) (w : World) : (Instr.fieldAt 26 (.pointer (some ⟨b, o, none⟩)) 10).run Tryz.prog w = .ok (.pointer (some ⟨b, o + 10, none⟩)) w := by kernel_rfl
theorem fa_26_11 (b o : Nat) (w : World) : (Instr.fieldAt 26 (.pointer (some ⟨b, o, none⟩)) 11).run Tryz.prog w = .ok (.pointer (some ⟨b, o + 11, none⟩)) w := by kernel_rfl
theorem fa_26_12 (b o : Nat) (w : World) : (Instr.fieldAt 26 (.pointer (some ⟨b, o, none⟩)) 12).run Tryz.prog w = .ok (.pointer (some ⟨b, o + 12, none⟩)) w := by kernel_rfl
theorem fa_26_13 (b o : Nat) (w : World) : (Instr.fieldAt 26 (.pointer (some ⟨b, o, none⟩)) 13).run Tryz.prog w = .ok (.pointer (some ⟨b, o + 13, none⟩)) w := by kernel_rfl
theorem fa_26_14 (b o : Nat) (w : World) : (Instr.fieldAt 26 (.pointer (some ⟨b, o, none⟩)) 14).run Tryz.prog w = .ok (.pointer (some ⟨b, o + 14, none⟩)) w := by kernel_rfl
structure NumOk (c : Cf) : Prop where
  w : 1 ≤ c.w ∧ c.w ≤ 16
  h : 1 ≤ c.h ∧ c.h ≤ 16
  height : 1 ≤ c.height ∧ c.height ≤ 8
  unit : 1 ≤ c.unit ∧ c.unit ≤ 1000
  accel : 1 ≤ c.accel ∧ c.accel ≤ 1000
  speed : 1 ≤ c.speed ∧ c.speed ≤ 1000
  turn : 1 ≤ c.turn ∧ c.turn ≤ 1000
  hoist : 1 ≤ c.hoist ∧ c.hoist ≤ 1000
  resend : 1 ≤ c.resend ∧ c.resend ≤ 1000
  queue : 1 ≤ c.queue ∧ c.queue ≤ 16
  budget : 1 ≤ c.budget ∧ c.budget ≤ 1048576
theorem wi {n a b : Int} (h : withinB n a b = true) : a ≤ n ∧ n ≤ b := by simpa [withinB] using h
structure BinsOk (c : Cf) : Prop where
  st : ∀ (i : Nat) (s : Sk1), c.stacks[i]? = some s → stackedR c s.x s.y = true ∧ (s.bins.length : Int) ≤ c.height
  apart : ∀ (i k : Nat) (s t : Sk1), k < i → c.stacks[i]? = some s → c.stacks[k]? = some t → (⟨t.x, t.y⟩ : Cl) ≠ ⟨s.x, s.y⟩
  few : (c.stacks.flatMap (·.bins)).length ≤ 512
  num : ∀ (i : Nat) (b : Int), (c.stacks.flatMap (·.bins))[i]? = some b → 1 ≤ b ∧ b ≤ 1000000000
  twice : ∀ (i k : Nat) (a b : Int), k < i → (c.stacks.flatMap (·.bins))[i]? = some a → (c.stacks.flatMap (·.bins))[k]? = some b → b ≠ a
abbrev encI (b : Int) : List Value := [i64 b]
/-- the bins of all stacks -/
def binsA (c : Cf) : As where
  on X w := (∀ s ∈ c.stacks, ∃ Y, (arr s.A (s.bins.flatMap encI)).on Y w ∧ (∀ k, Y k → X k) ∧ (s.A = none → s.bins.length = 0 ∧ s.cap = 0)) ∧ ∀ k, X k → k < w.heap.size
  loc X w w' h hk := ⟨fun s hs => by
    obtain ⟨Y, hY, hs, hn⟩ := h.1 s hs
    exact ⟨Y, (arr s.A _).loc Y w w' hY fun k hk' => hk k (hs k hk'), hs, hn⟩, fun k hx => by
    have h1 := h.2 k hx
    have := hk k hx
    rw [Array.getElem?_eq_getElem h1] at this
    exact (Array.getElem?_eq_some_iff.1 this).1⟩
  lt X w h := h.2
theorem binsA_more {c : Cf} {R R' F : List As} {w0 w : World} {M : Nat → Prop} (hR : At R (binsA c) R') (H : St w0 w M R F) {i : Nat} {s : Sk1} (hs : c.stacks[i]? = some s) : St w0 w M (arr s.A (s.bins.flatMap encI) :: R) F ∧ (s.A = none → s.bins.length = 0 ∧ s.cap = 0) := by
  obtain ⟨⟨X, h1, h2, h3⟩, h4⟩ := H
  obtain ⟨Y, hY, hd⟩ := h2 _ hR.mem
  obtain ⟨Z, hZ, hsub, hn⟩ := hY.1 s (List.mem_of_getElem? hs)
  refine ⟨⟨⟨X, h1, fun r hr => ?_, h3⟩, h4⟩, hn⟩
  rcases List.mem_cons.1 hr with rfl | hr
  · exact ⟨Z, hZ, fun k hk => hd k (hsub k hk)⟩
  · exact h2 r hr
end Go.Proofs.YtmbibkifbehgnaaGreatDoor
namespace Go.Proofs.YtmbibkifbehgnaaGreatDoor
open Go Sk
set_option linter.unusedVariables false
set_option linter.unusedSimpArgs false
theorem fa_26_6 (b o : Nat) (w : World) : (Instr.fieldAt 26 (.pointer (some ⟨b, o, none⟩)) 6).run Tryz.prog w = .ok (.pointer (some ⟨b, o + 6, none⟩)) w := by kernel_rfl
theorem fa_114_0 (b o : Nat) (w : World) : (Instr.fieldAt 114 (.pointer (some ⟨b, o, none⟩)) 0).run Tryz.prog w = .ok (.pointer (some ⟨b, o + 0, none⟩)) w := by kernel_rfl
theorem fa_114_1 (b o : Nat) (w : World) : (Instr.fieldAt 114 (.pointer (some ⟨b, o, none⟩)) 1).run Tryz.prog w = .ok (.pointer (some ⟨b, o + 2, none⟩)) w := by kernel_rfl
theorem ap_27  : apB Tryz.prog 27 3 1 8 = true := by kernel_rfl
theorem el_24  : elB Tryz.prog 24 3 = true := by kernel_rfl
theorem ob_24  : oneB Tryz.prog 24 = true := by kernel_rfl
theorem encI_len (b : Int) : (encI b).length = 1 := rfl
structure BI where
  i : Nat
  v : Value
abbrev allTo (c : Cf) (i : Nat) : List Int := (c.stacks.take i).flatMap (·.bins)
theorem allTo_succ {c : Cf} {i : Nat} {s : Sk1} (h : c.stacks[i]? = some s) : allTo c (i + 1) = allTo c i ++ s.bins := by
  simp [allTo, take_snoc h]
end Go.Proofs.YtmbibkifbehgnaaGreatDoor
namespace Go.Proofs.YtmbibkifbehgnaaGreatDoor
open Go Sk
set_option linter.unusedVariables false
set_option linter.unusedSimpArgs false
theorem ap_22  : apB Tryz.prog 22 38 2 16 = true := by kernel_rfl
abbrev cellsTo (c : Cf) (i : Nat) : List Cl := (c.robots.take i).flatMap cellsL
theorem cellsTo_succ {c : Cf} {i : Nat} {p : Ps} (h : c.robots[i]? = some p) : cellsTo c (i + 1) = cellsTo c i ++ cellsL p := by
  simp [cellsTo, take_snoc h]
structure MayOk (c : Cf) : Prop where
  num : NumOk c
  bl : c.blocked.length ≤ 256
  pl : c.ports.length ≤ 8
  rl : c.robots.length ≤ 8
  blocked : ∀ (i : Nat) (x : Cl), c.blocked[i]? = some x → inR c x.x x.y = true ∧ c.blocked.count x ≤ 1 ∧ c.ports.count x = 0
  ports : ∀ (i : Nat) (x : Cl), c.ports[i]? = some x → inR c x.x x.y = true ∧ c.ports.count x ≤ 1 ∧ homeR c x.x x.y = false ∧ besideR c x.x x.y = true
  robots : ∀ (i : Nat) (p : Ps), c.robots[i]? = some p → fitsR c p = true
  cells : ∀ (i : Nat) (x : Cl), (c.robots.flatMap cellsL)[i]? = some x → (c.robots.flatMap cellsL).count x ≤ 1
  bins : BinsOk c
structure SmallOk (c : Cf) : Prop where
  w : c.w ≤ 6
  h : c.h ≤ 6
  budget : c.budget ≤ 4000
  unit : c.unit ≤ 100
  turn : c.turn ≤ 200
  hoist : c.hoist ≤ 200
  robots : c.robots.length ≤ 4
  may : MayOk c
end Go.Proofs.YtmbibkifbehgnaaGreatDoor
namespace Go.Proofs.YtmbibkifbehgnaaGreatDoor.Sk
open Go
set_option linter.unusedVariables false
set_option linter.unusedSimpArgs false
/-- What is read may be told otherwise. -/
def Tells (r' r : As) : Prop := ∀ Y w, r'.on Y w → ∃ Y', r.on Y' w ∧ ∀ k, Y' k → Y k
theorem Tells.refl (r : As) : Tells r r := fun Y w h => ⟨Y, h, fun _ h => h⟩
theorem Tells.blk {b : Nat} {cs : List Value} {e : TypeId} : Tells (blk b cs e) (arr (some ⟨b, 0, none⟩) cs) := fun Y w hY =>
  ⟨Y, .inr ⟨b, 0, rfl, hY.1, (Array.getElem?_eq_some_iff.1 hY.2).1, fun j u hu => by simp [World.cell?, hY.2, hu]⟩, fun _ h => h⟩
inductive Tell : List As → List As → Prop where
  | nil {R' : List As} : Tell R' []
  | cons {R' R R'' : List As} {r r' : As} (h : At R' r' R'') (t : Tells r' r) (n : Tell R' R) : Tell R' (r :: R)
theorem Tell.ro {R' R : List As} (h : Tell R' R) {X : Nat → Prop} {w : World} (hR : Ro R' X w) : Ro R X w := by
  induction h with
  | nil => intro r hr; cases hr
  | cons hat ht _ ih =>
    intro r hr
    rcases List.mem_cons.1 hr with rfl | hr
    · obtain ⟨Y, hY, hd⟩ := hR _ hat.mem
      obtain ⟨Y', hY', hs⟩ := ht Y w hY
      exact ⟨Y', hY', fun k hk => hd k (hs k hk)⟩
    · exact ih r hr
theorem Spec.tell {P : Program} {f : FuncId} {args : Array Value} {Rc Rc' F : List As} {Post : Ending → List As → Prop} (h : Sk.Spec P f args Rc F Post) (ht : Tell Rc' Rc) : Sk.Spec P f args Rc' F Post :=
  fun w X hF hR => h w X hF (ht.ro hR)
theorem Spl_at {α : Type} {xs ys : List α} : ∀ {o : Nat}, o + ys.length ≤ xs.length → Spl xs o ys (xs.take o ++ ys ++ xs.drop (o + ys.length)) := by
  have ovr : ∀ (ys xs : List α), ys.length ≤ xs.length → Ovr xs ys (ys ++ xs.drop ys.length) := by
    intro ys
    induction ys with
    | nil => intro xs _; exact .nil
    | cons y ys ih =>
      intro xs h
      cases xs with
      | nil => simp at h
      | cons x xs => exact .cons (ih xs (by simpa using h))
  induction xs with
  | nil =>
    intro o h
    have ho : o = 0 := by simp at h; omega
    have hy : ys = [] := List.eq_nil_of_length_eq_zero (by rw [List.length_nil] at h; omega)
    subst ho; subst hy
    exact .here .nil
  | cons x xs ih =>
    intro o h
    cases o with
    | zero => simpa using Spl.here (ovr ys (x :: xs) (by simpa using h))
    | succ o =>
      have := ih (o := o) (by simp at h; omega)
      simpa [show o + 1 + ys.length = (o + ys.length) + 1 by omega] using Spl.skip (x := x) this
/-- a store of one cell into a list of one-cell elements -/
theorem Spl_set {α : Type} {enc : α → Value} {l : List α} {i : Nat} {x : α} (h : i < l.length) : Spl (l.map enc) (0 + i * 1) [enc x] ((l.set i x).map enc) := by
  have h1 := Spl_at (xs := l.map enc) (ys := [enc x]) (o := 0 + i * 1) (by simp; omega)
  have e : (l.map enc).take (0 + i * 1) ++ [enc x] ++ (l.map enc).drop (0 + i * 1 + [enc x].length) = (l.set i x).map enc := by
    rw [List.map_set, Nat.zero_add, Nat.mul_one]
    simp only [List.length_singleton]
    rw [List.set_eq_take_append_cons_drop, if_pos (by simpa using h)]
    simp
  rw [e] at h1
  exact h1
/-- A region that draws; S: of what is owned only a part. -/
theorem CJ.drawS2 {P : Program} {nt : NT} {Q : Exit → Act → World → Prop} {k : L} {w : World} {id : Nat} {ops : Array Oper} {w0 : World} {M : Nat → Prop} {R F F0 F1 : List As} (n : Nat) (l : Tr) (hm : P.follows .mixedOrders = true)
    (hb : (Region.noSelect ops && tailB ops n && (canon ops n ops.size (Array.replicate ops.size false) == some l)) = true) (H : St w0 w M R F) (hat : Ats F F0 F1)
    (hQ : ∀ c a d v w, Q (.panic c) (a.put d v) w → Q (.panic c) a w)
    (h : ∀ w', St w0 w' M R F → RJ P nt ops Q (fun w' => St w0 w' M R F0) n l k w') : CJ P nt (.region id ops true) Q k w :=
  CJ.drawn n l hm hb _ (H.sub hat).drew hQ (h _ H.drew)
/-- an owned row, told as an owned array -/
theorem St.rowOwn {w0 w : World} {M : Nat → Prop} {R F F' : List As} {v : Value} {e : TypeId} {sz n : Nat} {xs : List Value} (H : St w0 w M R F) (hat : At F (row v e sz n xs) F') :
    ∃ A cap, v = .slice A n cap ∧ (A = none → n = 0 ∧ cap = 0) ∧ St w0 w M R (arr A xs :: F') := by
  obtain ⟨⟨X, h1, h2, h3⟩, h4⟩ := H
  obtain ⟨X1, X2, ⟨hrow, hblk⟩, g2, g3, g4⟩ := Own.pick hat h1
  rcases hrow.2 with ⟨rfl, rfl⟩ | ⟨g, cap, cur, rfl, hb, hg, hnc, hcm, hcs, htake⟩
  · exact ⟨none, 0, rfl, fun _ => ⟨rfl, rfl⟩, ⟨⟨X, ⟨X1, X2, .inl ⟨List.eq_nil_of_length_eq_zero (by simpa using hrow.1), fun k hk => by have := (hblk k).1 hk; simp [Value.ownBlock] at this⟩, g2, g3, g4⟩, h2, h3⟩, h4⟩⟩
  · exact ⟨some ⟨g, 0, none⟩, cap, rfl, fun h => (by cases h), ⟨⟨X, ⟨X1, X2, .inr ⟨g, 0, rfl, fun k => by rw [hblk k]; simp [Value.ownBlock, eq_comm], (Array.getElem?_eq_some_iff.1 hg).1, fun j u hu => by
      have := hrow.cells (g := g) rfl j u hu
      rwa [add_plain] at this⟩, g2, g3, g4⟩, h2, h3⟩, h4⟩⟩
theorem ix_map {α : Type} {enc : α → Value} {l : List α} {i : Nat} {x : α} (h : l[i]? = some x) : (l.map enc)[0 + i * 1]? = some (enc x) := by
  simp [h]
theorem made_one (v : Value) (n : Nat) : (madeCells #[v] (n * 1)).toList = List.replicate n v := by
  apply List.ext_getElem
  · simp [madeCells]
  · intro i h1 h2
    simp [madeCells, Nat.mod_one]
section
variable {P : Program} {nt : NT} {ops : Array Oper} {Q : Exit → Act → World → Prop} {S : World → Prop} {n i d : Nat} {k : L} {R F : List As} {M : Nat → Prop} {w0 w : World} {ty : TypeId} {pos : String} {af : Array Edge} {g : Option (Nat × Bool)} {l : Tr}
theorem RJ.mk {t e : TypeId} {sz bytes : Nat} {x y : Operand} {ki kj : IntKind} {len cap : Nat} {zs : List Value} {z : Value} (ho : ops[i]? = some (Oper.mk (some d) (.makeSlice t x y) ty pos af g)) (hg : gd ops k g = some true) (hd : Nat.blt d nt.n = true)
    (hap : apB P t e sz bytes = true) (hz : (P.info? e).bind (·.zero) = some z) (hx : ev k x = some (.int ki (len : Int))) (hy : ev k y = some (.int kj (cap : Int))) (hlc : len ≤ cap) (hb : bytes * cap ≤ 281474976710656) (h63 : cap ≤ maxLen)
    (hzs : (madeCells z.cells (cap * sz)).toList = zs) (H : St w0 w M R F)
    (h : ∀ w' b, St w0 w' M R (blk b zs e :: F) → (i < n → S w') ∧ RJ P nt ops Q S n l ((d, .slice (some ⟨b, 0, none⟩) len cap) :: k) w') : RJ P nt ops Q S n (.cons (i, false) l) k w := by
  obtain ⟨inf, z', hu, hi, hz', hsz, hby, _, _⟩ := apB_spec hap
  have : z' = z := by simpa [hi, hz'] using hz
  subst this hsz hby
  exact RJ.make ho hg hd hu hi hz' hx hy hlc hb h63 hzs H h
theorem RJ.copy {t e : TypeId} {sz bytes : Nat} {x y : Operand} {b m c c' : Nat} {A : Option Addr} {zs news : List Value} {F' : List As} (ho : ops[i]? = some (Oper.mk (some d) (.call ⟨.builtin .copy, #[x, y], #[t, t]⟩) ty pos af g)) (hg : gd ops k g = some true) (hd : Nat.blt d nt.n = true)
    (hap : apB P t e sz bytes = true) (hx : ev k x = some (.slice (some ⟨b, 0, none⟩) m c)) (hy : ev k y = some (.slice A m c')) (H : St w0 w M R F) (hat : At F (blk b zs e) F') (hsrc : Src w A m c' news) (hl : news.length = m * sz) (hlz : zs.length = m * sz) (h1 : ∀ u ∈ news, u.oneCell' = true)
    (h : ∀ w', St w0 w' M R (blk b news e :: F') → (i < n → S w') ∧ RJ P nt ops Q S n l ((d, goInt m) :: k) w') : RJ P nt ops Q S n (.cons (i, false) l) k w := by
  obtain ⟨inf, z, hu, hi, hz, hsz, hby, _, _⟩ := apB_spec hap
  subst hsz
  have hb : w.heap[b]? = some (.cells zs.toArray e (0, 0)) := by
    obtain ⟨⟨X, hX, _⟩, _⟩ := H
    obtain ⟨X1, X2, ⟨_, g⟩, _⟩ := Own.pick hat hX
    exact g
  have hst : St w0 (w.setRow b news.toArray) M R (blk b news e :: F') := by
    refine H.store hat (vs := news) (o := 0) ?_
    have := Spl_at (xs := zs) (ys := news) (o := 0) (by omega)
    simpa [List.drop_eq_nil_of_le (show zs.length ≤ news.length by omega)] using this
  have := h _ hst
  refine RJ.act ho hg hd (fun a ha => ?_) this.1 this.2
  rcases hsrc with ⟨rfl, rfl, rfl, rfl⟩ | ⟨a0, rfl, hcell⟩
  · have hz0 : zs = [] := List.eq_nil_of_length_eq_zero (by simpa using hlz)
    subst hz0
    have hr := run_copy_nil (P := P) w t t ty e ⟨b, 0, none⟩ 0 c hu (by simp [hi])
    have hs := setRow_self w b #[] e (0, 0) hb
    have hs' : w.setRow b [].toArray = w := hs
    rw [hs']
    simp only [execOp, resolve, List.map_toArray, List.map_cons, List.map_nil, ha.ev hx, ha.ev hy, invoke, builtin, Sem.run_bind, Sem.run_pure, Result.andThen_ok, hr]; rfl
  · have hl' := run_loadCells_list (P := P) w a0 news hcell
    have hst := run_storeCells_at P b 0 e news 0 zs.toArray w hb (by simp; omega) h1
    have e0 : (zs.toArray.toList.take (0 + 0) ++ news ++ zs.toArray.toList.drop (0 + 0 + news.length)) = news := by
      simp; omega
    rw [e0] at hst
    have hr : (Builtin.copy_ #[t, t] ty #[.slice (some ⟨b, 0, none⟩) m c, .slice (some a0) m c']).run P w = .ok (goInt m) (w.setRow b news.toArray) := by
      simp [Builtin.copy_, run_underlying hu, Builtin.lenOf, Builtin.firstCells, sizeOf, typeInfo, hi, ← hl, hl', hst]
    simp only [execOp, resolve, List.map_toArray, List.map_cons, List.map_nil, ha.ev hx, ha.ev hy, invoke, builtin, Sem.run_bind, Sem.run_pure, Result.andThen_ok, hr]
end
end Go.Proofs.YtmbibkifbehgnaaGreatDoor.Sk
