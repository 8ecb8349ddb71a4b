/-
  My walks and plain laws, part 2 of 6, joined by a program of my own: R2, R3, R4, R5, R6, R7, SkMk, L1, L2, L3.
-/
import Derived.Test.YtmbibkifbehgnaaGreatDoorM1
/-! ## R2: Walks of the document's grid, part 2: Cells, beside, home, Stacked, Fits, shift, Shift, Square. -/
namespace Go.Proofs.YtmbibkifbehgnaaGreatDoor
open Go Sk
set_option linter.unusedVariables false
set_option linter.unusedSimpArgs false
theorem fa_26_5 (b o : Nat) (w : World) : (Instr.fieldAt 26 (.pointer (some ⟨b, o, none⟩)) 5).run Tryz.prog w = .ok (.pointer (some ⟨b, o + 5, none⟩)) w := by kernel_rfl
theorem en61 : Enters Tryz.prog 61 := fun args w => by kernel_rfl
theorem en65 : Enters Tryz.prog 65 := fun args w => by kernel_rfl
theorem en66 : Enters Tryz.prog 66 := fun args w => by kernel_rfl
theorem en68 : Enters Tryz.prog 68 := fun args w => by kernel_rfl
theorem en74 : Enters Tryz.prog 74 := fun args w => by kernel_rfl
theorem en92 : Enters Tryz.prog 92 := fun args w => by kernel_rfl
theorem en113 : Enters Tryz.prog 113 := fun args w => by kernel_rfl
theorem el_23  : elB Tryz.prog 23 3 = true := by kernel_rfl
theorem ob_23  : oneB Tryz.prog 23 = true := by kernel_rfl
def cell2R (p : Ps) : Cl := if p.d then ⟨p.x, w64 (p.y + 1)⟩ else ⟨w64 (p.x + 1), p.y⟩
abbrev cellsL (p : Ps) : List Cl := [⟨p.x, p.y⟩, cell2R p]
theorem cellsR_spec (x y : Int) (d : Bool) : Sk.Spec Tryz.prog 68 #[.agg #[i64 x, i64 y, .bool d]] [] [] fun e F' => ∃ b : Nat, e = .returned (.slice (some ⟨b, 0, none⟩) 2 2) ∧ F' = [blk b ((cellsL ⟨x, y, d⟩).flatMap encC) 38] ∧ True := by
  refine Spec.of_code (vs := [_]) (k0 := [(0, _)]) 27 Tryz.func68 rfl Tryz.ntmps68 rfl (.cons .nil) fun w X RR hRR H => ?_
  refine .seq ?_
  refine .plain rfl ?_
  refine .box rfl rfl rfl rfl rfl H (fun w1 b1 H1 => ⟨fun _ => trivial, ?_⟩)
  refine .q rfl rfl rfl (val_assign rfl) ?_
  refine .nil (cj ?_)
  refine .seq ?_
  refine .seq ?_
  refine .plain rfl ?_
  refine .q rfl rfl rfl (val_fieldAddr rfl fa_40_1) ?_
  refine .qs rfl rfl rfl H1 (ld_b rfl ob_4 (.own .here) rfl) ?_
  refine .nil (cj ?_)
  refine .cond rfl (fun hc0 => ?_) (fun hc0 => ?_)
  · refine .seq ?_
    refine .plain rfl ?_
    refine .q rfl rfl rfl (val_fieldAddr rfl fa_40_0) ?_
    refine .qs rfl rfl rfl H1 (ld_blks rfl ag_38 (.own .here) (by repeat constructor)) ?_
    refine .q rfl rfl rfl (val_fieldAddr rfl fa_40_0) ?_
    refine .q rfl rfl rfl (val_fieldAddr rfl fa_38_0) ?_
    refine .qs rfl rfl rfl H1 (ld_b rfl ob_3 (.own .here) rfl) ?_
    refine .q rfl rfl rfl (val_fieldAddr rfl fa_40_0) ?_
    refine .q rfl rfl rfl (val_fieldAddr rfl fa_38_1) ?_
    refine .qs rfl rfl rfl H1 (ld_b rfl ob_3 (.own .here) rfl) ?_
    refine .q rfl rfl rfl (val_add rfl rfl rfl) ?_
    refine .q rfl rfl rfl (val_mk (.cons rfl (.cons rfl .nil)) (mk_38_0_1 _ _)) ?_
    refine .lit rfl rfl rfl Tryz.underlying22 (.cons rfl (.cons rfl .nil)) (bs_38_2_0_1 _ _ _ _) H1 (fun w2 b2 H2 => ⟨fun _ => trivial, ?_⟩)
    refine .q rfl rfl rfl (val_assign rfl) ?_
    refine .nil (cj ?_)
    refine .ret (fret (res1 rfl rfl) ?_)
    subst hc0; exact hRR _ _ ⟨_, ⟨_, rfl, rfl, trivial⟩, H2.sub (.cons .here .nil)⟩
  · refine .skip (cj ?_)
    refine .seq ?_
    refine .plain rfl ?_
    refine .q rfl rfl rfl (val_fieldAddr rfl fa_40_0) ?_
    refine .qs rfl rfl rfl H1 (ld_blks rfl ag_38 (.own .here) (by repeat constructor)) ?_
    refine .q rfl rfl rfl (val_fieldAddr rfl fa_40_0) ?_
    refine .q rfl rfl rfl (val_fieldAddr rfl fa_38_0) ?_
    refine .qs rfl rfl rfl H1 (ld_b rfl ob_3 (.own .here) rfl) ?_
    refine .q rfl rfl rfl (val_add rfl rfl rfl) ?_
    refine .q rfl rfl rfl (val_fieldAddr rfl fa_40_0) ?_
    refine .q rfl rfl rfl (val_fieldAddr rfl fa_38_1) ?_
    refine .qs rfl rfl rfl H1 (ld_b rfl ob_3 (.own .here) rfl) ?_
    refine .q rfl rfl rfl (val_mk (.cons rfl (.cons rfl .nil)) (mk_38_0_1 _ _)) ?_
    refine .lit rfl rfl rfl Tryz.underlying22 (.cons rfl (.cons rfl .nil)) (bs_38_2_0_1 _ _ _ _) H1 (fun w3 b3 H3 => ⟨fun _ => trivial, ?_⟩)
    refine .q rfl rfl rfl (val_assign rfl) ?_
    refine .nil (cj ?_)
    refine .ret (fret (res1 rfl rfl) ?_)
    subst hc0; exact hRR _ _ ⟨_, ⟨_, rfl, rfl, trivial⟩, H3.sub (.cons .here .nil)⟩
def besideR (c : Cf) (x y : Int) : Bool := openR c (w64 (x + 1)) y || openR c x (w64 (y + 1))
theorem besideR_spec (c : Cf) (hc : c.Fit) (x y : Int) : Sk.Spec Tryz.prog 66 #[.agg (encCf c).toArray, .agg #[i64 x, i64 y]] [cb c] [] fun e F' => e = .returned (.bool (besideR c x y)) ∧ F' = [] := by
  refine Spec.of_code (vs := [_, _]) (k0 := [(0, _), (1, _)]) 23 Tryz.func66 rfl Tryz.ntmps66 rfl (.cons (.cons .nil)) fun w X RR hRR H => ?_
  refine .seq ?_
  refine .plain rfl ?_
  refine .box rfl rfl rfl rfl rfl H (fun w1 b1 H1 => ⟨fun _ => trivial, ?_⟩)
  refine .box rfl rfl rfl rfl rfl H1 (fun w2 b2 H2 => ⟨fun _ => trivial, ?_⟩)
  refine .q rfl rfl rfl (val_assign rfl) ?_
  refine .nil (cj ?_)
  refine .seq ?_
  refine .plain rfl ?_
  refine .qs rfl rfl rfl H2 (ld_w rfl ag_26 (.own (.there .here)) rfl) ?_
  refine .q rfl rfl rfl (val_fieldAddr rfl fa_38_0) ?_
  refine .qs rfl rfl rfl H2 (ld_b rfl ob_3 (.own .here) rfl) ?_
  refine .q rfl rfl rfl (val_add rfl rfl rfl) ?_
  refine .q rfl rfl rfl (val_fieldAddr rfl fa_38_1) ?_
  refine .qs rfl rfl rfl H2 (ld_b rfl ob_3 (.own .here) rfl) ?_
  refine .q rfl rfl rfl (val_mk (.cons rfl (.cons rfl .nil)) (mk_38_0_1 _ _)) ?_
  refine .call1 rfl rfl rfl en61 (.cons rfl (.cons rfl .nil)) (openR_spec _ (by assumption) _ _) H2 .nil (.ro .here .nil) (fun w3 H3 => ⟨fun _ => trivial, ?_⟩)
  refine .q rfl rfl rfl (val_move rfl) ?_
  refine .case (t := 13) rfl (fun hs13 => ?_) (fun hs13 => ?_)
  · refine .no rfl rfl rfl ?_
    refine .no rfl rfl rfl ?_
    refine .no rfl rfl rfl ?_
    refine .no rfl rfl rfl ?_
    refine .no rfl rfl rfl ?_
    refine .no rfl rfl rfl ?_
    refine .no rfl rfl rfl ?_
    refine .no rfl rfl rfl ?_
    refine .q rfl rfl rfl (val_pick_t rfl rfl) ?_
    refine .q rfl rfl rfl (val_assign rfl) ?_
    refine .nil (cj ?_)
    refine .ret (fret (res1 rfl rfl) ?_)
    refine hRR _ _ ⟨_, ⟨?_, rfl⟩, H3.sub .nil⟩
    simp_all [besideR]
  · refine .qs rfl rfl rfl H3 (ld_w rfl ag_26 (.own (.there .here)) rfl) ?_
    refine .q rfl rfl rfl (val_fieldAddr rfl fa_38_0) ?_
    refine .qs rfl rfl rfl H3 (ld_b rfl ob_3 (.own .here) rfl) ?_
    refine .q rfl rfl rfl (val_fieldAddr rfl fa_38_1) ?_
    refine .qs rfl rfl rfl H3 (ld_b rfl ob_3 (.own .here) rfl) ?_
    refine .q rfl rfl rfl (val_add rfl rfl rfl) ?_
    refine .q rfl rfl rfl (val_mk (.cons rfl (.cons rfl .nil)) (mk_38_0_1 _ _)) ?_
    refine .call1 rfl rfl rfl en61 (.cons rfl (.cons rfl .nil)) (openR_spec _ (by assumption) _ _) H3 .nil (.ro .here .nil) (fun w4 H4 => ⟨fun _ => trivial, ?_⟩)
    refine .q rfl rfl rfl (val_pick_f rfl rfl) ?_
    refine .q rfl rfl rfl (val_assign rfl) ?_
    refine .nil (cj ?_)
    refine .ret (fret (res1 rfl rfl) ?_)
    refine hRR _ _ ⟨_, ⟨?_, rfl⟩, H4.sub .nil⟩
    simp_all [besideR]
def homeR (c : Cf) (x y : Int) : Bool := c.robots.any fun p => decide (0 < (((cellsL p).count ⟨x, y⟩ : Nat) : Int))
theorem any_snoc {α : Type} {f : α → Bool} {l : List α} {i : Nat} {c : α} (h : (l.take i).any f = false) (hc : l[i]? = some c) (ho : f c = false) : (l.take (i + 1)).any f = false := by
  rw [take_snoc hc]; simp [h, ho]
theorem any_some {α : Type} {f : α → Bool} {l : List α} {i : Nat} {c : α} (hc : l[i]? = some c) (ho : f c = true) : l.any f = true := List.any_eq_true.2 ⟨c, List.mem_of_getElem? hc, ho⟩
theorem homeR_spec (c : Cf) (hc : c.Fit) (x y : Int) : Sk.Spec Tryz.prog 65 #[.agg (encCf c).toArray, .agg #[i64 x, i64 y]] [cr c] [] fun e F' => e = .returned (.bool (homeR c x y)) ∧ F' = [] := by
  have hl := hc.r
  simp only [maxLen] at hl
  refine Spec.of_code (vs := [_, _]) (k0 := [(0, _), (1, _)]) 22 Tryz.func65 rfl Tryz.ntmps65 rfl (.cons (.cons .nil)) fun w X RR hRR H => ?_
  refine .seq ?_
  refine .plain rfl ?_
  refine .box rfl rfl rfl rfl rfl H (fun w1 b1 H1 => ⟨fun _ => trivial, ?_⟩)
  refine .box rfl rfl rfl rfl rfl H1 (fun w2 b2 H2 => ⟨fun _ => trivial, ?_⟩)
  refine .q rfl rfl rfl (val_assign rfl) ?_
  refine .nil (cj ?_)
  refine .seq ?_
  refine .seq ?_
  refine .plain rfl ?_
  refine .q rfl rfl rfl (val_assign rfl) ?_
  refine .nil (cj ?_)
  refine .block ?_
  refine .loop (ι := Nat) (fun i => [(2, ptr b1), (3, ptr b2), (5, i64 (i : Int))]) (fun i w' => St w w' X [cr c] [blk b2 [i64 x, i64 y] 38, blk b1 (encCf c) 26] ∧ i ≤ c.robots.length ∧ (c.robots.take i).any (fun p => decide (0 < (((cellsL p).count ⟨x, y⟩ : Nat) : Int))) = false) (fun i => c.robots.length - i) 0 (by repeat (first | exact Pick.nil | refine Pick.cons rfl ?_)) ⟨H2, Nat.zero_le _, rfl⟩ ?_
  rintro i w5 ⟨H3, hi, hn⟩
  refine .seq ?_
  refine .seq ?_
  refine .plain rfl ?_
  refine .q rfl rfl rfl (val_move rfl) ?_
  refine .q rfl rfl rfl (val_fieldAddr rfl fa_26_5) ?_
  refine .qs rfl rfl rfl H3 (ld_b rfl ob_23 (.own (.there .here)) rfl) ?_
  refine .q rfl rfl rfl (val_len Tryz.underlying23 rfl) ?_
  refine .q rfl rfl rfl (val_lss rfl rfl rfl) ?_
  refine .nil (cj ?_)
  refine .cond rfl (fun hc0 => ?_) (fun hc0 => ?_)
  · have hil : i < c.robots.length := by simp at hc0; exact hc0
    have hx := getD_get hil ⟨0, 0, false⟩
    obtain ⟨b, o, hA⟩ := Has.base (R := [cr c]) (.ro .here) H3 (nil_of_flat encP_len (by decide) hil)
    refine .skip (cj ?_)
    refine .seq ?_
    refine .block ?_
    refine .seq ?_
    refine .drawS 9 (.cons (0, true) (.cons (1, true) (.cons (2, true) (.cons (3, true) (.cons (4, true) (.cons (6, true) (.cons (5, false) (.cons (7, false) (.cons (8, true) .nil))))))))) mo (by kernel_rfl) H3 (fun _ _ _ _ _ h => h) (fun w4 H4 => ?_)
    refine .p rfl rfl rfl (val_fieldAddr rfl fa_26_5) ?_
    refine .ps rfl rfl rfl rfl (ld_b rfl ob_23 (.own (.there .here)) rfl) ?_
    refine .p rfl rfl rfl (val_move rfl) ?_
    refine .p rfl rfl rfl (val_ix el_23 hA rfl rfl rfl hil) ?_
    refine .ps rfl rfl rfl rfl (ld_ela rfl ag_40 .base hA (.ro .here) encP_len (by first | assumption | rfl)) ?_
    refine .ps rfl rfl rfl rfl (ld_w rfl ag_38 (.own .here) rfl) ?_
    refine .callx rfl rfl rfl en68 (.cons rfl .nil) (cellsR_spec _ _ _) H4 .nil .nil (fun b5 w5 C5 H5 => ⟨fun _ => (H5.sub (.cons (.there .here) (.cons (.there .here) .nil))), ?_⟩)
    refine .call1 rfl rfl rfl en64 (.cons rfl (.cons rfl .nil)) (among_spec_b (l := cellsL (c.robots.getD i ⟨0, 0, false⟩)) (by simp [maxLen])) H5 .nil (.own .here .nil) (fun w6 H6 => ⟨fun _ => (H6.sub (.cons (.there .here) (.cons (.there .here) .nil))), ?_⟩)
    refine .p rfl rfl rfl (val_gtr rfl rfl rfl) ?_
    refine .nil (cj ?_)
    refine .cond rfl (fun hc1 => ?_) (fun hc1 => ?_)
    · refine .seq ?_
      refine .plain rfl ?_
      refine .q rfl rfl rfl (val_assign rfl) ?_
      refine .nil (cj ?_)
      refine .ret (fret (res1 rfl rfl) ?_)
      refine hRR _ _ ⟨_, ⟨?_, rfl⟩, H6.sub .nil⟩
      first | (rw [show homeR c x y = true from any_some hx hc1]) | (rw [show homeR c x y = false from hn])
    · refine .skip (cj ?_)
      refine .plain rfl ?_
      refine .q rfl rfl rfl (val_move rfl) ?_
      refine .q rfl rfl rfl (val_add rfl rfl (z := ((i + 1 : Nat) : Int)) (w64_of (by omega))) ?_
      refine .q rfl rfl rfl (val_assign rfl) ?_
      refine .nil ?_
      intro act0 hact0; change Exists _
      refine ⟨(i + 1), Pick.kn (by repeat (first | exact Pick.nil | refine Pick.cons rfl ?_)) hact0, ⟨H6.sub (.cons (.there .here) (.cons (.there .here) .nil)), hil, any_snoc hn hx hc1⟩, (by omega)⟩
  · have hil : i = c.robots.length := by simp at hc0; omega
    subst hil
    rw [List.take_length] at hn
    refine .exit (cj ?_)
    refine .seq ?_
    refine .plain rfl ?_
    refine .q rfl rfl rfl (val_assign rfl) ?_
    refine .nil (cj ?_)
    refine .ret (fret (res1 rfl rfl) ?_)
    refine hRR _ _ ⟨_, ⟨?_, rfl⟩, H3.sub .nil⟩
    first | (rw [show homeR c x y = true from any_some hx hc1]) | (rw [show homeR c x y = false from hn])
def stackedR (c : Cf) (x y : Int) : Bool := openR c x y && decide (portFrom c.ports x y < 0) && (!homeR c x y) && besideR c x y
theorem stackedR_spec (c : Cf) (hc : c.Fit) (x y : Int) : Sk.Spec Tryz.prog 93 #[.agg (encCf c).toArray, .agg #[i64 x, i64 y]] [cb c, cp c, cr c] [] fun e F' => e = .returned (.bool (stackedR c x y)) ∧ F' = [] := by
  refine Spec.of_code (vs := [_, _]) (k0 := [(0, _), (1, _)]) 25 Tryz.func93 rfl Tryz.ntmps93 rfl (.cons (.cons .nil)) fun w X RR hRR H => ?_
  refine .seq ?_
  refine .plain rfl ?_
  refine .box rfl rfl rfl rfl rfl H (fun w1 b1 H1 => ⟨fun _ => trivial, ?_⟩)
  refine .box rfl rfl rfl rfl rfl H1 (fun w2 b2 H2 => ⟨fun _ => trivial, ?_⟩)
  refine .q rfl rfl rfl (val_assign rfl) ?_
  refine .nil (cj ?_)
  refine .seq ?_
  refine .plain rfl ?_
  refine .qs rfl rfl rfl H2 (ld_w rfl ag_26 (.own (.there .here)) rfl) ?_
  refine .qs rfl rfl rfl H2 (ld_w rfl ag_38 (.own .here) rfl) ?_
  refine .call1 rfl rfl rfl en61 (.cons rfl (.cons rfl .nil)) (openR_spec _ (by assumption) _ _) H2 .nil (.ro .here .nil) (fun w3 H3 => ⟨fun _ => trivial, ?_⟩)
  refine .q rfl rfl rfl (val_move rfl) ?_
  refine .case (t := 8) rfl (fun hs8 => ?_) (fun hs8 => ?_)
  · refine .qs rfl rfl rfl H3 (ld_w rfl ag_26 (.own (.there .here)) rfl) ?_
    refine .qs rfl rfl rfl H3 (ld_w rfl ag_38 (.own .here) rfl) ?_
    refine .call1 rfl rfl rfl en113 (.cons rfl (.cons rfl .nil)) (portR_spec _ (by assumption) _ _) H3 .nil (.ro (.there .here) .nil) (fun w4 H4 => ⟨fun _ => trivial, ?_⟩)
    refine .q rfl rfl rfl (val_lss rfl rfl rfl) ?_
    refine .q rfl rfl rfl (val_pick_t rfl rfl) ?_
    refine .q rfl rfl rfl (val_move rfl) ?_
    refine .case (t := 14) rfl (fun hs14 => ?_) (fun hs14 => ?_)
    · refine .qs rfl rfl rfl H4 (ld_w rfl ag_26 (.own (.there .here)) rfl) ?_
      refine .qs rfl rfl rfl H4 (ld_w rfl ag_38 (.own .here) rfl) ?_
      refine .call1 rfl rfl rfl en65 (.cons rfl (.cons rfl .nil)) (homeR_spec _ (by assumption) _ _) H4 .nil (.ro (.there (.there .here)) .nil) (fun w5 H5 => ⟨fun _ => trivial, ?_⟩)
      refine .q rfl rfl rfl (val_not rfl rfl) ?_
      refine .q rfl rfl rfl (val_pick_t rfl rfl) ?_
      refine .q rfl rfl rfl (val_move rfl) ?_
      refine .case (t := 20) rfl (fun hs20 => ?_) (fun hs20 => ?_)
      · refine .qs rfl rfl rfl H5 (ld_w rfl ag_26 (.own (.there .here)) rfl) ?_
        refine .qs rfl rfl rfl H5 (ld_w rfl ag_38 (.own .here) rfl) ?_
        refine .call1 rfl rfl rfl en66 (.cons rfl (.cons rfl .nil)) (besideR_spec _ (by assumption) _ _) H5 .nil (.ro .here .nil) (fun w6 H6 => ⟨fun _ => trivial, ?_⟩)
        refine .q rfl rfl rfl (val_pick_t rfl rfl) ?_
        refine .q rfl rfl rfl (val_assign rfl) ?_
        refine .nil (cj ?_)
        refine .ret (fret (res1 rfl rfl) ?_)
        refine hRR _ _ ⟨_, ⟨?_, rfl⟩, H6.sub .nil⟩
        simp_all [stackedR] <;> (intro hq; omega)
      · refine .no rfl rfl rfl ?_
        refine .no rfl rfl rfl ?_
        refine .no rfl rfl rfl ?_
        refine .q rfl rfl rfl (val_pick_f rfl rfl) ?_
        refine .q rfl rfl rfl (val_assign rfl) ?_
        refine .nil (cj ?_)
        refine .ret (fret (res1 rfl rfl) ?_)
        refine hRR _ _ ⟨_, ⟨?_, rfl⟩, H5.sub .nil⟩
        simp_all [stackedR] <;> (intro hq; omega)
    · refine .no rfl rfl rfl ?_
      refine .no rfl rfl rfl ?_
      refine .no rfl rfl rfl ?_
      refine .no rfl rfl rfl ?_
      refine .q rfl rfl rfl (val_pick_f rfl rfl) ?_
      refine .q rfl rfl rfl (val_move rfl) ?_
      refine .no rfl rfl rfl ?_
      refine .no rfl rfl rfl ?_
      refine .no rfl rfl rfl ?_
      refine .q rfl rfl rfl (val_pick_f rfl rfl) ?_
      refine .q rfl rfl rfl (val_assign rfl) ?_
      refine .nil (cj ?_)
      refine .ret (fret (res1 rfl rfl) ?_)
      refine hRR _ _ ⟨_, ⟨?_, rfl⟩, H4.sub .nil⟩
      simp_all [stackedR] <;> (intro hq; omega)
  · refine .no rfl rfl rfl ?_
    refine .no rfl rfl rfl ?_
    refine .no rfl rfl rfl ?_
    refine .no rfl rfl rfl ?_
    refine .q rfl rfl rfl (val_pick_f rfl rfl) ?_
    refine .q rfl rfl rfl (val_move rfl) ?_
    refine .no rfl rfl rfl ?_
    refine .no rfl rfl rfl ?_
    refine .no rfl rfl rfl ?_
    refine .no rfl rfl rfl ?_
    refine .q rfl rfl rfl (val_pick_f rfl rfl) ?_
    refine .q rfl rfl rfl (val_move rfl) ?_
    refine .no rfl rfl rfl ?_
    refine .no rfl rfl rfl ?_
    refine .no rfl rfl rfl ?_
    refine .q rfl rfl rfl (val_pick_f rfl rfl) ?_
    refine .q rfl rfl rfl (val_assign rfl) ?_
    refine .nil (cj ?_)
    refine .ret (fret (res1 rfl rfl) ?_)
    refine hRR _ _ ⟨_, ⟨?_, rfl⟩, H3.sub .nil⟩
    simp_all [stackedR] <;> (intro hq; omega)
def fitsR (c : Cf) (p : Ps) : Bool := openR c p.x p.y && openR c (cell2R p).x (cell2R p).y
theorem fitsR_spec (c : Cf) (hc : c.Fit) (x y : Int) (d : Bool) : Sk.Spec Tryz.prog 67 #[.agg (encCf c).toArray, .agg #[i64 x, i64 y, .bool d]] [cb c] [] fun e F' => e = .returned (.bool (fitsR c ⟨x, y, d⟩)) ∧ F' = [] := by
  refine Spec.of_code (vs := [_, _]) (k0 := [(0, _), (1, _)]) 20 Tryz.func67 rfl Tryz.ntmps67 rfl (.cons (.cons .nil)) fun w X RR hRR H => ?_
  refine .seq ?_
  refine .plain rfl ?_
  refine .box rfl rfl rfl rfl rfl H (fun w1 b1 H1 => ⟨fun _ => trivial, ?_⟩)
  refine .box rfl rfl rfl rfl rfl H1 (fun w2 b2 H2 => ⟨fun _ => trivial, ?_⟩)
  refine .q rfl rfl rfl (val_assign rfl) ?_
  refine .nil (cj ?_)
  refine .seq ?_
  refine .plain rfl ?_
  refine .qs rfl rfl rfl H2 (ld_w rfl ag_40 (.own .here) rfl) ?_
  refine .callx rfl rfl rfl en68 (.cons rfl .nil) (cellsR_spec _ _ _) H2 .nil .nil (fun b3 w3 C3 H3 => ⟨fun _ => trivial, ?_⟩)
  refine .q rfl rfl rfl (val_assign rfl) ?_
  refine .nil (cj ?_)
  refine .seq ?_
  refine .drawS 13 (.cons (0, true) (.cons (1, true) (.cons (2, true) (.cons (3, true) (.cons (4, false) (.cons (5, true) (.cons (6, true) (.cons (7, true) (.cons (8, true) (.cons (9, true) (.cons (10, false) (.cons (11, true) (.cons (12, true) .nil))))))))))))) mo (by kernel_rfl) H3 (fun _ _ _ _ _ h => h) (fun w4 H4 => ?_)
  refine .ps rfl rfl rfl rfl (ld_w rfl ag_26 (.own (.there (.there .here))) rfl) ?_
  refine .p rfl rfl rfl (val_move rfl) ?_
  refine .p rfl rfl rfl (val_ix el_22 rfl rfl rfl (i := 0) rfl (by decide)) ?_
  refine .ps rfl rfl rfl rfl (ld_blks rfl ag_38 (.own .here) (by repeat constructor)) ?_
  refine .call1 rfl rfl rfl en61 (.cons rfl (.cons rfl .nil)) (openR_spec _ (by assumption) _ _) H4 .nil (.ro .here .nil) (fun w5 H5 => ⟨fun _ => H5, ?_⟩)
  refine .p rfl rfl rfl (val_move rfl) ?_
  refine .case (t := 13) rfl (fun hs13 => ?_) (fun hs13 => ?_)
  · refine .ps rfl rfl rfl rfl (ld_w rfl ag_26 (.own (.there (.there .here))) rfl) ?_
    refine .p rfl rfl rfl (val_move rfl) ?_
    refine .p rfl rfl rfl (val_ix el_22 rfl rfl rfl (i := 1) rfl (by decide)) ?_
    refine .ps rfl rfl rfl rfl (ld_blks rfl ag_38 (.own .here) (by repeat constructor)) ?_
    refine .call1 rfl rfl rfl en61 (.cons rfl (.cons rfl .nil)) (openR_spec _ (by assumption) _ _) H5 .nil (.ro .here .nil) (fun w6 H6 => ⟨fun _ => H6, ?_⟩)
    refine .p rfl rfl rfl (val_pick_t rfl rfl) ?_
    refine .p rfl rfl rfl (val_assign rfl) ?_
    refine .nil (cj ?_)
    refine .ret (fret (res1 rfl rfl) ?_)
    refine hRR _ _ ⟨_, ⟨?_, rfl⟩, H6.sub .nil⟩
    simp_all [fitsR]
  · refine .no rfl rfl rfl ?_
    refine .no rfl rfl rfl ?_
    refine .no rfl rfl rfl ?_
    refine .no rfl rfl rfl ?_
    refine .no rfl rfl rfl ?_
    refine .p rfl rfl rfl (val_pick_f rfl rfl) ?_
    refine .p rfl rfl rfl (val_assign rfl) ?_
    refine .nil (cj ?_)
    refine .ret (fret (res1 rfl rfl) ?_)
    refine hRR _ _ ⟨_, ⟨?_, rfl⟩, H5.sub .nil⟩
    simp_all [fitsR]
def shiftS (p : Ps) (dir n : Int) : Ps :=
  if dir = 0 then ⟨p.x, w64 (p.y - n), p.d⟩ else if dir = 1 then ⟨w64 (p.x + n), p.y, p.d⟩ else if dir = 2 then ⟨p.x, w64 (p.y + n), p.d⟩ else if dir = 3 then ⟨w64 (p.x - n), p.y, p.d⟩ else p
theorem shiftS_spec (x y : Int) (d : Bool) (dir n : Int) : Sk.Spec Tryz.prog 74 #[.agg #[i64 x, i64 y, .bool d], i64 dir, i64 n] [] [] fun e F' => e = .returned (.agg (encP (shiftS ⟨x, y, d⟩ dir n)).toArray) ∧ F' = [] := by
  refine Spec.of_code (vs := [_, _, _]) (k0 := [(0, _), (1, _), (2, _)]) 45 Tryz.func74 rfl Tryz.ntmps74 rfl (.cons (.cons (.cons .nil))) fun w X RR hRR H => ?_
  refine .seq ?_
  refine .plain rfl ?_
  refine .box rfl rfl rfl rfl rfl H (fun w1 b1 H1 => ⟨fun _ => trivial, ?_⟩)
  refine .alloc rfl rfl rfl ze_40 rfl H1 (fun w2 b2 H2 => ⟨fun _ => trivial, ?_⟩)
  refine .nil (cj ?_)
  refine .seq ?_
  refine .seq ?_
  refine .plain rfl ?_
  refine .q rfl rfl rfl (val_move rfl) ?_
  refine .nil (cj ?_)
  refine .block ?_
  refine .seq ?_
  refine .plain rfl ?_
  refine .q rfl rfl rfl (val_eql rfl rfl rfl) ?_
  refine .q rfl rfl rfl (val_assign rfl) ?_
  refine .nil (cj ?_)
  refine .cond rfl (fun hc0 => ?_) (fun hc0 => ?_)
  · refine .plain rfl ?_
    refine .q rfl rfl rfl (val_fieldAddr rfl fa_40_0) ?_
    refine .q rfl rfl rfl (val_fieldAddr rfl fa_38_1) ?_
    refine .qs rfl rfl rfl H2 (ld_b rfl ob_3 (.own (.there .here)) rfl) ?_
    refine .q rfl rfl rfl (val_move rfl) ?_
    refine .q rfl rfl rfl (val_sub rfl rfl rfl) ?_
    refine .q rfl rfl rfl (val_fieldAddr rfl fa_40_0) ?_
    refine .q rfl rfl rfl (val_fieldAddr rfl fa_38_1) ?_
    refine .store rfl rfl rfl rfl rfl sz_3 rfl H2 (.there .here) (by repeat constructor) (fun w3 H3 => ⟨fun _ => trivial, ?_⟩)
    refine .nil (cj ?_)
    refine .seq ?_
    refine .plain rfl ?_
    refine .qs rfl rfl rfl H3 (ld_w rfl ag_40 (.own .here) rfl) ?_
    refine .store rfl rfl rfl rfl rfl sz_40 rfl H3 (.there .here) (by repeat constructor) (fun w4 H4 => ⟨fun _ => trivial, ?_⟩)
    refine .nil (cj ?_)
    refine .ret (fret (resc rfl rfl (lds_w ag_40 (.own .here) rfl H4)) ?_)
    refine hRR _ _ ⟨_, ⟨?_, rfl⟩, H4.sub .nil⟩
    simp_all [shiftS]
  · refine .seq ?_
    refine .plain rfl ?_
    refine .q rfl rfl rfl (val_eql rfl rfl rfl) ?_
    refine .q rfl rfl rfl (val_assign rfl) ?_
    refine .nil (cj ?_)
    refine .cond rfl (fun hc1 => ?_) (fun hc1 => ?_)
    · refine .plain rfl ?_
      refine .q rfl rfl rfl (val_fieldAddr rfl fa_40_0) ?_
      refine .q rfl rfl rfl (val_fieldAddr rfl fa_38_0) ?_
      refine .qs rfl rfl rfl H2 (ld_b rfl ob_3 (.own (.there .here)) rfl) ?_
      refine .q rfl rfl rfl (val_move rfl) ?_
      refine .q rfl rfl rfl (val_add rfl rfl rfl) ?_
      refine .q rfl rfl rfl (val_fieldAddr rfl fa_40_0) ?_
      refine .q rfl rfl rfl (val_fieldAddr rfl fa_38_0) ?_
      refine .store rfl rfl rfl rfl rfl sz_3 rfl H2 (.there .here) (by repeat constructor) (fun w5 H5 => ⟨fun _ => trivial, ?_⟩)
      refine .nil (cj ?_)
      refine .seq ?_
      refine .plain rfl ?_
      refine .qs rfl rfl rfl H5 (ld_w rfl ag_40 (.own .here) rfl) ?_
      refine .store rfl rfl rfl rfl rfl sz_40 rfl H5 (.there .here) (by repeat constructor) (fun w6 H6 => ⟨fun _ => trivial, ?_⟩)
      refine .nil (cj ?_)
      refine .ret (fret (resc rfl rfl (lds_w ag_40 (.own .here) rfl H6)) ?_)
      refine hRR _ _ ⟨_, ⟨?_, rfl⟩, H6.sub .nil⟩
      simp_all [shiftS]
    · refine .seq ?_
      refine .plain rfl ?_
      refine .q rfl rfl rfl (val_eql rfl rfl rfl) ?_
      refine .q rfl rfl rfl (val_assign rfl) ?_
      refine .nil (cj ?_)
      refine .cond rfl (fun hc2 => ?_) (fun hc2 => ?_)
      · refine .plain rfl ?_
        refine .q rfl rfl rfl (val_fieldAddr rfl fa_40_0) ?_
        refine .q rfl rfl rfl (val_fieldAddr rfl fa_38_1) ?_
        refine .qs rfl rfl rfl H2 (ld_b rfl ob_3 (.own (.there .here)) rfl) ?_
        refine .q rfl rfl rfl (val_move rfl) ?_
        refine .q rfl rfl rfl (val_add rfl rfl rfl) ?_
        refine .q rfl rfl rfl (val_fieldAddr rfl fa_40_0) ?_
        refine .q rfl rfl rfl (val_fieldAddr rfl fa_38_1) ?_
        refine .store rfl rfl rfl rfl rfl sz_3 rfl H2 (.there .here) (by repeat constructor) (fun w7 H7 => ⟨fun _ => trivial, ?_⟩)
        refine .nil (cj ?_)
        refine .seq ?_
        refine .plain rfl ?_
        refine .qs rfl rfl rfl H7 (ld_w rfl ag_40 (.own .here) rfl) ?_
        refine .store rfl rfl rfl rfl rfl sz_40 rfl H7 (.there .here) (by repeat constructor) (fun w8 H8 => ⟨fun _ => trivial, ?_⟩)
        refine .nil (cj ?_)
        refine .ret (fret (resc rfl rfl (lds_w ag_40 (.own .here) rfl H8)) ?_)
        refine hRR _ _ ⟨_, ⟨?_, rfl⟩, H8.sub .nil⟩
        simp_all [shiftS]
      · refine .seq ?_
        refine .plain rfl ?_
        refine .q rfl rfl rfl (val_eql rfl rfl rfl) ?_
        refine .q rfl rfl rfl (val_assign rfl) ?_
        refine .nil (cj ?_)
        refine .cond rfl (fun hc3 => ?_) (fun hc3 => ?_)
        · refine .plain rfl ?_
          refine .q rfl rfl rfl (val_fieldAddr rfl fa_40_0) ?_
          refine .q rfl rfl rfl (val_fieldAddr rfl fa_38_0) ?_
          refine .qs rfl rfl rfl H2 (ld_b rfl ob_3 (.own (.there .here)) rfl) ?_
          refine .q rfl rfl rfl (val_move rfl) ?_
          refine .q rfl rfl rfl (val_sub rfl rfl rfl) ?_
          refine .q rfl rfl rfl (val_fieldAddr rfl fa_40_0) ?_
          refine .q rfl rfl rfl (val_fieldAddr rfl fa_38_0) ?_
          refine .store rfl rfl rfl rfl rfl sz_3 rfl H2 (.there .here) (by repeat constructor) (fun w9 H9 => ⟨fun _ => trivial, ?_⟩)
          refine .nil (cj ?_)
          refine .seq ?_
          refine .plain rfl ?_
          refine .qs rfl rfl rfl H9 (ld_w rfl ag_40 (.own .here) rfl) ?_
          refine .store rfl rfl rfl rfl rfl sz_40 rfl H9 (.there .here) (by repeat constructor) (fun w10 H10 => ⟨fun _ => trivial, ?_⟩)
          refine .nil (cj ?_)
          refine .ret (fret (resc rfl rfl (lds_w ag_40 (.own .here) rfl H10)) ?_)
          refine hRR _ _ ⟨_, ⟨?_, rfl⟩, H10.sub .nil⟩
          simp_all [shiftS]
        · refine .skip (cj ?_)
          refine .seq ?_
          refine .plain rfl ?_
          refine .qs rfl rfl rfl H2 (ld_w rfl ag_40 (.own (.there .here)) rfl) ?_
          refine .store rfl rfl rfl rfl rfl sz_40 rfl H2 .here (by repeat constructor) (fun w11 H11 => ⟨fun _ => trivial, ?_⟩)
          refine .nil (cj ?_)
          refine .ret (fret (resc rfl rfl (lds_w ag_40 (.own .here) rfl H11)) ?_)
          refine hRR _ _ ⟨_, ⟨?_, rfl⟩, H11.sub .nil⟩
          simp_all [shiftS]
abbrev squareR (x y : Int) : List Cl := [⟨x, y⟩, ⟨w64 (x + 1), y⟩, ⟨x, w64 (y + 1)⟩, ⟨w64 (x + 1), w64 (y + 1)⟩]
theorem squareR_spec (x y : Int) (d : Bool) : Sk.Spec Tryz.prog 101 #[.agg #[i64 x, i64 y, .bool d]] [] [] fun e F' => ∃ b : Nat, e = .returned (.slice (some ⟨b, 0, none⟩) 4 4) ∧ F' = [blk b ((squareL x y).flatMap encC) 38] ∧ True := by
  refine Spec.of_code (vs := [_]) (k0 := [(0, _)]) 28 Tryz.func101 rfl Tryz.ntmps101 rfl (.cons .nil) fun w X RR hRR H => ?_
  refine .seq ?_
  refine .plain rfl ?_
  refine .box rfl rfl rfl rfl rfl H (fun w1 b1 H1 => ⟨fun _ => trivial, ?_⟩)
  refine .q rfl rfl rfl (val_assign rfl) ?_
  refine .nil (cj ?_)
  refine .seq ?_
  refine .plain rfl ?_
  refine .q rfl rfl rfl (val_fieldAddr rfl fa_40_0) ?_
  refine .q rfl rfl rfl (val_fieldAddr rfl fa_38_0) ?_
  refine .qs rfl rfl rfl H1 (ld_b rfl ob_3 (.own .here) rfl) ?_
  refine .q rfl rfl rfl (val_assign rfl) ?_
  refine .nil (cj ?_)
  refine .seq ?_
  refine .plain rfl ?_
  refine .q rfl rfl rfl (val_fieldAddr rfl fa_40_0) ?_
  refine .q rfl rfl rfl (val_fieldAddr rfl fa_38_1) ?_
  refine .qs rfl rfl rfl H1 (ld_b rfl ob_3 (.own .here) rfl) ?_
  refine .q rfl rfl rfl (val_assign rfl) ?_
  refine .nil (cj ?_)
  refine .seq ?_
  refine .plain rfl ?_
  refine .q rfl rfl rfl (val_move rfl) ?_
  refine .q rfl rfl rfl (val_move rfl) ?_
  refine .q rfl rfl rfl (val_mk (.cons rfl (.cons rfl .nil)) (mk_38_0_1 _ _)) ?_
  refine .q rfl rfl rfl (val_move rfl) ?_
  refine .q rfl rfl rfl (val_add rfl rfl rfl) ?_
  refine .q rfl rfl rfl (val_move rfl) ?_
  refine .q rfl rfl rfl (val_mk (.cons rfl (.cons rfl .nil)) (mk_38_0_1 _ _)) ?_
  refine .q rfl rfl rfl (val_move rfl) ?_
  refine .q rfl rfl rfl (val_move rfl) ?_
  refine .q rfl rfl rfl (val_add rfl rfl rfl) ?_
  refine .q rfl rfl rfl (val_mk (.cons rfl (.cons rfl .nil)) (mk_38_0_1 _ _)) ?_
  refine .q rfl rfl rfl (val_move rfl) ?_
  refine .q rfl rfl rfl (val_add rfl rfl rfl) ?_
  refine .q rfl rfl rfl (val_move rfl) ?_
  refine .q rfl rfl rfl (val_add rfl rfl rfl) ?_
  refine .q rfl rfl rfl (val_mk (.cons rfl (.cons rfl .nil)) (mk_38_0_1 _ _)) ?_
  refine .lit rfl rfl rfl Tryz.underlying22 (.cons rfl (.cons rfl (.cons rfl (.cons rfl .nil)))) (bs_38_4_0_1_2_3 _ _ _ _ _ _ _ _) H1 (fun w2 b2 H2 => ⟨fun _ => trivial, ?_⟩)
  refine .q rfl rfl rfl (val_assign rfl) ?_
  refine .nil (cj ?_)
  refine .ret (fret (res1 rfl rfl) ?_)
  exact hRR _ _ ⟨_, ⟨_, rfl, rfl, trivial⟩, H2.sub (.cons .here .nil)⟩
theorem shiftSR_spec (x y : Int) (d : Bool) (dir n : Int) : Sk.Spec Tryz.prog 105 #[.agg #[i64 x, i64 y, .bool d], i64 dir, i64 n] [] [] fun e F' => e = .returned (.tuple #[.agg (encP (if shiftOk dir n then shiftS ⟨x, y, d⟩ dir n else ⟨0, 0, false⟩)).toArray, .bool (shiftOk dir n)]) ∧ F' = [] := by
  refine Spec.of_code (vs := [_, _, _]) (k0 := [(0, _), (1, _), (2, _)]) 21 Tryz.func105 rfl Tryz.ntmps105 rfl (.cons (.cons (.cons .nil))) fun w X RR hRR H => ?_
  refine .seq ?_
  refine .plain rfl ?_
  refine .box rfl rfl rfl rfl rfl H (fun w1 b1 H1 => ⟨fun _ => trivial, ?_⟩)
  refine .alloc rfl rfl rfl ze_40 rfl H1 (fun w2 b2 H2 => ⟨fun _ => trivial, ?_⟩)
  refine .q rfl rfl rfl (val_assign rfl) ?_
  refine .nil (cj ?_)
  refine .seq ?_
  refine .seq ?_
  refine .plain rfl ?_
  refine .q rfl rfl rfl (val_move rfl) ?_
  refine .call1 rfl rfl rfl en92 (.cons rfl (.cons rfl (.cons rfl .nil))) (within92_spec _ _ _) H2 .nil .nil (fun w3 H3 => ⟨fun _ => trivial, ?_⟩)
  refine .q rfl rfl rfl (val_not rfl rfl) ?_
  refine .q rfl rfl rfl (val_move rfl) ?_
  refine .case (t := 11) rfl (fun hs11 => ?_) (fun hs11 => ?_)
  · refine .no rfl rfl rfl ?_
    refine .no rfl rfl rfl ?_
    refine .no rfl rfl rfl ?_
    refine .q rfl rfl rfl (val_pick_t rfl rfl) ?_
    refine .nil (cj ?_)
    refine .cond_t rfl ?_
    refine .seq ?_
    refine .plain rfl ?_
    refine .q rfl rfl rfl (val_mk .nil mk_40_) ?_
    refine .store rfl rfl rfl rfl rfl sz_40 rfl H3 .here (by repeat constructor) (fun w4 H4 => ⟨fun _ => trivial, ?_⟩)
    refine .q rfl rfl rfl (val_assign rfl) ?_
    refine .nil (cj ?_)
    refine .ret (fret (resct rfl rfl (lds_w ag_40 (.own .here) rfl H4) rfl) ?_)
    refine hRR _ _ ⟨_, ⟨?_, rfl⟩, H4.sub .nil⟩
    first | (rw [shift_yes hs11 hc0]; rfl) | (rw [shift_no1 hs11]; rfl) | (rw [shift_no2 hc0]; rfl)
  · refine .q rfl rfl rfl (val_move rfl) ?_
    refine .call1 rfl rfl rfl en92 (.cons rfl (.cons rfl (.cons rfl .nil))) (within92_spec _ _ _) H3 .nil .nil (fun w5 H5 => ⟨fun _ => trivial, ?_⟩)
    refine .q rfl rfl rfl (val_not rfl rfl) ?_
    refine .q rfl rfl rfl (val_pick_f rfl rfl) ?_
    refine .nil (cj ?_)
    refine .cond rfl (fun hc0 => ?_) (fun hc0 => ?_)
    · refine .seq ?_
      refine .plain rfl ?_
      refine .q rfl rfl rfl (val_mk .nil mk_40_) ?_
      refine .store rfl rfl rfl rfl rfl sz_40 rfl H5 .here (by repeat constructor) (fun w6 H6 => ⟨fun _ => trivial, ?_⟩)
      refine .q rfl rfl rfl (val_assign rfl) ?_
      refine .nil (cj ?_)
      refine .ret (fret (resct rfl rfl (lds_w ag_40 (.own .here) rfl H6) rfl) ?_)
      refine hRR _ _ ⟨_, ⟨?_, rfl⟩, H6.sub .nil⟩
      first | (rw [shift_yes hs11 hc0]; rfl) | (rw [shift_no1 hs11]; rfl) | (rw [shift_no2 hc0]; rfl)
    · refine .skip (cj ?_)
      refine .seq ?_
      refine .plain rfl ?_
      refine .qs rfl rfl rfl H5 (ld_w rfl ag_40 (.own (.there .here)) rfl) ?_
      refine .q rfl rfl rfl (val_move rfl) ?_
      refine .q rfl rfl rfl (val_move rfl) ?_
      refine .call1 rfl rfl rfl en74 (.cons rfl (.cons rfl (.cons rfl .nil))) (shiftS_spec _ _ _ _ _) H5 .nil .nil (fun w7 H7 => ⟨fun _ => trivial, ?_⟩)
      refine .store rfl rfl rfl rfl rfl sz_40 rfl H7 .here (by repeat constructor) (fun w8 H8 => ⟨fun _ => trivial, ?_⟩)
      refine .q rfl rfl rfl (val_assign rfl) ?_
      refine .nil (cj ?_)
      refine .ret (fret (resct rfl rfl (lds_w ag_40 (.own .here) rfl H8) rfl) ?_)
      refine hRR _ _ ⟨_, ⟨?_, rfl⟩, H8.sub .nil⟩
      first | (rw [shift_yes hs11 hc0]; rfl) | (rw [shift_no1 hs11]; rfl) | (rw [shift_no2 hc0]; rfl)
end Go.Proofs.YtmbibkifbehgnaaGreatDoor
/-! ## R3: Walks of the document's grid, part 3: Legal, Moves. -/
namespace Go.Proofs.YtmbibkifbehgnaaGreatDoor
open Go Sk
set_option linter.unusedVariables false
set_option linter.unusedSimpArgs false
theorem en67 : Enters Tryz.prog 67 := fun args w => by kernel_rfl
theorem en101 : Enters Tryz.prog 101 := fun args w => by kernel_rfl
/-- places 1 to k of a run fit -/
def fitR (c : Cf) (fr : Ps) (dir : Int) : Nat → Bool
  | 0 => true
  | k + 1 => fitR c fr dir k && fitsR c (shiftS fr dir ((k + 1 : Nat) : Int))
theorem fitR_le {c : Cf} {fr : Ps} {dir : Int} {k : Nat} : ∀ {n : Nat}, k ≤ n → fitR c fr dir n = true → fitR c fr dir k = true := by
  intro n
  induction n with
  | zero => intro h h'; obtain rfl : k = 0 := by omega
            rfl
  | succ n ih =>
    intro h h'
    rcases Nat.lt_or_ge n k with hk | hk
    · obtain rfl : k = n + 1 := by omega
      exact h'
    · simp only [fitR, Bool.and_eq_true] at h'
      exact ih hk h'.1
def legalR (c : Cf) (m : Mv) : Bool :=
  if fitsR c m.fr = false then false
  else if m.kind = 1 then withinB m.n 1 16 && (withinB m.dir 0 3 && (decide (m.to = shiftS m.fr m.dir m.n) && fitR c m.fr m.dir m.n.toNat))
  else if m.kind = 2 then (squareL m.fr.x m.fr.y).all (fun x => openR c x.x x.y) && ((m.n == 0) && ((m.dir == 0) && decide (m.to = ⟨m.fr.x, m.fr.y, !m.fr.d⟩)))
  else if m.kind = 3 ∨ m.kind = 4 then (m.n == 0) && ((m.dir == 0) && decide (m.to = m.fr)) else false
theorem all_takeR {c : Cf} {l : List Cl} {i : Nat} {x : Cl} (h : (l.take i).all (fun x => openR c x.x x.y) = true) (hc : l[i]? = some x) (ho : (!openR c x.x x.y) = false) : (l.take (i + 1)).all (fun x => openR c x.x x.y) = true := by
  rw [take_snoc hc, List.all_append, h]; simpa using ho
theorem all_noR {c : Cf} {l : List Cl} {i : Nat} {x : Cl} (hc : l[i]? = some x) (ho : (!openR c x.x x.y) = true) : l.all (fun x => openR c x.x x.y) = false := by
  rw [List.all_eq_false]
  exact ⟨x, List.mem_of_getElem? hc, by simpa using ho⟩
theorem legalR_turn {c : Cf} {m : Mv} {b : Bool} (hf : (!fitsR c m.fr) = false) (hk : (m.kind == 2) = true) (h : (squareL m.fr.x m.fr.y).all (fun x => openR c x.x x.y) = b) :
    legalR c m = (b && ((m.n == 0) && ((m.dir == 0) && decide (m.to = ⟨m.fr.x, m.fr.y, !m.fr.d⟩)))) := by
  have hf : fitsR c m.fr = true := by simpa using hf
  have hk : m.kind = 2 := by simpa using hk
  simp only [legalR, hf, hk, h]; simp
theorem legalR_run {c : Cf} {m : Mv} (hf : (!fitsR c m.fr) = false) (hk : (m.kind == 1) = true) :
    legalR c m = (withinB m.n 1 16 && (withinB m.dir 0 3 && (decide (m.to = shiftS m.fr m.dir m.n) && fitR c m.fr m.dir m.n.toNat))) := by
  have hf : fitsR c m.fr = true := by simpa using hf
  have hk : m.kind = 1 := by simpa using hk
  simp only [legalR, hf, hk]; simp
theorem legalR_hoist {c : Cf} {m : Mv} (hf : (!fitsR c m.fr) = false) (h1 : (m.kind == 1) = false) (h2 : (m.kind == 2) = false) (hk : (m.kind == 3) = true ∨ (m.kind == 4) = true) :
    legalR c m = ((m.n == 0) && ((m.dir == 0) && decide (m.to = m.fr))) := by
  have hf : fitsR c m.fr = true := by simpa using hf
  have h1 : ¬ m.kind = 1 := by simpa using h1
  have h2 : ¬ m.kind = 2 := by simpa using h2
  have hk : m.kind = 3 ∨ m.kind = 4 := by simpa using hk
  simp only [legalR, hf]
  rw [if_neg (by simp), if_neg h1, if_neg h2, if_pos hk]
theorem legalR_none {c : Cf} {m : Mv} (h1 : (m.kind == 1) = false) (h2 : (m.kind == 2) = false) (h3 : (m.kind == 3) = false) (h4 : (m.kind == 4) = false) : legalR c m = false := by
  simp_all [legalR]
theorem nf {b : Bool} (h : (!b) = false) : b = true := by simpa using h
theorem nt {b : Bool} (h : (!b) = true) : b = false := by simpa using h
theorem retb {b c : Bool} (h : b = c) : Ending.returned (.bool b) = Ending.returned (.bool c) := by rw [h]
theorem legalR_spec (c : Cf) (hc : c.Fit) (m : Mv) : Sk.Spec Tryz.prog 75 #[.agg (encCf c).toArray, .agg (encM m).toArray] [cb c] [] fun e F' => e = .returned (.bool (legalR c m)) ∧ F' = [] := by
  refine Spec.of_code (vs := [_, _]) (k0 := [(0, _), (1, _)]) 109 Tryz.func75 rfl Tryz.ntmps75 rfl (.cons (.cons .nil)) fun w X RR hRR H => ?_
  refine .seq ?_
  refine .plain rfl ?_
  refine .box rfl rfl rfl rfl rfl H (fun w1 b1 H1 => ⟨fun _ => trivial, ?_⟩)
  refine .box rfl rfl rfl rfl rfl H1 (fun w2 b2 H2 => ⟨fun _ => trivial, ?_⟩)
  refine .q rfl rfl rfl (val_assign rfl) ?_
  refine .nil (cj ?_)
  refine .seq ?_
  refine .seq ?_
  refine .plain rfl ?_
  refine .qs rfl rfl rfl H2 (ld_w rfl ag_26 (.own (.there .here)) rfl) ?_
  refine .q rfl rfl rfl (val_fieldAddr rfl fa_42_3) ?_
  refine .qs rfl rfl rfl H2 (ld_blks rfl ag_40 (.own .here) (by repeat constructor)) ?_
  refine .call1 rfl rfl rfl en67 (.cons rfl (.cons rfl .nil)) (fitsR_spec _ (by assumption) _ _ _) H2 .nil (.ro .here .nil) (fun w3 H3 => ⟨fun _ => trivial, ?_⟩)
  refine .q rfl rfl rfl (val_not rfl rfl) ?_
  refine .nil (cj ?_)
  refine .cond rfl (fun hc0 => ?_) (fun hc0 => ?_)
  · refine .seq ?_
    refine .plain rfl ?_
    refine .q rfl rfl rfl (val_assign rfl) ?_
    refine .nil (cj ?_)
    refine .ret (fret (res1 rfl rfl) ?_)
    refine hRR _ _ ⟨_, ⟨retb ?_, rfl⟩, H3.sub .nil⟩
    first | (rw [legalR_none hc1 hc5 hc8 hc9]; done) | (rw [legalR_turn hc0 hc5 (all_noR hx hc7), Bool.false_and]; done) | (rw [legalR_turn hc0 hc5 hall, hs73, hs78]; rfl) | (rw [legalR_turn hc0 hc5 hall, hs73]; rfl) | (rw [legalR_run hc0 hc1, hno]; simp; done) | (rw [legalR_run hc0 hc1, hin, hrun, hn16, hd3, decide_eq_true hto]; rfl) | (rw [legalR_hoist hc0 hc1 hc5 (.inl hc9), hs97, hs102]; rfl) | (rw [legalR_hoist hc0 hc1 hc5 (.inl hc9), hs97]; rfl) | (rw [legalR_hoist hc0 hc1 hc5 (.inr hc9), hs97, hs102]; rfl) | (rw [legalR_hoist hc0 hc1 hc5 (.inr hc9), hs97]; rfl) | (rw [legalR_run hc0 hc1, show decide (m.to = shiftS m.fr m.dir m.n) = false from nt hc2]; simp; done) | (simp_all [legalR]; done) | (rw [legalR_run hc0 hc1]; simp_all; done)
  · refine .skip (cj ?_)
    refine .seq ?_
    refine .seq ?_
    refine .plain rfl ?_
    refine .q rfl rfl rfl (val_fieldAddr rfl fa_42_0) ?_
    refine .qs rfl rfl rfl H3 (ld_b rfl ob_3 (.own .here) rfl) ?_
    refine .nil (cj ?_)
    refine .block ?_
    refine .seq ?_
    refine .plain rfl ?_
    refine .q rfl rfl rfl (val_eql rfl rfl rfl) ?_
    refine .q rfl rfl rfl (val_assign rfl) ?_
    refine .nil (cj ?_)
    refine .cond rfl (fun hc1 => ?_) (fun hc1 => ?_)
    · refine .seq ?_
      refine .seq ?_
      refine .drawS 22 (.cons (0, true) (.cons (1, true) (.cons (2, false) (.cons (3, true) (.cons (4, true) (.cons (5, true) (.cons (6, true) (.cons (7, false) (.cons (8, true) (.cons (9, true) (.cons (10, true) (.cons (11, true) (.cons (12, true) (.cons (13, true) (.cons (14, true) (.cons (15, true) (.cons (16, true) (.cons (17, true) (.cons (18, true) (.cons (19, false) (.cons (20, true) (.cons (21, true) .nil)))))))))))))))))))))) mo (by kernel_rfl) H3 (fun _ _ _ _ _ h => h) (fun w4 H4 => ?_)
      refine .p rfl rfl rfl (val_fieldAddr rfl fa_42_2) ?_
      refine .ps rfl rfl rfl rfl (ld_b rfl ob_3 (.own .here) rfl) ?_
      refine .call1 rfl rfl rfl en92 (.cons rfl (.cons rfl (.cons rfl .nil))) (within92_spec _ _ _) H4 .nil .nil (fun w5 H5 => ⟨fun _ => H5, ?_⟩)
      refine .p rfl rfl rfl (val_not rfl rfl) ?_
      refine .p rfl rfl rfl (val_move rfl) ?_
      refine .case (t := 21) rfl (fun hs21 => ?_) (fun hs21 => ?_)
      · refine .no rfl rfl rfl ?_
        refine .no rfl rfl rfl ?_
        refine .no rfl rfl rfl ?_
        refine .no rfl rfl rfl ?_
        refine .p rfl rfl rfl (val_pick_t rfl rfl) ?_
        refine .p rfl rfl rfl (val_move rfl) ?_
        refine .no rfl rfl rfl ?_
        refine .no rfl rfl rfl ?_
        refine .no rfl rfl rfl ?_
        refine .no rfl rfl rfl ?_
        refine .no rfl rfl rfl ?_
        refine .no rfl rfl rfl ?_
        refine .no rfl rfl rfl ?_
        refine .no rfl rfl rfl ?_
        refine .no rfl rfl rfl ?_
        refine .no rfl rfl rfl ?_
        refine .p rfl rfl rfl (val_pick_t rfl rfl) ?_
        refine .nil (cj ?_)
        refine .cond_t rfl ?_
        refine .seq ?_
        refine .plain rfl ?_
        refine .q rfl rfl rfl (val_assign rfl) ?_
        refine .nil (cj ?_)
        refine .ret (fret (res1 rfl rfl) ?_)
        refine hRR _ _ ⟨_, ⟨retb ?_, rfl⟩, H5.sub .nil⟩
        first | (rw [legalR_none hc1 hc5 hc8 hc9]; done) | (rw [legalR_turn hc0 hc5 (all_noR hx hc7), Bool.false_and]; done) | (rw [legalR_turn hc0 hc5 hall, hs73, hs78]; rfl) | (rw [legalR_turn hc0 hc5 hall, hs73]; rfl) | (rw [legalR_run hc0 hc1, hno]; simp; done) | (rw [legalR_run hc0 hc1, hin, hrun, hn16, hd3, decide_eq_true hto]; rfl) | (rw [legalR_hoist hc0 hc1 hc5 (.inl hc9), hs97, hs102]; rfl) | (rw [legalR_hoist hc0 hc1 hc5 (.inl hc9), hs97]; rfl) | (rw [legalR_hoist hc0 hc1 hc5 (.inr hc9), hs97, hs102]; rfl) | (rw [legalR_hoist hc0 hc1 hc5 (.inr hc9), hs97]; rfl) | (rw [legalR_run hc0 hc1, show decide (m.to = shiftS m.fr m.dir m.n) = false from nt hc2]; simp; done) | (simp_all [legalR]; done) | (rw [legalR_run hc0 hc1]; simp_all; done)
      · refine .p rfl rfl rfl (val_fieldAddr rfl fa_42_1) ?_
        refine .ps rfl rfl rfl rfl (ld_b rfl ob_3 (.own .here) rfl) ?_
        refine .call1 rfl rfl rfl en92 (.cons rfl (.cons rfl (.cons rfl .nil))) (within92_spec _ _ _) H5 .nil .nil (fun w6 H6 => ⟨fun _ => H6, ?_⟩)
        refine .p rfl rfl rfl (val_not rfl rfl) ?_
        refine .p rfl rfl rfl (val_pick_f rfl rfl) ?_
        refine .p rfl rfl rfl (val_move rfl) ?_
        refine .case (t := 27) rfl (fun hs27 => ?_) (fun hs27 => ?_)
        · refine .no rfl rfl rfl ?_
          refine .no rfl rfl rfl ?_
          refine .no rfl rfl rfl ?_
          refine .no rfl rfl rfl ?_
          refine .no rfl rfl rfl ?_
          refine .no rfl rfl rfl ?_
          refine .no rfl rfl rfl ?_
          refine .no rfl rfl rfl ?_
          refine .no rfl rfl rfl ?_
          refine .no rfl rfl rfl ?_
          refine .p rfl rfl rfl (val_pick_t rfl rfl) ?_
          refine .nil (cj ?_)
          refine .cond_t rfl ?_
          refine .seq ?_
          refine .plain rfl ?_
          refine .q rfl rfl rfl (val_assign rfl) ?_
          refine .nil (cj ?_)
          refine .ret (fret (res1 rfl rfl) ?_)
          refine hRR _ _ ⟨_, ⟨retb ?_, rfl⟩, H6.sub .nil⟩
          first | (rw [legalR_none hc1 hc5 hc8 hc9]; done) | (rw [legalR_turn hc0 hc5 (all_noR hx hc7), Bool.false_and]; done) | (rw [legalR_turn hc0 hc5 hall, hs73, hs78]; rfl) | (rw [legalR_turn hc0 hc5 hall, hs73]; rfl) | (rw [legalR_run hc0 hc1, hno]; simp; done) | (rw [legalR_run hc0 hc1, hin, hrun, hn16, hd3, decide_eq_true hto]; rfl) | (rw [legalR_hoist hc0 hc1 hc5 (.inl hc9), hs97, hs102]; rfl) | (rw [legalR_hoist hc0 hc1 hc5 (.inl hc9), hs97]; rfl) | (rw [legalR_hoist hc0 hc1 hc5 (.inr hc9), hs97, hs102]; rfl) | (rw [legalR_hoist hc0 hc1 hc5 (.inr hc9), hs97]; rfl) | (rw [legalR_run hc0 hc1, show decide (m.to = shiftS m.fr m.dir m.n) = false from nt hc2]; simp; done) | (simp_all [legalR]; done) | (rw [legalR_run hc0 hc1]; simp_all; done)
        · refine .p rfl rfl rfl (val_fieldAddr rfl fa_42_4) ?_
          refine .ps rfl rfl rfl rfl (ld_blks rfl ag_40 (.own .here) (by repeat constructor)) ?_
          refine .p rfl rfl rfl (val_fieldAddr rfl fa_42_3) ?_
          refine .ps rfl rfl rfl rfl (ld_blks rfl ag_40 (.own .here) (by repeat constructor)) ?_
          refine .p rfl rfl rfl (val_fieldAddr rfl fa_42_1) ?_
          refine .ps rfl rfl rfl rfl (ld_b rfl ob_3 (.own .here) rfl) ?_
          refine .p rfl rfl rfl (val_fieldAddr rfl fa_42_2) ?_
          refine .ps rfl rfl rfl rfl (ld_b rfl ob_3 (.own .here) rfl) ?_
          refine .call1 rfl rfl rfl en74 (.cons rfl (.cons rfl (.cons rfl .nil))) (shiftS_spec _ _ _ _ _) H6 .nil .nil (fun w7 H7 => ⟨fun _ => H7, ?_⟩)
          refine .p rfl rfl rfl (val_binrun rfl rfl seq_40_neq) ?_
          refine .p rfl rfl rfl (val_pick_f rfl rfl) ?_
          refine .nil (cj ?_)
          refine .cond rfl (fun hc2 => ?_) (fun hc2 => ?_)
          · refine .seq ?_
            refine .plain rfl ?_
            refine .q rfl rfl rfl (val_assign rfl) ?_
            refine .nil (cj ?_)
            refine .ret (fret (res1 rfl rfl) ?_)
            refine hRR _ _ ⟨_, ⟨retb ?_, rfl⟩, H7.sub .nil⟩
            first | (rw [legalR_none hc1 hc5 hc8 hc9]; done) | (rw [legalR_turn hc0 hc5 (all_noR hx hc7), Bool.false_and]; done) | (rw [legalR_turn hc0 hc5 hall, hs73, hs78]; rfl) | (rw [legalR_turn hc0 hc5 hall, hs73]; rfl) | (rw [legalR_run hc0 hc1, hno]; simp; done) | (rw [legalR_run hc0 hc1, hin, hrun, hn16, hd3, decide_eq_true hto]; rfl) | (rw [legalR_hoist hc0 hc1 hc5 (.inl hc9), hs97, hs102]; rfl) | (rw [legalR_hoist hc0 hc1 hc5 (.inl hc9), hs97]; rfl) | (rw [legalR_hoist hc0 hc1 hc5 (.inr hc9), hs97, hs102]; rfl) | (rw [legalR_hoist hc0 hc1 hc5 (.inr hc9), hs97]; rfl) | (rw [legalR_run hc0 hc1, show decide (m.to = shiftS m.fr m.dir m.n) = false from nt hc2]; simp; done) | (simp_all [legalR]; done) | (rw [legalR_run hc0 hc1]; simp_all; done)
          · have hn16 : withinB m.n 1 16 = true := by simpa using hs21
            have hd3 : withinB m.dir 0 3 = true := by simpa using hs27
            have hto : m.to = shiftS m.fr m.dir m.n := of_decide_eq_true (nf hc2)
            have hnn : 1 ≤ m.n ∧ m.n ≤ 16 := by simpa [withinB] using hn16
            refine .skip (cj ?_)
            refine .seq ?_
            refine .seq ?_
            refine .plain rfl ?_
            refine .q rfl rfl rfl (val_assign rfl) ?_
            refine .nil (cj ?_)
            refine .block ?_
            refine .loop (ι := Nat) (fun i => [(2, ptr b1), (3, ptr b2), (5, i64 ((i + 1 : Nat) : Int))]) (fun i w' => St w w' X [cb c] [blk b2 (encM m) 42, blk b1 (encCf c) 26] ∧ (i : Int) ≤ m.n ∧ i ≤ 16 ∧ fitR c m.fr m.dir i = true) (fun i => 17 - i) 0 (by repeat (first | exact Pick.nil | refine Pick.cons rfl ?_)) ⟨H7, (by omega), (by omega), rfl⟩ ?_
            rintro i w5 ⟨H8, hi, hi16, hrun⟩
            refine .seq ?_
            refine .seq ?_
            refine .plain rfl ?_
            refine .q rfl rfl rfl (val_move rfl) ?_
            refine .q rfl rfl rfl (val_fieldAddr rfl fa_42_2) ?_
            refine .qs rfl rfl rfl H8 (ld_b rfl ob_3 (.own .here) rfl) ?_
            refine .q rfl rfl rfl (val_leq rfl rfl rfl) ?_
            refine .nil (cj ?_)
            refine .cond rfl (fun hc3 => ?_) (fun hc3 => ?_)
            · have hc3 := of_decide_eq_true hc3
              have hi16' : i + 1 ≤ 16 := by omega
              refine .skip (cj ?_)
              refine .seq ?_
              refine .block ?_
              refine .seq ?_
              refine .drawS 9 (.cons (0, true) (.cons (1, true) (.cons (2, true) (.cons (3, true) (.cons (4, true) (.cons (5, true) (.cons (6, false) (.cons (7, false) (.cons (8, true) .nil))))))))) mo (by kernel_rfl) H8 (fun _ _ _ _ _ h => h) (fun w9 H9 => ?_)
              refine .ps rfl rfl rfl rfl (ld_w rfl ag_26 (.own (.there .here)) rfl) ?_
              refine .p rfl rfl rfl (val_fieldAddr rfl fa_42_3) ?_
              refine .ps rfl rfl rfl rfl (ld_blks rfl ag_40 (.own .here) (by repeat constructor)) ?_
              refine .p rfl rfl rfl (val_fieldAddr rfl fa_42_1) ?_
              refine .ps rfl rfl rfl rfl (ld_b rfl ob_3 (.own .here) rfl) ?_
              refine .p rfl rfl rfl (val_move rfl) ?_
              refine .call1 rfl rfl rfl en74 (.cons rfl (.cons rfl (.cons rfl .nil))) (shiftS_spec _ _ _ _ _) H9 .nil .nil (fun w10 H10 => ⟨fun _ => H10, ?_⟩)
              refine .call1 rfl rfl rfl en67 (.cons rfl (.cons rfl .nil)) (fitsR_spec _ (by assumption) _ _ _) H10 .nil (.ro .here .nil) (fun w11 H11 => ⟨fun _ => H11, ?_⟩)
              refine .p rfl rfl rfl (val_not rfl rfl) ?_
              refine .nil (cj ?_)
              refine .cond rfl (fun hc4 => ?_) (fun hc4 => ?_)
              · have hno : fitR c m.fr m.dir m.n.toNat = false := by
                  cases h9 : fitR c m.fr m.dir m.n.toNat with
                  | false => rfl
                  | true =>
                    have h8 := fitR_le (k := i + 1) (by omega) h9
                    simp only [fitR, Bool.and_eq_true] at h8
                    rw [h8.2] at hc4
                    cases hc4
                refine .seq ?_
                refine .plain rfl ?_
                refine .q rfl rfl rfl (val_assign rfl) ?_
                refine .nil (cj ?_)
                refine .ret (fret (res1 rfl rfl) ?_)
                refine hRR _ _ ⟨_, ⟨retb ?_, rfl⟩, H11.sub .nil⟩
                first | (rw [legalR_none hc1 hc5 hc8 hc9]; done) | (rw [legalR_turn hc0 hc5 (all_noR hx hc7), Bool.false_and]; done) | (rw [legalR_turn hc0 hc5 hall, hs73, hs78]; rfl) | (rw [legalR_turn hc0 hc5 hall, hs73]; rfl) | (rw [legalR_run hc0 hc1, hno]; simp; done) | (rw [legalR_run hc0 hc1, hin, hrun, hn16, hd3, decide_eq_true hto]; rfl) | (rw [legalR_hoist hc0 hc1 hc5 (.inl hc9), hs97, hs102]; rfl) | (rw [legalR_hoist hc0 hc1 hc5 (.inl hc9), hs97]; rfl) | (rw [legalR_hoist hc0 hc1 hc5 (.inr hc9), hs97, hs102]; rfl) | (rw [legalR_hoist hc0 hc1 hc5 (.inr hc9), hs97]; rfl) | (rw [legalR_run hc0 hc1, show decide (m.to = shiftS m.fr m.dir m.n) = false from nt hc2]; simp; done) | (simp_all [legalR]; done) | (rw [legalR_run hc0 hc1]; simp_all; done)
              · have hrun' : fitR c m.fr m.dir (i + 1) = true := by (simp only [fitR, hrun, Bool.true_and]; simpa using hc4)
                refine .skip (cj ?_)
                refine .plain rfl ?_
                refine .q rfl rfl rfl (val_move rfl) ?_
                refine .q rfl rfl rfl (val_add rfl rfl (z := ((i + 1 + 1 : Nat) : Int)) (w64_of (by omega))) ?_
                refine .q rfl rfl rfl (val_assign rfl) ?_
                refine .nil ?_
                intro act0 hact0; change Exists _
                refine ⟨(i + 1), Pick.kn (by repeat (first | exact Pick.nil | refine Pick.cons rfl ?_)) hact0, ⟨H11, hc3, hi16', hrun'⟩, (by omega)⟩
            · have hc3 := of_decide_eq_false hc3
              have hin : m.n.toNat = i := by omega
              refine .exit (cj ?_)
              refine .seq ?_
              refine .plain rfl ?_
              refine .q rfl rfl rfl (val_assign rfl) ?_
              refine .nil (cj ?_)
              refine .ret (fret (res1 rfl rfl) ?_)
              refine hRR _ _ ⟨_, ⟨retb ?_, rfl⟩, H8.sub .nil⟩
              first | (rw [legalR_none hc1 hc5 hc8 hc9]; done) | (rw [legalR_turn hc0 hc5 (all_noR hx hc7), Bool.false_and]; done) | (rw [legalR_turn hc0 hc5 hall, hs73, hs78]; rfl) | (rw [legalR_turn hc0 hc5 hall, hs73]; rfl) | (rw [legalR_run hc0 hc1, hno]; simp; done) | (rw [legalR_run hc0 hc1, hin, hrun, hn16, hd3, decide_eq_true hto]; rfl) | (rw [legalR_hoist hc0 hc1 hc5 (.inl hc9), hs97, hs102]; rfl) | (rw [legalR_hoist hc0 hc1 hc5 (.inl hc9), hs97]; rfl) | (rw [legalR_hoist hc0 hc1 hc5 (.inr hc9), hs97, hs102]; rfl) | (rw [legalR_hoist hc0 hc1 hc5 (.inr hc9), hs97]; rfl) | (rw [legalR_run hc0 hc1, show decide (m.to = shiftS m.fr m.dir m.n) = false from nt hc2]; simp; done) | (simp_all [legalR]; done) | (rw [legalR_run hc0 hc1]; simp_all; done)
    · refine .seq ?_
      refine .plain rfl ?_
      refine .q rfl rfl rfl (val_eql rfl rfl rfl) ?_
      refine .q rfl rfl rfl (val_assign rfl) ?_
      refine .nil (cj ?_)
      refine .cond rfl (fun hc5 => ?_) (fun hc5 => ?_)
      · refine .seq ?_
        refine .plain rfl ?_
        refine .q rfl rfl rfl (val_fieldAddr rfl fa_42_3) ?_
        refine .qs rfl rfl rfl H3 (ld_blks rfl ag_40 (.own .here) (by repeat constructor)) ?_
        refine .callx rfl rfl rfl en101 (.cons rfl .nil) (squareR_spec _ _ _) H3 .nil .nil (fun b12 w12 C12 H12 => ⟨fun _ => trivial, ?_⟩)
        have H13 := H12.blkArr .here
        refine .q rfl rfl rfl (val_assign rfl) ?_
        refine .nil (cj ?_)
        refine .seq ?_
        refine .seq ?_
        refine .plain rfl ?_
        refine .q rfl rfl rfl (val_assign rfl) ?_
        refine .nil (cj ?_)
        refine .block ?_
        refine .loop (ι := Nat) (fun i => [(2, ptr b1), (3, ptr b2), (6, .slice (some ⟨b12, 0, none⟩) 4 4), (7, i64 (i : Int))]) (fun i w' => St w w' X [arr (some ⟨b12, 0, none⟩) ((squareL m.fr.x m.fr.y).flatMap encC), cb c] [blk b2 (encM m) 42, blk b1 (encCf c) 26] ∧ i ≤ 4 ∧ ((squareL m.fr.x m.fr.y).take i).all (fun x => openR c x.x x.y) = true) (fun i => 5 - i) 0 (by repeat (first | exact Pick.nil | refine Pick.cons rfl ?_)) ⟨H13, by decide, rfl⟩ ?_
        rintro i w6 ⟨H14, hi, hall⟩
        refine .seq ?_
        refine .seq ?_
        refine .plain rfl ?_
        refine .q rfl rfl rfl (val_move rfl) ?_
        refine .q rfl rfl rfl (val_lss rfl rfl rfl) ?_
        refine .nil (cj ?_)
        refine .cond rfl (fun hc6 => ?_) (fun hc6 => ?_)
        · have hi4 : i < 4 := by simp at hc6; omega
          have hx : (squareL m.fr.x m.fr.y)[i]? = some ((squareL m.fr.x m.fr.y).getD i ⟨0, 0⟩) := by rw [List.getD_eq_getElem?_getD, List.getElem?_eq_getElem (by simpa using hi4)]; rfl
          refine .skip (cj ?_)
          refine .seq ?_
          refine .block ?_
          refine .seq ?_
          refine .drawS 7 (.cons (0, true) (.cons (1, true) (.cons (2, true) (.cons (3, true) (.cons (4, true) (.cons (5, false) (.cons (6, true) .nil))))))) mo (by kernel_rfl) H14 (fun _ _ _ _ _ h => h) (fun w15 H15 => ?_)
          refine .ps rfl rfl rfl rfl (ld_w rfl ag_26 (.own (.there .here)) rfl) ?_
          refine .p rfl rfl rfl (val_move rfl) ?_
          refine .p rfl rfl rfl (val_move rfl) ?_
          refine .p rfl rfl rfl (val_ix el_22 rfl rfl rfl rfl hi4) ?_
          refine .ps rfl rfl rfl rfl (ld_ela rfl ag_38 .base rfl (.ro .here) encC_len (by first | assumption | rfl)) ?_
          refine .call1 rfl rfl rfl en61 (.cons rfl (.cons rfl .nil)) (openR_spec _ (by assumption) _ _) H15 .nil (.ro (.there .here) .nil) (fun w16 H16 => ⟨fun _ => H16, ?_⟩)
          refine .p rfl rfl rfl (val_not rfl rfl) ?_
          refine .nil (cj ?_)
          refine .cond rfl (fun hc7 => ?_) (fun hc7 => ?_)
          · refine .seq ?_
            refine .plain rfl ?_
            refine .q rfl rfl rfl (val_assign rfl) ?_
            refine .nil (cj ?_)
            refine .ret (fret (res1 rfl rfl) ?_)
            refine hRR _ _ ⟨_, ⟨retb ?_, rfl⟩, (H16.rest (.ro (.there .here) .nil)).sub .nil⟩
            first | (rw [legalR_none hc1 hc5 hc8 hc9]; done) | (rw [legalR_turn hc0 hc5 (all_noR hx hc7), Bool.false_and]; done) | (rw [legalR_turn hc0 hc5 hall, hs73, hs78]; rfl) | (rw [legalR_turn hc0 hc5 hall, hs73]; rfl) | (rw [legalR_run hc0 hc1, hno]; simp; done) | (rw [legalR_run hc0 hc1, hin, hrun, hn16, hd3, decide_eq_true hto]; rfl) | (rw [legalR_hoist hc0 hc1 hc5 (.inl hc9), hs97, hs102]; rfl) | (rw [legalR_hoist hc0 hc1 hc5 (.inl hc9), hs97]; rfl) | (rw [legalR_hoist hc0 hc1 hc5 (.inr hc9), hs97, hs102]; rfl) | (rw [legalR_hoist hc0 hc1 hc5 (.inr hc9), hs97]; rfl) | (rw [legalR_run hc0 hc1, show decide (m.to = shiftS m.fr m.dir m.n) = false from nt hc2]; simp; done) | (simp_all [legalR]; done) | (rw [legalR_run hc0 hc1]; simp_all; done)
          · refine .skip (cj ?_)
            refine .plain rfl ?_
            refine .q rfl rfl rfl (val_move rfl) ?_
            refine .q rfl rfl rfl (val_add rfl rfl (z := ((i + 1 : Nat) : Int)) (w64_of (by omega))) ?_
            refine .q rfl rfl rfl (val_assign rfl) ?_
            refine .nil ?_
            intro act0 hact0; change Exists _
            refine ⟨(i + 1), Pick.kn (by repeat (first | exact Pick.nil | refine Pick.cons rfl ?_)) hact0, ⟨H16, by omega, all_takeR hall hx hc7⟩, (by omega)⟩
        · have hi4 : i = 4 := by simp at hc6; omega
          subst hi4
          refine .exit (cj ?_)
          refine .seq ?_
          refine .plain rfl ?_
          refine .q rfl rfl rfl (val_fieldAddr rfl fa_42_2) ?_
          refine .qs rfl rfl rfl H14 (ld_b rfl ob_3 (.own .here) rfl) ?_
          refine .q rfl rfl rfl (val_eql rfl rfl rfl) ?_
          refine .q rfl rfl rfl (val_move rfl) ?_
          refine .case (t := 73) rfl (fun hs73 => ?_) (fun hs73 => ?_)
          · refine .q rfl rfl rfl (val_fieldAddr rfl fa_42_1) ?_
            refine .qs rfl rfl rfl H14 (ld_b rfl ob_3 (.own .here) rfl) ?_
            refine .q rfl rfl rfl (val_eql rfl rfl rfl) ?_
            refine .q rfl rfl rfl (val_pick_t rfl rfl) ?_
            refine .q rfl rfl rfl (val_move rfl) ?_
            refine .case (t := 78) rfl (fun hs78 => ?_) (fun hs78 => ?_)
            · refine .q rfl rfl rfl (val_fieldAddr rfl fa_42_4) ?_
              refine .qs rfl rfl rfl H14 (ld_blks rfl ag_40 (.own .here) (by repeat constructor)) ?_
              refine .q rfl rfl rfl (val_fieldAddr rfl fa_42_3) ?_
              refine .q rfl rfl rfl (val_fieldAddr rfl fa_40_0) ?_
              refine .qs rfl rfl rfl H14 (ld_blks rfl ag_38 (.own .here) (by repeat constructor)) ?_
              refine .q rfl rfl rfl (val_fieldAddr rfl fa_42_3) ?_
              refine .q rfl rfl rfl (val_fieldAddr rfl fa_40_1) ?_
              refine .qs rfl rfl rfl H14 (ld_b rfl ob_4 (.own .here) rfl) ?_
              refine .q rfl rfl rfl (val_not rfl rfl) ?_
              refine .q rfl rfl rfl (val_mk (.cons rfl (.cons rfl .nil)) (mk_40_0_1 _ _ _)) ?_
              refine .q rfl rfl rfl (val_binrun rfl rfl seq_40_eql) ?_
              refine .q rfl rfl rfl (val_pick_t rfl rfl) ?_
              refine .q rfl rfl rfl (val_assign rfl) ?_
              refine .nil (cj ?_)
              refine .ret (fret (res1 rfl rfl) ?_)
              refine hRR _ _ ⟨_, ⟨retb ?_, rfl⟩, (H14.rest (.ro (.there .here) .nil)).sub .nil⟩
              first | (rw [legalR_none hc1 hc5 hc8 hc9]; done) | (rw [legalR_turn hc0 hc5 (all_noR hx hc7), Bool.false_and]; done) | (rw [legalR_turn hc0 hc5 hall, hs73, hs78]; rfl) | (rw [legalR_turn hc0 hc5 hall, hs73]; rfl) | (rw [legalR_run hc0 hc1, hno]; simp; done) | (rw [legalR_run hc0 hc1, hin, hrun, hn16, hd3, decide_eq_true hto]; rfl) | (rw [legalR_hoist hc0 hc1 hc5 (.inl hc9), hs97, hs102]; rfl) | (rw [legalR_hoist hc0 hc1 hc5 (.inl hc9), hs97]; rfl) | (rw [legalR_hoist hc0 hc1 hc5 (.inr hc9), hs97, hs102]; rfl) | (rw [legalR_hoist hc0 hc1 hc5 (.inr hc9), hs97]; rfl) | (rw [legalR_run hc0 hc1, show decide (m.to = shiftS m.fr m.dir m.n) = false from nt hc2]; simp; done) | (simp_all [legalR]; done) | (rw [legalR_run hc0 hc1]; simp_all; done)
            · refine .no rfl rfl rfl ?_
              refine .no rfl rfl rfl ?_
              refine .no rfl rfl rfl ?_
              refine .no rfl rfl rfl ?_
              refine .no rfl rfl rfl ?_
              refine .no rfl rfl rfl ?_
              refine .no rfl rfl rfl ?_
              refine .no rfl rfl rfl ?_
              refine .no rfl rfl rfl ?_
              refine .no rfl rfl rfl ?_
              refine .no rfl rfl rfl ?_
              refine .q rfl rfl rfl (val_pick_f rfl rfl) ?_
              refine .q rfl rfl rfl (val_assign rfl) ?_
              refine .nil (cj ?_)
              refine .ret (fret (res1 rfl rfl) ?_)
              refine hRR _ _ ⟨_, ⟨retb ?_, rfl⟩, (H14.rest (.ro (.there .here) .nil)).sub .nil⟩
              first | (rw [legalR_none hc1 hc5 hc8 hc9]; done) | (rw [legalR_turn hc0 hc5 (all_noR hx hc7), Bool.false_and]; done) | (rw [legalR_turn hc0 hc5 hall, hs73, hs78]; rfl) | (rw [legalR_turn hc0 hc5 hall, hs73]; rfl) | (rw [legalR_run hc0 hc1, hno]; simp; done) | (rw [legalR_run hc0 hc1, hin, hrun, hn16, hd3, decide_eq_true hto]; rfl) | (rw [legalR_hoist hc0 hc1 hc5 (.inl hc9), hs97, hs102]; rfl) | (rw [legalR_hoist hc0 hc1 hc5 (.inl hc9), hs97]; rfl) | (rw [legalR_hoist hc0 hc1 hc5 (.inr hc9), hs97, hs102]; rfl) | (rw [legalR_hoist hc0 hc1 hc5 (.inr hc9), hs97]; rfl) | (rw [legalR_run hc0 hc1, show decide (m.to = shiftS m.fr m.dir m.n) = false from nt hc2]; simp; done) | (simp_all [legalR]; done) | (rw [legalR_run hc0 hc1]; simp_all; done)
          · refine .no rfl rfl rfl ?_
            refine .no rfl rfl rfl ?_
            refine .no rfl rfl rfl ?_
            refine .q rfl rfl rfl (val_pick_f rfl rfl) ?_
            refine .q rfl rfl rfl (val_move rfl) ?_
            refine .no rfl rfl rfl ?_
            refine .no rfl rfl rfl ?_
            refine .no rfl rfl rfl ?_
            refine .no rfl rfl rfl ?_
            refine .no rfl rfl rfl ?_
            refine .no rfl rfl rfl ?_
            refine .no rfl rfl rfl ?_
            refine .no rfl rfl rfl ?_
            refine .no rfl rfl rfl ?_
            refine .no rfl rfl rfl ?_
            refine .no rfl rfl rfl ?_
            refine .q rfl rfl rfl (val_pick_f rfl rfl) ?_
            refine .q rfl rfl rfl (val_assign rfl) ?_
            refine .nil (cj ?_)
            refine .ret (fret (res1 rfl rfl) ?_)
            refine hRR _ _ ⟨_, ⟨retb ?_, rfl⟩, (H14.rest (.ro (.there .here) .nil)).sub .nil⟩
            first | (rw [legalR_none hc1 hc5 hc8 hc9]; done) | (rw [legalR_turn hc0 hc5 (all_noR hx hc7), Bool.false_and]; done) | (rw [legalR_turn hc0 hc5 hall, hs73, hs78]; rfl) | (rw [legalR_turn hc0 hc5 hall, hs73]; rfl) | (rw [legalR_run hc0 hc1, hno]; simp; done) | (rw [legalR_run hc0 hc1, hin, hrun, hn16, hd3, decide_eq_true hto]; rfl) | (rw [legalR_hoist hc0 hc1 hc5 (.inl hc9), hs97, hs102]; rfl) | (rw [legalR_hoist hc0 hc1 hc5 (.inl hc9), hs97]; rfl) | (rw [legalR_hoist hc0 hc1 hc5 (.inr hc9), hs97, hs102]; rfl) | (rw [legalR_hoist hc0 hc1 hc5 (.inr hc9), hs97]; rfl) | (rw [legalR_run hc0 hc1, show decide (m.to = shiftS m.fr m.dir m.n) = false from nt hc2]; simp; done) | (simp_all [legalR]; done) | (rw [legalR_run hc0 hc1]; simp_all; done)
      · refine .seq ?_
        refine .seq ?_
        refine .plain rfl ?_
        refine .q rfl rfl rfl (val_eql rfl rfl rfl) ?_
        refine .q rfl rfl rfl (val_assign rfl) ?_
        refine .nil (cj ?_)
        refine .cond rfl (fun hc8 => ?_) (fun hc8 => ?_)
        · refine .skip (cj ?_)
          refine .cond rfl (fun hc9 => ?_) (fun hc9 => ?_)
          · refine .seq ?_
            refine .plain rfl ?_
            refine .q rfl rfl rfl (val_fieldAddr rfl fa_42_2) ?_
            refine .qs rfl rfl rfl H3 (ld_b rfl ob_3 (.own .here) rfl) ?_
            refine .q rfl rfl rfl (val_eql rfl rfl rfl) ?_
            refine .q rfl rfl rfl (val_move rfl) ?_
            refine .case (t := 97) rfl (fun hs97 => ?_) (fun hs97 => ?_)
            · refine .q rfl rfl rfl (val_fieldAddr rfl fa_42_1) ?_
              refine .qs rfl rfl rfl H3 (ld_b rfl ob_3 (.own .here) rfl) ?_
              refine .q rfl rfl rfl (val_eql rfl rfl rfl) ?_
              refine .q rfl rfl rfl (val_pick_t rfl rfl) ?_
              refine .q rfl rfl rfl (val_move rfl) ?_
              refine .case (t := 102) rfl (fun hs102 => ?_) (fun hs102 => ?_)
              · refine .q rfl rfl rfl (val_fieldAddr rfl fa_42_4) ?_
                refine .qs rfl rfl rfl H3 (ld_blks rfl ag_40 (.own .here) (by repeat constructor)) ?_
                refine .q rfl rfl rfl (val_fieldAddr rfl fa_42_3) ?_
                refine .qs rfl rfl rfl H3 (ld_blks rfl ag_40 (.own .here) (by repeat constructor)) ?_
                refine .q rfl rfl rfl (val_binrun rfl rfl seq_40_eql) ?_
                refine .q rfl rfl rfl (val_pick_t rfl rfl) ?_
                refine .q rfl rfl rfl (val_assign rfl) ?_
                refine .nil (cj ?_)
                refine .ret (fret (res1 rfl rfl) ?_)
                refine hRR _ _ ⟨_, ⟨retb ?_, rfl⟩, H3.sub .nil⟩
                first | (rw [legalR_none hc1 hc5 hc8 hc9]; done) | (rw [legalR_turn hc0 hc5 (all_noR hx hc7), Bool.false_and]; done) | (rw [legalR_turn hc0 hc5 hall, hs73, hs78]; rfl) | (rw [legalR_turn hc0 hc5 hall, hs73]; rfl) | (rw [legalR_run hc0 hc1, hno]; simp; done) | (rw [legalR_run hc0 hc1, hin, hrun, hn16, hd3, decide_eq_true hto]; rfl) | (rw [legalR_hoist hc0 hc1 hc5 (.inl hc9), hs97, hs102]; rfl) | (rw [legalR_hoist hc0 hc1 hc5 (.inl hc9), hs97]; rfl) | (rw [legalR_hoist hc0 hc1 hc5 (.inr hc9), hs97, hs102]; rfl) | (rw [legalR_hoist hc0 hc1 hc5 (.inr hc9), hs97]; rfl) | (rw [legalR_run hc0 hc1, show decide (m.to = shiftS m.fr m.dir m.n) = false from nt hc2]; simp; done) | (simp_all [legalR]; done) | (rw [legalR_run hc0 hc1]; simp_all; done)
              · refine .no rfl rfl rfl ?_
                refine .no rfl rfl rfl ?_
                refine .no rfl rfl rfl ?_
                refine .no rfl rfl rfl ?_
                refine .no rfl rfl rfl ?_
                refine .q rfl rfl rfl (val_pick_f rfl rfl) ?_
                refine .q rfl rfl rfl (val_assign rfl) ?_
                refine .nil (cj ?_)
                refine .ret (fret (res1 rfl rfl) ?_)
                refine hRR _ _ ⟨_, ⟨retb ?_, rfl⟩, H3.sub .nil⟩
                first | (rw [legalR_none hc1 hc5 hc8 hc9]; done) | (rw [legalR_turn hc0 hc5 (all_noR hx hc7), Bool.false_and]; done) | (rw [legalR_turn hc0 hc5 hall, hs73, hs78]; rfl) | (rw [legalR_turn hc0 hc5 hall, hs73]; rfl) | (rw [legalR_run hc0 hc1, hno]; simp; done) | (rw [legalR_run hc0 hc1, hin, hrun, hn16, hd3, decide_eq_true hto]; rfl) | (rw [legalR_hoist hc0 hc1 hc5 (.inl hc9), hs97, hs102]; rfl) | (rw [legalR_hoist hc0 hc1 hc5 (.inl hc9), hs97]; rfl) | (rw [legalR_hoist hc0 hc1 hc5 (.inr hc9), hs97, hs102]; rfl) | (rw [legalR_hoist hc0 hc1 hc5 (.inr hc9), hs97]; rfl) | (rw [legalR_run hc0 hc1, show decide (m.to = shiftS m.fr m.dir m.n) = false from nt hc2]; simp; done) | (simp_all [legalR]; done) | (rw [legalR_run hc0 hc1]; simp_all; done)
            · refine .no rfl rfl rfl ?_
              refine .no rfl rfl rfl ?_
              refine .no rfl rfl rfl ?_
              refine .q rfl rfl rfl (val_pick_f rfl rfl) ?_
              refine .q rfl rfl rfl (val_move rfl) ?_
              refine .no rfl rfl rfl ?_
              refine .no rfl rfl rfl ?_
              refine .no rfl rfl rfl ?_
              refine .no rfl rfl rfl ?_
              refine .no rfl rfl rfl ?_
              refine .q rfl rfl rfl (val_pick_f rfl rfl) ?_
              refine .q rfl rfl rfl (val_assign rfl) ?_
              refine .nil (cj ?_)
              refine .ret (fret (res1 rfl rfl) ?_)
              refine hRR _ _ ⟨_, ⟨retb ?_, rfl⟩, H3.sub .nil⟩
              first | (rw [legalR_none hc1 hc5 hc8 hc9]; done) | (rw [legalR_turn hc0 hc5 (all_noR hx hc7), Bool.false_and]; done) | (rw [legalR_turn hc0 hc5 hall, hs73, hs78]; rfl) | (rw [legalR_turn hc0 hc5 hall, hs73]; rfl) | (rw [legalR_run hc0 hc1, hno]; simp; done) | (rw [legalR_run hc0 hc1, hin, hrun, hn16, hd3, decide_eq_true hto]; rfl) | (rw [legalR_hoist hc0 hc1 hc5 (.inl hc9), hs97, hs102]; rfl) | (rw [legalR_hoist hc0 hc1 hc5 (.inl hc9), hs97]; rfl) | (rw [legalR_hoist hc0 hc1 hc5 (.inr hc9), hs97, hs102]; rfl) | (rw [legalR_hoist hc0 hc1 hc5 (.inr hc9), hs97]; rfl) | (rw [legalR_run hc0 hc1, show decide (m.to = shiftS m.fr m.dir m.n) = false from nt hc2]; simp; done) | (simp_all [legalR]; done) | (rw [legalR_run hc0 hc1]; simp_all; done)
          · refine .skip (cj ?_)
            refine .seq ?_
            refine .plain rfl ?_
            refine .q rfl rfl rfl (val_assign rfl) ?_
            refine .nil (cj ?_)
            refine .ret (fret (res1 rfl rfl) ?_)
            refine hRR _ _ ⟨_, ⟨retb ?_, rfl⟩, H3.sub .nil⟩
            first | (rw [legalR_none hc1 hc5 hc8 hc9]; done) | (rw [legalR_turn hc0 hc5 (all_noR hx hc7), Bool.false_and]; done) | (rw [legalR_turn hc0 hc5 hall, hs73, hs78]; rfl) | (rw [legalR_turn hc0 hc5 hall, hs73]; rfl) | (rw [legalR_run hc0 hc1, hno]; simp; done) | (rw [legalR_run hc0 hc1, hin, hrun, hn16, hd3, decide_eq_true hto]; rfl) | (rw [legalR_hoist hc0 hc1 hc5 (.inl hc9), hs97, hs102]; rfl) | (rw [legalR_hoist hc0 hc1 hc5 (.inl hc9), hs97]; rfl) | (rw [legalR_hoist hc0 hc1 hc5 (.inr hc9), hs97, hs102]; rfl) | (rw [legalR_hoist hc0 hc1 hc5 (.inr hc9), hs97]; rfl) | (rw [legalR_run hc0 hc1, show decide (m.to = shiftS m.fr m.dir m.n) = false from nt hc2]; simp; done) | (simp_all [legalR]; done) | (rw [legalR_run hc0 hc1]; simp_all; done)
        · refine .plain rfl ?_
          refine .q rfl rfl rfl (val_eql rfl rfl rfl) ?_
          refine .q rfl rfl rfl (val_assign rfl) ?_
          refine .nil (cj ?_)
          refine .cond rfl (fun hc9 => ?_) (fun hc9 => ?_)
          · refine .seq ?_
            refine .plain rfl ?_
            refine .q rfl rfl rfl (val_fieldAddr rfl fa_42_2) ?_
            refine .qs rfl rfl rfl H3 (ld_b rfl ob_3 (.own .here) rfl) ?_
            refine .q rfl rfl rfl (val_eql rfl rfl rfl) ?_
            refine .q rfl rfl rfl (val_move rfl) ?_
            refine .case (t := 97) rfl (fun hs97 => ?_) (fun hs97 => ?_)
            · refine .q rfl rfl rfl (val_fieldAddr rfl fa_42_1) ?_
              refine .qs rfl rfl rfl H3 (ld_b rfl ob_3 (.own .here) rfl) ?_
              refine .q rfl rfl rfl (val_eql rfl rfl rfl) ?_
              refine .q rfl rfl rfl (val_pick_t rfl rfl) ?_
              refine .q rfl rfl rfl (val_move rfl) ?_
              refine .case (t := 102) rfl (fun hs102 => ?_) (fun hs102 => ?_)
              · refine .q rfl rfl rfl (val_fieldAddr rfl fa_42_4) ?_
                refine .qs rfl rfl rfl H3 (ld_blks rfl ag_40 (.own .here) (by repeat constructor)) ?_
                refine .q rfl rfl rfl (val_fieldAddr rfl fa_42_3) ?_
                refine .qs rfl rfl rfl H3 (ld_blks rfl ag_40 (.own .here) (by repeat constructor)) ?_
                refine .q rfl rfl rfl (val_binrun rfl rfl seq_40_eql) ?_
                refine .q rfl rfl rfl (val_pick_t rfl rfl) ?_
                refine .q rfl rfl rfl (val_assign rfl) ?_
                refine .nil (cj ?_)
                refine .ret (fret (res1 rfl rfl) ?_)
                refine hRR _ _ ⟨_, ⟨retb ?_, rfl⟩, H3.sub .nil⟩
                first | (rw [legalR_none hc1 hc5 hc8 hc9]; done) | (rw [legalR_turn hc0 hc5 (all_noR hx hc7), Bool.false_and]; done) | (rw [legalR_turn hc0 hc5 hall, hs73, hs78]; rfl) | (rw [legalR_turn hc0 hc5 hall, hs73]; rfl) | (rw [legalR_run hc0 hc1, hno]; simp; done) | (rw [legalR_run hc0 hc1, hin, hrun, hn16, hd3, decide_eq_true hto]; rfl) | (rw [legalR_hoist hc0 hc1 hc5 (.inl hc9), hs97, hs102]; rfl) | (rw [legalR_hoist hc0 hc1 hc5 (.inl hc9), hs97]; rfl) | (rw [legalR_hoist hc0 hc1 hc5 (.inr hc9), hs97, hs102]; rfl) | (rw [legalR_hoist hc0 hc1 hc5 (.inr hc9), hs97]; rfl) | (rw [legalR_run hc0 hc1, show decide (m.to = shiftS m.fr m.dir m.n) = false from nt hc2]; simp; done) | (simp_all [legalR]; done) | (rw [legalR_run hc0 hc1]; simp_all; done)
              · refine .no rfl rfl rfl ?_
                refine .no rfl rfl rfl ?_
                refine .no rfl rfl rfl ?_
                refine .no rfl rfl rfl ?_
                refine .no rfl rfl rfl ?_
                refine .q rfl rfl rfl (val_pick_f rfl rfl) ?_
                refine .q rfl rfl rfl (val_assign rfl) ?_
                refine .nil (cj ?_)
                refine .ret (fret (res1 rfl rfl) ?_)
                refine hRR _ _ ⟨_, ⟨retb ?_, rfl⟩, H3.sub .nil⟩
                first | (rw [legalR_none hc1 hc5 hc8 hc9]; done) | (rw [legalR_turn hc0 hc5 (all_noR hx hc7), Bool.false_and]; done) | (rw [legalR_turn hc0 hc5 hall, hs73, hs78]; rfl) | (rw [legalR_turn hc0 hc5 hall, hs73]; rfl) | (rw [legalR_run hc0 hc1, hno]; simp; done) | (rw [legalR_run hc0 hc1, hin, hrun, hn16, hd3, decide_eq_true hto]; rfl) | (rw [legalR_hoist hc0 hc1 hc5 (.inl hc9), hs97, hs102]; rfl) | (rw [legalR_hoist hc0 hc1 hc5 (.inl hc9), hs97]; rfl) | (rw [legalR_hoist hc0 hc1 hc5 (.inr hc9), hs97, hs102]; rfl) | (rw [legalR_hoist hc0 hc1 hc5 (.inr hc9), hs97]; rfl) | (rw [legalR_run hc0 hc1, show decide (m.to = shiftS m.fr m.dir m.n) = false from nt hc2]; simp; done) | (simp_all [legalR]; done) | (rw [legalR_run hc0 hc1]; simp_all; done)
            · refine .no rfl rfl rfl ?_
              refine .no rfl rfl rfl ?_
              refine .no rfl rfl rfl ?_
              refine .q rfl rfl rfl (val_pick_f rfl rfl) ?_
              refine .q rfl rfl rfl (val_move rfl) ?_
              refine .no rfl rfl rfl ?_
              refine .no rfl rfl rfl ?_
              refine .no rfl rfl rfl ?_
              refine .no rfl rfl rfl ?_
              refine .no rfl rfl rfl ?_
              refine .q rfl rfl rfl (val_pick_f rfl rfl) ?_
              refine .q rfl rfl rfl (val_assign rfl) ?_
              refine .nil (cj ?_)
              refine .ret (fret (res1 rfl rfl) ?_)
              refine hRR _ _ ⟨_, ⟨retb ?_, rfl⟩, H3.sub .nil⟩
              first | (rw [legalR_none hc1 hc5 hc8 hc9]; done) | (rw [legalR_turn hc0 hc5 (all_noR hx hc7), Bool.false_and]; done) | (rw [legalR_turn hc0 hc5 hall, hs73, hs78]; rfl) | (rw [legalR_turn hc0 hc5 hall, hs73]; rfl) | (rw [legalR_run hc0 hc1, hno]; simp; done) | (rw [legalR_run hc0 hc1, hin, hrun, hn16, hd3, decide_eq_true hto]; rfl) | (rw [legalR_hoist hc0 hc1 hc5 (.inl hc9), hs97, hs102]; rfl) | (rw [legalR_hoist hc0 hc1 hc5 (.inl hc9), hs97]; rfl) | (rw [legalR_hoist hc0 hc1 hc5 (.inr hc9), hs97, hs102]; rfl) | (rw [legalR_hoist hc0 hc1 hc5 (.inr hc9), hs97]; rfl) | (rw [legalR_run hc0 hc1, show decide (m.to = shiftS m.fr m.dir m.n) = false from nt hc2]; simp; done) | (simp_all [legalR]; done) | (rw [legalR_run hc0 hc1]; simp_all; done)
          · refine .skip (cj ?_)
            refine .seq ?_
            refine .plain rfl ?_
            refine .q rfl rfl rfl (val_assign rfl) ?_
            refine .nil (cj ?_)
            refine .ret (fret (res1 rfl rfl) ?_)
            refine hRR _ _ ⟨_, ⟨retb ?_, rfl⟩, H3.sub .nil⟩
            first | (rw [legalR_none hc1 hc5 hc8 hc9]; done) | (rw [legalR_turn hc0 hc5 (all_noR hx hc7), Bool.false_and]; done) | (rw [legalR_turn hc0 hc5 hall, hs73, hs78]; rfl) | (rw [legalR_turn hc0 hc5 hall, hs73]; rfl) | (rw [legalR_run hc0 hc1, hno]; simp; done) | (rw [legalR_run hc0 hc1, hin, hrun, hn16, hd3, decide_eq_true hto]; rfl) | (rw [legalR_hoist hc0 hc1 hc5 (.inl hc9), hs97, hs102]; rfl) | (rw [legalR_hoist hc0 hc1 hc5 (.inl hc9), hs97]; rfl) | (rw [legalR_hoist hc0 hc1 hc5 (.inr hc9), hs97, hs102]; rfl) | (rw [legalR_hoist hc0 hc1 hc5 (.inr hc9), hs97]; rfl) | (rw [legalR_run hc0 hc1, show decide (m.to = shiftS m.fr m.dir m.n) = false from nt hc2]; simp; done) | (simp_all [legalR]; done) | (rw [legalR_run hc0 hc1]; simp_all; done)
end Go.Proofs.YtmbibkifbehgnaaGreatDoor
/-! ## R4: Walk of the document's Moves. -/
namespace Go.Proofs.YtmbibkifbehgnaaGreatDoor
open Go Sk
set_option linter.unusedVariables false
set_option linter.unusedSimpArgs false
theorem en75 : Enters Tryz.prog 75 := fun args w => by kernel_rfl
theorem ap_94  : apB Tryz.prog 94 42 11 88 = true := by kernel_rfl
theorem bs_42_1_0 (x0_0_ : Int) (x0_1_ : Int) (x0_2_ : Int) (x0_3_0_0_ : Int) (x0_3_0_1_ : Int) (x0_3_1_ : Bool) (x0_4_0_0_ : Int) (x0_4_0_1_ : Int) (x0_4_1_ : Bool) (x0_5_ : Int) (x0_6_ : Int) : Tryz.prog.builtSlice 42 1 [(0, .agg (List.toArray [.int .i64 x0_0_, .int .i64 x0_1_, .int .i64 x0_2_, .int .i64 x0_3_0_0_, .int .i64 x0_3_0_1_, .bool x0_3_1_, .int .i64 x0_4_0_0_, .int .i64 x0_4_0_1_, .bool x0_4_1_, .int .i64 x0_5_, .int .i64 x0_6_]))] = some (List.toArray [.int .i64 x0_0_, .int .i64 x0_1_, .int .i64 x0_2_, .int .i64 x0_3_0_0_, .int .i64 x0_3_0_1_, .bool x0_3_1_, .int .i64 x0_4_0_0_, .int .i64 x0_4_0_1_, .bool x0_4_1_, .int .i64 x0_5_, .int .i64 x0_6_]) := by kernel_rfl
theorem mk_42_0_1_2_3_4 (x0_ : Int) (x1_ : Int) (x2_ : Int) (x3_0_0_ : Int) (x3_0_1_ : Int) (x3_1_ : Bool) (x4_0_0_ : Int) (x4_0_1_ : Int) (x4_1_ : Bool) : Tryz.prog.built 42 [(0, .int .i64 x0_), (1, .int .i64 x1_), (2, .int .i64 x2_), (3, .agg (List.toArray [.int .i64 x3_0_0_, .int .i64 x3_0_1_, .bool x3_1_])), (4, .agg (List.toArray [.int .i64 x4_0_0_, .int .i64 x4_0_1_, .bool x4_1_]))] = some (List.toArray [.int .i64 x0_, .int .i64 x1_, .int .i64 x2_, .int .i64 x3_0_0_, .int .i64 x3_0_1_, .bool x3_1_, .int .i64 x4_0_0_, .int .i64 x4_0_1_, .bool x4_1_, .int .i64 0, .int .i64 0]) := by kernel_rfl
theorem mk_42_0_3_4 (x0_ : Int) (x3_0_0_ : Int) (x3_0_1_ : Int) (x3_1_ : Bool) (x4_0_0_ : Int) (x4_0_1_ : Int) (x4_1_ : Bool) : Tryz.prog.built 42 [(0, .int .i64 x0_), (3, .agg (List.toArray [.int .i64 x3_0_0_, .int .i64 x3_0_1_, .bool x3_1_])), (4, .agg (List.toArray [.int .i64 x4_0_0_, .int .i64 x4_0_1_, .bool x4_1_]))] = some (List.toArray [.int .i64 x0_, .int .i64 0, .int .i64 0, .int .i64 x3_0_0_, .int .i64 x3_0_1_, .bool x3_1_, .int .i64 x4_0_0_, .int .i64 x4_0_1_, .bool x4_1_, .int .i64 0, .int .i64 0]) := by kernel_rfl
theorem sz_42  : (Tryz.prog.info? 42).map (·.size) = some 11 := by kernel_rfl
theorem ze_42  : (Tryz.prog.info? 42).bind (·.zero) = some (.agg (List.toArray [.int .i64 0, .int .i64 0, .int .i64 0, .int .i64 0, .int .i64 0, .bool false, .int .i64 0, .int .i64 0, .bool false, .int .i64 0, .int .i64 0])) := by kernel_rfl
def mvRun (p : Ps) (d n : Int) : Mv := ⟨1, d, n, p, shiftS p d n, 0, 0⟩
def mvTurn (p : Ps) : Mv := ⟨2, 0, 0, p, ⟨p.x, p.y, !p.d⟩, 0, 0⟩
/-- the runs of n, n + 1 .. cells, f of them at most -/
def runsR (c : Cf) (p : Ps) (d : Int) : Nat → Nat → List Mv
  | 0, _ => []
  | f + 1, n => if legalR c (mvRun p d (n : Int)) then mvRun p d (n : Int) :: runsR c p d f (n + 1) else []
def movesR (c : Cf) (p : Ps) : List Mv :=
  if fitsR c p then ((List.range 4).flatMap fun (d : Nat) => runsR c p (d : Int) 16 1) ++ (if legalR c (mvTurn p) then [mvTurn p] else []) else []
theorem row_snoc {α : Type} {v : Value} {e : TypeId} {sz : Nat} {enc : α → List Value} {acc : List α} {m : α} : row v e sz (acc ++ [m]).length ((acc ++ [m]).flatMap enc) = row v e sz (acc.length + 1) (acc.flatMap enc ++ enc m) := by
  simp
theorem runs_len {c : Cf} {p : Ps} {d : Int} : ∀ (f n : Nat), (runsR c p d f n).length ≤ f
  | 0, _ => Nat.le_refl _
  | f + 1, n => by
    unfold runsR
    split
    · have := runs_len (c := c) (p := p) (d := d) f (n + 1)
      simp; omega
    · simp
structure MI where
  v : Value
  acc : List Mv
structure MJ where
  i : Nat
  v : Value
  acc : List Mv
theorem range_snoc (c : Cf) (p : Ps) (d : Nat) : (List.range (d + 1)).flatMap (fun (d : Nat) => runsR c p (d : Int) 16 1) = (List.range d).flatMap (fun (d : Nat) => runsR c p (d : Int) 16 1) ++ runsR c p (d : Int) 16 1 := by
  rw [List.range_succ, List.flatMap_append]; simp
theorem moves_no {c : Cf} {p : Ps} (h : (!fitsR c p) = true) : movesR c p = [] := by
  unfold movesR; rw [if_neg (by rw [nt h]; simp)]
theorem moves_turn {c : Cf} {p : Ps} {acc : List Mv} (h : fitsR c p = true) (h4 : legalR c (mvTurn p) = true) (hq : acc = (List.range 4).flatMap (fun (d : Nat) => runsR c p (d : Int) 16 1)) : movesR c p = acc ++ [mvTurn p] := by
  unfold movesR; rw [if_pos h, if_pos h4, hq]
theorem moves_noturn {c : Cf} {p : Ps} {acc : List Mv} (h : fitsR c p = true) (h4 : legalR c (mvTurn p) = false) (hq : acc = (List.range 4).flatMap (fun (d : Nat) => runsR c p (d : Int) 16 1)) : movesR c p = acc := by
  unfold movesR; rw [if_pos h, if_neg (by rw [h4]; simp), hq, List.append_nil]
theorem movesR_spec (c : Cf) (hc : c.Fit) (p : Ps) : Sk.Spec Tryz.prog 39 #[.agg (encCf c).toArray, .agg (encP p).toArray] [cb c] [] fun e F' => ∃ v, e = .returned v ∧ F' = [row v 42 11 (movesR c p).length ((movesR c p).flatMap encM)] ∧ True := by
  refine Spec.of_code (vs := [_, _]) (k0 := [(0, _), (1, _)]) 54 Tryz.func39 rfl Tryz.ntmps39 rfl (.cons (.cons .nil)) fun w X RR hRR H => ?_
  refine .seq ?_
  refine .plain rfl ?_
  refine .box rfl rfl rfl rfl rfl H (fun w1 b1 H1 => ⟨fun _ => trivial, ?_⟩)
  refine .box rfl rfl rfl rfl rfl H1 (fun w2 b2 H2 => ⟨fun _ => trivial, ?_⟩)
  refine .q rfl rfl rfl (val_assign rfl) ?_
  refine .nil (cj ?_)
  refine .seq ?_
  refine .seq ?_
  refine .plain rfl ?_
  refine .qs rfl rfl rfl H2 (ld_w rfl ag_26 (.own (.there .here)) rfl) ?_
  refine .qs rfl rfl rfl H2 (ld_w rfl ag_40 (.own .here) rfl) ?_
  refine .call1 rfl rfl rfl en67 (.cons rfl (.cons rfl .nil)) (fitsR_spec _ (by assumption) _ _ _) H2 .nil (.ro .here .nil) (fun w3 H3 => ⟨fun _ => trivial, ?_⟩)
  refine .q rfl rfl rfl (val_not rfl rfl) ?_
  refine .nil (cj ?_)
  refine .cond rfl (fun hc0 => ?_) (fun hc0 => ?_)
  · refine .seq ?_
    refine .plain rfl ?_
    refine .q rfl rfl rfl (val_assign rfl) ?_
    refine .nil (cj ?_)
    refine .ret (fret (res1 rfl rfl) ?_)
    refine hRR _ _ ⟨_, ⟨_, rfl, rfl, trivial⟩, ?_⟩
    first | (rw [moves_no hc0]; exact (H3.rowNil 42 11).sub (.cons .here .nil)) | (rw [moves_turn hmv hc4 hq, row_snoc]; exact H3.sub .nil) | (rw [moves_noturn hmv hc4 hq]; exact H3.sub .nil)
  · refine .skip (cj ?_)
    refine .seq ?_
    refine .plain rfl ?_
    refine .q rfl rfl rfl (val_assign rfl) ?_
    refine .nil (cj ?_)
    refine .seq ?_
    refine .seq ?_
    refine .plain rfl ?_
    refine .q rfl rfl rfl (val_assign rfl) ?_
    refine .nil (cj ?_)
    refine .block ?_
    have H5 := H3.rowNil 42 11
    refine .loop (ι := Nat × MI) (fun q => [(2, ptr b1), (3, ptr b2), (5, q.2.v), (6, i64 (q.1 : Int))]) (fun q w' => St w w' X [cb c] [row q.2.v 42 11 q.2.acc.length (q.2.acc.flatMap encM), blk b2 (encP p) 40, blk b1 (encCf c) 26] ∧ q.1 ≤ 4 ∧ q.2.acc.length ≤ 16 * q.1 ∧ q.2.acc = (List.range q.1).flatMap (fun (d : Nat) => runsR c p (d : Int) 16 1)) (fun q => 5 - q.1) (0, ⟨.slice none 0 0, []⟩) (by repeat (first | exact Pick.nil | refine Pick.cons rfl ?_)) ⟨H5.sub (.cons .here (.cons .here (.cons .here .nil))), (by decide), (by decide), rfl⟩ ?_
    rintro ⟨d, q⟩ w5 ⟨H4, hd, hl, hq⟩
    refine .seq ?_
    refine .seq ?_
    refine .plain rfl ?_
    refine .q rfl rfl rfl (val_move rfl) ?_
    refine .q rfl rfl rfl (val_leq rfl rfl rfl) ?_
    refine .nil (cj ?_)
    refine .cond rfl (fun hc1 => ?_) (fun hc1 => ?_)
    · have hd3 : d ≤ 3 := by simp at hc1; omega
      have hd4 : d + 1 ≤ 4 := by omega
      refine .skip (cj ?_)
      refine .seq ?_
      refine .block ?_
      refine .seq ?_
      refine .plain rfl ?_
      refine .q rfl rfl rfl (val_assign rfl) ?_
      refine .nil (cj ?_)
      refine .block ?_
      refine .loop (ι := MJ) (fun x => [(2, ptr b1), (3, ptr b2), (5, x.v), (6, i64 (d : Int)), (7, i64 ((x.i + 1 : Nat) : Int))]) (fun x w' => St w w' X [cb c] [row x.v 42 11 x.acc.length (x.acc.flatMap encM), blk b2 (encP p) 40, blk b1 (encCf c) 26] ∧ x.i ≤ 16 ∧ x.acc.length ≤ 16 * d + x.i ∧ x.acc ++ runsR c p (d : Int) (16 - x.i) (x.i + 1) = q.acc ++ runsR c p (d : Int) 16 1) (fun x => 17 - x.i) ⟨0, q.v, q.acc⟩ (by repeat (first | exact Pick.nil | refine Pick.cons rfl ?_)) ⟨H4.sub (.cons .here (.cons .here (.cons .here .nil))), Nat.zero_le _, hl, rfl⟩ ?_
      rintro x w6 ⟨H6, hi, hxl, hx⟩
      refine .seq ?_
      refine .seq ?_
      refine .plain rfl ?_
      refine .q rfl rfl rfl (val_move rfl) ?_
      refine .q rfl rfl rfl (val_leq rfl rfl rfl) ?_
      refine .nil (cj ?_)
      refine .cond rfl (fun hc2 => ?_) (fun hc2 => ?_)
      · have hi16 : x.i + 1 ≤ 16 := by simp at hc2; omega
        refine .skip (cj ?_)
        refine .seq ?_
        refine .block ?_
        refine .seq ?_
        refine .drawS 9 (.cons (0, true) (.cons (1, true) (.cons (2, true) (.cons (3, true) (.cons (4, true) (.cons (5, true) (.fork 6 (.cons (7, true) (.cons (8, false) (.cons (9, false) .nil))) 8 (.cons (6, false) (.cons (7, true) (.cons (9, false) .nil)))))))))) mo (by kernel_rfl) H6 (fun _ _ _ _ _ h => h) (fun w7 H7 => ?_)
        refine .p rfl rfl rfl (val_move rfl) ?_
        refine .p rfl rfl rfl (val_move rfl) ?_
        refine .ps rfl rfl rfl rfl (ld_w rfl ag_40 (.own (.there .here)) rfl) ?_
        refine .ps rfl rfl rfl rfl (ld_w rfl ag_40 (.own (.there .here)) rfl) ?_
        refine .p rfl rfl rfl (val_move rfl) ?_
        refine .p rfl rfl rfl (val_move rfl) ?_
        refine .fork ?_ ?_
        · refine .call1 rfl rfl rfl en74 (.cons rfl (.cons rfl (.cons rfl .nil))) (shiftS_spec _ _ _ _ _) H7 .nil .nil (fun w8 H8 => ⟨fun _ => H8, ?_⟩)
          refine .p rfl rfl rfl (val_mk (.cons rfl (.cons rfl (.cons rfl (.cons rfl (.cons rfl .nil))))) (mk_42_0_1_2_3_4 _ _ _ _ _ _ _ _ _)) ?_
          refine .alloc rfl rfl rfl ze_42 rfl H8 (fun w9 b9 H9 => ⟨fun _ => (H9.sub (.cons (.there .here) (.cons (.there .here) (.cons (.there .here) .nil)))), ?_⟩)
          refine .store rfl rfl rfl rfl rfl sz_42 rfl H9 .here (by repeat constructor) (fun w10 H10 => ⟨fun h => absurd h (by decide), ?_⟩)
          refine .nil (cj ?_)
          refine .seq ?_
          refine .seq ?_
          refine .plain rfl ?_
          refine .qs rfl rfl rfl H10 (ld_w rfl ag_26 (.own (.there (.there (.there .here)))) rfl) ?_
          refine .qs rfl rfl rfl H10 (ld_w rfl ag_42 (.own .here) rfl) ?_
          refine .call1 rfl rfl rfl en75 (.cons rfl (.cons rfl .nil)) (legalR_spec _ (by assumption) (mvRun p (d : Int) ((x.i + 1 : Nat) : Int))) H10 .nil (.ro .here .nil) (fun w11 H11 => ⟨fun _ => trivial, ?_⟩)
          refine .q rfl rfl rfl (val_not rfl rfl) ?_
          refine .nil (cj ?_)
          refine .cond rfl (fun hc3 => ?_) (fun hc3 => ?_)
          · have hno : runsR c p (d : Int) (16 - x.i) (x.i + 1) = [] := by
              rw [show 16 - x.i = (15 - x.i) + 1 by omega, runsR, if_neg (by rw [nt hc3]; simp)]
            have hq4 : x.acc = (List.range (d + 1)).flatMap (fun (d : Nat) => runsR c p (d : Int) 16 1) := by
              rw [range_snoc, ← hq, ← hx, hno, List.append_nil]
            have hl4 : x.acc.length ≤ 16 * (d + 1) := by omega
            refine .exit (cj ?_)
            refine .plain rfl ?_
            refine .q rfl rfl rfl (val_move rfl) ?_
            refine .q rfl rfl rfl (val_add rfl rfl (z := ((d + 1 : Nat) : Int)) (w64_of (by omega))) ?_
            refine .q rfl rfl rfl (val_assign rfl) ?_
            refine .nil ?_
            intro act0 hact0; change Exists _
            refine ⟨(d + 1, ⟨_, _⟩), Pick.kn (by repeat (first | exact Pick.nil | refine Pick.cons rfl ?_)) hact0, ⟨H11.sub (.cons (.there .here) (.cons (.there .here) (.cons (.there .here) .nil))), hd4, hl4, hq4⟩, (show 5 - (d + 1) < 5 - d by omega)⟩
          · have hx' : (x.acc ++ [mvRun p (d : Int) ((x.i + 1 : Nat) : Int)]) ++ runsR c p (d : Int) (16 - (x.i + 1)) (x.i + 1 + 1) = q.acc ++ runsR c p (d : Int) 16 1 := by
              rw [← hx, show 16 - x.i = (16 - (x.i + 1)) + 1 by omega, runsR, if_pos (nf hc3), List.append_assoc]; rfl
            have hxl' : (x.acc ++ [mvRun p (d : Int) ((x.i + 1 : Nat) : Int)]).length ≤ 16 * d + (x.i + 1) := by simp; omega
            refine .skip (cj ?_)
            refine .plain rfl ?_
            refine .q rfl rfl rfl (val_move rfl) ?_
            refine .qs rfl rfl rfl H11 (ld_w rfl ag_42 (.own .here) rfl) ?_
            refine .lit rfl rfl rfl Tryz.underlying94 (.cons rfl .nil) (bs_42_1_0 _ _ _ _ _ _ _ _ _ _ _) H11 (fun w12 b12 H12 => ⟨fun _ => trivial, ?_⟩)
            refine .append rfl rfl rfl (ap_94) rfl rfl H12 (.there (.there .here)) (Has.srcBlk (.own .here) H12) rfl (by simp [Value.oneCell']) (by simp only [maxLen]; omega) (by first | omega | (dsimp only; omega)) (fun v13 w13 H13 => ⟨fun _ => trivial, ?_⟩)
            refine .q rfl rfl rfl (val_assign rfl) ?_
            refine .nil (cj ?_)
            refine .plain rfl ?_
            refine .q rfl rfl rfl (val_move rfl) ?_
            refine .q rfl rfl rfl (val_add rfl rfl (z := ((x.i + 1 + 1 : Nat) : Int)) (w64_of (by omega))) ?_
            refine .q rfl rfl rfl (val_assign rfl) ?_
            refine .nil ?_
            intro act0 hact0; change Exists _
            refine ⟨⟨x.i + 1, _, x.acc ++ [mvRun p (d : Int) ((x.i + 1 : Nat) : Int)]⟩, Pick.kn (by repeat (first | exact Pick.nil | refine Pick.cons rfl ?_)) hact0, ⟨by rw [row_snoc]; exact H13.sub (.cons .here (.cons (.there (.there .here)) (.cons (.there (.there .here)) .nil))), hi16, hxl', hx'⟩, (show 17 - (x.i + 1) < 17 - x.i by omega)⟩
        · refine .alloc rfl rfl rfl ze_42 rfl H7 (fun w14 b14 H14 => ⟨fun _ => (H14.sub (.cons (.there .here) (.cons (.there .here) (.cons (.there .here) .nil)))), ?_⟩)
          refine .call1 rfl rfl rfl en74 (.cons rfl (.cons rfl (.cons rfl .nil))) (shiftS_spec _ _ _ _ _) H14 .nil .nil (fun w15 H15 => ⟨fun _ => (H15.sub (.cons (.there .here) (.cons (.there .here) (.cons (.there .here) .nil)))), ?_⟩)
          refine .p rfl rfl rfl (val_mk (.cons rfl (.cons rfl (.cons rfl (.cons rfl (.cons rfl .nil))))) (mk_42_0_1_2_3_4 _ _ _ _ _ _ _ _ _)) ?_
          refine .store rfl rfl rfl rfl rfl sz_42 rfl H15 .here (by repeat constructor) (fun w16 H16 => ⟨fun h => absurd h (by decide), ?_⟩)
          refine .nil (cj ?_)
          refine .seq ?_
          refine .seq ?_
          refine .plain rfl ?_
          refine .qs rfl rfl rfl H16 (ld_w rfl ag_26 (.own (.there (.there (.there .here)))) rfl) ?_
          refine .qs rfl rfl rfl H16 (ld_w rfl ag_42 (.own .here) rfl) ?_
          refine .call1 rfl rfl rfl en75 (.cons rfl (.cons rfl .nil)) (legalR_spec _ (by assumption) (mvRun p (d : Int) ((x.i + 1 : Nat) : Int))) H16 .nil (.ro .here .nil) (fun w17 H17 => ⟨fun _ => trivial, ?_⟩)
          refine .q rfl rfl rfl (val_not rfl rfl) ?_
          refine .nil (cj ?_)
          refine .cond rfl (fun hc3 => ?_) (fun hc3 => ?_)
          · have hno : runsR c p (d : Int) (16 - x.i) (x.i + 1) = [] := by
              rw [show 16 - x.i = (15 - x.i) + 1 by omega, runsR, if_neg (by rw [nt hc3]; simp)]
            have hq4 : x.acc = (List.range (d + 1)).flatMap (fun (d : Nat) => runsR c p (d : Int) 16 1) := by
              rw [range_snoc, ← hq, ← hx, hno, List.append_nil]
            have hl4 : x.acc.length ≤ 16 * (d + 1) := by omega
            refine .exit (cj ?_)
            refine .plain rfl ?_
            refine .q rfl rfl rfl (val_move rfl) ?_
            refine .q rfl rfl rfl (val_add rfl rfl (z := ((d + 1 : Nat) : Int)) (w64_of (by omega))) ?_
            refine .q rfl rfl rfl (val_assign rfl) ?_
            refine .nil ?_
            intro act0 hact0; change Exists _
            refine ⟨(d + 1, ⟨_, _⟩), Pick.kn (by repeat (first | exact Pick.nil | refine Pick.cons rfl ?_)) hact0, ⟨H17.sub (.cons (.there .here) (.cons (.there .here) (.cons (.there .here) .nil))), hd4, hl4, hq4⟩, (show 5 - (d + 1) < 5 - d by omega)⟩
          · have hx' : (x.acc ++ [mvRun p (d : Int) ((x.i + 1 : Nat) : Int)]) ++ runsR c p (d : Int) (16 - (x.i + 1)) (x.i + 1 + 1) = q.acc ++ runsR c p (d : Int) 16 1 := by
              rw [← hx, show 16 - x.i = (16 - (x.i + 1)) + 1 by omega, runsR, if_pos (nf hc3), List.append_assoc]; rfl
            have hxl' : (x.acc ++ [mvRun p (d : Int) ((x.i + 1 : Nat) : Int)]).length ≤ 16 * d + (x.i + 1) := by simp; omega
            refine .skip (cj ?_)
            refine .plain rfl ?_
            refine .q rfl rfl rfl (val_move rfl) ?_
            refine .qs rfl rfl rfl H17 (ld_w rfl ag_42 (.own .here) rfl) ?_
            refine .lit rfl rfl rfl Tryz.underlying94 (.cons rfl .nil) (bs_42_1_0 _ _ _ _ _ _ _ _ _ _ _) H17 (fun w18 b18 H18 => ⟨fun _ => trivial, ?_⟩)
            refine .append rfl rfl rfl (ap_94) rfl rfl H18 (.there (.there .here)) (Has.srcBlk (.own .here) H18) rfl (by simp [Value.oneCell']) (by simp only [maxLen]; omega) (by first | omega | (dsimp only; omega)) (fun v19 w19 H19 => ⟨fun _ => trivial, ?_⟩)
            refine .q rfl rfl rfl (val_assign rfl) ?_
            refine .nil (cj ?_)
            refine .plain rfl ?_
            refine .q rfl rfl rfl (val_move rfl) ?_
            refine .q rfl rfl rfl (val_add rfl rfl (z := ((x.i + 1 + 1 : Nat) : Int)) (w64_of (by omega))) ?_
            refine .q rfl rfl rfl (val_assign rfl) ?_
            refine .nil ?_
            intro act0 hact0; change Exists _
            refine ⟨⟨x.i + 1, _, x.acc ++ [mvRun p (d : Int) ((x.i + 1 : Nat) : Int)]⟩, Pick.kn (by repeat (first | exact Pick.nil | refine Pick.cons rfl ?_)) hact0, ⟨by rw [row_snoc]; exact H19.sub (.cons .here (.cons (.there (.there .here)) (.cons (.there (.there .here)) .nil))), hi16, hxl', hx'⟩, (show 17 - (x.i + 1) < 17 - x.i by omega)⟩
      · have hi16 : x.i = 16 := by simp at hc2; omega
        have hq4 : x.acc = (List.range (d + 1)).flatMap (fun (d : Nat) => runsR c p (d : Int) 16 1) := by
          rw [range_snoc, ← hq, ← hx, hi16]; simp [runsR]
        have hl4 : x.acc.length ≤ 16 * (d + 1) := by omega
        refine .exit (cj ?_)
        refine .plain rfl ?_
        refine .q rfl rfl rfl (val_move rfl) ?_
        refine .q rfl rfl rfl (val_add rfl rfl (z := ((d + 1 : Nat) : Int)) (w64_of (by omega))) ?_
        refine .q rfl rfl rfl (val_assign rfl) ?_
        refine .nil ?_
        intro act0 hact0; change Exists _
        refine ⟨(d + 1, ⟨_, _⟩), Pick.kn (by repeat (first | exact Pick.nil | refine Pick.cons rfl ?_)) hact0, ⟨H6.sub (.cons .here (.cons .here (.cons .here .nil))), hd4, hl4, hq4⟩, (show 5 - (d + 1) < 5 - d by omega)⟩
    · have hd4 : d = 4 := by simp at hc1; dsimp only at hd; omega
      subst hd4
      dsimp only at hl hq
      refine .exit (cj ?_)
      refine .seq ?_
      refine .plain rfl ?_
      refine .qs rfl rfl rfl H4 (ld_w rfl ag_40 (.own (.there .here)) rfl) ?_
      refine .q rfl rfl rfl (val_fieldAddr rfl fa_40_0) ?_
      refine .qs rfl rfl rfl H4 (ld_blks rfl ag_38 (.own (.there .here)) (by repeat constructor)) ?_
      refine .q rfl rfl rfl (val_fieldAddr rfl fa_40_1) ?_
      refine .qs rfl rfl rfl H4 (ld_b rfl ob_4 (.own (.there .here)) rfl) ?_
      refine .q rfl rfl rfl (val_not rfl rfl) ?_
      refine .q rfl rfl rfl (val_mk (.cons rfl (.cons rfl .nil)) (mk_40_0_1 _ _ _)) ?_
      refine .q rfl rfl rfl (val_mk (.cons rfl (.cons rfl (.cons rfl .nil))) (mk_42_0_3_4 _ _ _ _ _ _ _)) ?_
      refine .alloc rfl rfl rfl ze_42 rfl H4 (fun w20 b20 H20 => ⟨fun _ => trivial, ?_⟩)
      refine .store rfl rfl rfl rfl rfl sz_42 rfl H20 .here (by repeat constructor) (fun w21 H21 => ⟨fun _ => trivial, ?_⟩)
      refine .nil (cj ?_)
      refine .seq ?_
      refine .seq ?_
      refine .plain rfl ?_
      refine .qs rfl rfl rfl H21 (ld_w rfl ag_26 (.own (.there (.there (.there .here)))) rfl) ?_
      refine .qs rfl rfl rfl H21 (ld_w rfl ag_42 (.own .here) rfl) ?_
      refine .call1 rfl rfl rfl en75 (.cons rfl (.cons rfl .nil)) (legalR_spec _ (by assumption) (mvTurn p)) H21 .nil (.ro .here .nil) (fun w22 H22 => ⟨fun _ => trivial, ?_⟩)
      refine .nil (cj ?_)
      have hmv : fitsR c p = true := nf hc0
      refine .cond rfl (fun hc4 => ?_) (fun hc4 => ?_)
      · refine .plain rfl ?_
        refine .q rfl rfl rfl (val_move rfl) ?_
        refine .qs rfl rfl rfl H22 (ld_w rfl ag_42 (.own .here) rfl) ?_
        refine .lit rfl rfl rfl Tryz.underlying94 (.cons rfl .nil) (bs_42_1_0 _ _ _ _ _ _ _ _ _ _ _) H22 (fun w23 b23 H23 => ⟨fun _ => trivial, ?_⟩)
        refine .append rfl rfl rfl (ap_94) rfl rfl H23 (.there (.there .here)) (Has.srcBlk (.own .here) H23) rfl (by simp [Value.oneCell']) (by simp only [maxLen]; omega) (by first | omega | (dsimp only; omega)) (fun v24 w24 H24 => ⟨fun _ => trivial, ?_⟩)
        refine .q rfl rfl rfl (val_assign rfl) ?_
        refine .nil (cj ?_)
        refine .seq ?_
        refine .plain rfl ?_
        refine .q rfl rfl rfl (val_move rfl) ?_
        refine .q rfl rfl rfl (val_assign rfl) ?_
        refine .nil (cj ?_)
        refine .ret (fret (res1 rfl rfl) ?_)
        refine hRR _ _ ⟨_, ⟨_, rfl, rfl, trivial⟩, ?_⟩
        first | (rw [moves_no hc0]; exact (H24.rowNil 42 11).sub (.cons .here .nil)) | (rw [moves_turn hmv hc4 hq, row_snoc]; exact H24.sub (.cons .here .nil)) | (rw [moves_noturn hmv hc4 hq]; exact H24.sub (.cons .here .nil))
      · refine .skip (cj ?_)
        refine .seq ?_
        refine .plain rfl ?_
        refine .q rfl rfl rfl (val_move rfl) ?_
        refine .q rfl rfl rfl (val_assign rfl) ?_
        refine .nil (cj ?_)
        refine .ret (fret (res1 rfl rfl) ?_)
        refine hRR _ _ ⟨_, ⟨_, rfl, rfl, trivial⟩, ?_⟩
        first | (rw [moves_no hc0]; exact (H22.rowNil 42 11).sub (.cons .here .nil)) | (rw [moves_turn hmv hc4 hq, row_snoc]; exact H22.sub (.cons (.there .here) .nil)) | (rw [moves_noturn hmv hc4 hq]; exact H22.sub (.cons (.there .here) .nil))
end Go.Proofs.YtmbibkifbehgnaaGreatDoor
/-! ## R5: Walks of the document's May: what it grants is so. -/
namespace Go.Proofs.YtmbibkifbehgnaaGreatDoor
open Go Sk
set_option linter.unusedVariables false
set_option linter.unusedSimpArgs false
theorem fa_26_2 (b o : Nat) (w : World) : (Instr.fieldAt 26 (.pointer (some ⟨b, o, none⟩)) 2).run Tryz.prog w = .ok (.pointer (some ⟨b, o + 2, none⟩)) w := by kernel_rfl
theorem fa_26_7 (b o : Nat) (w : World) : (Instr.fieldAt 26 (.pointer (some ⟨b, o, none⟩)) 7).run Tryz.prog w = .ok (.pointer (some ⟨b, o + 7, none⟩)) w := by kernel_rfl
theorem fa_26_8 (b o : Nat) (w : World) : (Instr.fieldAt 26 (.pointer (some ⟨b, o, none⟩)) 8).run Tryz.prog w = .ok (.pointer (some ⟨b, o + 8, none⟩)) w := by kernel_rfl
theorem fa_26_9 (b o : Nat) (w : World) : (Instr.fieldAt 26 (.pointer (some ⟨b, o, none⟩)) 9).run Tryz.prog w = .ok (.pointer (some ⟨b, o + 9, none⟩)) w := by kernel_rfl
theorem fa_26_10 (b o : Nat) (w : World) : (Instr.fieldAt 26 (.pointer (some ⟨b, o, none⟩)) 10).run Tryz.prog w = .ok (.pointer (some ⟨b, o + 10, none⟩)) w := by kernel_rfl
theorem fa_26_11 (b o : Nat) (w : World) : (Instr.fieldAt 26 (.pointer (some ⟨b, o, none⟩)) 11).run Tryz.prog w = .ok (.pointer (some ⟨b, o + 11, none⟩)) w := by kernel_rfl
theorem fa_26_12 (b o : Nat) (w : World) : (Instr.fieldAt 26 (.pointer (some ⟨b, o, none⟩)) 12).run Tryz.prog w = .ok (.pointer (some ⟨b, o + 12, none⟩)) w := by kernel_rfl
theorem fa_26_13 (b o : Nat) (w : World) : (Instr.fieldAt 26 (.pointer (some ⟨b, o, none⟩)) 13).run Tryz.prog w = .ok (.pointer (some ⟨b, o + 13, none⟩)) w := by kernel_rfl
theorem fa_26_14 (b o : Nat) (w : World) : (Instr.fieldAt 26 (.pointer (some ⟨b, o, none⟩)) 14).run Tryz.prog w = .ok (.pointer (some ⟨b, o + 14, none⟩)) w := by kernel_rfl
structure NumOk (c : Cf) : Prop where
  w : 1 ≤ c.w ∧ c.w ≤ 16
  h : 1 ≤ c.h ∧ c.h ≤ 16
  height : 1 ≤ c.height ∧ c.height ≤ 8
  unit : 1 ≤ c.unit ∧ c.unit ≤ 1000
  accel : 1 ≤ c.accel ∧ c.accel ≤ 1000
  speed : 1 ≤ c.speed ∧ c.speed ≤ 1000
  turn : 1 ≤ c.turn ∧ c.turn ≤ 1000
  hoist : 1 ≤ c.hoist ∧ c.hoist ≤ 1000
  resend : 1 ≤ c.resend ∧ c.resend ≤ 1000
  queue : 1 ≤ c.queue ∧ c.queue ≤ 16
  budget : 1 ≤ c.budget ∧ c.budget ≤ 1048576
theorem wi {n a b : Int} (h : withinB n a b = true) : a ≤ n ∧ n ≤ b := by simpa [withinB] using h
/-- an answer of which what 'true' says is known -/
abbrev Says (Q : Prop) : Ending → List As → Prop := fun e F' => ∃ b : Bool, e = .returned (.bool b) ∧ F' = [] ∧ (b = true → Q)
theorem numbersR_spec (c : Cf) : Sk.Spec Tryz.prog 62 #[.agg (encCf c).toArray] [] [] (Says (NumOk c)) := by
  refine Spec.of_code (vs := [_]) (k0 := [(0, _)]) 56 Tryz.func62 rfl Tryz.ntmps62 rfl (.cons .nil) fun w X RR hRR H => ?_
  refine .seq ?_
  refine .plain rfl ?_
  refine .box rfl rfl rfl rfl rfl H (fun w1 b1 H1 => ⟨fun _ => trivial, ?_⟩)
  refine .q rfl rfl rfl (val_assign rfl) ?_
  refine .nil (cj ?_)
  refine .seq ?_
  refine .plain rfl ?_
  refine .q rfl rfl rfl (val_fieldAddr rfl fa_26_0) ?_
  refine .qs rfl rfl rfl H1 (ld_b rfl ob_3 (.own .here) rfl) ?_
  refine .call1 rfl rfl rfl en92 (.cons rfl (.cons rfl (.cons rfl .nil))) (within92_spec _ _ _) H1 .nil .nil (fun w2 H2 => ⟨fun _ => trivial, ?_⟩)
  refine .q rfl rfl rfl (val_move rfl) ?_
  refine .case (t := 6) rfl (fun hs6 => ?_) (fun hs6 => ?_)
  · refine .q rfl rfl rfl (val_fieldAddr rfl fa_26_1) ?_
    refine .qs rfl rfl rfl H2 (ld_b rfl ob_3 (.own .here) rfl) ?_
    refine .call1 rfl rfl rfl en92 (.cons rfl (.cons rfl (.cons rfl .nil))) (within92_spec _ _ _) H2 .nil .nil (fun w3 H3 => ⟨fun _ => trivial, ?_⟩)
    refine .q rfl rfl rfl (val_pick_t rfl rfl) ?_
    refine .q rfl rfl rfl (val_move rfl) ?_
    refine .case (t := 11) rfl (fun hs11 => ?_) (fun hs11 => ?_)
    · refine .q rfl rfl rfl (val_fieldAddr rfl fa_26_2) ?_
      refine .qs rfl rfl rfl H3 (ld_b rfl ob_3 (.own .here) rfl) ?_
      refine .call1 rfl rfl rfl en92 (.cons rfl (.cons rfl (.cons rfl .nil))) (within92_spec _ _ _) H3 .nil .nil (fun w4 H4 => ⟨fun _ => trivial, ?_⟩)
      refine .q rfl rfl rfl (val_pick_t rfl rfl) ?_
      refine .q rfl rfl rfl (val_move rfl) ?_
      refine .case (t := 16) rfl (fun hs16 => ?_) (fun hs16 => ?_)
      · refine .q rfl rfl rfl (val_fieldAddr rfl fa_26_7) ?_
        refine .qs rfl rfl rfl H4 (ld_b rfl ob_3 (.own .here) rfl) ?_
        refine .call1 rfl rfl rfl en92 (.cons rfl (.cons rfl (.cons rfl .nil))) (within92_spec _ _ _) H4 .nil .nil (fun w5 H5 => ⟨fun _ => trivial, ?_⟩)
        refine .q rfl rfl rfl (val_pick_t rfl rfl) ?_
        refine .q rfl rfl rfl (val_move rfl) ?_
        refine .case (t := 21) rfl (fun hs21 => ?_) (fun hs21 => ?_)
        · refine .q rfl rfl rfl (val_fieldAddr rfl fa_26_8) ?_
          refine .qs rfl rfl rfl H5 (ld_b rfl ob_3 (.own .here) rfl) ?_
          refine .call1 rfl rfl rfl en92 (.cons rfl (.cons rfl (.cons rfl .nil))) (within92_spec _ _ _) H5 .nil .nil (fun w6 H6 => ⟨fun _ => trivial, ?_⟩)
          refine .q rfl rfl rfl (val_pick_t rfl rfl) ?_
          refine .q rfl rfl rfl (val_move rfl) ?_
          refine .case (t := 26) rfl (fun hs26 => ?_) (fun hs26 => ?_)
          · refine .q rfl rfl rfl (val_fieldAddr rfl fa_26_9) ?_
            refine .qs rfl rfl rfl H6 (ld_b rfl ob_3 (.own .here) rfl) ?_
            refine .call1 rfl rfl rfl en92 (.cons rfl (.cons rfl (.cons rfl .nil))) (within92_spec _ _ _) H6 .nil .nil (fun w7 H7 => ⟨fun _ => trivial, ?_⟩)
            refine .q rfl rfl rfl (val_pick_t rfl rfl) ?_
            refine .q rfl rfl rfl (val_move rfl) ?_
            refine .case (t := 31) rfl (fun hs31 => ?_) (fun hs31 => ?_)
            · refine .q rfl rfl rfl (val_fieldAddr rfl fa_26_10) ?_
              refine .qs rfl rfl rfl H7 (ld_b rfl ob_3 (.own .here) rfl) ?_
              refine .call1 rfl rfl rfl en92 (.cons rfl (.cons rfl (.cons rfl .nil))) (within92_spec _ _ _) H7 .nil .nil (fun w8 H8 => ⟨fun _ => trivial, ?_⟩)
              refine .q rfl rfl rfl (val_pick_t rfl rfl) ?_
              refine .q rfl rfl rfl (val_move rfl) ?_
              refine .case (t := 36) rfl (fun hs36 => ?_) (fun hs36 => ?_)
              · refine .q rfl rfl rfl (val_fieldAddr rfl fa_26_11) ?_
                refine .qs rfl rfl rfl H8 (ld_b rfl ob_3 (.own .here) rfl) ?_
                refine .call1 rfl rfl rfl en92 (.cons rfl (.cons rfl (.cons rfl .nil))) (within92_spec _ _ _) H8 .nil .nil (fun w9 H9 => ⟨fun _ => trivial, ?_⟩)
                refine .q rfl rfl rfl (val_pick_t rfl rfl) ?_
                refine .q rfl rfl rfl (val_move rfl) ?_
                refine .case (t := 41) rfl (fun hs41 => ?_) (fun hs41 => ?_)
                · refine .q rfl rfl rfl (val_fieldAddr rfl fa_26_13) ?_
                  refine .qs rfl rfl rfl H9 (ld_b rfl ob_3 (.own .here) rfl) ?_
                  refine .call1 rfl rfl rfl en92 (.cons rfl (.cons rfl (.cons rfl .nil))) (within92_spec _ _ _) H9 .nil .nil (fun w10 H10 => ⟨fun _ => trivial, ?_⟩)
                  refine .q rfl rfl rfl (val_pick_t rfl rfl) ?_
                  refine .q rfl rfl rfl (val_move rfl) ?_
                  refine .case (t := 46) rfl (fun hs46 => ?_) (fun hs46 => ?_)
                  · refine .q rfl rfl rfl (val_fieldAddr rfl fa_26_12) ?_
                    refine .qs rfl rfl rfl H10 (ld_b rfl ob_3 (.own .here) rfl) ?_
                    refine .call1 rfl rfl rfl en92 (.cons rfl (.cons rfl (.cons rfl .nil))) (within92_spec _ _ _) H10 .nil .nil (fun w11 H11 => ⟨fun _ => trivial, ?_⟩)
                    refine .q rfl rfl rfl (val_pick_t rfl rfl) ?_
                    refine .q rfl rfl rfl (val_move rfl) ?_
                    refine .case (t := 51) rfl (fun hs51 => ?_) (fun hs51 => ?_)
                    · refine .q rfl rfl rfl (val_fieldAddr rfl fa_26_14) ?_
                      refine .qs rfl rfl rfl H11 (ld_b rfl ob_3 (.own .here) rfl) ?_
                      refine .call1 rfl rfl rfl en92 (.cons rfl (.cons rfl (.cons rfl .nil))) (within92_spec _ _ _) H11 .nil .nil (fun w12 H12 => ⟨fun _ => trivial, ?_⟩)
                      refine .q rfl rfl rfl (val_pick_t rfl rfl) ?_
                      refine .q rfl rfl rfl (val_assign rfl) ?_
                      refine .nil (cj ?_)
                      refine .ret (fret (res1 rfl rfl) ?_)
                      refine hRR _ _ ⟨_, ⟨_, rfl, rfl, fun hh => ?_⟩, H12.sub .nil⟩
                      first | (cases hh; done) | exact ⟨wi hs6, wi hs11, wi hs16, wi hs21, wi hs26, wi hs31, wi hs36, wi hs41, wi hs46, wi hs51, wi hh⟩
                    · refine .no rfl rfl rfl ?_
                      refine .no rfl rfl rfl ?_
                      refine .no rfl rfl rfl ?_
                      refine .q rfl rfl rfl (val_pick_f rfl rfl) ?_
                      refine .q rfl rfl rfl (val_assign rfl) ?_
                      refine .nil (cj ?_)
                      refine .ret (fret (res1 rfl rfl) ?_)
                      refine hRR _ _ ⟨_, ⟨_, rfl, rfl, fun hh => ?_⟩, H11.sub .nil⟩
                      first | (cases hh; done) | exact ⟨wi hs6, wi hs11, wi hs16, wi hs21, wi hs26, wi hs31, wi hs36, wi hs41, wi hs46, wi hs51, wi hh⟩
                  · refine .no rfl rfl rfl ?_
                    refine .no rfl rfl rfl ?_
                    refine .no rfl rfl rfl ?_
                    refine .q rfl rfl rfl (val_pick_f rfl rfl) ?_
                    refine .q rfl rfl rfl (val_move rfl) ?_
                    refine .no rfl rfl rfl ?_
                    refine .no rfl rfl rfl ?_
                    refine .no rfl rfl rfl ?_
                    refine .q rfl rfl rfl (val_pick_f rfl rfl) ?_
                    refine .q rfl rfl rfl (val_assign rfl) ?_
                    refine .nil (cj ?_)
                    refine .ret (fret (res1 rfl rfl) ?_)
                    refine hRR _ _ ⟨_, ⟨_, rfl, rfl, fun hh => ?_⟩, H10.sub .nil⟩
                    first | (cases hh; done) | exact ⟨wi hs6, wi hs11, wi hs16, wi hs21, wi hs26, wi hs31, wi hs36, wi hs41, wi hs46, wi hs51, wi hh⟩
                · refine .no rfl rfl rfl ?_
                  refine .no rfl rfl rfl ?_
                  refine .no rfl rfl rfl ?_
                  refine .q rfl rfl rfl (val_pick_f rfl rfl) ?_
                  refine .q rfl rfl rfl (val_move rfl) ?_
                  refine .no rfl rfl rfl ?_
                  refine .no rfl rfl rfl ?_
                  refine .no rfl rfl rfl ?_
                  refine .q rfl rfl rfl (val_pick_f rfl rfl) ?_
                  refine .q rfl rfl rfl (val_move rfl) ?_
                  refine .no rfl rfl rfl ?_
                  refine .no rfl rfl rfl ?_
                  refine .no rfl rfl rfl ?_
                  refine .q rfl rfl rfl (val_pick_f rfl rfl) ?_
                  refine .q rfl rfl rfl (val_assign rfl) ?_
                  refine .nil (cj ?_)
                  refine .ret (fret (res1 rfl rfl) ?_)
                  refine hRR _ _ ⟨_, ⟨_, rfl, rfl, fun hh => ?_⟩, H9.sub .nil⟩
                  first | (cases hh; done) | exact ⟨wi hs6, wi hs11, wi hs16, wi hs21, wi hs26, wi hs31, wi hs36, wi hs41, wi hs46, wi hs51, wi hh⟩
              · refine .no rfl rfl rfl ?_
                refine .no rfl rfl rfl ?_
                refine .no rfl rfl rfl ?_
                refine .q rfl rfl rfl (val_pick_f rfl rfl) ?_
                refine .q rfl rfl rfl (val_move rfl) ?_
                refine .no rfl rfl rfl ?_
                refine .no rfl rfl rfl ?_
                refine .no rfl rfl rfl ?_
                refine .q rfl rfl rfl (val_pick_f rfl rfl) ?_
                refine .q rfl rfl rfl (val_move rfl) ?_
                refine .no rfl rfl rfl ?_
                refine .no rfl rfl rfl ?_
                refine .no rfl rfl rfl ?_
                refine .q rfl rfl rfl (val_pick_f rfl rfl) ?_
                refine .q rfl rfl rfl (val_move rfl) ?_
                refine .no rfl rfl rfl ?_
                refine .no rfl rfl rfl ?_
                refine .no rfl rfl rfl ?_
                refine .q rfl rfl rfl (val_pick_f rfl rfl) ?_
                refine .q rfl rfl rfl (val_assign rfl) ?_
                refine .nil (cj ?_)
                refine .ret (fret (res1 rfl rfl) ?_)
                refine hRR _ _ ⟨_, ⟨_, rfl, rfl, fun hh => ?_⟩, H8.sub .nil⟩
                first | (cases hh; done) | exact ⟨wi hs6, wi hs11, wi hs16, wi hs21, wi hs26, wi hs31, wi hs36, wi hs41, wi hs46, wi hs51, wi hh⟩
            · refine .no rfl rfl rfl ?_
              refine .no rfl rfl rfl ?_
              refine .no rfl rfl rfl ?_
              refine .q rfl rfl rfl (val_pick_f rfl rfl) ?_
              refine .q rfl rfl rfl (val_move rfl) ?_
              refine .no rfl rfl rfl ?_
              refine .no rfl rfl rfl ?_
              refine .no rfl rfl rfl ?_
              refine .q rfl rfl rfl (val_pick_f rfl rfl) ?_
              refine .q rfl rfl rfl (val_move rfl) ?_
              refine .no rfl rfl rfl ?_
              refine .no rfl rfl rfl ?_
              refine .no rfl rfl rfl ?_
              refine .q rfl rfl rfl (val_pick_f rfl rfl) ?_
              refine .q rfl rfl rfl (val_move rfl) ?_
              refine .no rfl rfl rfl ?_
              refine .no rfl rfl rfl ?_
              refine .no rfl rfl rfl ?_
              refine .q rfl rfl rfl (val_pick_f rfl rfl) ?_
              refine .q rfl rfl rfl (val_move rfl) ?_
              refine .no rfl rfl rfl ?_
              refine .no rfl rfl rfl ?_
              refine .no rfl rfl rfl ?_
              refine .q rfl rfl rfl (val_pick_f rfl rfl) ?_
              refine .q rfl rfl rfl (val_assign rfl) ?_
              refine .nil (cj ?_)
              refine .ret (fret (res1 rfl rfl) ?_)
              refine hRR _ _ ⟨_, ⟨_, rfl, rfl, fun hh => ?_⟩, H7.sub .nil⟩
              first | (cases hh; done) | exact ⟨wi hs6, wi hs11, wi hs16, wi hs21, wi hs26, wi hs31, wi hs36, wi hs41, wi hs46, wi hs51, wi hh⟩
          · refine .no rfl rfl rfl ?_
            refine .no rfl rfl rfl ?_
            refine .no rfl rfl rfl ?_
            refine .q rfl rfl rfl (val_pick_f rfl rfl) ?_
            refine .q rfl rfl rfl (val_move rfl) ?_
            refine .no rfl rfl rfl ?_
            refine .no rfl rfl rfl ?_
            refine .no rfl rfl rfl ?_
            refine .q rfl rfl rfl (val_pick_f rfl rfl) ?_
            refine .q rfl rfl rfl (val_move rfl) ?_
            refine .no rfl rfl rfl ?_
            refine .no rfl rfl rfl ?_
            refine .no rfl rfl rfl ?_
            refine .q rfl rfl rfl (val_pick_f rfl rfl) ?_
            refine .q rfl rfl rfl (val_move rfl) ?_
            refine .no rfl rfl rfl ?_
            refine .no rfl rfl rfl ?_
            refine .no rfl rfl rfl ?_
            refine .q rfl rfl rfl (val_pick_f rfl rfl) ?_
            refine .q rfl rfl rfl (val_move rfl) ?_
            refine .no rfl rfl rfl ?_
            refine .no rfl rfl rfl ?_
            refine .no rfl rfl rfl ?_
            refine .q rfl rfl rfl (val_pick_f rfl rfl) ?_
            refine .q rfl rfl rfl (val_move rfl) ?_
            refine .no rfl rfl rfl ?_
            refine .no rfl rfl rfl ?_
            refine .no rfl rfl rfl ?_
            refine .q rfl rfl rfl (val_pick_f rfl rfl) ?_
            refine .q rfl rfl rfl (val_assign rfl) ?_
            refine .nil (cj ?_)
            refine .ret (fret (res1 rfl rfl) ?_)
            refine hRR _ _ ⟨_, ⟨_, rfl, rfl, fun hh => ?_⟩, H6.sub .nil⟩
            first | (cases hh; done) | exact ⟨wi hs6, wi hs11, wi hs16, wi hs21, wi hs26, wi hs31, wi hs36, wi hs41, wi hs46, wi hs51, wi hh⟩
        · refine .no rfl rfl rfl ?_
          refine .no rfl rfl rfl ?_
          refine .no rfl rfl rfl ?_
          refine .q rfl rfl rfl (val_pick_f rfl rfl) ?_
          refine .q rfl rfl rfl (val_move rfl) ?_
          refine .no rfl rfl rfl ?_
          refine .no rfl rfl rfl ?_
          refine .no rfl rfl rfl ?_
          refine .q rfl rfl rfl (val_pick_f rfl rfl) ?_
          refine .q rfl rfl rfl (val_move rfl) ?_
          refine .no rfl rfl rfl ?_
          refine .no rfl rfl rfl ?_
          refine .no rfl rfl rfl ?_
          refine .q rfl rfl rfl (val_pick_f rfl rfl) ?_
          refine .q rfl rfl rfl (val_move rfl) ?_
          refine .no rfl rfl rfl ?_
          refine .no rfl rfl rfl ?_
          refine .no rfl rfl rfl ?_
          refine .q rfl rfl rfl (val_pick_f rfl rfl) ?_
          refine .q rfl rfl rfl (val_move rfl) ?_
          refine .no rfl rfl rfl ?_
          refine .no rfl rfl rfl ?_
          refine .no rfl rfl rfl ?_
          refine .q rfl rfl rfl (val_pick_f rfl rfl) ?_
          refine .q rfl rfl rfl (val_move rfl) ?_
          refine .no rfl rfl rfl ?_
          refine .no rfl rfl rfl ?_
          refine .no rfl rfl rfl ?_
          refine .q rfl rfl rfl (val_pick_f rfl rfl) ?_
          refine .q rfl rfl rfl (val_move rfl) ?_
          refine .no rfl rfl rfl ?_
          refine .no rfl rfl rfl ?_
          refine .no rfl rfl rfl ?_
          refine .q rfl rfl rfl (val_pick_f rfl rfl) ?_
          refine .q rfl rfl rfl (val_assign rfl) ?_
          refine .nil (cj ?_)
          refine .ret (fret (res1 rfl rfl) ?_)
          refine hRR _ _ ⟨_, ⟨_, rfl, rfl, fun hh => ?_⟩, H5.sub .nil⟩
          first | (cases hh; done) | exact ⟨wi hs6, wi hs11, wi hs16, wi hs21, wi hs26, wi hs31, wi hs36, wi hs41, wi hs46, wi hs51, wi hh⟩
      · refine .no rfl rfl rfl ?_
        refine .no rfl rfl rfl ?_
        refine .no rfl rfl rfl ?_
        refine .q rfl rfl rfl (val_pick_f rfl rfl) ?_
        refine .q rfl rfl rfl (val_move rfl) ?_
        refine .no rfl rfl rfl ?_
        refine .no rfl rfl rfl ?_
        refine .no rfl rfl rfl ?_
        refine .q rfl rfl rfl (val_pick_f rfl rfl) ?_
        refine .q rfl rfl rfl (val_move rfl) ?_
        refine .no rfl rfl rfl ?_
        refine .no rfl rfl rfl ?_
        refine .no rfl rfl rfl ?_
        refine .q rfl rfl rfl (val_pick_f rfl rfl) ?_
        refine .q rfl rfl rfl (val_move rfl) ?_
        refine .no rfl rfl rfl ?_
        refine .no rfl rfl rfl ?_
        refine .no rfl rfl rfl ?_
        refine .q rfl rfl rfl (val_pick_f rfl rfl) ?_
        refine .q rfl rfl rfl (val_move rfl) ?_
        refine .no rfl rfl rfl ?_
        refine .no rfl rfl rfl ?_
        refine .no rfl rfl rfl ?_
        refine .q rfl rfl rfl (val_pick_f rfl rfl) ?_
        refine .q rfl rfl rfl (val_move rfl) ?_
        refine .no rfl rfl rfl ?_
        refine .no rfl rfl rfl ?_
        refine .no rfl rfl rfl ?_
        refine .q rfl rfl rfl (val_pick_f rfl rfl) ?_
        refine .q rfl rfl rfl (val_move rfl) ?_
        refine .no rfl rfl rfl ?_
        refine .no rfl rfl rfl ?_
        refine .no rfl rfl rfl ?_
        refine .q rfl rfl rfl (val_pick_f rfl rfl) ?_
        refine .q rfl rfl rfl (val_move rfl) ?_
        refine .no rfl rfl rfl ?_
        refine .no rfl rfl rfl ?_
        refine .no rfl rfl rfl ?_
        refine .q rfl rfl rfl (val_pick_f rfl rfl) ?_
        refine .q rfl rfl rfl (val_assign rfl) ?_
        refine .nil (cj ?_)
        refine .ret (fret (res1 rfl rfl) ?_)
        refine hRR _ _ ⟨_, ⟨_, rfl, rfl, fun hh => ?_⟩, H4.sub .nil⟩
        first | (cases hh; done) | exact ⟨wi hs6, wi hs11, wi hs16, wi hs21, wi hs26, wi hs31, wi hs36, wi hs41, wi hs46, wi hs51, wi hh⟩
    · refine .no rfl rfl rfl ?_
      refine .no rfl rfl rfl ?_
      refine .no rfl rfl rfl ?_
      refine .q rfl rfl rfl (val_pick_f rfl rfl) ?_
      refine .q rfl rfl rfl (val_move rfl) ?_
      refine .no rfl rfl rfl ?_
      refine .no rfl rfl rfl ?_
      refine .no rfl rfl rfl ?_
      refine .q rfl rfl rfl (val_pick_f rfl rfl) ?_
      refine .q rfl rfl rfl (val_move rfl) ?_
      refine .no rfl rfl rfl ?_
      refine .no rfl rfl rfl ?_
      refine .no rfl rfl rfl ?_
      refine .q rfl rfl rfl (val_pick_f rfl rfl) ?_
      refine .q rfl rfl rfl (val_move rfl) ?_
      refine .no rfl rfl rfl ?_
      refine .no rfl rfl rfl ?_
      refine .no rfl rfl rfl ?_
      refine .q rfl rfl rfl (val_pick_f rfl rfl) ?_
      refine .q rfl rfl rfl (val_move rfl) ?_
      refine .no rfl rfl rfl ?_
      refine .no rfl rfl rfl ?_
      refine .no rfl rfl rfl ?_
      refine .q rfl rfl rfl (val_pick_f rfl rfl) ?_
      refine .q rfl rfl rfl (val_move rfl) ?_
      refine .no rfl rfl rfl ?_
      refine .no rfl rfl rfl ?_
      refine .no rfl rfl rfl ?_
      refine .q rfl rfl rfl (val_pick_f rfl rfl) ?_
      refine .q rfl rfl rfl (val_move rfl) ?_
      refine .no rfl rfl rfl ?_
      refine .no rfl rfl rfl ?_
      refine .no rfl rfl rfl ?_
      refine .q rfl rfl rfl (val_pick_f rfl rfl) ?_
      refine .q rfl rfl rfl (val_move rfl) ?_
      refine .no rfl rfl rfl ?_
      refine .no rfl rfl rfl ?_
      refine .no rfl rfl rfl ?_
      refine .q rfl rfl rfl (val_pick_f rfl rfl) ?_
      refine .q rfl rfl rfl (val_move rfl) ?_
      refine .no rfl rfl rfl ?_
      refine .no rfl rfl rfl ?_
      refine .no rfl rfl rfl ?_
      refine .q rfl rfl rfl (val_pick_f rfl rfl) ?_
      refine .q rfl rfl rfl (val_assign rfl) ?_
      refine .nil (cj ?_)
      refine .ret (fret (res1 rfl rfl) ?_)
      refine hRR _ _ ⟨_, ⟨_, rfl, rfl, fun hh => ?_⟩, H3.sub .nil⟩
      first | (cases hh; done) | exact ⟨wi hs6, wi hs11, wi hs16, wi hs21, wi hs26, wi hs31, wi hs36, wi hs41, wi hs46, wi hs51, wi hh⟩
  · refine .no rfl rfl rfl ?_
    refine .no rfl rfl rfl ?_
    refine .no rfl rfl rfl ?_
    refine .q rfl rfl rfl (val_pick_f rfl rfl) ?_
    refine .q rfl rfl rfl (val_move rfl) ?_
    refine .no rfl rfl rfl ?_
    refine .no rfl rfl rfl ?_
    refine .no rfl rfl rfl ?_
    refine .q rfl rfl rfl (val_pick_f rfl rfl) ?_
    refine .q rfl rfl rfl (val_move rfl) ?_
    refine .no rfl rfl rfl ?_
    refine .no rfl rfl rfl ?_
    refine .no rfl rfl rfl ?_
    refine .q rfl rfl rfl (val_pick_f rfl rfl) ?_
    refine .q rfl rfl rfl (val_move rfl) ?_
    refine .no rfl rfl rfl ?_
    refine .no rfl rfl rfl ?_
    refine .no rfl rfl rfl ?_
    refine .q rfl rfl rfl (val_pick_f rfl rfl) ?_
    refine .q rfl rfl rfl (val_move rfl) ?_
    refine .no rfl rfl rfl ?_
    refine .no rfl rfl rfl ?_
    refine .no rfl rfl rfl ?_
    refine .q rfl rfl rfl (val_pick_f rfl rfl) ?_
    refine .q rfl rfl rfl (val_move rfl) ?_
    refine .no rfl rfl rfl ?_
    refine .no rfl rfl rfl ?_
    refine .no rfl rfl rfl ?_
    refine .q rfl rfl rfl (val_pick_f rfl rfl) ?_
    refine .q rfl rfl rfl (val_move rfl) ?_
    refine .no rfl rfl rfl ?_
    refine .no rfl rfl rfl ?_
    refine .no rfl rfl rfl ?_
    refine .q rfl rfl rfl (val_pick_f rfl rfl) ?_
    refine .q rfl rfl rfl (val_move rfl) ?_
    refine .no rfl rfl rfl ?_
    refine .no rfl rfl rfl ?_
    refine .no rfl rfl rfl ?_
    refine .q rfl rfl rfl (val_pick_f rfl rfl) ?_
    refine .q rfl rfl rfl (val_move rfl) ?_
    refine .no rfl rfl rfl ?_
    refine .no rfl rfl rfl ?_
    refine .no rfl rfl rfl ?_
    refine .q rfl rfl rfl (val_pick_f rfl rfl) ?_
    refine .q rfl rfl rfl (val_move rfl) ?_
    refine .no rfl rfl rfl ?_
    refine .no rfl rfl rfl ?_
    refine .no rfl rfl rfl ?_
    refine .q rfl rfl rfl (val_pick_f rfl rfl) ?_
    refine .q rfl rfl rfl (val_assign rfl) ?_
    refine .nil (cj ?_)
    refine .ret (fret (res1 rfl rfl) ?_)
    refine hRR _ _ ⟨_, ⟨_, rfl, rfl, fun hh => ?_⟩, H2.sub .nil⟩
    first | (cases hh; done) | exact ⟨wi hs6, wi hs11, wi hs16, wi hs21, wi hs26, wi hs31, wi hs36, wi hs41, wi hs46, wi hs51, wi hh⟩
structure BinsOk (c : Cf) : Prop where
  st : ∀ (i : Nat) (s : Sk1), c.stacks[i]? = some s → stackedR c s.x s.y = true ∧ (s.bins.length : Int) ≤ c.height
  apart : ∀ (i k : Nat) (s t : Sk1), k < i → c.stacks[i]? = some s → c.stacks[k]? = some t → (⟨t.x, t.y⟩ : Cl) ≠ ⟨s.x, s.y⟩
  few : (c.stacks.flatMap (·.bins)).length ≤ 512
  num : ∀ (i : Nat) (b : Int), (c.stacks.flatMap (·.bins))[i]? = some b → 1 ≤ b ∧ b ≤ 1000000000
  twice : ∀ (i k : Nat) (a b : Int), k < i → (c.stacks.flatMap (·.bins))[i]? = some a → (c.stacks.flatMap (·.bins))[k]? = some b → b ≠ a
abbrev encI (b : Int) : List Value := [i64 b]
/-- the bins of all stacks -/
def binsA (c : Cf) : As where
  on X w := (∀ s ∈ c.stacks, ∃ Y, (arr s.A (s.bins.flatMap encI)).on Y w ∧ (∀ k, Y k → X k) ∧ (s.A = none → s.bins.length = 0 ∧ s.cap = 0)) ∧ ∀ k, X k → k < w.heap.size
  loc X w w' h hk := ⟨fun s hs => by
    obtain ⟨Y, hY, hs, hn⟩ := h.1 s hs
    exact ⟨Y, (arr s.A _).loc Y w w' hY fun k hk' => hk k (hs k hk'), hs, hn⟩, fun k hx => by
    have h1 := h.2 k hx
    have := hk k hx
    rw [Array.getElem?_eq_getElem h1] at this
    exact (Array.getElem?_eq_some_iff.1 this).1⟩
  lt X w h := h.2
theorem binsA_more {c : Cf} {R R' F : List As} {w0 w : World} {M : Nat → Prop} (hR : At R (binsA c) R') (H : St w0 w M R F) {i : Nat} {s : Sk1} (hs : c.stacks[i]? = some s) : St w0 w M (arr s.A (s.bins.flatMap encI) :: R) F ∧ (s.A = none → s.bins.length = 0 ∧ s.cap = 0) := by
  obtain ⟨⟨X, h1, h2, h3⟩, h4⟩ := H
  obtain ⟨Y, hY, hd⟩ := h2 _ hR.mem
  obtain ⟨Z, hZ, hsub, hn⟩ := hY.1 s (List.mem_of_getElem? hs)
  refine ⟨⟨⟨X, h1, fun r hr => ?_, h3⟩, h4⟩, hn⟩
  rcases List.mem_cons.1 hr with rfl | hr
  · exact ⟨Z, hZ, fun k hk => hd k (hsub k hk)⟩
  · exact h2 r hr
end Go.Proofs.YtmbibkifbehgnaaGreatDoor
/-! ## R6: Walk of the document's bins. -/
namespace Go.Proofs.YtmbibkifbehgnaaGreatDoor
open Go Sk
set_option linter.unusedVariables false
set_option linter.unusedSimpArgs false
theorem fa_26_6 (b o : Nat) (w : World) : (Instr.fieldAt 26 (.pointer (some ⟨b, o, none⟩)) 6).run Tryz.prog w = .ok (.pointer (some ⟨b, o + 6, none⟩)) w := by kernel_rfl
theorem fa_114_0 (b o : Nat) (w : World) : (Instr.fieldAt 114 (.pointer (some ⟨b, o, none⟩)) 0).run Tryz.prog w = .ok (.pointer (some ⟨b, o + 0, none⟩)) w := by kernel_rfl
theorem fa_114_1 (b o : Nat) (w : World) : (Instr.fieldAt 114 (.pointer (some ⟨b, o, none⟩)) 1).run Tryz.prog w = .ok (.pointer (some ⟨b, o + 2, none⟩)) w := by kernel_rfl
theorem en93 : Enters Tryz.prog 93 := fun args w => by kernel_rfl
theorem ap_27  : apB Tryz.prog 27 3 1 8 = true := by kernel_rfl
theorem el_24  : elB Tryz.prog 24 3 = true := by kernel_rfl
theorem ob_24  : oneB Tryz.prog 24 = true := by kernel_rfl
theorem encI_len (b : Int) : (encI b).length = 1 := rfl
structure BI where
  i : Nat
  v : Value
abbrev allTo (c : Cf) (i : Nat) : List Int := (c.stacks.take i).flatMap (·.bins)
theorem allTo_succ {c : Cf} {i : Nat} {s : Sk1} (h : c.stacks[i]? = some s) : allTo c (i + 1) = allTo c i ++ s.bins := by
  simp [allTo, take_snoc h]
theorem one_encI {l : List Int} : ∀ u ∈ l.flatMap encI, u.oneCell' = true := by
  intro u hu
  obtain ⟨b, _, hb⟩ := List.mem_flatMap.1 hu
  obtain rfl : u = i64 b := by simpa using hb
  rfl
theorem snd_lt {i j : Nat} (h : j < i + 1) : j < i ∨ j = i := by omega
theorem binsR_spec (c : Cf) (hc : c.Fit) (hh : c.height ≤ 8) : Sk.Spec Tryz.prog 69 #[.agg (encCf c).toArray] [cb c, cp c, cr c, cs c, binsA c] [] (Says (BinsOk c)) := by
  have hl := hc.s
  simp only [maxLen] at hl
  refine Spec.of_code (vs := [_]) (k0 := [(0, _)]) 95 Tryz.func69 rfl Tryz.ntmps69 rfl (.cons .nil) fun w X RR hRR H => ?_
  refine .seq ?_
  refine .plain rfl ?_
  refine .box rfl rfl rfl rfl rfl H (fun w1 b1 H1 => ⟨fun _ => trivial, ?_⟩)
  refine .q rfl rfl rfl (val_assign rfl) ?_
  refine .nil (cj ?_)
  refine .seq ?_
  refine .plain rfl ?_
  refine .q rfl rfl rfl (val_assign rfl) ?_
  refine .nil (cj ?_)
  refine .seq ?_
  refine .seq ?_
  refine .plain rfl ?_
  refine .q rfl rfl rfl (val_assign rfl) ?_
  refine .nil (cj ?_)
  refine .block ?_
  have H3 := H1.rowNil 3 1
  refine .loop (ι := BI) (fun x => [(1, ptr b1), (3, x.v), (4, i64 (x.i : Int))]) (fun x w' => St w w' X [cb c, cp c, cr c, cs c, binsA c] [row x.v 3 1 (allTo c x.i).length ((allTo c x.i).flatMap encI), blk b1 (encCf c) 26] ∧ x.i ≤ c.stacks.length ∧ x.i ≤ 257 ∧ (allTo c x.i).length ≤ 8 * x.i ∧ (∀ (j : Nat) (s : Sk1), j < x.i → c.stacks[j]? = some s → stackedR c s.x s.y = true ∧ (s.bins.length : Int) ≤ c.height) ∧ (∀ (i k : Nat) (s t : Sk1), i < x.i → k < i → c.stacks[i]? = some s → c.stacks[k]? = some t → (⟨t.x, t.y⟩ : Cl) ≠ ⟨s.x, s.y⟩)) (fun x => c.stacks.length - x.i) ⟨0, .slice none 0 0⟩ (by repeat (first | exact Pick.nil | refine Pick.cons rfl ?_)) ⟨H3.sub (.cons .here (.cons .here .nil)), Nat.zero_le _, Nat.zero_le _, Nat.le_refl _, fun j s hj => absurd hj (Nat.not_lt_zero _), fun i k s t hj => absurd hj (Nat.not_lt_zero _)⟩ ?_
  rintro x w5 ⟨H2, hi, hi257, hlen, hst, hap⟩
  refine .seq ?_
  refine .seq ?_
  refine .plain rfl ?_
  refine .q rfl rfl rfl (val_move rfl) ?_
  refine .q rfl rfl rfl (val_fieldAddr rfl fa_26_6) ?_
  refine .qs rfl rfl rfl H2 (ld_b rfl ob_24 (.own (.there .here)) rfl) ?_
  refine .q rfl rfl rfl (val_len Tryz.underlying24 rfl) ?_
  refine .q rfl rfl rfl (val_lss rfl rfl rfl) ?_
  refine .nil (cj ?_)
  refine .cond rfl (fun hc0 => ?_) (fun hc0 => ?_)
  · have hil : x.i < c.stacks.length := by simp at hc0; exact hc0
    obtain ⟨s, hs⟩ : ∃ s, c.stacks[x.i]? = some s := ⟨_, List.getElem?_eq_getElem hil⟩
    obtain ⟨b, o, hA⟩ := Has.base (.ro (.there (.there (.there .here)))) H2 (nil_of_flat encS_len (by decide) hil)
    obtain ⟨HB, hnil⟩ := binsA_more (.there (.there (.there (.there .here)))) H2 hs
    have hsb : s.bins.length ≤ maxLen := hc.k s (List.mem_of_getElem? hs)
    refine .skip (cj ?_)
    refine .seq ?_
    refine .block ?_
    refine .seq ?_
    refine .seq ?_
    refine .drawS 25 (.cons (0, true) (.cons (1, true) (.cons (2, true) (.cons (3, true) (.cons (4, true) (.cons (5, true) (.cons (6, true) (.cons (7, true) (.cons (8, true) (.cons (9, true) (.cons (10, false) (.cons (11, true) (.cons (12, true) (.cons (13, true) (.cons (14, true) (.cons (15, true) (.cons (16, true) (.cons (17, true) (.cons (18, true) (.cons (19, true) (.cons (20, true) (.cons (21, true) (.cons (22, true) (.cons (23, true) (.cons (24, true) .nil))))))))))))))))))))))))) mo (by kernel_rfl) HB (fun _ _ _ _ _ h => h) (fun w4 H4 => ?_)
    refine .p rfl rfl rfl (val_move rfl) ?_
    refine .p rfl rfl rfl (val_gtr rfl rfl rfl) ?_
    refine .p rfl rfl rfl (val_move rfl) ?_
    refine .case (t := 17) rfl (fun hs17 => ?_) (fun hs17 => ?_)
    · refine .no rfl rfl rfl ?_
      refine .no rfl rfl rfl ?_
      refine .no rfl rfl rfl ?_
      refine .no rfl rfl rfl ?_
      refine .no rfl rfl rfl ?_
      refine .no rfl rfl rfl ?_
      refine .no rfl rfl rfl ?_
      refine .no rfl rfl rfl ?_
      refine .no rfl rfl rfl ?_
      refine .p rfl rfl rfl (val_pick_t rfl rfl) ?_
      refine .p rfl rfl rfl (val_move rfl) ?_
      refine .no rfl rfl rfl ?_
      refine .no rfl rfl rfl ?_
      refine .no rfl rfl rfl ?_
      refine .no rfl rfl rfl ?_
      refine .no rfl rfl rfl ?_
      refine .no rfl rfl rfl ?_
      refine .no rfl rfl rfl ?_
      refine .no rfl rfl rfl ?_
      refine .no rfl rfl rfl ?_
      refine .no rfl rfl rfl ?_
      refine .p rfl rfl rfl (val_pick_t rfl rfl) ?_
      refine .nil (cj ?_)
      refine .cond_t rfl ?_
      refine .seq ?_
      refine .plain rfl ?_
      refine .q rfl rfl rfl (val_assign rfl) ?_
      refine .nil (cj ?_)
      refine .ret (fret (res1 rfl rfl) ?_)
      refine hRR _ _ ⟨_, ⟨_, rfl, rfl, fun hh => ?_⟩, (H4.rest (.ro (.there .here) (.ro (.there (.there .here)) (.ro (.there (.there (.there .here))) (.ro (.there (.there (.there (.there .here)))) (.ro (.there (.there (.there (.there (.there .here))))) .nil)))))).sub .nil⟩
      first | (cases hh; done) | exact ⟨fun i s hs => hst i s (List.getElem?_eq_some_iff.1 hs).1 hs, fun i k s t hk hs ht => hap i k s t (List.getElem?_eq_some_iff.1 hs).1 hk hs ht, hall ▸ hfew, fun i b hb => hnum i b (List.getElem?_eq_some_iff.1 (hall ▸ hb)).1 (hall ▸ hb), fun i k a b hk ha hb => htw i k a b (List.getElem?_eq_some_iff.1 (hall ▸ ha)).1 hk (hall ▸ ha) (hall ▸ hb)⟩
    · refine .ps rfl rfl rfl rfl (ld_w rfl ag_26 (.own (.there .here)) rfl) ?_
      refine .p rfl rfl rfl (val_fieldAddr rfl fa_26_6) ?_
      refine .ps rfl rfl rfl rfl (ld_b rfl ob_24 (.own (.there .here)) rfl) ?_
      refine .p rfl rfl rfl (val_move rfl) ?_
      refine .p rfl rfl rfl (val_ix el_24 hA rfl rfl rfl hil) ?_
      refine .p rfl rfl rfl (val_fieldAddr rfl fa_114_0) ?_
      refine .ps rfl rfl rfl rfl (ld_els rfl ag_38 (.add .base) hA (.ro (.there (.there (.there (.there .here))))) encS_len (by first | assumption | rfl) (by repeat constructor)) ?_
      refine .call1 rfl rfl rfl en93 (.cons rfl (.cons rfl .nil)) (stackedR_spec _ (by assumption) _ _) H4 .nil (.ro (.there .here) (.ro (.there (.there .here)) (.ro (.there (.there (.there .here))) .nil))) (fun w5 H5 => ⟨fun _ => H5, ?_⟩)
      refine .p rfl rfl rfl (val_not rfl rfl) ?_
      refine .p rfl rfl rfl (val_pick_f rfl rfl) ?_
      refine .p rfl rfl rfl (val_move rfl) ?_
      refine .case (t := 28) rfl (fun hs28 => ?_) (fun hs28 => ?_)
      · refine .no rfl rfl rfl ?_
        refine .no rfl rfl rfl ?_
        refine .no rfl rfl rfl ?_
        refine .no rfl rfl rfl ?_
        refine .no rfl rfl rfl ?_
        refine .no rfl rfl rfl ?_
        refine .no rfl rfl rfl ?_
        refine .no rfl rfl rfl ?_
        refine .no rfl rfl rfl ?_
        refine .no rfl rfl rfl ?_
        refine .p rfl rfl rfl (val_pick_t rfl rfl) ?_
        refine .nil (cj ?_)
        refine .cond_t rfl ?_
        refine .seq ?_
        refine .plain rfl ?_
        refine .q rfl rfl rfl (val_assign rfl) ?_
        refine .nil (cj ?_)
        refine .ret (fret (res1 rfl rfl) ?_)
        refine hRR _ _ ⟨_, ⟨_, rfl, rfl, fun hh => ?_⟩, (H5.rest (.ro (.there .here) (.ro (.there (.there .here)) (.ro (.there (.there (.there .here))) (.ro (.there (.there (.there (.there .here)))) (.ro (.there (.there (.there (.there (.there .here))))) .nil)))))).sub .nil⟩
        first | (cases hh; done) | exact ⟨fun i s hs => hst i s (List.getElem?_eq_some_iff.1 hs).1 hs, fun i k s t hk hs ht => hap i k s t (List.getElem?_eq_some_iff.1 hs).1 hk hs ht, hall ▸ hfew, fun i b hb => hnum i b (List.getElem?_eq_some_iff.1 (hall ▸ hb)).1 (hall ▸ hb), fun i k a b hk ha hb => htw i k a b (List.getElem?_eq_some_iff.1 (hall ▸ ha)).1 hk (hall ▸ ha) (hall ▸ hb)⟩
      · refine .p rfl rfl rfl (val_fieldAddr rfl fa_26_6) ?_
        refine .ps rfl rfl rfl rfl (ld_b rfl ob_24 (.own (.there .here)) rfl) ?_
        refine .p rfl rfl rfl (val_move rfl) ?_
        refine .p rfl rfl rfl (val_ix el_24 hA rfl rfl rfl hil) ?_
        refine .p rfl rfl rfl (val_fieldAddr rfl fa_114_1) ?_
        refine .ps rfl rfl rfl rfl (ld_el rfl ob_27 (.add .base) hA (.ro (.there (.there (.there (.there .here))))) encS_len (by first | assumption | rfl) rfl) ?_
        refine .p rfl rfl rfl (val_len Tryz.underlying27 rfl) ?_
        refine .p rfl rfl rfl (val_fieldAddr rfl fa_26_2) ?_
        refine .ps rfl rfl rfl rfl (ld_b rfl ob_3 (.own (.there .here)) rfl) ?_
        refine .p rfl rfl rfl (val_gtr rfl rfl rfl) ?_
        refine .p rfl rfl rfl (val_pick_f rfl rfl) ?_
        refine .nil (cj ?_)
        refine .cond rfl (fun hc1 => ?_) (fun hc1 => ?_)
        · refine .seq ?_
          refine .plain rfl ?_
          refine .q rfl rfl rfl (val_assign rfl) ?_
          refine .nil (cj ?_)
          refine .ret (fret (res1 rfl rfl) ?_)
          refine hRR _ _ ⟨_, ⟨_, rfl, rfl, fun hh => ?_⟩, (H5.rest (.ro (.there .here) (.ro (.there (.there .here)) (.ro (.there (.there (.there .here))) (.ro (.there (.there (.there (.there .here)))) (.ro (.there (.there (.there (.there (.there .here))))) .nil)))))).sub .nil⟩
          first | (cases hh; done) | exact ⟨fun i s hs => hst i s (List.getElem?_eq_some_iff.1 hs).1 hs, fun i k s t hk hs ht => hap i k s t (List.getElem?_eq_some_iff.1 hs).1 hk hs ht, hall ▸ hfew, fun i b hb => hnum i b (List.getElem?_eq_some_iff.1 (hall ▸ hb)).1 (hall ▸ hb), fun i k a b hk ha hb => htw i k a b (List.getElem?_eq_some_iff.1 (hall ▸ ha)).1 hk (hall ▸ ha) (hall ▸ hb)⟩
        · have hi256 : x.i ≤ 256 := by have h1 := of_decide_eq_false hs17; omega
          have hbl : (s.bins.length : Int) ≤ c.height := by have h1 := of_decide_eq_false hc1; omega
          have hst' : ∀ (j : Nat) (s : Sk1), j < x.i + 1 → c.stacks[j]? = some s → stackedR c s.x s.y = true ∧ (s.bins.length : Int) ≤ c.height := by
            intro j t hj ht
            rcases snd_lt hj with h | rfl
            · exact hst j t h ht
            · obtain rfl : s = t := Option.some.inj (hs.symm.trans ht)
              exact ⟨nf hs28, hbl⟩
          have hlen' : (allTo c (x.i + 1)).length ≤ 8 * (x.i + 1) := by rw [allTo_succ hs, List.length_append]; omega
          refine .skip (cj ?_)
          refine .seq ?_
          refine .seq ?_
          refine .plain rfl ?_
          refine .q rfl rfl rfl (val_assign rfl) ?_
          refine .nil (cj ?_)
          refine .block ?_
          refine .loop (ι := Nat) (fun k => [(1, ptr b1), (3, x.v), (4, i64 (x.i : Int)), (5, i64 (k : Int))]) (fun k w' => St w w' X [arr s.A (s.bins.flatMap encI), cb c, cp c, cr c, cs c, binsA c] [row x.v 3 1 (allTo c x.i).length ((allTo c x.i).flatMap encI), blk b1 (encCf c) 26] ∧ k ≤ x.i ∧ ∀ (j : Nat) (t : Sk1), j < k → c.stacks[j]? = some t → (⟨t.x, t.y⟩ : Cl) ≠ ⟨s.x, s.y⟩) (fun k => x.i - k) 0 (by repeat (first | exact Pick.nil | refine Pick.cons rfl ?_)) ⟨H5, Nat.zero_le _, fun j t hj => absurd hj (Nat.not_lt_zero _)⟩ ?_
          rintro k w6 ⟨H6, hk, hne⟩
          refine .seq ?_
          refine .seq ?_
          refine .plain rfl ?_
          refine .q rfl rfl rfl (val_move rfl) ?_
          refine .q rfl rfl rfl (val_move rfl) ?_
          refine .q rfl rfl rfl (val_lss rfl rfl rfl) ?_
          refine .nil (cj ?_)
          refine .cond rfl (fun hc2 => ?_) (fun hc2 => ?_)
          · have hki : k < x.i := by simp at hc2; exact hc2
            obtain ⟨t, ht⟩ : ∃ t, c.stacks[k]? = some t := ⟨_, List.getElem?_eq_getElem (Nat.lt_trans hki hil)⟩
            have hkl : k < c.stacks.length := by omega
            refine .skip (cj ?_)
            refine .seq ?_
            refine .block ?_
            refine .seq ?_
            refine .drawS 13 (.cons (0, true) (.cons (1, true) (.cons (2, true) (.cons (3, true) (.cons (4, true) (.cons (5, true) (.cons (6, true) (.cons (7, true) (.cons (8, true) (.cons (9, true) (.cons (10, true) (.cons (11, true) (.cons (12, true) .nil))))))))))))) mo (by kernel_rfl) H6 (fun _ _ _ _ _ h => h) (fun w7 H7 => ?_)
            refine .p rfl rfl rfl (val_fieldAddr rfl fa_26_6) ?_
            refine .ps rfl rfl rfl rfl (ld_b rfl ob_24 (.own (.there .here)) rfl) ?_
            refine .p rfl rfl rfl (val_move rfl) ?_
            refine .p rfl rfl rfl (val_ix el_24 hA rfl rfl rfl hkl) ?_
            refine .p rfl rfl rfl (val_fieldAddr rfl fa_114_0) ?_
            refine .ps rfl rfl rfl rfl (ld_els rfl ag_38 (.add .base) hA (.ro (.there (.there (.there (.there .here))))) encS_len (by first | assumption | rfl) (by repeat constructor)) ?_
            refine .p rfl rfl rfl (val_fieldAddr rfl fa_26_6) ?_
            refine .ps rfl rfl rfl rfl (ld_b rfl ob_24 (.own (.there .here)) rfl) ?_
            refine .p rfl rfl rfl (val_move rfl) ?_
            refine .p rfl rfl rfl (val_ix el_24 hA rfl rfl rfl hil) ?_
            refine .p rfl rfl rfl (val_fieldAddr rfl fa_114_0) ?_
            refine .ps rfl rfl rfl rfl (ld_els rfl ag_38 (.add .base) hA (.ro (.there (.there (.there (.there .here))))) encS_len (by first | assumption | rfl) (by repeat constructor)) ?_
            refine .p rfl rfl rfl (val_binrun rfl rfl seq_38_eql) ?_
            refine .nil (cj ?_)
            refine .cond rfl (fun hc3 => ?_) (fun hc3 => ?_)
            · refine .seq ?_
              refine .plain rfl ?_
              refine .q rfl rfl rfl (val_assign rfl) ?_
              refine .nil (cj ?_)
              refine .ret (fret (res1 rfl rfl) ?_)
              refine hRR _ _ ⟨_, ⟨_, rfl, rfl, fun hh => ?_⟩, (H7.rest (.ro (.there .here) (.ro (.there (.there .here)) (.ro (.there (.there (.there .here))) (.ro (.there (.there (.there (.there .here)))) (.ro (.there (.there (.there (.there (.there .here))))) .nil)))))).sub .nil⟩
              first | (cases hh; done) | exact ⟨fun i s hs => hst i s (List.getElem?_eq_some_iff.1 hs).1 hs, fun i k s t hk hs ht => hap i k s t (List.getElem?_eq_some_iff.1 hs).1 hk hs ht, hall ▸ hfew, fun i b hb => hnum i b (List.getElem?_eq_some_iff.1 (hall ▸ hb)).1 (hall ▸ hb), fun i k a b hk ha hb => htw i k a b (List.getElem?_eq_some_iff.1 (hall ▸ ha)).1 hk (hall ▸ ha) (hall ▸ hb)⟩
            · have hne' : ∀ (j : Nat) (t : Sk1), j < k + 1 → c.stacks[j]? = some t → (⟨t.x, t.y⟩ : Cl) ≠ ⟨s.x, s.y⟩ := by
                intro j u hj hu
                rcases snd_lt hj with h | rfl
                · exact hne j u h hu
                · obtain rfl : t = u := Option.some.inj (ht.symm.trans hu)
                  exact of_decide_eq_false hc3
              refine .skip (cj ?_)
              refine .plain rfl ?_
              refine .q rfl rfl rfl (val_move rfl) ?_
              refine .q rfl rfl rfl (val_add rfl rfl (z := ((k + 1 : Nat) : Int)) (w64_of (by omega))) ?_
              refine .q rfl rfl rfl (val_assign rfl) ?_
              refine .nil ?_
              intro act0 hact0; change Exists _
              refine ⟨(k + 1), Pick.kn (by repeat (first | exact Pick.nil | refine Pick.cons rfl ?_)) hact0, ⟨H7, hki, hne'⟩, (by omega)⟩
          · have hkx : k = x.i := by simp at hc2; omega
            subst hkx
            have hap' : ∀ (i k : Nat) (s t : Sk1), i < x.i + 1 → k < i → c.stacks[i]? = some s → c.stacks[k]? = some t → (⟨t.x, t.y⟩ : Cl) ≠ ⟨s.x, s.y⟩ := by
              intro i j u t hi hj hu ht
              rcases snd_lt hi with h | rfl
              · exact hap i j u t h hj hu ht
              · obtain rfl : s = u := Option.some.inj (hs.symm.trans hu)
                exact hne j t hj ht
            refine .exit (cj ?_)
            refine .plain rfl ?_
            refine .q rfl rfl rfl (val_move rfl) ?_
            refine .q rfl rfl rfl (val_fieldAddr rfl fa_26_6) ?_
            refine .qs rfl rfl rfl H6 (ld_b rfl ob_24 (.own (.there .here)) rfl) ?_
            refine .q rfl rfl rfl (val_move rfl) ?_
            refine .q rfl rfl rfl (val_ix el_24 hA rfl rfl rfl hil) ?_
            refine .q rfl rfl rfl (val_fieldAddr rfl fa_114_1) ?_
            refine .qs rfl rfl rfl H6 (ld_el rfl ob_27 (.add .base) hA (.ro (.there (.there (.there (.there .here))))) encS_len (by first | assumption | rfl) rfl) ?_
            refine .append rfl rfl rfl (ap_27) rfl rfl H6 .here (Has.srcArr (.ro .here) hnil H6) (flat_len encI_len _) one_encI (by simp only [maxLen]; omega) (by omega) (fun v8 w8 H8 => ⟨fun _ => trivial, ?_⟩)
            refine .q rfl rfl rfl (val_assign rfl) ?_
            refine .nil (cj ?_)
            refine .plain rfl ?_
            refine .q rfl rfl rfl (val_move rfl) ?_
            refine .q rfl rfl rfl (val_add rfl rfl (z := ((x.i + 1 : Nat) : Int)) (w64_of (by omega))) ?_
            refine .q rfl rfl rfl (val_assign rfl) ?_
            refine .nil ?_
            intro act0 hact0; change Exists _
            refine ⟨⟨x.i + 1, _⟩, Pick.kn (by repeat (first | exact Pick.nil | refine Pick.cons rfl ?_)) hact0, ⟨by rw [allTo_succ hs, List.length_append, List.flatMap_append]; exact (H8.rest (.ro (.there .here) (.ro (.there (.there .here)) (.ro (.there (.there (.there .here))) (.ro (.there (.there (.there (.there .here)))) (.ro (.there (.there (.there (.there (.there .here))))) .nil)))))).sub (.cons .here (.cons .here .nil)), hil, (show x.i + 1 ≤ 257 by omega), hlen', hst', hap'⟩, (show c.stacks.length - (x.i + 1) < c.stacks.length - x.i by omega)⟩
  · have hix : x.i = c.stacks.length := by simp at hc0; omega
    rw [hix] at H2 hlen hst hap
    obtain ⟨A9, cap9, hv9, hn9, H9⟩ := St.rowArr H2 .here
    rw [hv9]
    refine .exit (cj ?_)
    refine .seq ?_
    refine .seq ?_
    refine .plain rfl ?_
    refine .q rfl rfl rfl (val_move rfl) ?_
    refine .q rfl rfl rfl (val_len Tryz.underlying27 rfl) ?_
    refine .q rfl rfl rfl (val_gtr rfl rfl rfl) ?_
    refine .nil (cj ?_)
    refine .cond rfl (fun hc4 => ?_) (fun hc4 => ?_)
    · refine .seq ?_
      refine .plain rfl ?_
      refine .q rfl rfl rfl (val_assign rfl) ?_
      refine .nil (cj ?_)
      refine .ret (fret (res1 rfl rfl) ?_)
      refine hRR _ _ ⟨_, ⟨_, rfl, rfl, fun hh => ?_⟩, (H9.rest (.ro (.there .here) (.ro (.there (.there .here)) (.ro (.there (.there (.there .here))) (.ro (.there (.there (.there (.there .here)))) (.ro (.there (.there (.there (.there (.there .here))))) .nil)))))).sub .nil⟩
      first | (cases hh; done) | exact ⟨fun i s hs => hst i s (List.getElem?_eq_some_iff.1 hs).1 hs, fun i k s t hk hs ht => hap i k s t (List.getElem?_eq_some_iff.1 hs).1 hk hs ht, hall ▸ hfew, fun i b hb => hnum i b (List.getElem?_eq_some_iff.1 (hall ▸ hb)).1 (hall ▸ hb), fun i k a b hk ha hb => htw i k a b (List.getElem?_eq_some_iff.1 (hall ▸ ha)).1 hk (hall ▸ ha) (hall ▸ hb)⟩
    · have hfew : (allTo c c.stacks.length).length ≤ 512 := by have h1 := of_decide_eq_false hc4; omega
      refine .skip (cj ?_)
      refine .seq ?_
      refine .seq ?_
      refine .plain rfl ?_
      refine .q rfl rfl rfl (val_assign rfl) ?_
      refine .nil (cj ?_)
      refine .block ?_
      refine .loop (ι := Nat) (fun i => [(3, .slice A9 (allTo c c.stacks.length).length cap9), (6, i64 (i : Int))]) (fun i w' => St w w' X [arr A9 ((allTo c c.stacks.length).flatMap encI), cb c, cp c, cr c, cs c, binsA c] [] ∧ i ≤ (allTo c c.stacks.length).length ∧ (∀ (j : Nat) (b : Int), j < i → (allTo c c.stacks.length)[j]? = some b → 1 ≤ b ∧ b ≤ 1000000000) ∧ (∀ (j k : Nat) (a b : Int), j < i → k < j → (allTo c c.stacks.length)[j]? = some a → (allTo c c.stacks.length)[k]? = some b → b ≠ a)) (fun i => (allTo c c.stacks.length).length - i) 0 (by repeat (first | exact Pick.nil | refine Pick.cons rfl ?_)) ⟨H9.sub .nil, Nat.zero_le _, fun j b hj => absurd hj (Nat.not_lt_zero _), fun j k a b hj => absurd hj (Nat.not_lt_zero _)⟩ ?_
      rintro i w7 ⟨H10, hi2, hnum, htw⟩
      refine .seq ?_
      refine .seq ?_
      refine .plain rfl ?_
      refine .q rfl rfl rfl (val_move rfl) ?_
      refine .q rfl rfl rfl (val_move rfl) ?_
      refine .q rfl rfl rfl (val_len Tryz.underlying27 rfl) ?_
      refine .q rfl rfl rfl (val_lss rfl rfl rfl) ?_
      refine .nil (cj ?_)
      refine .cond rfl (fun hc5 => ?_) (fun hc5 => ?_)
      · have hil2 : i < (allTo c c.stacks.length).length := by simp only [decide_eq_true_eq] at hc5; omega
        have hx2 := getD_get hil2 0
        obtain ⟨b, o, hB⟩ := Has.base (.ro .here) H10 (nil_of_flat encI_len (by decide) hil2)
        refine .skip (cj ?_)
        refine .seq ?_
        refine .block ?_
        refine .seq ?_
        refine .seq ?_
        refine .plain rfl ?_
        refine .q rfl rfl rfl (val_move rfl) ?_
        refine .q rfl rfl rfl (val_move rfl) ?_
        refine .q rfl rfl rfl (val_ix el_27 hB rfl rfl rfl hil2) ?_
        refine .qs rfl rfl rfl H10 (ld_el rfl ob_3 .base hB (.ro .here) encI_len (by first | assumption | rfl) rfl) ?_
        refine .call1 rfl rfl rfl en92 (.cons rfl (.cons rfl (.cons rfl .nil))) (within92_spec _ _ _) H10 .nil .nil (fun w11 H11 => ⟨fun _ => trivial, ?_⟩)
        refine .q rfl rfl rfl (val_not rfl rfl) ?_
        refine .nil (cj ?_)
        refine .cond rfl (fun hc6 => ?_) (fun hc6 => ?_)
        · refine .seq ?_
          refine .plain rfl ?_
          refine .q rfl rfl rfl (val_assign rfl) ?_
          refine .nil (cj ?_)
          refine .ret (fret (res1 rfl rfl) ?_)
          refine hRR _ _ ⟨_, ⟨_, rfl, rfl, fun hh => ?_⟩, (H11.rest (.ro (.there .here) (.ro (.there (.there .here)) (.ro (.there (.there (.there .here))) (.ro (.there (.there (.there (.there .here)))) (.ro (.there (.there (.there (.there (.there .here))))) .nil)))))).sub .nil⟩
          first | (cases hh; done) | exact ⟨fun i s hs => hst i s (List.getElem?_eq_some_iff.1 hs).1 hs, fun i k s t hk hs ht => hap i k s t (List.getElem?_eq_some_iff.1 hs).1 hk hs ht, hall ▸ hfew, fun i b hb => hnum i b (List.getElem?_eq_some_iff.1 (hall ▸ hb)).1 (hall ▸ hb), fun i k a b hk ha hb => htw i k a b (List.getElem?_eq_some_iff.1 (hall ▸ ha)).1 hk (hall ▸ ha) (hall ▸ hb)⟩
        · have hw := wi (nf hc6)
          have hnum' : ∀ (j : Nat) (b : Int), j < i + 1 → (allTo c c.stacks.length)[j]? = some b → 1 ≤ b ∧ b ≤ 1000000000 := by
            intro j b hj hb
            rcases snd_lt hj with h | rfl
            · exact hnum j b h hb
            · rw [hx2] at hb; cases hb; exact hw
          refine .skip (cj ?_)
          refine .seq ?_
          refine .plain rfl ?_
          refine .q rfl rfl rfl (val_assign rfl) ?_
          refine .nil (cj ?_)
          refine .block ?_
          refine .loop (ι := Nat) (fun k => [(3, .slice A9 (allTo c c.stacks.length).length cap9), (6, i64 (i : Int)), (7, i64 (k : Int))]) (fun k w' => St w w' X [arr A9 ((allTo c c.stacks.length).flatMap encI), cb c, cp c, cr c, cs c, binsA c] [] ∧ k ≤ i ∧ ∀ (j : Nat) (b : Int), j < k → (allTo c c.stacks.length)[j]? = some b → b ≠ (allTo c c.stacks.length).getD i 0) (fun k => i - k) 0 (by repeat (first | exact Pick.nil | refine Pick.cons rfl ?_)) ⟨H11, Nat.zero_le _, fun j b hj => absurd hj (Nat.not_lt_zero _)⟩ ?_
          rintro k w8 ⟨H12, hk2, hne2⟩
          refine .seq ?_
          refine .seq ?_
          refine .plain rfl ?_
          refine .q rfl rfl rfl (val_move rfl) ?_
          refine .q rfl rfl rfl (val_move rfl) ?_
          refine .q rfl rfl rfl (val_lss rfl rfl rfl) ?_
          refine .nil (cj ?_)
          refine .cond rfl (fun hc7 => ?_) (fun hc7 => ?_)
          · have hki2 : k < i := by simp at hc7; exact hc7
            have hkl2 : k < (allTo c c.stacks.length).length := by omega
            have hx3 := getD_get hkl2 0
            refine .skip (cj ?_)
            refine .seq ?_
            refine .block ?_
            refine .seq ?_
            refine .drawS 9 (.cons (0, true) (.cons (1, true) (.cons (2, true) (.cons (3, true) (.cons (4, true) (.cons (5, true) (.cons (6, true) (.cons (7, true) (.cons (8, true) .nil))))))))) mo (by kernel_rfl) H12 (fun _ _ _ _ _ h => h) (fun w13 H13 => ?_)
            refine .p rfl rfl rfl (val_move rfl) ?_
            refine .p rfl rfl rfl (val_move rfl) ?_
            refine .p rfl rfl rfl (val_ix el_27 hB rfl rfl rfl hkl2) ?_
            refine .ps rfl rfl rfl rfl (ld_el rfl ob_3 .base hB (.ro .here) encI_len (by first | assumption | rfl) rfl) ?_
            refine .p rfl rfl rfl (val_move rfl) ?_
            refine .p rfl rfl rfl (val_move rfl) ?_
            refine .p rfl rfl rfl (val_ix el_27 hB rfl rfl rfl hil2) ?_
            refine .ps rfl rfl rfl rfl (ld_el rfl ob_3 .base hB (.ro .here) encI_len (by first | assumption | rfl) rfl) ?_
            refine .p rfl rfl rfl (val_eql rfl rfl rfl) ?_
            refine .nil (cj ?_)
            refine .cond rfl (fun hc8 => ?_) (fun hc8 => ?_)
            · refine .seq ?_
              refine .plain rfl ?_
              refine .q rfl rfl rfl (val_assign rfl) ?_
              refine .nil (cj ?_)
              refine .ret (fret (res1 rfl rfl) ?_)
              refine hRR _ _ ⟨_, ⟨_, rfl, rfl, fun hh => ?_⟩, (H13.rest (.ro (.there .here) (.ro (.there (.there .here)) (.ro (.there (.there (.there .here))) (.ro (.there (.there (.there (.there .here)))) (.ro (.there (.there (.there (.there (.there .here))))) .nil)))))).sub .nil⟩
              first | (cases hh; done) | exact ⟨fun i s hs => hst i s (List.getElem?_eq_some_iff.1 hs).1 hs, fun i k s t hk hs ht => hap i k s t (List.getElem?_eq_some_iff.1 hs).1 hk hs ht, hall ▸ hfew, fun i b hb => hnum i b (List.getElem?_eq_some_iff.1 (hall ▸ hb)).1 (hall ▸ hb), fun i k a b hk ha hb => htw i k a b (List.getElem?_eq_some_iff.1 (hall ▸ ha)).1 hk (hall ▸ ha) (hall ▸ hb)⟩
            · have hne2' : ∀ (j : Nat) (b : Int), j < k + 1 → (allTo c c.stacks.length)[j]? = some b → b ≠ (allTo c c.stacks.length).getD i 0 := by
                intro j b hj hb
                rcases snd_lt hj with h | rfl
                · exact hne2 j b h hb
                · rw [hx3] at hb; cases hb; simpa using hc8
              refine .skip (cj ?_)
              refine .plain rfl ?_
              refine .q rfl rfl rfl (val_move rfl) ?_
              refine .q rfl rfl rfl (val_add rfl rfl (z := ((k + 1 : Nat) : Int)) (w64_of (by omega))) ?_
              refine .q rfl rfl rfl (val_assign rfl) ?_
              refine .nil ?_
              intro act0 hact0; change Exists _
              refine ⟨(k + 1), Pick.kn (by repeat (first | exact Pick.nil | refine Pick.cons rfl ?_)) hact0, ⟨H13, hki2, hne2'⟩, (by omega)⟩
          · have hkx : k = i := by simp at hc7; omega
            rw [hkx] at hne2
            have htw' : ∀ (j k' : Nat) (a b : Int), j < i + 1 → k' < j → (allTo c c.stacks.length)[j]? = some a → (allTo c c.stacks.length)[k']? = some b → b ≠ a := by
              intro j k' a b hj hk' ha hb
              rcases snd_lt hj with h | rfl
              · exact htw j k' a b h hk' ha hb
              · rw [hx2] at ha; cases ha; exact hne2 k' b hk' hb
            refine .exit (cj ?_)
            refine .plain rfl ?_
            refine .q rfl rfl rfl (val_move rfl) ?_
            refine .q rfl rfl rfl (val_add rfl rfl (z := ((i + 1 : Nat) : Int)) (w64_of (by omega))) ?_
            refine .q rfl rfl rfl (val_assign rfl) ?_
            refine .nil ?_
            intro act0 hact0; change Exists _
            refine ⟨(i + 1), Pick.kn (by repeat (first | exact Pick.nil | refine Pick.cons rfl ?_)) hact0, ⟨H12, hil2, hnum', htw'⟩, (by omega)⟩
      · have hix2 : i = (allTo c c.stacks.length).length := by simp only [decide_eq_false_iff_not] at hc5; omega
        subst hix2
        have hall : allTo c c.stacks.length = c.stacks.flatMap (·.bins) := by simp [allTo]
        refine .exit (cj ?_)
        refine .seq ?_
        refine .plain rfl ?_
        refine .q rfl rfl rfl (val_assign rfl) ?_
        refine .nil (cj ?_)
        refine .ret (fret (res1 rfl rfl) ?_)
        refine hRR _ _ ⟨_, ⟨_, rfl, rfl, fun hh => ?_⟩, (H10.rest (.ro (.there .here) (.ro (.there (.there .here)) (.ro (.there (.there (.there .here))) (.ro (.there (.there (.there (.there .here)))) (.ro (.there (.there (.there (.there (.there .here))))) .nil)))))).sub .nil⟩
        first | (cases hh; done) | exact ⟨fun i s hs => hst i s (List.getElem?_eq_some_iff.1 hs).1 hs, fun i k s t hk hs ht => hap i k s t (List.getElem?_eq_some_iff.1 hs).1 hk hs ht, hall ▸ hfew, fun i b hb => hnum i b (List.getElem?_eq_some_iff.1 (hall ▸ hb)).1 (hall ▸ hb), fun i k a b hk ha hb => htw i k a b (List.getElem?_eq_some_iff.1 (hall ▸ ha)).1 hk (hall ▸ ha) (hall ▸ hb)⟩
end Go.Proofs.YtmbibkifbehgnaaGreatDoor
/-! ## R7: Walks of the document's May and of the laws' Small. -/
namespace Go.Proofs.YtmbibkifbehgnaaGreatDoor
open Go Sk
set_option linter.unusedVariables false
set_option linter.unusedSimpArgs false
theorem en32 : Enters Tryz.prog 32 := fun args w => by kernel_rfl
theorem en62 : Enters Tryz.prog 62 := fun args w => by kernel_rfl
theorem en69 : Enters Tryz.prog 69 := fun args w => by kernel_rfl
theorem ap_22  : apB Tryz.prog 22 38 2 16 = true := by kernel_rfl
abbrev cellsTo (c : Cf) (i : Nat) : List Cl := (c.robots.take i).flatMap cellsL
theorem cellsTo_succ {c : Cf} {i : Nat} {p : Ps} (h : c.robots[i]? = some p) : cellsTo c (i + 1) = cellsTo c i ++ cellsL p := by
  simp [cellsTo, take_snoc h]
structure MayOk (c : Cf) : Prop where
  num : NumOk c
  bl : c.blocked.length ≤ 256
  pl : c.ports.length ≤ 8
  rl : c.robots.length ≤ 8
  blocked : ∀ (i : Nat) (x : Cl), c.blocked[i]? = some x → inR c x.x x.y = true ∧ c.blocked.count x ≤ 1 ∧ c.ports.count x = 0
  ports : ∀ (i : Nat) (x : Cl), c.ports[i]? = some x → inR c x.x x.y = true ∧ c.ports.count x ≤ 1 ∧ homeR c x.x x.y = false ∧ besideR c x.x x.y = true
  robots : ∀ (i : Nat) (p : Ps), c.robots[i]? = some p → fitsR c p = true
  cells : ∀ (i : Nat) (x : Cl), (c.robots.flatMap cellsL)[i]? = some x → (c.robots.flatMap cellsL).count x ≤ 1
  bins : BinsOk c
theorem mayR_spec (c : Cf) (hc : c.Fit) : Sk.Spec Tryz.prog 32 #[.agg (encCf c).toArray] [cb c, cp c, cr c, cs c, binsA c] [] (Says (MayOk c)) := by
  have hb := hc.b
  have hp := hc.p
  refine Spec.of_code (vs := [_]) (k0 := [(0, _)]) 149 Tryz.func32 rfl Tryz.ntmps32 rfl (.cons .nil) fun w X RR hRR H => ?_
  refine .seq ?_
  refine .plain rfl ?_
  refine .box rfl rfl rfl rfl rfl H (fun w1 b1 H1 => ⟨fun _ => trivial, ?_⟩)
  refine .q rfl rfl rfl (val_assign rfl) ?_
  refine .nil (cj ?_)
  refine .seq ?_
  refine .seq ?_
  refine .plain rfl ?_
  refine .qs rfl rfl rfl H1 (ld_w rfl ag_26 (.own .here) rfl) ?_
  refine .callx rfl rfl rfl en62 (.cons rfl .nil) (numbersR_spec _) H1 .nil .nil (fun v9 w2 C9 H2 => ⟨fun _ => trivial, ?_⟩)
  refine .q rfl rfl rfl (val_not rfl rfl) ?_
  refine .q rfl rfl rfl (val_move rfl) ?_
  refine .case (t := 11) rfl (fun hs11 => ?_) (fun hs11 => ?_)
  · refine .no rfl rfl rfl ?_
    refine .no rfl rfl rfl ?_
    refine .no rfl rfl rfl ?_
    refine .no rfl rfl rfl ?_
    refine .q rfl rfl rfl (val_pick_t rfl rfl) ?_
    refine .q rfl rfl rfl (val_move rfl) ?_
    refine .no rfl rfl rfl ?_
    refine .no rfl rfl rfl ?_
    refine .no rfl rfl rfl ?_
    refine .no rfl rfl rfl ?_
    refine .q rfl rfl rfl (val_pick_t rfl rfl) ?_
    refine .q rfl rfl rfl (val_move rfl) ?_
    refine .no rfl rfl rfl ?_
    refine .no rfl rfl rfl ?_
    refine .no rfl rfl rfl ?_
    refine .no rfl rfl rfl ?_
    refine .q rfl rfl rfl (val_pick_t rfl rfl) ?_
    refine .nil (cj ?_)
    refine .cond_t rfl ?_
    refine .seq ?_
    refine .plain rfl ?_
    refine .q rfl rfl rfl (val_assign rfl) ?_
    refine .nil (cj ?_)
    refine .ret (fret (res1 rfl rfl) ?_)
    refine hRR _ _ ⟨_, ⟨_, rfl, rfl, fun hh => ?_⟩, H2.sub .nil⟩
    first | (cases hh; done) | exact ⟨hnum, hbl2, hpl, hrl, fun i x hx => hbl i x (List.getElem?_eq_some_iff.1 hx).1 hx, fun i x hx => hpo i x (List.getElem?_eq_some_iff.1 hx).1 hx, fun i x hx => hro i x (List.getElem?_eq_some_iff.1 hx).1 hx, fun i x hx => by rw [← hall] at hx ⊢; exact hce i x (List.getElem?_eq_some_iff.1 hx).1 hx, C9 hh⟩
  · refine .q rfl rfl rfl (val_fieldAddr rfl fa_26_4) ?_
    refine .qs rfl rfl rfl H2 (ld_b rfl ob_22 (.own .here) rfl) ?_
    refine .q rfl rfl rfl (val_len Tryz.underlying22 rfl) ?_
    refine .q rfl rfl rfl (val_gtr rfl rfl rfl) ?_
    refine .q rfl rfl rfl (val_pick_f rfl rfl) ?_
    refine .q rfl rfl rfl (val_move rfl) ?_
    refine .case (t := 17) rfl (fun hs17 => ?_) (fun hs17 => ?_)
    · refine .no rfl rfl rfl ?_
      refine .no rfl rfl rfl ?_
      refine .no rfl rfl rfl ?_
      refine .no rfl rfl rfl ?_
      refine .q rfl rfl rfl (val_pick_t rfl rfl) ?_
      refine .q rfl rfl rfl (val_move rfl) ?_
      refine .no rfl rfl rfl ?_
      refine .no rfl rfl rfl ?_
      refine .no rfl rfl rfl ?_
      refine .no rfl rfl rfl ?_
      refine .q rfl rfl rfl (val_pick_t rfl rfl) ?_
      refine .nil (cj ?_)
      refine .cond_t rfl ?_
      refine .seq ?_
      refine .plain rfl ?_
      refine .q rfl rfl rfl (val_assign rfl) ?_
      refine .nil (cj ?_)
      refine .ret (fret (res1 rfl rfl) ?_)
      refine hRR _ _ ⟨_, ⟨_, rfl, rfl, fun hh => ?_⟩, H2.sub .nil⟩
      first | (cases hh; done) | exact ⟨hnum, hbl2, hpl, hrl, fun i x hx => hbl i x (List.getElem?_eq_some_iff.1 hx).1 hx, fun i x hx => hpo i x (List.getElem?_eq_some_iff.1 hx).1 hx, fun i x hx => hro i x (List.getElem?_eq_some_iff.1 hx).1 hx, fun i x hx => by rw [← hall] at hx ⊢; exact hce i x (List.getElem?_eq_some_iff.1 hx).1 hx, C9 hh⟩
    · refine .q rfl rfl rfl (val_fieldAddr rfl fa_26_5) ?_
      refine .qs rfl rfl rfl H2 (ld_b rfl ob_23 (.own .here) rfl) ?_
      refine .q rfl rfl rfl (val_len Tryz.underlying23 rfl) ?_
      refine .q rfl rfl rfl (val_gtr rfl rfl rfl) ?_
      refine .q rfl rfl rfl (val_pick_f rfl rfl) ?_
      refine .q rfl rfl rfl (val_move rfl) ?_
      refine .case (t := 23) rfl (fun hs23 => ?_) (fun hs23 => ?_)
      · refine .no rfl rfl rfl ?_
        refine .no rfl rfl rfl ?_
        refine .no rfl rfl rfl ?_
        refine .no rfl rfl rfl ?_
        refine .q rfl rfl rfl (val_pick_t rfl rfl) ?_
        refine .nil (cj ?_)
        refine .cond_t rfl ?_
        refine .seq ?_
        refine .plain rfl ?_
        refine .q rfl rfl rfl (val_assign rfl) ?_
        refine .nil (cj ?_)
        refine .ret (fret (res1 rfl rfl) ?_)
        refine hRR _ _ ⟨_, ⟨_, rfl, rfl, fun hh => ?_⟩, H2.sub .nil⟩
        first | (cases hh; done) | exact ⟨hnum, hbl2, hpl, hrl, fun i x hx => hbl i x (List.getElem?_eq_some_iff.1 hx).1 hx, fun i x hx => hpo i x (List.getElem?_eq_some_iff.1 hx).1 hx, fun i x hx => hro i x (List.getElem?_eq_some_iff.1 hx).1 hx, fun i x hx => by rw [← hall] at hx ⊢; exact hce i x (List.getElem?_eq_some_iff.1 hx).1 hx, C9 hh⟩
      · refine .q rfl rfl rfl (val_fieldAddr rfl fa_26_3) ?_
        refine .qs rfl rfl rfl H2 (ld_b rfl ob_22 (.own .here) rfl) ?_
        refine .q rfl rfl rfl (val_len Tryz.underlying22 rfl) ?_
        refine .q rfl rfl rfl (val_gtr rfl rfl rfl) ?_
        refine .q rfl rfl rfl (val_pick_f rfl rfl) ?_
        refine .nil (cj ?_)
        refine .cond rfl (fun hc0 => ?_) (fun hc0 => ?_)
        · refine .seq ?_
          refine .plain rfl ?_
          refine .q rfl rfl rfl (val_assign rfl) ?_
          refine .nil (cj ?_)
          refine .ret (fret (res1 rfl rfl) ?_)
          refine hRR _ _ ⟨_, ⟨_, rfl, rfl, fun hh => ?_⟩, H2.sub .nil⟩
          first | (cases hh; done) | exact ⟨hnum, hbl2, hpl, hrl, fun i x hx => hbl i x (List.getElem?_eq_some_iff.1 hx).1 hx, fun i x hx => hpo i x (List.getElem?_eq_some_iff.1 hx).1 hx, fun i x hx => hro i x (List.getElem?_eq_some_iff.1 hx).1 hx, fun i x hx => by rw [← hall] at hx ⊢; exact hce i x (List.getElem?_eq_some_iff.1 hx).1 hx, C9 hh⟩
        · have hnum := C9 (nf hs11)
          have hpl : c.ports.length ≤ 8 := by have h1 := of_decide_eq_false hs17; omega
          have hrl : c.robots.length ≤ 8 := by have h1 := of_decide_eq_false hs23; omega
          have hbl2 : c.blocked.length ≤ 256 := by have h1 := of_decide_eq_false hc0; omega
          refine .skip (cj ?_)
          refine .seq ?_
          refine .seq ?_
          refine .plain rfl ?_
          refine .q rfl rfl rfl (val_assign rfl) ?_
          refine .nil (cj ?_)
          refine .block ?_
          refine .loop (ι := Nat) (fun i => [(1, ptr b1), (3, i64 (i : Int))]) (fun i w' => St w w' X [cb c, cp c, cr c, cs c, binsA c] [blk b1 (encCf c) 26] ∧ i ≤ c.blocked.length ∧ ∀ (j : Nat) (x : Cl), j < i → c.blocked[j]? = some x → inR c x.x x.y = true ∧ c.blocked.count x ≤ 1 ∧ c.ports.count x = 0) (fun i => c.blocked.length - i) 0 (by repeat (first | exact Pick.nil | refine Pick.cons rfl ?_)) ⟨H2, Nat.zero_le _, fun j x hj => absurd hj (Nat.not_lt_zero _)⟩ ?_
          rintro i w5 ⟨H3, hi, hbl⟩
          refine .seq ?_
          refine .seq ?_
          refine .plain rfl ?_
          refine .q rfl rfl rfl (val_move rfl) ?_
          refine .q rfl rfl rfl (val_fieldAddr rfl fa_26_3) ?_
          refine .qs rfl rfl rfl H3 (ld_b rfl ob_22 (.own .here) rfl) ?_
          refine .q rfl rfl rfl (val_len Tryz.underlying22 rfl) ?_
          refine .q rfl rfl rfl (val_lss rfl rfl rfl) ?_
          refine .nil (cj ?_)
          refine .cond rfl (fun hc1 => ?_) (fun hc1 => ?_)
          · have hil : i < c.blocked.length := by simp at hc1; exact hc1
            have hx := getD_get hil ⟨0, 0⟩
            obtain ⟨b, o, hA⟩ := Has.base (.ro .here) H3 (nil_of_flat encC_len (by decide) hil)
            refine .skip (cj ?_)
            refine .seq ?_
            refine .block ?_
            refine .seq ?_
            refine .drawS 30 (.cons (0, true) (.cons (1, true) (.cons (2, true) (.cons (3, true) (.cons (4, true) (.cons (5, true) (.cons (6, false) (.cons (7, true) (.cons (8, true) (.cons (9, true) (.cons (10, true) (.cons (11, true) (.cons (12, true) (.cons (13, true) (.cons (14, true) (.cons (15, true) (.cons (16, false) (.cons (17, true) (.cons (18, true) (.cons (19, true) (.cons (20, true) (.cons (21, true) (.cons (22, true) (.cons (23, true) (.cons (24, true) (.cons (25, true) (.cons (26, true) (.cons (27, false) (.cons (28, true) (.cons (29, true) .nil)))))))))))))))))))))))))))))) mo (by kernel_rfl) H3 (fun _ _ _ _ _ h => h) (fun w4 H4 => ?_)
            refine .ps rfl rfl rfl rfl (ld_w rfl ag_26 (.own .here) rfl) ?_
            refine .p rfl rfl rfl (val_fieldAddr rfl fa_26_3) ?_
            refine .ps rfl rfl rfl rfl (ld_b rfl ob_22 (.own .here) rfl) ?_
            refine .p rfl rfl rfl (val_move rfl) ?_
            refine .p rfl rfl rfl (val_ix el_22 hA rfl rfl rfl hil) ?_
            refine .ps rfl rfl rfl rfl (ld_ela rfl ag_38 .base hA (.ro .here) encC_len (by first | assumption | rfl)) ?_
            refine .call1 rfl rfl rfl en63 (.cons rfl (.cons rfl .nil)) (in_spec _ _ _) H4 .nil .nil (fun w5 H5 => ⟨fun _ => H5, ?_⟩)
            refine .p rfl rfl rfl (val_not rfl rfl) ?_
            refine .p rfl rfl rfl (val_move rfl) ?_
            refine .case (t := 44) rfl (fun hs44 => ?_) (fun hs44 => ?_)
            · refine .no rfl rfl rfl ?_
              refine .no rfl rfl rfl ?_
              refine .no rfl rfl rfl ?_
              refine .no rfl rfl rfl ?_
              refine .no rfl rfl rfl ?_
              refine .no rfl rfl rfl ?_
              refine .no rfl rfl rfl ?_
              refine .no rfl rfl rfl ?_
              refine .no rfl rfl rfl ?_
              refine .p rfl rfl rfl (val_pick_t rfl rfl) ?_
              refine .p rfl rfl rfl (val_move rfl) ?_
              refine .no rfl rfl rfl ?_
              refine .no rfl rfl rfl ?_
              refine .no rfl rfl rfl ?_
              refine .no rfl rfl rfl ?_
              refine .no rfl rfl rfl ?_
              refine .no rfl rfl rfl ?_
              refine .no rfl rfl rfl ?_
              refine .no rfl rfl rfl ?_
              refine .no rfl rfl rfl ?_
              refine .p rfl rfl rfl (val_pick_t rfl rfl) ?_
              refine .nil (cj ?_)
              refine .cond_t rfl ?_
              refine .seq ?_
              refine .plain rfl ?_
              refine .q rfl rfl rfl (val_assign rfl) ?_
              refine .nil (cj ?_)
              refine .ret (fret (res1 rfl rfl) ?_)
              refine hRR _ _ ⟨_, ⟨_, rfl, rfl, fun hh => ?_⟩, H5.sub .nil⟩
              first | (cases hh; done) | exact ⟨hnum, hbl2, hpl, hrl, fun i x hx => hbl i x (List.getElem?_eq_some_iff.1 hx).1 hx, fun i x hx => hpo i x (List.getElem?_eq_some_iff.1 hx).1 hx, fun i x hx => hro i x (List.getElem?_eq_some_iff.1 hx).1 hx, fun i x hx => by rw [← hall] at hx ⊢; exact hce i x (List.getElem?_eq_some_iff.1 hx).1 hx, C9 hh⟩
            · refine .p rfl rfl rfl (val_fieldAddr rfl fa_26_3) ?_
              refine .ps rfl rfl rfl rfl (ld_b rfl ob_22 (.own .here) rfl) ?_
              refine .p rfl rfl rfl (val_fieldAddr rfl fa_26_3) ?_
              refine .ps rfl rfl rfl rfl (ld_b rfl ob_22 (.own .here) rfl) ?_
              refine .p rfl rfl rfl (val_move rfl) ?_
              refine .p rfl rfl rfl (val_ix el_22 hA rfl rfl rfl hil) ?_
              refine .ps rfl rfl rfl rfl (ld_ela rfl ag_38 .base hA (.ro .here) encC_len (by first | assumption | rfl)) ?_
              refine .call1 rfl rfl rfl en64 (.cons rfl (.cons rfl .nil)) (among_spec _ _ _ (by assumption) _ _) H5 .nil (.ro .here .nil) (fun w6 H6 => ⟨fun _ => H6, ?_⟩)
              refine .p rfl rfl rfl (val_gtr rfl rfl rfl) ?_
              refine .p rfl rfl rfl (val_pick_f rfl rfl) ?_
              refine .p rfl rfl rfl (val_move rfl) ?_
              refine .case (t := 55) rfl (fun hs55 => ?_) (fun hs55 => ?_)
              · refine .no rfl rfl rfl ?_
                refine .no rfl rfl rfl ?_
                refine .no rfl rfl rfl ?_
                refine .no rfl rfl rfl ?_
                refine .no rfl rfl rfl ?_
                refine .no rfl rfl rfl ?_
                refine .no rfl rfl rfl ?_
                refine .no rfl rfl rfl ?_
                refine .no rfl rfl rfl ?_
                refine .p rfl rfl rfl (val_pick_t rfl rfl) ?_
                refine .nil (cj ?_)
                refine .cond_t rfl ?_
                refine .seq ?_
                refine .plain rfl ?_
                refine .q rfl rfl rfl (val_assign rfl) ?_
                refine .nil (cj ?_)
                refine .ret (fret (res1 rfl rfl) ?_)
                refine hRR _ _ ⟨_, ⟨_, rfl, rfl, fun hh => ?_⟩, H6.sub .nil⟩
                first | (cases hh; done) | exact ⟨hnum, hbl2, hpl, hrl, fun i x hx => hbl i x (List.getElem?_eq_some_iff.1 hx).1 hx, fun i x hx => hpo i x (List.getElem?_eq_some_iff.1 hx).1 hx, fun i x hx => hro i x (List.getElem?_eq_some_iff.1 hx).1 hx, fun i x hx => by rw [← hall] at hx ⊢; exact hce i x (List.getElem?_eq_some_iff.1 hx).1 hx, C9 hh⟩
              · refine .p rfl rfl rfl (val_fieldAddr rfl fa_26_4) ?_
                refine .ps rfl rfl rfl rfl (ld_b rfl ob_22 (.own .here) rfl) ?_
                refine .p rfl rfl rfl (val_fieldAddr rfl fa_26_3) ?_
                refine .ps rfl rfl rfl rfl (ld_b rfl ob_22 (.own .here) rfl) ?_
                refine .p rfl rfl rfl (val_move rfl) ?_
                refine .p rfl rfl rfl (val_ix el_22 hA rfl rfl rfl hil) ?_
                refine .ps rfl rfl rfl rfl (ld_ela rfl ag_38 .base hA (.ro .here) encC_len (by first | assumption | rfl)) ?_
                refine .call1 rfl rfl rfl en64 (.cons rfl (.cons rfl .nil)) (among_spec _ _ _ (by assumption) _ _) H6 .nil (.ro (.there .here) .nil) (fun w7 H7 => ⟨fun _ => H7, ?_⟩)
                refine .p rfl rfl rfl (val_gtr rfl rfl rfl) ?_
                refine .p rfl rfl rfl (val_pick_f rfl rfl) ?_
                refine .nil (cj ?_)
                refine .cond rfl (fun hc2 => ?_) (fun hc2 => ?_)
                · refine .seq ?_
                  refine .plain rfl ?_
                  refine .q rfl rfl rfl (val_assign rfl) ?_
                  refine .nil (cj ?_)
                  refine .ret (fret (res1 rfl rfl) ?_)
                  refine hRR _ _ ⟨_, ⟨_, rfl, rfl, fun hh => ?_⟩, H7.sub .nil⟩
                  first | (cases hh; done) | exact ⟨hnum, hbl2, hpl, hrl, fun i x hx => hbl i x (List.getElem?_eq_some_iff.1 hx).1 hx, fun i x hx => hpo i x (List.getElem?_eq_some_iff.1 hx).1 hx, fun i x hx => hro i x (List.getElem?_eq_some_iff.1 hx).1 hx, fun i x hx => by rw [← hall] at hx ⊢; exact hce i x (List.getElem?_eq_some_iff.1 hx).1 hx, C9 hh⟩
                · have hbl' : ∀ (j : Nat) (x : Cl), j < i + 1 → c.blocked[j]? = some x → inR c x.x x.y = true ∧ c.blocked.count x ≤ 1 ∧ c.ports.count x = 0 := by
                    intro j x hj hxj
                    rcases snd_lt hj with h | rfl
                    · exact hbl j x h hxj
                    · rw [hx] at hxj; cases hxj
                      have h1 : ¬ ((1 : Int) < ((c.blocked.count (c.blocked.getD j ⟨0, 0⟩) : Nat) : Int)) := of_decide_eq_false hs55
                      have h2 : ¬ ((0 : Int) < ((c.ports.count (c.blocked.getD j ⟨0, 0⟩) : Nat) : Int)) := of_decide_eq_false hc2
                      exact ⟨nf hs44, by omega, by omega⟩
                  refine .skip (cj ?_)
                  refine .plain rfl ?_
                  refine .q rfl rfl rfl (val_move rfl) ?_
                  refine .q rfl rfl rfl (val_add rfl rfl (z := ((i + 1 : Nat) : Int)) (w64_of (by simp only [maxLen] at hb; omega))) ?_
                  refine .q rfl rfl rfl (val_assign rfl) ?_
                  refine .nil ?_
                  intro act0 hact0; change Exists _
                  refine ⟨(i + 1), Pick.kn (by repeat (first | exact Pick.nil | refine Pick.cons rfl ?_)) hact0, ⟨H7, hil, hbl'⟩, (by omega)⟩
          · have hil : i = c.blocked.length := by simp at hc1; omega
            rw [hil] at hbl
            refine .exit (cj ?_)
            refine .seq ?_
            refine .seq ?_
            refine .plain rfl ?_
            refine .q rfl rfl rfl (val_assign rfl) ?_
            refine .nil (cj ?_)
            refine .block ?_
            refine .loop (ι := Nat) (fun i => [(1, ptr b1), (4, i64 (i : Int))]) (fun i w' => St w w' X [cb c, cp c, cr c, cs c, binsA c] [blk b1 (encCf c) 26] ∧ i ≤ c.ports.length ∧ ∀ (j : Nat) (x : Cl), j < i → c.ports[j]? = some x → inR c x.x x.y = true ∧ c.ports.count x ≤ 1 ∧ homeR c x.x x.y = false ∧ besideR c x.x x.y = true) (fun i => c.ports.length - i) 0 (by repeat (first | exact Pick.nil | refine Pick.cons rfl ?_)) ⟨H3, Nat.zero_le _, fun j x hj => absurd hj (Nat.not_lt_zero _)⟩ ?_
            rintro i w6 ⟨H8, hi, hpo⟩
            refine .seq ?_
            refine .seq ?_
            refine .plain rfl ?_
            refine .q rfl rfl rfl (val_move rfl) ?_
            refine .q rfl rfl rfl (val_fieldAddr rfl fa_26_4) ?_
            refine .qs rfl rfl rfl H8 (ld_b rfl ob_22 (.own .here) rfl) ?_
            refine .q rfl rfl rfl (val_len Tryz.underlying22 rfl) ?_
            refine .q rfl rfl rfl (val_lss rfl rfl rfl) ?_
            refine .nil (cj ?_)
            refine .cond rfl (fun hc3 => ?_) (fun hc3 => ?_)
            · have hil : i < c.ports.length := by simp at hc3; exact hc3
              have hx := getD_get hil ⟨0, 0⟩
              obtain ⟨b, o, hA⟩ := Has.base (.ro (.there .here)) H8 (nil_of_flat encC_len (by decide) hil)
              refine .skip (cj ?_)
              refine .seq ?_
              refine .block ?_
              refine .seq ?_
              refine .drawS 38 (.cons (0, true) (.cons (1, true) (.cons (2, true) (.cons (3, true) (.cons (4, true) (.cons (5, true) (.cons (6, false) (.cons (7, true) (.cons (8, true) (.cons (9, true) (.cons (10, true) (.cons (11, true) (.cons (12, true) (.cons (13, true) (.cons (14, true) (.cons (15, true) (.cons (16, false) (.cons (17, true) (.cons (18, true) (.cons (19, true) (.cons (20, true) (.cons (21, true) (.cons (22, true) (.cons (23, true) (.cons (24, true) (.cons (25, true) (.cons (26, false) (.cons (27, true) (.cons (28, true) (.cons (29, true) (.cons (30, true) (.cons (31, true) (.cons (32, true) (.cons (33, true) (.cons (34, true) (.cons (35, false) (.cons (36, true) (.cons (37, true) .nil)))))))))))))))))))))))))))))))))))))) mo (by kernel_rfl) H8 (fun _ _ _ _ _ h => h) (fun w9 H9 => ?_)
              refine .ps rfl rfl rfl rfl (ld_w rfl ag_26 (.own .here) rfl) ?_
              refine .p rfl rfl rfl (val_fieldAddr rfl fa_26_4) ?_
              refine .ps rfl rfl rfl rfl (ld_b rfl ob_22 (.own .here) rfl) ?_
              refine .p rfl rfl rfl (val_move rfl) ?_
              refine .p rfl rfl rfl (val_ix el_22 hA rfl rfl rfl hil) ?_
              refine .ps rfl rfl rfl rfl (ld_ela rfl ag_38 .base hA (.ro (.there .here)) encC_len (by first | assumption | rfl)) ?_
              refine .call1 rfl rfl rfl en63 (.cons rfl (.cons rfl .nil)) (in_spec _ _ _) H9 .nil .nil (fun w10 H10 => ⟨fun _ => H10, ?_⟩)
              refine .p rfl rfl rfl (val_not rfl rfl) ?_
              refine .p rfl rfl rfl (val_move rfl) ?_
              refine .case (t := 81) rfl (fun hs81 => ?_) (fun hs81 => ?_)
              · refine .no rfl rfl rfl ?_
                refine .no rfl rfl rfl ?_
                refine .no rfl rfl rfl ?_
                refine .no rfl rfl rfl ?_
                refine .no rfl rfl rfl ?_
                refine .no rfl rfl rfl ?_
                refine .no rfl rfl rfl ?_
                refine .no rfl rfl rfl ?_
                refine .no rfl rfl rfl ?_
                refine .p rfl rfl rfl (val_pick_t rfl rfl) ?_
                refine .p rfl rfl rfl (val_move rfl) ?_
                refine .no rfl rfl rfl ?_
                refine .no rfl rfl rfl ?_
                refine .no rfl rfl rfl ?_
                refine .no rfl rfl rfl ?_
                refine .no rfl rfl rfl ?_
                refine .no rfl rfl rfl ?_
                refine .no rfl rfl rfl ?_
                refine .p rfl rfl rfl (val_pick_t rfl rfl) ?_
                refine .p rfl rfl rfl (val_move rfl) ?_
                refine .no rfl rfl rfl ?_
                refine .no rfl rfl rfl ?_
                refine .no rfl rfl rfl ?_
                refine .no rfl rfl rfl ?_
                refine .no rfl rfl rfl ?_
                refine .no rfl rfl rfl ?_
                refine .no rfl rfl rfl ?_
                refine .no rfl rfl rfl ?_
                refine .p rfl rfl rfl (val_pick_t rfl rfl) ?_
                refine .nil (cj ?_)
                refine .cond_t rfl ?_
                refine .seq ?_
                refine .plain rfl ?_
                refine .q rfl rfl rfl (val_assign rfl) ?_
                refine .nil (cj ?_)
                refine .ret (fret (res1 rfl rfl) ?_)
                refine hRR _ _ ⟨_, ⟨_, rfl, rfl, fun hh => ?_⟩, H10.sub .nil⟩
                first | (cases hh; done) | exact ⟨hnum, hbl2, hpl, hrl, fun i x hx => hbl i x (List.getElem?_eq_some_iff.1 hx).1 hx, fun i x hx => hpo i x (List.getElem?_eq_some_iff.1 hx).1 hx, fun i x hx => hro i x (List.getElem?_eq_some_iff.1 hx).1 hx, fun i x hx => by rw [← hall] at hx ⊢; exact hce i x (List.getElem?_eq_some_iff.1 hx).1 hx, C9 hh⟩
              · refine .p rfl rfl rfl (val_fieldAddr rfl fa_26_4) ?_
                refine .ps rfl rfl rfl rfl (ld_b rfl ob_22 (.own .here) rfl) ?_
                refine .p rfl rfl rfl (val_fieldAddr rfl fa_26_4) ?_
                refine .ps rfl rfl rfl rfl (ld_b rfl ob_22 (.own .here) rfl) ?_
                refine .p rfl rfl rfl (val_move rfl) ?_
                refine .p rfl rfl rfl (val_ix el_22 hA rfl rfl rfl hil) ?_
                refine .ps rfl rfl rfl rfl (ld_ela rfl ag_38 .base hA (.ro (.there .here)) encC_len (by first | assumption | rfl)) ?_
                refine .call1 rfl rfl rfl en64 (.cons rfl (.cons rfl .nil)) (among_spec _ _ _ (by assumption) _ _) H10 .nil (.ro (.there .here) .nil) (fun w11 H11 => ⟨fun _ => H11, ?_⟩)
                refine .p rfl rfl rfl (val_gtr rfl rfl rfl) ?_
                refine .p rfl rfl rfl (val_pick_f rfl rfl) ?_
                refine .p rfl rfl rfl (val_move rfl) ?_
                refine .case (t := 92) rfl (fun hs92 => ?_) (fun hs92 => ?_)
                · refine .no rfl rfl rfl ?_
                  refine .no rfl rfl rfl ?_
                  refine .no rfl rfl rfl ?_
                  refine .no rfl rfl rfl ?_
                  refine .no rfl rfl rfl ?_
                  refine .no rfl rfl rfl ?_
                  refine .no rfl rfl rfl ?_
                  refine .p rfl rfl rfl (val_pick_t rfl rfl) ?_
                  refine .p rfl rfl rfl (val_move rfl) ?_
                  refine .no rfl rfl rfl ?_
                  refine .no rfl rfl rfl ?_
                  refine .no rfl rfl rfl ?_
                  refine .no rfl rfl rfl ?_
                  refine .no rfl rfl rfl ?_
                  refine .no rfl rfl rfl ?_
                  refine .no rfl rfl rfl ?_
                  refine .no rfl rfl rfl ?_
                  refine .p rfl rfl rfl (val_pick_t rfl rfl) ?_
                  refine .nil (cj ?_)
                  refine .cond_t rfl ?_
                  refine .seq ?_
                  refine .plain rfl ?_
                  refine .q rfl rfl rfl (val_assign rfl) ?_
                  refine .nil (cj ?_)
                  refine .ret (fret (res1 rfl rfl) ?_)
                  refine hRR _ _ ⟨_, ⟨_, rfl, rfl, fun hh => ?_⟩, H11.sub .nil⟩
                  first | (cases hh; done) | exact ⟨hnum, hbl2, hpl, hrl, fun i x hx => hbl i x (List.getElem?_eq_some_iff.1 hx).1 hx, fun i x hx => hpo i x (List.getElem?_eq_some_iff.1 hx).1 hx, fun i x hx => hro i x (List.getElem?_eq_some_iff.1 hx).1 hx, fun i x hx => by rw [← hall] at hx ⊢; exact hce i x (List.getElem?_eq_some_iff.1 hx).1 hx, C9 hh⟩
                · refine .ps rfl rfl rfl rfl (ld_w rfl ag_26 (.own .here) rfl) ?_
                  refine .p rfl rfl rfl (val_fieldAddr rfl fa_26_4) ?_
                  refine .ps rfl rfl rfl rfl (ld_b rfl ob_22 (.own .here) rfl) ?_
                  refine .p rfl rfl rfl (val_move rfl) ?_
                  refine .p rfl rfl rfl (val_ix el_22 hA rfl rfl rfl hil) ?_
                  refine .ps rfl rfl rfl rfl (ld_ela rfl ag_38 .base hA (.ro (.there .here)) encC_len (by first | assumption | rfl)) ?_
                  refine .call1 rfl rfl rfl en65 (.cons rfl (.cons rfl .nil)) (homeR_spec _ (by assumption) _ _) H11 .nil (.ro (.there (.there .here)) .nil) (fun w12 H12 => ⟨fun _ => H12, ?_⟩)
                  refine .p rfl rfl rfl (val_pick_f rfl rfl) ?_
                  refine .p rfl rfl rfl (val_move rfl) ?_
                  refine .case (t := 101) rfl (fun hs101 => ?_) (fun hs101 => ?_)
                  · refine .no rfl rfl rfl ?_
                    refine .no rfl rfl rfl ?_
                    refine .no rfl rfl rfl ?_
                    refine .no rfl rfl rfl ?_
                    refine .no rfl rfl rfl ?_
                    refine .no rfl rfl rfl ?_
                    refine .no rfl rfl rfl ?_
                    refine .no rfl rfl rfl ?_
                    refine .p rfl rfl rfl (val_pick_t rfl rfl) ?_
                    refine .nil (cj ?_)
                    refine .cond_t rfl ?_
                    refine .seq ?_
                    refine .plain rfl ?_
                    refine .q rfl rfl rfl (val_assign rfl) ?_
                    refine .nil (cj ?_)
                    refine .ret (fret (res1 rfl rfl) ?_)
                    refine hRR _ _ ⟨_, ⟨_, rfl, rfl, fun hh => ?_⟩, H12.sub .nil⟩
                    first | (cases hh; done) | exact ⟨hnum, hbl2, hpl, hrl, fun i x hx => hbl i x (List.getElem?_eq_some_iff.1 hx).1 hx, fun i x hx => hpo i x (List.getElem?_eq_some_iff.1 hx).1 hx, fun i x hx => hro i x (List.getElem?_eq_some_iff.1 hx).1 hx, fun i x hx => by rw [← hall] at hx ⊢; exact hce i x (List.getElem?_eq_some_iff.1 hx).1 hx, C9 hh⟩
                  · refine .ps rfl rfl rfl rfl (ld_w rfl ag_26 (.own .here) rfl) ?_
                    refine .p rfl rfl rfl (val_fieldAddr rfl fa_26_4) ?_
                    refine .ps rfl rfl rfl rfl (ld_b rfl ob_22 (.own .here) rfl) ?_
                    refine .p rfl rfl rfl (val_move rfl) ?_
                    refine .p rfl rfl rfl (val_ix el_22 hA rfl rfl rfl hil) ?_
                    refine .ps rfl rfl rfl rfl (ld_ela rfl ag_38 .base hA (.ro (.there .here)) encC_len (by first | assumption | rfl)) ?_
                    refine .call1 rfl rfl rfl en66 (.cons rfl (.cons rfl .nil)) (besideR_spec _ (by assumption) _ _) H12 .nil (.ro .here .nil) (fun w13 H13 => ⟨fun _ => H13, ?_⟩)
                    refine .p rfl rfl rfl (val_not rfl rfl) ?_
                    refine .p rfl rfl rfl (val_pick_f rfl rfl) ?_
                    refine .nil (cj ?_)
                    refine .cond rfl (fun hc4 => ?_) (fun hc4 => ?_)
                    · refine .seq ?_
                      refine .plain rfl ?_
                      refine .q rfl rfl rfl (val_assign rfl) ?_
                      refine .nil (cj ?_)
                      refine .ret (fret (res1 rfl rfl) ?_)
                      refine hRR _ _ ⟨_, ⟨_, rfl, rfl, fun hh => ?_⟩, H13.sub .nil⟩
                      first | (cases hh; done) | exact ⟨hnum, hbl2, hpl, hrl, fun i x hx => hbl i x (List.getElem?_eq_some_iff.1 hx).1 hx, fun i x hx => hpo i x (List.getElem?_eq_some_iff.1 hx).1 hx, fun i x hx => hro i x (List.getElem?_eq_some_iff.1 hx).1 hx, fun i x hx => by rw [← hall] at hx ⊢; exact hce i x (List.getElem?_eq_some_iff.1 hx).1 hx, C9 hh⟩
                    · have hpo' : ∀ (j : Nat) (x : Cl), j < i + 1 → c.ports[j]? = some x → inR c x.x x.y = true ∧ c.ports.count x ≤ 1 ∧ homeR c x.x x.y = false ∧ besideR c x.x x.y = true := by
                        intro j x hj hxj
                        rcases snd_lt hj with h | rfl
                        · exact hpo j x h hxj
                        · rw [hx] at hxj; cases hxj
                          have h1 : ¬ ((1 : Int) < ((c.ports.count (c.ports.getD j ⟨0, 0⟩) : Nat) : Int)) := of_decide_eq_false hs92
                          exact ⟨nf hs81, by omega, hs101, nf hc4⟩
                      refine .skip (cj ?_)
                      refine .plain rfl ?_
                      refine .q rfl rfl rfl (val_move rfl) ?_
                      refine .q rfl rfl rfl (val_add rfl rfl (z := ((i + 1 : Nat) : Int)) (w64_of (by omega))) ?_
                      refine .q rfl rfl rfl (val_assign rfl) ?_
                      refine .nil ?_
                      intro act0 hact0; change Exists _
                      refine ⟨(i + 1), Pick.kn (by repeat (first | exact Pick.nil | refine Pick.cons rfl ?_)) hact0, ⟨H13, hil, hpo'⟩, (by omega)⟩
            · have hil : i = c.ports.length := by simp at hc3; omega
              rw [hil] at hpo
              refine .exit (cj ?_)
              refine .seq ?_
              refine .plain rfl ?_
              refine .q rfl rfl rfl (val_assign rfl) ?_
              refine .nil (cj ?_)
              refine .seq ?_
              refine .seq ?_
              refine .plain rfl ?_
              refine .q rfl rfl rfl (val_assign rfl) ?_
              refine .nil (cj ?_)
              refine .block ?_
              have H15 := H8.rowNil 38 2
              refine .loop (ι := BI) (fun x => [(1, ptr b1), (5, x.v), (6, i64 (x.i : Int))]) (fun x w' => St w w' X [cb c, cp c, cr c, cs c, binsA c] [row x.v 38 2 (cellsTo c x.i).length ((cellsTo c x.i).flatMap encC), blk b1 (encCf c) 26] ∧ x.i ≤ c.robots.length ∧ (cellsTo c x.i).length ≤ 2 * x.i ∧ ∀ (j : Nat) (p : Ps), j < x.i → c.robots[j]? = some p → fitsR c p = true) (fun x => c.robots.length - x.i) ⟨0, .slice none 0 0⟩ (by repeat (first | exact Pick.nil | refine Pick.cons rfl ?_)) ⟨H15.sub (.cons .here (.cons .here .nil)), Nat.zero_le _, Nat.le_refl _, fun j x hj => absurd hj (Nat.not_lt_zero _)⟩ ?_
              rintro x w7 ⟨H14, hi, hlen, hro⟩
              refine .seq ?_
              refine .seq ?_
              refine .plain rfl ?_
              refine .q rfl rfl rfl (val_move rfl) ?_
              refine .q rfl rfl rfl (val_fieldAddr rfl fa_26_5) ?_
              refine .qs rfl rfl rfl H14 (ld_b rfl ob_23 (.own (.there .here)) rfl) ?_
              refine .q rfl rfl rfl (val_len Tryz.underlying23 rfl) ?_
              refine .q rfl rfl rfl (val_lss rfl rfl rfl) ?_
              refine .nil (cj ?_)
              refine .cond rfl (fun hc5 => ?_) (fun hc5 => ?_)
              · have hil : x.i < c.robots.length := by simp at hc5; exact hc5
                obtain ⟨p, hx⟩ : ∃ p, c.robots[x.i]? = some p := ⟨_, List.getElem?_eq_getElem hil⟩
                obtain ⟨b, o, hA⟩ := Has.base (.ro (.there (.there .here))) H14 (nil_of_flat encP_len (by decide) hil)
                refine .skip (cj ?_)
                refine .seq ?_
                refine .block ?_
                refine .seq ?_
                refine .seq ?_
                refine .drawS 8 (.cons (0, true) (.cons (1, true) (.cons (2, true) (.cons (3, true) (.cons (4, true) (.cons (5, true) (.cons (6, false) (.cons (7, true) .nil)))))))) mo (by kernel_rfl) H14 (fun _ _ _ _ _ h => h) (fun w16 H16 => ?_)
                refine .ps rfl rfl rfl rfl (ld_w rfl ag_26 (.own (.there .here)) rfl) ?_
                refine .p rfl rfl rfl (val_fieldAddr rfl fa_26_5) ?_
                refine .ps rfl rfl rfl rfl (ld_b rfl ob_23 (.own (.there .here)) rfl) ?_
                refine .p rfl rfl rfl (val_move rfl) ?_
                refine .p rfl rfl rfl (val_ix el_23 hA rfl rfl rfl hil) ?_
                refine .ps rfl rfl rfl rfl (ld_ela rfl ag_40 .base hA (.ro (.there (.there .here))) encP_len (by first | assumption | rfl)) ?_
                refine .call1 rfl rfl rfl en67 (.cons rfl (.cons rfl .nil)) (fitsR_spec _ (by assumption) _ _ _) H16 .nil (.ro .here .nil) (fun w17 H17 => ⟨fun _ => H17, ?_⟩)
                refine .p rfl rfl rfl (val_not rfl rfl) ?_
                refine .nil (cj ?_)
                refine .cond rfl (fun hc6 => ?_) (fun hc6 => ?_)
                · refine .seq ?_
                  refine .plain rfl ?_
                  refine .q rfl rfl rfl (val_assign rfl) ?_
                  refine .nil (cj ?_)
                  refine .ret (fret (res1 rfl rfl) ?_)
                  refine hRR _ _ ⟨_, ⟨_, rfl, rfl, fun hh => ?_⟩, H17.sub .nil⟩
                  first | (cases hh; done) | exact ⟨hnum, hbl2, hpl, hrl, fun i x hx => hbl i x (List.getElem?_eq_some_iff.1 hx).1 hx, fun i x hx => hpo i x (List.getElem?_eq_some_iff.1 hx).1 hx, fun i x hx => hro i x (List.getElem?_eq_some_iff.1 hx).1 hx, fun i x hx => by rw [← hall] at hx ⊢; exact hce i x (List.getElem?_eq_some_iff.1 hx).1 hx, C9 hh⟩
                · have hlen' : (cellsTo c (x.i + 1)).length ≤ 2 * (x.i + 1) := by rw [cellsTo_succ hx, List.length_append]; simp only [List.length_cons, List.length_nil]; omega
                  have hro' : ∀ (j : Nat) (p : Ps), j < x.i + 1 → c.robots[j]? = some p → fitsR c p = true := by
                    intro j q hj hq
                    rcases snd_lt hj with h | rfl
                    · exact hro j q h hq
                    · rw [hx] at hq; cases hq; exact nf hc6
                  refine .skip (cj ?_)
                  refine .plain rfl ?_
                  refine .q rfl rfl rfl (val_move rfl) ?_
                  refine .q rfl rfl rfl (val_fieldAddr rfl fa_26_5) ?_
                  refine .qs rfl rfl rfl H17 (ld_b rfl ob_23 (.own (.there .here)) rfl) ?_
                  refine .q rfl rfl rfl (val_move rfl) ?_
                  refine .q rfl rfl rfl (val_ix el_23 hA rfl rfl rfl hil) ?_
                  refine .qs rfl rfl rfl H17 (ld_ela rfl ag_40 .base hA (.ro (.there (.there .here))) encP_len (by first | assumption | rfl)) ?_
                  refine .callx rfl rfl rfl en68 (.cons rfl .nil) (cellsR_spec _ _ _) H17 .nil .nil (fun b18 w18 C18 H18 => ⟨fun _ => trivial, ?_⟩)
                  refine .append rfl rfl rfl (ap_22) rfl rfl H18 (.there .here) (Has.srcBlk (.own .here) H18) rfl (by simp [Value.oneCell']) (by simp only [maxLen]; omega) (by first | omega | (dsimp only; omega)) (fun v19 w19 H19 => ⟨fun _ => trivial, ?_⟩)
                  refine .q rfl rfl rfl (val_assign rfl) ?_
                  refine .nil (cj ?_)
                  refine .plain rfl ?_
                  refine .q rfl rfl rfl (val_move rfl) ?_
                  refine .q rfl rfl rfl (val_add rfl rfl (z := ((x.i + 1 : Nat) : Int)) (w64_of (by omega))) ?_
                  refine .q rfl rfl rfl (val_assign rfl) ?_
                  refine .nil ?_
                  intro act0 hact0; change Exists _
                  refine ⟨⟨x.i + 1, _⟩, Pick.kn (by repeat (first | exact Pick.nil | refine Pick.cons rfl ?_)) hact0, ⟨by rw [cellsTo_succ hx, List.length_append, List.flatMap_append]; exact H19.sub (.cons .here (.cons (.there .here) .nil)), hil, hlen', hro'⟩, (show c.robots.length - (x.i + 1) < c.robots.length - x.i by omega)⟩
              · have hix : x.i = c.robots.length := by simp at hc5; omega
                rw [hix] at H14 hlen hro
                have hcl : (cellsTo c c.robots.length).length ≤ maxLen := by simp only [maxLen]; omega
                obtain ⟨A9, cap9, hv9, hn9, H20⟩ := St.rowArr H14 .here
                rw [hv9]
                refine .exit (cj ?_)
                refine .seq ?_
                refine .seq ?_
                refine .plain rfl ?_
                refine .q rfl rfl rfl (val_assign rfl) ?_
                refine .nil (cj ?_)
                refine .block ?_
                refine .loop (ι := Nat) (fun i => [(1, ptr b1), (5, .slice A9 (cellsTo c c.robots.length).length cap9), (7, i64 (i : Int))]) (fun i w' => St w w' X [arr A9 ((cellsTo c c.robots.length).flatMap encC), cb c, cp c, cr c, cs c, binsA c] [blk b1 (encCf c) 26] ∧ i ≤ (cellsTo c c.robots.length).length ∧ ∀ (j : Nat) (x : Cl), j < i → (cellsTo c c.robots.length)[j]? = some x → (cellsTo c c.robots.length).count x ≤ 1) (fun i => (cellsTo c c.robots.length).length - i) 0 (by repeat (first | exact Pick.nil | refine Pick.cons rfl ?_)) ⟨H20, Nat.zero_le _, fun j x hj => absurd hj (Nat.not_lt_zero _)⟩ ?_
                rintro i w8 ⟨H21, hi, hce⟩
                refine .seq ?_
                refine .seq ?_
                refine .plain rfl ?_
                refine .q rfl rfl rfl (val_move rfl) ?_
                refine .q rfl rfl rfl (val_move rfl) ?_
                refine .q rfl rfl rfl (val_len Tryz.underlying22 rfl) ?_
                refine .q rfl rfl rfl (val_lss rfl rfl rfl) ?_
                refine .nil (cj ?_)
                refine .cond rfl (fun hc7 => ?_) (fun hc7 => ?_)
                · have hil : i < (cellsTo c c.robots.length).length := by simp only [decide_eq_true_eq] at hc7; omega
                  have hx := getD_get hil ⟨0, 0⟩
                  obtain ⟨b, o, hB⟩ := Has.base (.ro .here) H21 (nil_of_flat encC_len (by decide) hil)
                  refine .skip (cj ?_)
                  refine .seq ?_
                  refine .block ?_
                  refine .seq ?_
                  refine .plain rfl ?_
                  refine .q rfl rfl rfl (val_move rfl) ?_
                  refine .q rfl rfl rfl (val_move rfl) ?_
                  refine .q rfl rfl rfl (val_move rfl) ?_
                  refine .q rfl rfl rfl (val_ix el_22 hB rfl rfl rfl hil) ?_
                  refine .qs rfl rfl rfl H21 (ld_ela rfl ag_38 .base hB (.ro .here) encC_len (by first | assumption | rfl)) ?_
                  refine .call1 rfl rfl rfl en64 (.cons rfl (.cons rfl .nil)) (among_spec _ _ _ (by assumption) _ _) H21 .nil (.ro .here .nil) (fun w22 H22 => ⟨fun _ => trivial, ?_⟩)
                  refine .q rfl rfl rfl (val_gtr rfl rfl rfl) ?_
                  refine .nil (cj ?_)
                  refine .cond rfl (fun hc8 => ?_) (fun hc8 => ?_)
                  · refine .seq ?_
                    refine .plain rfl ?_
                    refine .q rfl rfl rfl (val_assign rfl) ?_
                    refine .nil (cj ?_)
                    refine .ret (fret (res1 rfl rfl) ?_)
                    refine hRR _ _ ⟨_, ⟨_, rfl, rfl, fun hh => ?_⟩, (H22.rest (.ro (.there .here) (.ro (.there (.there .here)) (.ro (.there (.there (.there .here))) (.ro (.there (.there (.there (.there .here)))) (.ro (.there (.there (.there (.there (.there .here))))) .nil)))))).sub .nil⟩
                    first | (cases hh; done) | exact ⟨hnum, hbl2, hpl, hrl, fun i x hx => hbl i x (List.getElem?_eq_some_iff.1 hx).1 hx, fun i x hx => hpo i x (List.getElem?_eq_some_iff.1 hx).1 hx, fun i x hx => hro i x (List.getElem?_eq_some_iff.1 hx).1 hx, fun i x hx => by rw [← hall] at hx ⊢; exact hce i x (List.getElem?_eq_some_iff.1 hx).1 hx, C9 hh⟩
                  · have hce' : ∀ (j : Nat) (x : Cl), j < i + 1 → (cellsTo c c.robots.length)[j]? = some x → (cellsTo c c.robots.length).count x ≤ 1 := by
                      intro j x hj hxj
                      rcases snd_lt hj with h | rfl
                      · exact hce j x h hxj
                      · rw [hx] at hxj; cases hxj
                        have h1 : ¬ ((1 : Int) < (((cellsTo c c.robots.length).count ((cellsTo c c.robots.length).getD j ⟨0, 0⟩) : Nat) : Int)) := of_decide_eq_false hc8
                        omega
                    refine .skip (cj ?_)
                    refine .plain rfl ?_
                    refine .q rfl rfl rfl (val_move rfl) ?_
                    refine .q rfl rfl rfl (val_add rfl rfl (z := ((i + 1 : Nat) : Int)) (w64_of (by omega))) ?_
                    refine .q rfl rfl rfl (val_assign rfl) ?_
                    refine .nil ?_
                    intro act0 hact0; change Exists _
                    refine ⟨(i + 1), Pick.kn (by repeat (first | exact Pick.nil | refine Pick.cons rfl ?_)) hact0, ⟨H22, hil, hce'⟩, (by omega)⟩
                · have hil : i = (cellsTo c c.robots.length).length := by simp only [decide_eq_false_iff_not] at hc7; omega
                  rw [hil] at hce
                  have hall : cellsTo c c.robots.length = c.robots.flatMap cellsL := by simp [cellsTo]
                  have hh8 : c.height ≤ 8 := hnum.height.2
                  refine .exit (cj ?_)
                  refine .seq ?_
                  refine .plain rfl ?_
                  refine .qs rfl rfl rfl H21 (ld_w rfl ag_26 (.own .here) rfl) ?_
                  refine .callx rfl rfl rfl en69 (.cons rfl .nil) (binsR_spec _ (by assumption) (by assumption)) H21 .nil (.ro (.there .here) (.ro (.there (.there .here)) (.ro (.there (.there (.there .here))) (.ro (.there (.there (.there (.there .here)))) (.ro (.there (.there (.there (.there (.there .here))))) .nil))))) (fun v9 w23 C9 H23 => ⟨fun _ => trivial, ?_⟩)
                  refine .q rfl rfl rfl (val_assign rfl) ?_
                  refine .nil (cj ?_)
                  refine .ret (fret (res1 rfl rfl) ?_)
                  refine hRR _ _ ⟨_, ⟨_, rfl, rfl, fun hh => ?_⟩, (H23.rest (.ro (.there .here) (.ro (.there (.there .here)) (.ro (.there (.there (.there .here))) (.ro (.there (.there (.there (.there .here)))) (.ro (.there (.there (.there (.there (.there .here))))) .nil)))))).sub .nil⟩
                  first | (cases hh; done) | exact ⟨hnum, hbl2, hpl, hrl, fun i x hx => hbl i x (List.getElem?_eq_some_iff.1 hx).1 hx, fun i x hx => hpo i x (List.getElem?_eq_some_iff.1 hx).1 hx, fun i x hx => hro i x (List.getElem?_eq_some_iff.1 hx).1 hx, fun i x hx => by rw [← hall] at hx ⊢; exact hce i x (List.getElem?_eq_some_iff.1 hx).1 hx, C9 hh⟩
structure SmallOk (c : Cf) : Prop where
  w : c.w ≤ 6
  h : c.h ≤ 6
  budget : c.budget ≤ 4000
  unit : c.unit ≤ 100
  turn : c.turn ≤ 200
  hoist : c.hoist ≤ 200
  robots : c.robots.length ≤ 4
  may : MayOk c
theorem small_spec (c : Cf) (hc : c.Fit) : Sk.Spec Tryz.prog 9 #[.agg (encCf c).toArray] [cb c, cp c, cr c, cs c, binsA c] [] (Says (SmallOk c)) := by
  refine Spec.of_code (vs := [_]) (k0 := [(0, _)]) 41 Tryz.func9 rfl Tryz.ntmps9 rfl (.cons .nil) fun w X RR hRR H => ?_
  refine .seq ?_
  refine .plain rfl ?_
  refine .box rfl rfl rfl rfl rfl H (fun w1 b1 H1 => ⟨fun _ => trivial, ?_⟩)
  refine .q rfl rfl rfl (val_assign rfl) ?_
  refine .nil (cj ?_)
  refine .seq ?_
  refine .plain rfl ?_
  refine .q rfl rfl rfl (val_fieldAddr rfl fa_26_0) ?_
  refine .qs rfl rfl rfl H1 (ld_b rfl ob_3 (.own .here) rfl) ?_
  refine .q rfl rfl rfl (val_leq rfl rfl rfl) ?_
  refine .q rfl rfl rfl (val_move rfl) ?_
  refine .case (t := 6) rfl (fun hs6 => ?_) (fun hs6 => ?_)
  · refine .q rfl rfl rfl (val_fieldAddr rfl fa_26_1) ?_
    refine .qs rfl rfl rfl H1 (ld_b rfl ob_3 (.own .here) rfl) ?_
    refine .q rfl rfl rfl (val_leq rfl rfl rfl) ?_
    refine .q rfl rfl rfl (val_pick_t rfl rfl) ?_
    refine .q rfl rfl rfl (val_move rfl) ?_
    refine .case (t := 11) rfl (fun hs11 => ?_) (fun hs11 => ?_)
    · refine .q rfl rfl rfl (val_fieldAddr rfl fa_26_14) ?_
      refine .qs rfl rfl rfl H1 (ld_b rfl ob_3 (.own .here) rfl) ?_
      refine .q rfl rfl rfl (val_leq rfl rfl rfl) ?_
      refine .q rfl rfl rfl (val_pick_t rfl rfl) ?_
      refine .q rfl rfl rfl (val_move rfl) ?_
      refine .case (t := 16) rfl (fun hs16 => ?_) (fun hs16 => ?_)
      · refine .q rfl rfl rfl (val_fieldAddr rfl fa_26_7) ?_
        refine .qs rfl rfl rfl H1 (ld_b rfl ob_3 (.own .here) rfl) ?_
        refine .q rfl rfl rfl (val_leq rfl rfl rfl) ?_
        refine .q rfl rfl rfl (val_pick_t rfl rfl) ?_
        refine .q rfl rfl rfl (val_move rfl) ?_
        refine .case (t := 21) rfl (fun hs21 => ?_) (fun hs21 => ?_)
        · refine .q rfl rfl rfl (val_fieldAddr rfl fa_26_10) ?_
          refine .qs rfl rfl rfl H1 (ld_b rfl ob_3 (.own .here) rfl) ?_
          refine .q rfl rfl rfl (val_leq rfl rfl rfl) ?_
          refine .q rfl rfl rfl (val_pick_t rfl rfl) ?_
          refine .q rfl rfl rfl (val_move rfl) ?_
          refine .case (t := 26) rfl (fun hs26 => ?_) (fun hs26 => ?_)
          · refine .q rfl rfl rfl (val_fieldAddr rfl fa_26_11) ?_
            refine .qs rfl rfl rfl H1 (ld_b rfl ob_3 (.own .here) rfl) ?_
            refine .q rfl rfl rfl (val_leq rfl rfl rfl) ?_
            refine .q rfl rfl rfl (val_pick_t rfl rfl) ?_
            refine .q rfl rfl rfl (val_move rfl) ?_
            refine .case (t := 31) rfl (fun hs31 => ?_) (fun hs31 => ?_)
            · refine .q rfl rfl rfl (val_fieldAddr rfl fa_26_5) ?_
              refine .qs rfl rfl rfl H1 (ld_b rfl ob_23 (.own .here) rfl) ?_
              refine .q rfl rfl rfl (val_len Tryz.underlying23 rfl) ?_
              refine .q rfl rfl rfl (val_leq rfl rfl rfl) ?_
              refine .q rfl rfl rfl (val_pick_t rfl rfl) ?_
              refine .q rfl rfl rfl (val_move rfl) ?_
              refine .case (t := 37) rfl (fun hs37 => ?_) (fun hs37 => ?_)
              · refine .qs rfl rfl rfl H1 (ld_w rfl ag_26 (.own .here) rfl) ?_
                refine .callx rfl rfl rfl en32 (.cons rfl .nil) (mayR_spec _ (by assumption)) H1 .nil (.ro .here (.ro (.there .here) (.ro (.there (.there .here)) (.ro (.there (.there (.there .here))) (.ro (.there (.there (.there (.there .here)))) .nil))))) (fun v2 w2 C9 H2 => ⟨fun _ => trivial, ?_⟩)
                refine .q rfl rfl rfl (val_pick_t rfl rfl) ?_
                refine .q rfl rfl rfl (val_assign rfl) ?_
                refine .nil (cj ?_)
                refine .ret (fret (res1 rfl rfl) ?_)
                refine hRR _ _ ⟨_, ⟨_, rfl, rfl, fun hh => ?_⟩, H2.sub .nil⟩
                first | (cases hh; done) | exact ⟨of_decide_eq_true hs6, of_decide_eq_true hs11, of_decide_eq_true hs16, of_decide_eq_true hs21, of_decide_eq_true hs26, of_decide_eq_true hs31, (by have h1 := of_decide_eq_true hs37; omega), C9 hh⟩
              · refine .no rfl rfl rfl ?_
                refine .no rfl rfl rfl ?_
                refine .q rfl rfl rfl (val_pick_f rfl rfl) ?_
                refine .q rfl rfl rfl (val_assign rfl) ?_
                refine .nil (cj ?_)
                refine .ret (fret (res1 rfl rfl) ?_)
                refine hRR _ _ ⟨_, ⟨_, rfl, rfl, fun hh => ?_⟩, H1.sub .nil⟩
                first | (cases hh; done) | exact ⟨of_decide_eq_true hs6, of_decide_eq_true hs11, of_decide_eq_true hs16, of_decide_eq_true hs21, of_decide_eq_true hs26, of_decide_eq_true hs31, (by have h1 := of_decide_eq_true hs37; omega), C9 hh⟩
            · refine .no rfl rfl rfl ?_
              refine .no rfl rfl rfl ?_
              refine .no rfl rfl rfl ?_
              refine .no rfl rfl rfl ?_
              refine .q rfl rfl rfl (val_pick_f rfl rfl) ?_
              refine .q rfl rfl rfl (val_move rfl) ?_
              refine .no rfl rfl rfl ?_
              refine .no rfl rfl rfl ?_
              refine .q rfl rfl rfl (val_pick_f rfl rfl) ?_
              refine .q rfl rfl rfl (val_assign rfl) ?_
              refine .nil (cj ?_)
              refine .ret (fret (res1 rfl rfl) ?_)
              refine hRR _ _ ⟨_, ⟨_, rfl, rfl, fun hh => ?_⟩, H1.sub .nil⟩
              first | (cases hh; done) | exact ⟨of_decide_eq_true hs6, of_decide_eq_true hs11, of_decide_eq_true hs16, of_decide_eq_true hs21, of_decide_eq_true hs26, of_decide_eq_true hs31, (by have h1 := of_decide_eq_true hs37; omega), C9 hh⟩
          · refine .no rfl rfl rfl ?_
            refine .no rfl rfl rfl ?_
            refine .no rfl rfl rfl ?_
            refine .q rfl rfl rfl (val_pick_f rfl rfl) ?_
            refine .q rfl rfl rfl (val_move rfl) ?_
            refine .no rfl rfl rfl ?_
            refine .no rfl rfl rfl ?_
            refine .no rfl rfl rfl ?_
            refine .no rfl rfl rfl ?_
            refine .q rfl rfl rfl (val_pick_f rfl rfl) ?_
            refine .q rfl rfl rfl (val_move rfl) ?_
            refine .no rfl rfl rfl ?_
            refine .no rfl rfl rfl ?_
            refine .q rfl rfl rfl (val_pick_f rfl rfl) ?_
            refine .q rfl rfl rfl (val_assign rfl) ?_
            refine .nil (cj ?_)
            refine .ret (fret (res1 rfl rfl) ?_)
            refine hRR _ _ ⟨_, ⟨_, rfl, rfl, fun hh => ?_⟩, H1.sub .nil⟩
            first | (cases hh; done) | exact ⟨of_decide_eq_true hs6, of_decide_eq_true hs11, of_decide_eq_true hs16, of_decide_eq_true hs21, of_decide_eq_true hs26, of_decide_eq_true hs31, (by have h1 := of_decide_eq_true hs37; omega), C9 hh⟩
        · refine .no rfl rfl rfl ?_
          refine .no rfl rfl rfl ?_
          refine .no rfl rfl rfl ?_
          refine .q rfl rfl rfl (val_pick_f rfl rfl) ?_
          refine .q rfl rfl rfl (val_move rfl) ?_
          refine .no rfl rfl rfl ?_
          refine .no rfl rfl rfl ?_
          refine .no rfl rfl rfl ?_
          refine .q rfl rfl rfl (val_pick_f rfl rfl) ?_
          refine .q rfl rfl rfl (val_move rfl) ?_
          refine .no rfl rfl rfl ?_
          refine .no rfl rfl rfl ?_
          refine .no rfl rfl rfl ?_
          refine .no rfl rfl rfl ?_
          refine .q rfl rfl rfl (val_pick_f rfl rfl) ?_
          refine .q rfl rfl rfl (val_move rfl) ?_
          refine .no rfl rfl rfl ?_
          refine .no rfl rfl rfl ?_
          refine .q rfl rfl rfl (val_pick_f rfl rfl) ?_
          refine .q rfl rfl rfl (val_assign rfl) ?_
          refine .nil (cj ?_)
          refine .ret (fret (res1 rfl rfl) ?_)
          refine hRR _ _ ⟨_, ⟨_, rfl, rfl, fun hh => ?_⟩, H1.sub .nil⟩
          first | (cases hh; done) | exact ⟨of_decide_eq_true hs6, of_decide_eq_true hs11, of_decide_eq_true hs16, of_decide_eq_true hs21, of_decide_eq_true hs26, of_decide_eq_true hs31, (by have h1 := of_decide_eq_true hs37; omega), C9 hh⟩
      · refine .no rfl rfl rfl ?_
        refine .no rfl rfl rfl ?_
        refine .no rfl rfl rfl ?_
        refine .q rfl rfl rfl (val_pick_f rfl rfl) ?_
        refine .q rfl rfl rfl (val_move rfl) ?_
        refine .no rfl rfl rfl ?_
        refine .no rfl rfl rfl ?_
        refine .no rfl rfl rfl ?_
        refine .q rfl rfl rfl (val_pick_f rfl rfl) ?_
        refine .q rfl rfl rfl (val_move rfl) ?_
        refine .no rfl rfl rfl ?_
        refine .no rfl rfl rfl ?_
        refine .no rfl rfl rfl ?_
        refine .q rfl rfl rfl (val_pick_f rfl rfl) ?_
        refine .q rfl rfl rfl (val_move rfl) ?_
        refine .no rfl rfl rfl ?_
        refine .no rfl rfl rfl ?_
        refine .no rfl rfl rfl ?_
        refine .no rfl rfl rfl ?_
        refine .q rfl rfl rfl (val_pick_f rfl rfl) ?_
        refine .q rfl rfl rfl (val_move rfl) ?_
        refine .no rfl rfl rfl ?_
        refine .no rfl rfl rfl ?_
        refine .q rfl rfl rfl (val_pick_f rfl rfl) ?_
        refine .q rfl rfl rfl (val_assign rfl) ?_
        refine .nil (cj ?_)
        refine .ret (fret (res1 rfl rfl) ?_)
        refine hRR _ _ ⟨_, ⟨_, rfl, rfl, fun hh => ?_⟩, H1.sub .nil⟩
        first | (cases hh; done) | exact ⟨of_decide_eq_true hs6, of_decide_eq_true hs11, of_decide_eq_true hs16, of_decide_eq_true hs21, of_decide_eq_true hs26, of_decide_eq_true hs31, (by have h1 := of_decide_eq_true hs37; omega), C9 hh⟩
    · refine .no rfl rfl rfl ?_
      refine .no rfl rfl rfl ?_
      refine .no rfl rfl rfl ?_
      refine .q rfl rfl rfl (val_pick_f rfl rfl) ?_
      refine .q rfl rfl rfl (val_move rfl) ?_
      refine .no rfl rfl rfl ?_
      refine .no rfl rfl rfl ?_
      refine .no rfl rfl rfl ?_
      refine .q rfl rfl rfl (val_pick_f rfl rfl) ?_
      refine .q rfl rfl rfl (val_move rfl) ?_
      refine .no rfl rfl rfl ?_
      refine .no rfl rfl rfl ?_
      refine .no rfl rfl rfl ?_
      refine .q rfl rfl rfl (val_pick_f rfl rfl) ?_
      refine .q rfl rfl rfl (val_move rfl) ?_
      refine .no rfl rfl rfl ?_
      refine .no rfl rfl rfl ?_
      refine .no rfl rfl rfl ?_
      refine .q rfl rfl rfl (val_pick_f rfl rfl) ?_
      refine .q rfl rfl rfl (val_move rfl) ?_
      refine .no rfl rfl rfl ?_
      refine .no rfl rfl rfl ?_
      refine .no rfl rfl rfl ?_
      refine .no rfl rfl rfl ?_
      refine .q rfl rfl rfl (val_pick_f rfl rfl) ?_
      refine .q rfl rfl rfl (val_move rfl) ?_
      refine .no rfl rfl rfl ?_
      refine .no rfl rfl rfl ?_
      refine .q rfl rfl rfl (val_pick_f rfl rfl) ?_
      refine .q rfl rfl rfl (val_assign rfl) ?_
      refine .nil (cj ?_)
      refine .ret (fret (res1 rfl rfl) ?_)
      refine hRR _ _ ⟨_, ⟨_, rfl, rfl, fun hh => ?_⟩, H1.sub .nil⟩
      first | (cases hh; done) | exact ⟨of_decide_eq_true hs6, of_decide_eq_true hs11, of_decide_eq_true hs16, of_decide_eq_true hs21, of_decide_eq_true hs26, of_decide_eq_true hs31, (by have h1 := of_decide_eq_true hs37; omega), C9 hh⟩
  · refine .no rfl rfl rfl ?_
    refine .no rfl rfl rfl ?_
    refine .no rfl rfl rfl ?_
    refine .q rfl rfl rfl (val_pick_f rfl rfl) ?_
    refine .q rfl rfl rfl (val_move rfl) ?_
    refine .no rfl rfl rfl ?_
    refine .no rfl rfl rfl ?_
    refine .no rfl rfl rfl ?_
    refine .q rfl rfl rfl (val_pick_f rfl rfl) ?_
    refine .q rfl rfl rfl (val_move rfl) ?_
    refine .no rfl rfl rfl ?_
    refine .no rfl rfl rfl ?_
    refine .no rfl rfl rfl ?_
    refine .q rfl rfl rfl (val_pick_f rfl rfl) ?_
    refine .q rfl rfl rfl (val_move rfl) ?_
    refine .no rfl rfl rfl ?_
    refine .no rfl rfl rfl ?_
    refine .no rfl rfl rfl ?_
    refine .q rfl rfl rfl (val_pick_f rfl rfl) ?_
    refine .q rfl rfl rfl (val_move rfl) ?_
    refine .no rfl rfl rfl ?_
    refine .no rfl rfl rfl ?_
    refine .no rfl rfl rfl ?_
    refine .q rfl rfl rfl (val_pick_f rfl rfl) ?_
    refine .q rfl rfl rfl (val_move rfl) ?_
    refine .no rfl rfl rfl ?_
    refine .no rfl rfl rfl ?_
    refine .no rfl rfl rfl ?_
    refine .no rfl rfl rfl ?_
    refine .q rfl rfl rfl (val_pick_f rfl rfl) ?_
    refine .q rfl rfl rfl (val_move rfl) ?_
    refine .no rfl rfl rfl ?_
    refine .no rfl rfl rfl ?_
    refine .q rfl rfl rfl (val_pick_f rfl rfl) ?_
    refine .q rfl rfl rfl (val_assign rfl) ?_
    refine .nil (cj ?_)
    refine .ret (fret (res1 rfl rfl) ?_)
    refine hRR _ _ ⟨_, ⟨_, rfl, rfl, fun hh => ?_⟩, H1.sub .nil⟩
    first | (cases hh; done) | exact ⟨of_decide_eq_true hs6, of_decide_eq_true hs11, of_decide_eq_true hs16, of_decide_eq_true hs21, of_decide_eq_true hs26, of_decide_eq_true hs31, (by have h1 := of_decide_eq_true hs37; omega), C9 hh⟩
end Go.Proofs.YtmbibkifbehgnaaGreatDoor
/-! ## SkMk: MY OWN ENGINE, part 8: makeSlice, copy, stores at a place that is not a literal, contracts that read what is owned. -/
namespace Go.Proofs.YtmbibkifbehgnaaGreatDoor.Sk
open Go
set_option linter.unusedVariables false
set_option linter.unusedSimpArgs false
/-- What is read may be told otherwise. -/
def Tells (r' r : As) : Prop := ∀ Y w, r'.on Y w → ∃ Y', r.on Y' w ∧ ∀ k, Y' k → Y k
theorem Tells.refl (r : As) : Tells r r := fun Y w h => ⟨Y, h, fun _ h => h⟩
theorem Tells.blk {b : Nat} {cs : List Value} {e : TypeId} : Tells (blk b cs e) (arr (some ⟨b, 0, none⟩) cs) := fun Y w hY =>
  ⟨Y, .inr ⟨b, 0, rfl, hY.1, (Array.getElem?_eq_some_iff.1 hY.2).1, fun j u hu => by simp [World.cell?, hY.2, hu]⟩, fun _ h => h⟩
inductive Tell : List As → List As → Prop where
  | nil {R' : List As} : Tell R' []
  | cons {R' R R'' : List As} {r r' : As} (h : At R' r' R'') (t : Tells r' r) (n : Tell R' R) : Tell R' (r :: R)
theorem Tell.ro {R' R : List As} (h : Tell R' R) {X : Nat → Prop} {w : World} (hR : Ro R' X w) : Ro R X w := by
  induction h with
  | nil => intro r hr; cases hr
  | cons hat ht _ ih =>
    intro r hr
    rcases List.mem_cons.1 hr with rfl | hr
    · obtain ⟨Y, hY, hd⟩ := hR _ hat.mem
      obtain ⟨Y', hY', hs⟩ := ht Y w hY
      exact ⟨Y', hY', fun k hk => hd k (hs k hk)⟩
    · exact ih r hr
theorem Spec.tell {P : Program} {f : FuncId} {args : Array Value} {Rc Rc' F : List As} {Post : Ending → List As → Prop} (h : Sk.Spec P f args Rc F Post) (ht : Tell Rc' Rc) : Sk.Spec P f args Rc' F Post :=
  fun w X hF hR => h w X hF (ht.ro hR)
theorem Spl_at {α : Type} {xs ys : List α} : ∀ {o : Nat}, o + ys.length ≤ xs.length → Spl xs o ys (xs.take o ++ ys ++ xs.drop (o + ys.length)) := by
  have ovr : ∀ (ys xs : List α), ys.length ≤ xs.length → Ovr xs ys (ys ++ xs.drop ys.length) := by
    intro ys
    induction ys with
    | nil => intro xs _; exact .nil
    | cons y ys ih =>
      intro xs h
      cases xs with
      | nil => simp at h
      | cons x xs => exact .cons (ih xs (by simpa using h))
  induction xs with
  | nil =>
    intro o h
    have ho : o = 0 := by simp at h; omega
    have hy : ys = [] := List.eq_nil_of_length_eq_zero (by rw [List.length_nil] at h; omega)
    subst ho; subst hy
    exact .here .nil
  | cons x xs ih =>
    intro o h
    cases o with
    | zero => simpa using Spl.here (ovr ys (x :: xs) (by simpa using h))
    | succ o =>
      have := ih (o := o) (by simp at h; omega)
      simpa [show o + 1 + ys.length = (o + ys.length) + 1 by omega] using Spl.skip (x := x) this
/-- a store of one cell into a list of one-cell elements -/
theorem Spl_set {α : Type} {enc : α → Value} {l : List α} {i : Nat} {x : α} (h : i < l.length) : Spl (l.map enc) (0 + i * 1) [enc x] ((l.set i x).map enc) := by
  have h1 := Spl_at (xs := l.map enc) (ys := [enc x]) (o := 0 + i * 1) (by simp; omega)
  have e : (l.map enc).take (0 + i * 1) ++ [enc x] ++ (l.map enc).drop (0 + i * 1 + [enc x].length) = (l.set i x).map enc := by
    rw [List.map_set, Nat.zero_add, Nat.mul_one]
    simp only [List.length_singleton]
    rw [List.set_eq_take_append_cons_drop, if_pos (by simpa using h)]
    simp
  rw [e] at h1
  exact h1
/-- A region that draws; S: of what is owned only a part. -/
theorem CJ.drawS2 {P : Program} {nt : NT} {Q : Exit → Act → World → Prop} {k : L} {w : World} {id : Nat} {ops : Array Oper} {w0 : World} {M : Nat → Prop} {R F F0 F1 : List As} (n : Nat) (l : Tr) (hm : P.follows .mixedOrders = true)
    (hb : (Region.noSelect ops && tailB ops n && (canon ops n ops.size (Array.replicate ops.size false) == some l)) = true) (H : St w0 w M R F) (hat : Ats F F0 F1)
    (hQ : ∀ c a d v w, Q (.panic c) (a.put d v) w → Q (.panic c) a w)
    (h : ∀ w', St w0 w' M R F → RJ P nt ops Q (fun w' => St w0 w' M R F0) n l k w') : CJ P nt (.region id ops true) Q k w :=
  CJ.drawn n l hm hb _ (H.sub hat).drew hQ (h _ H.drew)
/-- an owned row, told as an owned array -/
theorem St.rowOwn {w0 w : World} {M : Nat → Prop} {R F F' : List As} {v : Value} {e : TypeId} {sz n : Nat} {xs : List Value} (H : St w0 w M R F) (hat : At F (row v e sz n xs) F') :
    ∃ A cap, v = .slice A n cap ∧ (A = none → n = 0 ∧ cap = 0) ∧ St w0 w M R (arr A xs :: F') := by
  obtain ⟨⟨X, h1, h2, h3⟩, h4⟩ := H
  obtain ⟨X1, X2, ⟨hrow, hblk⟩, g2, g3, g4⟩ := Own.pick hat h1
  rcases hrow.2 with ⟨rfl, rfl⟩ | ⟨g, cap, cur, rfl, hb, hg, hnc, hcm, hcs, htake⟩
  · exact ⟨none, 0, rfl, fun _ => ⟨rfl, rfl⟩, ⟨⟨X, ⟨X1, X2, .inl ⟨List.eq_nil_of_length_eq_zero (by simpa using hrow.1), fun k hk => by have := (hblk k).1 hk; simp [Value.ownBlock] at this⟩, g2, g3, g4⟩, h2, h3⟩, h4⟩⟩
  · exact ⟨some ⟨g, 0, none⟩, cap, rfl, fun h => (by cases h), ⟨⟨X, ⟨X1, X2, .inr ⟨g, 0, rfl, fun k => by rw [hblk k]; simp [Value.ownBlock, eq_comm], (Array.getElem?_eq_some_iff.1 hg).1, fun j u hu => by
      have := hrow.cells (g := g) rfl j u hu
      rwa [add_plain] at this⟩, g2, g3, g4⟩, h2, h3⟩, h4⟩⟩
theorem ix_map {α : Type} {enc : α → Value} {l : List α} {i : Nat} {x : α} (h : l[i]? = some x) : (l.map enc)[0 + i * 1]? = some (enc x) := by
  simp [h]
theorem made_one (v : Value) (n : Nat) : (madeCells #[v] (n * 1)).toList = List.replicate n v := by
  apply List.ext_getElem
  · simp [madeCells]
  · intro i h1 h2
    simp [madeCells, Nat.mod_one]
section
variable {P : Program} {nt : NT} {ops : Array Oper} {Q : Exit → Act → World → Prop} {S : World → Prop} {n i d : Nat} {k : L} {R F : List As} {M : Nat → Prop} {w0 w : World} {ty : TypeId} {pos : String} {af : Array Edge} {g : Option (Nat × Bool)} {l : Tr}
theorem RJ.mk {t e : TypeId} {sz bytes : Nat} {x y : Operand} {ki kj : IntKind} {len cap : Nat} {zs : List Value} {z : Value} (ho : ops[i]? = some (Oper.mk (some d) (.makeSlice t x y) ty pos af g)) (hg : gd ops k g = some true) (hd : Nat.blt d nt.n = true)
    (hap : apB P t e sz bytes = true) (hz : (P.info? e).bind (·.zero) = some z) (hx : ev k x = some (.int ki (len : Int))) (hy : ev k y = some (.int kj (cap : Int))) (hlc : len ≤ cap) (hb : bytes * cap ≤ 281474976710656) (h63 : cap ≤ maxLen)
    (hzs : (madeCells z.cells (cap * sz)).toList = zs) (H : St w0 w M R F)
    (h : ∀ w' b, St w0 w' M R (blk b zs e :: F) → (i < n → S w') ∧ RJ P nt ops Q S n l ((d, .slice (some ⟨b, 0, none⟩) len cap) :: k) w') : RJ P nt ops Q S n (.cons (i, false) l) k w := by
  obtain ⟨inf, z', hu, hi, hz', hsz, hby, _, _⟩ := apB_spec hap
  have : z' = z := by simpa [hi, hz'] using hz
  subst this hsz hby
  exact RJ.make ho hg hd hu hi hz' hx hy hlc hb h63 hzs H h
theorem RJ.copy {t e : TypeId} {sz bytes : Nat} {x y : Operand} {b m c c' : Nat} {A : Option Addr} {zs news : List Value} {F' : List As} (ho : ops[i]? = some (Oper.mk (some d) (.call ⟨.builtin .copy, #[x, y], #[t, t]⟩) ty pos af g)) (hg : gd ops k g = some true) (hd : Nat.blt d nt.n = true)
    (hap : apB P t e sz bytes = true) (hx : ev k x = some (.slice (some ⟨b, 0, none⟩) m c)) (hy : ev k y = some (.slice A m c')) (H : St w0 w M R F) (hat : At F (blk b zs e) F') (hsrc : Src w A m c' news) (hl : news.length = m * sz) (hlz : zs.length = m * sz) (h1 : ∀ u ∈ news, u.oneCell' = true)
    (h : ∀ w', St w0 w' M R (blk b news e :: F') → (i < n → S w') ∧ RJ P nt ops Q S n l ((d, goInt m) :: k) w') : RJ P nt ops Q S n (.cons (i, false) l) k w := by
  obtain ⟨inf, z, hu, hi, hz, hsz, hby, _, _⟩ := apB_spec hap
  subst hsz
  have hb : w.heap[b]? = some (.cells zs.toArray e (0, 0)) := by
    obtain ⟨⟨X, hX, _⟩, _⟩ := H
    obtain ⟨X1, X2, ⟨_, g⟩, _⟩ := Own.pick hat hX
    exact g
  have hst : St w0 (w.setRow b news.toArray) M R (blk b news e :: F') := by
    refine H.store hat (vs := news) (o := 0) ?_
    have := Spl_at (xs := zs) (ys := news) (o := 0) (by omega)
    simpa [List.drop_eq_nil_of_le (show zs.length ≤ news.length by omega)] using this
  have := h _ hst
  refine RJ.act ho hg hd (fun a ha => ?_) this.1 this.2
  rcases hsrc with ⟨rfl, rfl, rfl, rfl⟩ | ⟨a0, rfl, hcell⟩
  · have hz0 : zs = [] := List.eq_nil_of_length_eq_zero (by simpa using hlz)
    subst hz0
    have hr := run_copy_nil (P := P) w t t ty e ⟨b, 0, none⟩ 0 c hu (by simp [hi])
    have hs := setRow_self w b #[] e (0, 0) hb
    have hs' : w.setRow b [].toArray = w := hs
    rw [hs']
    simp only [execOp, resolve, List.map_toArray, List.map_cons, List.map_nil, ha.ev hx, ha.ev hy, invoke, builtin, Sem.run_bind, Sem.run_pure, Result.andThen_ok, hr]; rfl
  · have hl' := run_loadCells_list (P := P) w a0 news hcell
    have hst := run_storeCells_at P b 0 e news 0 zs.toArray w hb (by simp; omega) h1
    have e0 : (zs.toArray.toList.take (0 + 0) ++ news ++ zs.toArray.toList.drop (0 + 0 + news.length)) = news := by
      simp; omega
    rw [e0] at hst
    have hr : (Builtin.copy_ #[t, t] ty #[.slice (some ⟨b, 0, none⟩) m c, .slice (some a0) m c']).run P w = .ok (goInt m) (w.setRow b news.toArray) := by
      simp [Builtin.copy_, run_underlying hu, Builtin.lenOf, Builtin.firstCells, sizeOf, typeInfo, hi, ← hl, hl', hst]
    simp only [execOp, resolve, List.map_toArray, List.map_cons, List.map_nil, ha.ev hx, ha.ev hy, invoke, builtin, Sem.run_bind, Sem.run_pure, Result.andThen_ok, hr]
end
end Go.Proofs.YtmbibkifbehgnaaGreatDoor.Sk
/-! ## L1: Walks of plain.List and of the grid's laid: a config that may be is laid out. -/
namespace Go.Proofs.YtmbibkifbehgnaaGreatDoor
open Go Sk
set_option linter.unusedVariables false
set_option linter.unusedSimpArgs false
theorem en118 : Enters Tryz.prog 118 := fun args w => by kernel_rfl
theorem ap_193  : apB Tryz.prog 193 4 1 1 = true := by kernel_rfl
theorem el_193  : elB Tryz.prog 193 1 = true := by kernel_rfl
theorem mk_183_0_1_2 (x0_ : Int) (x1_ : Int) (x2_A : Option Addr) (x2_n : Nat) (x2_c : Nat) : Tryz.prog.built 183 [(0, .int .i64 x0_), (1, .int .i64 x1_), (2, .slice x2_A x2_n x2_c)] = some (List.toArray [.int .i64 x0_, .int .i64 x1_, .slice x2_A x2_n x2_c]) := by kernel_rfl
theorem sz_4  : (Tryz.prog.info? 4).map (·.size) = some 1 := by kernel_rfl
theorem ze_3  : (Tryz.prog.info? 3).bind (·.zero) = some (.int .i64 0) := by kernel_rfl
theorem ze_4  : (Tryz.prog.info? 4).bind (·.zero) = some (.bool false) := by kernel_rfl
theorem one_encC {l : List Cl} : ∀ u ∈ l.flatMap encC, u.oneCell' = true := by
  intro u hu
  obtain ⟨b, _, hb⟩ := List.mem_flatMap.1 hu
  rcases (by simpa using hb : u = i64 b.x ∨ u = i64 b.y) with rfl | rfl <;> rfl
theorem zs_len {z : Array Value} {n : Nat} : (madeCells z n).toList.length = n := by simp [madeCells]
theorem listC_spec (A : Option Addr) (cap : Nat) (l : List Cl) (hl : l.length ≤ 1000) (hn : A = none → l.length = 0 ∧ cap = 0) : Sk.Spec Tryz.prog 118 #[.slice A l.length cap] [arr A (l.flatMap encC)] [] fun e F' => ∃ v, e = .returned v ∧ F' = [row v 38 2 l.length (l.flatMap encC)] ∧ True := by
  refine Spec.of_code (vs := [_]) (k0 := [(0, _)]) 14 Tryz.func118 rfl Tryz.ntmps118 rfl (.cons .nil) fun w X RR hRR H => ?_
  refine .seq ?_
  refine .plain rfl ?_
  refine .q rfl rfl rfl (val_assign rfl) ?_
  refine .nil (cj ?_)
  refine .seq ?_
  refine .seq ?_
  refine .plain rfl ?_
  refine .q rfl rfl rfl (val_move rfl) ?_
  refine .q rfl rfl rfl (val_len Tryz.underlying22 rfl) ?_
  refine .q rfl rfl rfl (val_eql rfl rfl rfl) ?_
  refine .nil (cj ?_)
  refine .cond rfl (fun hc0 => ?_) (fun hc0 => ?_)
  · have hl0 : l = [] := List.eq_nil_of_length_eq_zero (by simpa using hc0)
    refine .seq ?_
    refine .plain rfl ?_
    refine .q rfl rfl rfl (val_assign rfl) ?_
    refine .nil (cj ?_)
    refine .ret (fret (res1 rfl rfl) ?_)
    refine hRR _ _ ⟨_, ⟨_, rfl, rfl, trivial⟩, ?_⟩
    first | (subst hl0; exact (H.rowNil 38 2).sub (.cons .here .nil)) | (have h9 := H.blkRow (sz := 2) (n := l.length) (cap := l.length) .here (flat_len encC_len _) (Nat.le_refl _) (by simp only [maxLen]; omega); rw [List.take_of_length_le (by rw [flat_len encC_len]; exact Nat.le_refl _)] at h9; exact h9)
  · refine .skip (cj ?_)
    refine .seq ?_
    refine .plain rfl ?_
    refine .q rfl rfl rfl (val_move rfl) ?_
    refine .q rfl rfl rfl (val_len Tryz.underlying22 rfl) ?_
    refine .mk rfl rfl rfl ap_22 ze_38 rfl rfl (Nat.le_refl _) (by omega) (by simp only [maxLen]; omega) rfl H (fun w1 b1 H1 => ⟨fun _ => trivial, ?_⟩)
    refine .q rfl rfl rfl (val_assign rfl) ?_
    refine .nil (cj ?_)
    refine .seq ?_
    refine .plain rfl ?_
    refine .q rfl rfl rfl (val_move rfl) ?_
    refine .q rfl rfl rfl (val_move rfl) ?_
    refine .copy rfl rfl rfl ap_22 rfl rfl H1 .here (Has.srcArr (.ro .here) hn H1) (flat_len encC_len _) (zs_len) one_encC (fun w2 H2 => ⟨fun _ => trivial, ?_⟩)
    refine .nil (cj ?_)
    refine .seq ?_
    refine .plain rfl ?_
    refine .q rfl rfl rfl (val_move rfl) ?_
    refine .q rfl rfl rfl (val_assign rfl) ?_
    refine .nil (cj ?_)
    refine .ret (fret (res1 rfl rfl) ?_)
    refine hRR _ _ ⟨_, ⟨_, rfl, rfl, trivial⟩, ?_⟩
    first | (subst hl0; exact (H2.rowNil 38 2).sub (.cons .here .nil)) | (have h9 := H2.blkRow (sz := 2) (n := l.length) (cap := l.length) .here (flat_len encC_len _) (Nat.le_refl _) (by simp only [maxLen]; omega); rw [List.take_of_length_le (by rw [flat_len encC_len]; exact Nat.le_refl _)] at h9; exact h9)
/-! ### the kinds that laid leaves -/
abbrev items (c : Cf) : List Cl := c.blocked ++ c.ports
def numI (c : Cf) (x : Cl) : Nat := (x.y * c.w + x.x).toNat
def area (c : Cf) : Nat := (c.w * c.h).toNat
def valI (c : Cf) (j : Nat) : Int := if j < c.blocked.length then -1 else (j : Int) - (c.blocked.length : Int) + 1
def layK (c : Cf) : Nat → List Int
  | 0 => List.replicate (area c) 0
  | j + 1 => (layK c j).set (numI c ((items c).getD j ⟨0, 0⟩)) (valI c j)
def seenK (c : Cf) : Nat → List Bool
  | 0 => List.replicate (area c) false
  | j + 1 => (seenK c j).set (numI c ((items c).getD j ⟨0, 0⟩)) true
theorem layK_len (c : Cf) : ∀ j, (layK c j).length = area c
  | 0 => by simp [layK]
  | j + 1 => by rw [layK, List.length_set, layK_len c j]
theorem seenK_len (c : Cf) : ∀ j, (seenK c j).length = area c
  | 0 => by simp [seenK]
  | j + 1 => by rw [seenK, List.length_set, seenK_len c j]
theorem seenK_get (c : Cf) {i : Nat} (hi : i < area c) : ∀ j, (∀ j', j' < j → numI c ((items c).getD j' ⟨0, 0⟩) ≠ i) → (seenK c j)[i]? = some false
  | 0, _ => by simp [seenK, hi]
  | j + 1, h => by
    rw [seenK, List.getElem?_set_ne (h j (Nat.lt_succ_self _))]
    exact seenK_get c hi j fun j' hj' => h j' (by omega)
theorem items_in {c : Cf} (hm : MayOk c) {j : Nat} {x : Cl} (h : (items c)[j]? = some x) : inR c x.x x.y = true := by
  rcases Nat.lt_or_ge j c.blocked.length with hj | hj
  · rw [List.getElem?_append_left hj] at h
    exact (hm.blocked j x h).1
  · rw [List.getElem?_append_right hj] at h
    exact (hm.ports _ x h).1
theorem items_nodup {c : Cf} (hm : MayOk c) : (items c).Nodup := by
  rw [List.nodup_append]
  refine ⟨List.nodup_iff_count.2 fun a => ?_, List.nodup_iff_count.2 fun a => ?_, fun a ha b hb e => ?_⟩
  · by_cases h : a ∈ c.blocked
    · obtain ⟨i, hi⟩ := List.getElem?_of_mem h
      exact (hm.blocked i a hi).2.1
    · rw [List.count_eq_zero_of_not_mem h]; omega
  · by_cases h : a ∈ c.ports
    · obtain ⟨i, hi⟩ := List.getElem?_of_mem h
      exact (hm.ports i a hi).2.1
    · rw [List.count_eq_zero_of_not_mem h]; omega
  · subst e
    obtain ⟨i, hi⟩ := List.getElem?_of_mem ha
    have := (hm.blocked i a hi).2.2
    exact absurd hb (List.count_eq_zero.1 this)
theorem inR_iff {c : Cf} {x y : Int} (h : inR c x y = true) : (0 ≤ x ∧ x < c.w) ∧ (0 ≤ y ∧ y < c.h) := by
  simp [inR] at h; omega
theorem numI_inj {c : Cf} {a b : Cl} (ha : inR c a.x a.y = true) (hb : inR c b.x b.y = true) (h : numI c a = numI c b) : a = b := by
  obtain ⟨h1, h2⟩ := inR_iff ha
  obtain ⟨h3, h4⟩ := inR_iff hb
  have e1 : 0 ≤ a.y * c.w := Int.mul_nonneg h2.1 (by omega)
  have e2 : 0 ≤ b.y * c.w := Int.mul_nonneg h4.1 (by omega)
  have e3 : a.y * c.w + a.x = b.y * c.w + b.x := by
    unfold numI at h; omega
  have hw : 0 < c.w := by omega
  have hy : a.y = b.y := by
    have q1 : (a.y * c.w + a.x) / c.w = a.y := by
      rw [Int.add_comm, Int.add_mul_ediv_right _ _ (by omega), Int.ediv_eq_zero_of_lt h1.1 h1.2]; omega
    have q2 : (b.y * c.w + b.x) / c.w = b.y := by
      rw [Int.add_comm, Int.add_mul_ediv_right _ _ (by omega), Int.ediv_eq_zero_of_lt h3.1 h3.2]; omega
    rw [← q1, ← q2, e3]
  have hx : a.x = b.x := by rw [hy] at e3; omega
  cases a; cases b; simp_all
theorem seen_no {c : Cf} (hm : MayOk c) {j : Nat} {x : Cl} (h : (items c)[j]? = some x) (hi : numI c x < area c) : (seenK c j)[numI c x]? = some false := by
  refine seenK_get c hi j fun j' hj' e => ?_
  have hj := (List.getElem?_eq_some_iff.1 h).1
  have h' := getD_get (l := items c) (i := j') (by omega) ⟨0, 0⟩
  have := numI_inj (items_in hm h') (items_in hm h) e
  rw [this] at h'
  have h1 := List.pairwise_iff_getElem.1 (items_nodup hm) j' j (by omega) hj hj'
  obtain ⟨_, e1⟩ := List.getElem?_eq_some_iff.1 h
  obtain ⟨_, e2⟩ := List.getElem?_eq_some_iff.1 h'
  exact h1 (e2.trans e1.symm)
theorem area_le {c : Cf} (hn : NumOk c) : (area c : Int) = c.w * c.h ∧ area c ≤ 256 ∧ 1 ≤ area c := by
  have h1 : c.w * c.h ≤ 16 * 16 := Int.mul_le_mul hn.w.2 hn.h.2 (by have := hn.h.1; omega) (by omega)
  have h2 : 0 < c.w * c.h := Int.mul_pos (by have := hn.w.1; omega) (by have := hn.h.1; omega)
  unfold area
  omega
theorem numI_lt {c : Cf} (hn : NumOk c) {x y : Int} (h : inR c x y = true) : numI c ⟨x, y⟩ < area c ∧ ∀ K : List Int, K.length = area c → numB ⟨c.w, c.h, K⟩ x y = ((numI c ⟨x, y⟩ : Nat) : Int) := by
  obtain ⟨h1, h2⟩ := inR_iff h
  have ha := area_le hn
  have hm := mul_lt h1.1 h1.2 h2.1 h2.2
  have e : (numI c ⟨x, y⟩ : Int) = y * c.w + x := by
    have e0 : numI c ⟨x, y⟩ = (y * c.w + x).toNat := rfl
    omega
  refine ⟨by omega, fun K hK => ?_⟩
  have hg : Gd.Ok ⟨c.w, c.h, K⟩ := ⟨hn.w.1, hn.w.2, hn.h.1, hn.h.2, by rw [hK]; exact ha.1⟩
  rw [(numB_in hg h1 h2).1, e]
theorem nodup_lt : ∀ (n : Nat) (l : List Nat), l.Nodup → (∀ x ∈ l, x < n) → l.length ≤ n
  | 0, l, _, h => by
    cases l with
    | nil => simp
    | cons x l => exact absurd (h x List.mem_cons_self) (Nat.not_lt_zero _)
  | n + 1, l, hd, h => by
    have h1 := nodup_lt n (l.erase n) (hd.erase n) fun x hx => by
      have h2 := (hd.mem_erase_iff).1 hx
      have := h x h2.2
      omega
    by_cases hm : n ∈ l
    · rw [List.length_erase_of_mem hm] at h1; omega
    · rw [List.erase_of_not_mem hm] at h1; omega
theorem blocked_le {c : Cf} (hm : MayOk c) : c.blocked.length ≤ area c := by
  have h := nodup_lt (area c) (c.blocked.map (numI c)) (by
    have hd := items_nodup hm
    rw [List.nodup_append] at hd
    refine List.pairwise_map.2 (List.Pairwise.imp_of_mem ?_ hd.1)
    intro a b ha hb hne e
    obtain ⟨i, hi⟩ := List.getElem?_of_mem ha
    obtain ⟨j, hj⟩ := List.getElem?_of_mem hb
    exact hne (numI_inj (hm.blocked i a hi).1 (hm.blocked j b hj).1 e)) (by
    intro x hx
    obtain ⟨a, ha, rfl⟩ := List.mem_map.1 hx
    obtain ⟨i, hi⟩ := List.getElem?_of_mem ha
    exact (numI_lt hm.num (hm.blocked i a hi).1).1)
  simpa using h
structure LI where
  bg : Nat
  bk : Nat
abbrev kblk (b : Nat) (K : List Int) : As := blk b (K.map (Value.int .i64)) 3
abbrev sblk (b : Nat) (S : List Bool) : As := blk b (S.map Value.bool) 4
theorem gblk_set {bg : Nat} {A : Option Addr} {cap : Nat} {w h : Int} {K : List Int} {i : Nat} {v : Int} : gblk bg A cap ⟨w, h, K.set i v⟩ = gblk bg A cap ⟨w, h, K⟩ := by simp [gblk]
theorem lay0 (c : Cf) (b5 b6 b7 : Nat) : [gblk b6 (some ⟨b5, 0, none⟩) (area c) ⟨c.w, c.h, layK c 0⟩, kblk b5 (layK c 0), sblk b7 (seenK c 0)] =
    [blk b6 [i64 c.w, i64 c.h, .slice (some ⟨b5, 0, none⟩) (area c) (area c)] 183, blk b5 (List.replicate (area c) (i64 0)) 3, blk b7 (List.replicate (area c) (.bool false)) 4] := by
  simp only [layK, seenK, gblk, kblk, sblk, List.length_replicate, List.map_replicate]
theorem lay_b {c : Cf} {b5 b6 b7 j : Nat} {x : Cl} (hx : (items c)[j]? = some x) (h : j < c.blocked.length) : [gblk b6 (some ⟨b5, 0, none⟩) (area c) ⟨c.w, c.h, layK c (j + 1)⟩, kblk b5 (layK c (j + 1)), sblk b7 (seenK c (j + 1))] =
    [gblk b6 (some ⟨b5, 0, none⟩) (area c) ⟨c.w, c.h, layK c j⟩, kblk b5 ((layK c j).set (numI c x) (-1)), sblk b7 ((seenK c j).set (numI c x) true)] := by
  have e : (items c).getD j ⟨0, 0⟩ = x := by rw [List.getD_eq_getElem?_getD, hx]; rfl
  rw [layK, seenK, e, gblk_set, valI, if_pos h]
theorem lay_p {c : Cf} {b5 b6 b7 j : Nat} {x : Cl} (hx : (items c)[j]? = some x) (h : ¬ j < c.blocked.length) : [gblk b6 (some ⟨b5, 0, none⟩) (area c) ⟨c.w, c.h, layK c (j + 1)⟩, kblk b5 (layK c (j + 1)), sblk b7 (seenK c (j + 1))] =
    [gblk b6 (some ⟨b5, 0, none⟩) (area c) ⟨c.w, c.h, layK c j⟩, kblk b5 (((layK c j).set (numI c x) (-1)).set (numI c x) ((j : Int) - (c.blocked.length : Int) + 1)), sblk b7 ((seenK c j).set (numI c x) true)] := by
  have e : (items c).getD j ⟨0, 0⟩ = x := by rw [List.getD_eq_getElem?_getD, hx]; rfl
  rw [layK, seenK, e, gblk_set, valI, if_neg h, List.set_set]
theorem stF {w0 w : World} {M : Nat → Prop} {R : List As} {a b d a' b' d' e : As} (h : [a, b, d] = [a', b', d']) (H : St w0 w M R [a', b', d', e]) : St w0 w M R [a, b, d, e] := by
  obtain ⟨rfl, rfl, rfl⟩ : a = a' ∧ b = b' ∧ d = d' := by simpa using h
  exact H
theorem laid_spec (c : Cf) (hc : c.Fit) (hm : MayOk c) : Sk.Spec Tryz.prog 98 #[.agg (encCf c).toArray] [cb c, cp c] [] fun e F' => ∃ x : LI, e = .returned (.tuple #[ptr x.bg, .bool true]) ∧ F' = [gblk x.bg (some ⟨x.bk, 0, none⟩) (area c) ⟨c.w, c.h, layK c (items c).length⟩, kblk x.bk (layK c (items c).length)] ∧ True := by
  have hn := hm.num
  obtain ⟨ha, ha2, ha1⟩ := area_le hn
  have hw := hn.w
  have hh := hn.h
  have hbl := hm.bl
  have hpl := hm.pl
  have hbn := hc.bn
  have hpn := hc.pn
  have hwh : w64 (c.w * c.h) = ((area c : Nat) : Int) := by rw [ha]; exact w64_of (by omega)
  have hlb : (c.blocked.length : Int) ≤ (area c : Int) := by have := blocked_le hm; omega
  refine Spec.of_code (vs := [_]) (k0 := [(0, _)]) 105 Tryz.func98 rfl Tryz.ntmps98 rfl (.cons .nil) fun w X RR hRR H => ?_
  refine .seq ?_
  refine .plain rfl ?_
  refine .box rfl rfl rfl rfl rfl H (fun w1 b1 H1 => ⟨fun _ => trivial, ?_⟩)
  refine .q rfl rfl rfl (val_assign rfl) ?_
  refine .q rfl rfl rfl (val_assign rfl) ?_
  refine .nil (cj ?_)
  refine .seq ?_
  refine .seq ?_
  refine .plain rfl ?_
  refine .q rfl rfl rfl (val_fieldAddr rfl fa_26_0) ?_
  refine .qs rfl rfl rfl H1 (ld_b rfl ob_3 (.own .here) rfl) ?_
  refine .call1 rfl rfl rfl en97 (.cons rfl (.cons rfl (.cons rfl .nil))) (within_spec _ _ _) H1 .nil .nil (fun w2 H2 => ⟨fun _ => trivial, ?_⟩)
  refine .q rfl rfl rfl (val_not rfl rfl) ?_
  refine .q rfl rfl rfl (val_move rfl) ?_
  refine .case (t := 13) rfl (fun hs13 => ?_) (fun hs13 => ?_)
  · exfalso; simp [withinB] at hs13; omega
  · refine .q rfl rfl rfl (val_fieldAddr rfl fa_26_1) ?_
    refine .qs rfl rfl rfl H2 (ld_b rfl ob_3 (.own .here) rfl) ?_
    refine .call1 rfl rfl rfl en97 (.cons rfl (.cons rfl (.cons rfl .nil))) (within_spec _ _ _) H2 .nil .nil (fun w3 H3 => ⟨fun _ => trivial, ?_⟩)
    refine .q rfl rfl rfl (val_not rfl rfl) ?_
    refine .q rfl rfl rfl (val_pick_f rfl rfl) ?_
    refine .q rfl rfl rfl (val_move rfl) ?_
    refine .case (t := 19) rfl (fun hs19 => ?_) (fun hs19 => ?_)
    · exfalso; simp [withinB] at hs19; omega
    · refine .q rfl rfl rfl (val_fieldAddr rfl fa_26_4) ?_
      refine .qs rfl rfl rfl H3 (ld_b rfl ob_22 (.own .here) rfl) ?_
      refine .q rfl rfl rfl (val_len Tryz.underlying22 rfl) ?_
      refine .q rfl rfl rfl (val_gtr rfl rfl rfl) ?_
      refine .q rfl rfl rfl (val_pick_f rfl rfl) ?_
      refine .q rfl rfl rfl (val_move rfl) ?_
      refine .case (t := 25) rfl (fun hs25 => ?_) (fun hs25 => ?_)
      · exfalso; simp at hs25; omega
      · refine .q rfl rfl rfl (val_fieldAddr rfl fa_26_3) ?_
        refine .qs rfl rfl rfl H3 (ld_b rfl ob_22 (.own .here) rfl) ?_
        refine .q rfl rfl rfl (val_len Tryz.underlying22 rfl) ?_
        refine .q rfl rfl rfl (val_fieldAddr rfl fa_26_0) ?_
        refine .qs rfl rfl rfl H3 (ld_b rfl ob_3 (.own .here) rfl) ?_
        refine .q rfl rfl rfl (val_fieldAddr rfl fa_26_1) ?_
        refine .qs rfl rfl rfl H3 (ld_b rfl ob_3 (.own .here) rfl) ?_
        refine .q rfl rfl rfl (val_mul rfl rfl hwh) ?_
        refine .q rfl rfl rfl (val_gtr rfl rfl rfl) ?_
        refine .q rfl rfl rfl (val_pick_f rfl rfl) ?_
        refine .nil (cj ?_)
        refine .cond rfl (fun hc0 => ?_) (fun hc0 => ?_)
        · exfalso; have h9 := of_decide_eq_true hc0; omega
        · refine .skip (cj ?_)
          refine .seq ?_
          refine .drawS 13 (.cons (0, true) (.cons (1, true) (.cons (2, true) (.cons (3, true) (.cons (4, true) (.cons (5, true) (.cons (6, true) (.cons (7, true) (.cons (8, true) (.cons (9, false) (.cons (10, true) (.cons (11, false) (.cons (12, true) .nil))))))))))))) mo (by kernel_rfl) H3 (fun _ _ _ _ _ h => h) (fun w4 H4 => ?_)
          refine .p rfl rfl rfl (val_fieldAddr rfl fa_26_0) ?_
          refine .ps rfl rfl rfl rfl (ld_b rfl ob_3 (.own .here) rfl) ?_
          refine .p rfl rfl rfl (val_fieldAddr rfl fa_26_1) ?_
          refine .ps rfl rfl rfl rfl (ld_b rfl ob_3 (.own .here) rfl) ?_
          refine .p rfl rfl rfl (val_fieldAddr rfl fa_26_0) ?_
          refine .ps rfl rfl rfl rfl (ld_b rfl ob_3 (.own .here) rfl) ?_
          refine .p rfl rfl rfl (val_fieldAddr rfl fa_26_1) ?_
          refine .ps rfl rfl rfl rfl (ld_b rfl ob_3 (.own .here) rfl) ?_
          refine .p rfl rfl rfl (val_mul rfl rfl hwh) ?_
          refine .mk rfl rfl rfl ap_27 ze_3 rfl rfl (Nat.le_refl _) (by omega) (by simp only [maxLen]; omega) (made_one _ _) H4 (fun w5 b5 H5 => ⟨fun _ => (H5.sub (.cons (.there .here) .nil)), ?_⟩)
          refine .p rfl rfl rfl (val_mk (.cons rfl (.cons rfl (.cons rfl .nil))) (mk_183_0_1_2 _ _ _ _ _)) ?_
          refine .box rfl rfl rfl rfl rfl H5 (fun w6 b6 H6 => ⟨fun _ => (H6.sub (.cons (.there (.there .here)) .nil)), ?_⟩)
          refine .p rfl rfl rfl (val_assign rfl) ?_
          refine .nil (cj ?_)
          refine .seq ?_
          refine .plain rfl ?_
          refine .q rfl rfl rfl (val_fieldAddr rfl fa_26_0) ?_
          refine .qs rfl rfl rfl H6 (ld_b rfl ob_3 (.own (.there (.there .here))) rfl) ?_
          refine .q rfl rfl rfl (val_fieldAddr rfl fa_26_1) ?_
          refine .qs rfl rfl rfl H6 (ld_b rfl ob_3 (.own (.there (.there .here))) rfl) ?_
          refine .q rfl rfl rfl (val_mul rfl rfl hwh) ?_
          refine .mk rfl rfl rfl ap_193 ze_4 rfl rfl (Nat.le_refl _) (by omega) (by simp only [maxLen]; omega) (made_one _ _) H6 (fun w7 b7 H7 => ⟨fun _ => trivial, ?_⟩)
          refine .q rfl rfl rfl (val_assign rfl) ?_
          refine .nil (cj ?_)
          refine .seq ?_
          refine .seq ?_
          refine .drawS 8 (.cons (0, true) (.cons (1, true) (.cons (3, true) (.cons (4, true) (.cons (7, true) (.cons (2, false) (.cons (5, false) (.cons (6, true) .nil)))))))) mo (by kernel_rfl) H7 (fun _ _ _ _ _ h => h) (fun w8 H8 => ?_)
          refine .p rfl rfl rfl (val_fieldAddr rfl fa_26_3) ?_
          refine .ps rfl rfl rfl rfl (ld_b rfl ob_22 (.own (.there (.there (.there .here)))) rfl) ?_
          refine .p rfl rfl rfl (val_fieldAddr rfl fa_26_4) ?_
          refine .ps rfl rfl rfl rfl (ld_b rfl ob_22 (.own (.there (.there (.there .here)))) rfl) ?_
          refine .p rfl rfl rfl (val_move rfl) ?_
          refine .callx rfl rfl rfl en118 (.cons rfl .nil) (listC_spec _ _ _ (by omega) (by assumption)) H8 .nil (.ro .here .nil) (fun v9 w9 C9 H9 => ⟨fun _ => (H9.sub (.cons (.there .here) (.cons (.there .here) (.cons (.there .here) (.cons (.there .here) .nil))))), ?_⟩)
          refine .append rfl rfl rfl (ap_22) rfl rfl H9 .here (Has.srcArr (.ro (.there .here)) hpn H9) (flat_len encC_len _) one_encC (by simp only [maxLen]; omega) (by first | omega | (dsimp only; omega)) (fun v10 w10 H10 => ⟨fun _ => (H10.sub (.cons (.there .here) (.cons (.there .here) (.cons (.there .here) (.cons (.there .here) .nil))))), ?_⟩)
          obtain ⟨A9, cap9, hv9, hn9, H11⟩ := St.rowArr H10 .here
          rw [hv9]
          refine .p rfl rfl rfl (val_len Tryz.underlying22 rfl) ?_
          refine .nil (cj ?_)
          refine .block ?_
          refine .loop (ι := Nat) (fun j => [(1, ptr b1), (4, ptr b6), (5, .slice (some ⟨b7, 0, none⟩) (area c) (area c)), (59, .slice A9 (c.blocked.length + c.ports.length) cap9), (60, i64 ((c.blocked.length + c.ports.length : Nat) : Int)), (61, i64 (j : Int))]) (fun j w' => St w w' X [arr A9 ((items c).flatMap encC), cb c, cp c] [gblk b6 (some ⟨b5, 0, none⟩) (area c) ⟨c.w, c.h, layK c j⟩, kblk b5 (layK c j), sblk b7 (seenK c j), blk b1 (encCf c) 26] ∧ j ≤ (items c).length) (fun j => (items c).length - j) 0 (by repeat (first | exact Pick.nil | refine Pick.cons rfl ?_)) ⟨by rw [show (items c).flatMap encC = c.blocked.flatMap encC ++ c.ports.flatMap encC from List.flatMap_append]; exact stF (lay0 c b5 b6 b7) (H11.sub (.cons (.there .here) (.cons (.there .here) (.cons .here (.cons .here .nil))))), Nat.zero_le _⟩ ?_
          rintro j w7 ⟨H12, hj⟩
          refine .seq ?_
          refine .plain rfl ?_
          refine .q rfl rfl rfl (val_lss rfl rfl rfl) ?_
          refine .nil (cj ?_)
          refine .seq ?_
          refine .cond rfl (fun hc1 => ?_) (fun hc1 => ?_)
          · have hjl2 : j < c.blocked.length + c.ports.length := by simp only [decide_eq_true_eq] at hc1; omega
            have hjl : j < (items c).length := by simp only [List.length_append]; omega
            have hx := getD_get hjl ⟨0, 0⟩
            obtain ⟨b, o, hB⟩ := Has.base (.ro .here) H12 (nil_of_flat encC_len (by decide) hjl)
            have hin := items_in hm hx
            obtain ⟨hlt, hnb⟩ := numI_lt hn hin
            have hnum := hnb (layK c j) (layK_len c j)
            have hsn := seen_no hm hx hlt
            have hlts : numI c ((items c).getD j ⟨0, 0⟩) < (seenK c j).length := by rw [seenK_len]; exact hlt
            have hltk : numI c ((items c).getD j ⟨0, 0⟩) < (layK c j).length := by rw [layK_len]; exact hlt
            refine .skip (cj ?_)
            refine .seq ?_
            refine .block ?_
            refine .seq ?_
            refine .plain rfl ?_
            refine .q rfl rfl rfl (val_move rfl) ?_
            refine .q rfl rfl rfl (val_ix el_22 hB rfl rfl rfl hjl2) ?_
            refine .qs rfl rfl rfl H12 (ld_ela rfl ag_38 .base hB (.ro .here) encC_len (by first | assumption | rfl)) ?_
            refine .alloc rfl rfl rfl ze_38 rfl H12 (fun w13 b13 H13 => ⟨fun _ => trivial, ?_⟩)
            refine .q rfl rfl rfl (val_assign rfl) ?_
            refine .store rfl rfl rfl rfl rfl sz_38 rfl H13 .here (by repeat constructor) (fun w14 H14 => ⟨fun _ => trivial, ?_⟩)
            refine .nil (cj ?_)
            refine .seq ?_
            refine .plain rfl ?_
            refine .q rfl rfl rfl (val_move rfl) ?_
            refine .qs rfl rfl rfl H14 (ld_w rfl ag_38 (.own .here) rfl) ?_
            refine .call1 rfl rfl rfl en86 (.cons rfl (.cons rfl .nil)) (number_spec _ _ _ _ _) H14 .nil (.own (.there .here) .nil) (fun w15 H15 => ⟨fun _ => trivial, ?_⟩)
            refine .q rfl rfl rfl (val_assign rfl) ?_
            refine .nil (cj ?_)
            refine .seq ?_
            refine .seq ?_
            refine .plain rfl ?_
            refine .q rfl rfl rfl (val_move rfl) ?_
            refine .q rfl rfl rfl (val_lss rfl rfl rfl) ?_
            refine .q rfl rfl rfl (val_move rfl) ?_
            refine .case (t := 71) rfl (fun hs71 => ?_) (fun hs71 => ?_)
            · exfalso; rw [hnum] at hs71; simp at hs71; omega
            · refine .q rfl rfl rfl (val_move rfl) ?_
              refine .q rfl rfl rfl (val_move rfl) ?_
              refine .q rfl rfl rfl (val_ix el_193 rfl rfl rfl hnum hlt) ?_
              refine .qs rfl rfl rfl H15 (ld_b rfl ob_4 (.own (.there (.there (.there .here)))) (ix_map (by first | assumption | rfl))) ?_
              refine .q rfl rfl rfl (val_pick_f rfl rfl) ?_
              refine .nil (cj ?_)
              refine .cond rfl (fun hc2 => ?_) (fun hc2 => ?_)
              · cases hc2
              · refine .skip (cj ?_)
                refine .seq ?_
                refine .plain rfl ?_
                refine .q rfl rfl rfl (val_move rfl) ?_
                refine .q rfl rfl rfl (val_move rfl) ?_
                refine .q rfl rfl rfl (val_ix el_193 rfl rfl rfl hnum hlt) ?_
                refine .store rfl rfl rfl rfl rfl sz_4 rfl H15 (.there (.there (.there .here))) (Spl_set hlts) (fun w16 H16 => ⟨fun _ => trivial, ?_⟩)
                refine .nil (cj ?_)
                refine .seq ?_
                refine .plain rfl ?_
                refine .q rfl rfl rfl (val_move rfl) ?_
                refine .q rfl rfl rfl (val_nilCheck rfl) ?_
                refine .q rfl rfl rfl (val_fieldAddr rfl fa_183_2) ?_
                refine .qs rfl rfl rfl H16 (ld_b rfl ob_27 (.own (.there (.there .here))) rfl) ?_
                refine .q rfl rfl rfl (val_move rfl) ?_
                refine .q rfl rfl rfl (val_ix el_27 rfl rfl rfl hnum hltk) ?_
                refine .store rfl rfl rfl rfl rfl sz_3 rfl H16 (.there (.there (.there .here))) (Spl_set hltk) (fun w17 H17 => ⟨fun _ => trivial, ?_⟩)
                refine .nil (cj ?_)
                refine .seq ?_
                refine .plain rfl ?_
                refine .q rfl rfl rfl (val_move rfl) ?_
                refine .q rfl rfl rfl (val_fieldAddr rfl fa_26_3) ?_
                refine .qs rfl rfl rfl H17 (ld_b rfl ob_22 (.own (.there (.there (.there (.there .here))))) rfl) ?_
                refine .q rfl rfl rfl (val_len Tryz.underlying22 rfl) ?_
                refine .q rfl rfl rfl (val_geq rfl rfl rfl) ?_
                refine .nil (cj ?_)
                refine .cond rfl (fun hc3 => ?_) (fun hc3 => ?_)
                · have hge := of_decide_eq_true hc3
                  have hstep := lay_p (b5 := b5) (b6 := b6) (b7 := b7) hx (by omega)
                  refine .drawS 12 (.cons (0, true) (.cons (1, true) (.cons (2, true) (.cons (3, true) (.cons (4, true) (.cons (5, true) (.cons (6, true) (.cons (7, true) (.cons (8, true) (.cons (9, true) (.cons (10, true) (.cons (11, true) (.cons (12, false) .nil))))))))))))) mo (by kernel_rfl) H17 (fun _ _ _ _ _ h => h) (fun w18 H18 => ?_)
                  refine .p rfl rfl rfl (val_move rfl) ?_
                  refine .p rfl rfl rfl (val_nilCheck rfl) ?_
                  refine .p rfl rfl rfl (val_fieldAddr rfl fa_183_2) ?_
                  refine .ps rfl rfl rfl rfl (ld_b rfl ob_27 (.own (.there (.there (.there .here)))) rfl) ?_
                  refine .p rfl rfl rfl (val_move rfl) ?_
                  refine .p rfl rfl rfl (val_move rfl) ?_
                  refine .p rfl rfl rfl (val_fieldAddr rfl fa_26_3) ?_
                  refine .ps rfl rfl rfl rfl (ld_b rfl ob_22 (.own (.there (.there (.there (.there .here))))) rfl) ?_
                  refine .p rfl rfl rfl (val_len Tryz.underlying22 rfl) ?_
                  refine .p rfl rfl rfl (val_sub rfl rfl (w64_of (by omega))) ?_
                  refine .p rfl rfl rfl (val_add rfl rfl (w64_of (by omega))) ?_
                  refine .p rfl rfl rfl (val_ix el_27 rfl rfl rfl hnum hltk) ?_
                  refine .store rfl rfl rfl rfl rfl sz_3 rfl H18 .here (Spl_set (by rw [List.length_set]; exact hltk)) (fun w19 H19 => ⟨fun h => absurd h (by decide), ?_⟩)
                  refine .nil (cj ?_)
                  refine .plain rfl ?_
                  refine .q rfl rfl rfl (val_add rfl rfl (z := ((j + 1 : Nat) : Int)) (w64_of (by omega))) ?_
                  refine .q rfl rfl rfl (val_move rfl) ?_
                  refine .nil ?_
                  intro act0 hact0; change Exists _
                  refine ⟨(j + 1), Pick.kn (by repeat (first | exact Pick.nil | refine Pick.cons rfl ?_)) hact0, ⟨stF hstep (H19.sub (.cons (.there (.there (.there .here))) (.cons .here (.cons .here (.cons (.there .here) .nil))))), hjl⟩, (by omega)⟩
                · have hge := of_decide_eq_false hc3
                  have hstep := lay_b (b5 := b5) (b6 := b6) (b7 := b7) hx (by omega)
                  refine .skip (cj ?_)
                  refine .plain rfl ?_
                  refine .q rfl rfl rfl (val_add rfl rfl (z := ((j + 1 : Nat) : Int)) (w64_of (by omega))) ?_
                  refine .q rfl rfl rfl (val_move rfl) ?_
                  refine .nil ?_
                  intro act0 hact0; change Exists _
                  refine ⟨(j + 1), Pick.kn (by repeat (first | exact Pick.nil | refine Pick.cons rfl ?_)) hact0, ⟨stF hstep (H17.sub (.cons (.there (.there (.there .here))) (.cons .here (.cons .here (.cons (.there .here) .nil))))), hjl⟩, (by omega)⟩
          · have hjl : j = (items c).length := by simp only [decide_eq_false_iff_not] at hc1; simp only [List.length_append] at hj ⊢; omega
            subst hjl
            refine .exit (cj ?_)
            refine .seq ?_
            refine .plain rfl ?_
            refine .q rfl rfl rfl (val_move rfl) ?_
            refine .q rfl rfl rfl (val_assign rfl) ?_
            refine .q rfl rfl rfl (val_assign rfl) ?_
            refine .nil (cj ?_)
            refine .ret (fret (res2 rfl rfl rfl) ?_)
            refine hRR _ _ ⟨_, ⟨⟨b6, b5⟩, rfl, rfl, trivial⟩, (H12.rest (.ro (.there .here) (.ro (.there (.there .here)) .nil))).sub (.cons .here (.cons .here .nil))⟩
end Go.Proofs.YtmbibkifbehgnaaGreatDoor
/-! ## L2: The kinds of cells that laid leaves, in closed form (plain Lean). -/
namespace Go.Proofs.YtmbibkifbehgnaaGreatDoor
open Go Sk
set_option linter.unusedVariables false
set_option linter.unusedSimpArgs false
def cellN (c : Cf) (n : Nat) : Cl := ⟨(n : Int) % c.w, (n : Int) / c.w⟩
/-- a cell's kind behind laid -/
def kA (c : Cf) (x : Cl) : Int := if x ∈ c.blocked then -1 else portFrom c.ports x.x x.y + 1
theorem cellN_in {c : Cf} (hn : NumOk c) {n : Nat} (h : n < area c) : inR c (cellN c n).x (cellN c n).y = true ∧ numI c (cellN c n) = n := by
  obtain ⟨ha, _, _⟩ := area_le hn
  have hw : 0 < c.w := by have := hn.w.1; omega
  have h1 := Int.emod_nonneg (n : Int) (show c.w ≠ 0 by omega)
  have h2 := Int.emod_lt_of_pos (n : Int) hw
  have h3 : (0 : Int) ≤ (n : Int) / c.w := Int.ediv_nonneg (by omega) (by omega)
  have h4 : (n : Int) / c.w < c.h := by
    refine Int.ediv_lt_of_lt_mul hw ?_
    rw [Int.mul_comm]; omega
  have h5 : (n : Int) / c.w * c.w + (n : Int) % c.w = n := by
    have := Int.mul_ediv_add_emod (n : Int) c.w
    rw [Int.mul_comm] at this; exact this
  refine ⟨?_, ?_⟩
  · simp only [inR, cellN, Bool.and_eq_true, decide_eq_true_eq]; exact ⟨⟨⟨decide_eq_true h1, decide_eq_true h3⟩, decide_eq_true h2⟩, decide_eq_true h4⟩
  · unfold numI cellN
    dsimp only
    omega
theorem cellN_num {c : Cf} (hn : NumOk c) {x : Cl} (h : inR c x.x x.y = true) : cellN c (numI c x) = x := by
  have h1 := (numI_lt hn h).1
  have h2 := cellN_in hn h1
  exact numI_inj h2.1 h h2.2
theorem lay_zero (c : Cf) {n : Nat} (hn : n < area c) : ∀ j, (∀ j', j' < j → numI c ((items c).getD j' ⟨0, 0⟩) ≠ n) → (layK c j)[n]? = some 0
  | 0, _ => by simp [layK, hn]
  | j + 1, h => by
    rw [layK, List.getElem?_set_ne (h j (Nat.lt_succ_self _))]
    exact lay_zero c hn j fun j' hj' => h j' (by omega)
theorem lay_val (c : Cf) {n i : Nat} (hn : n < area c) (hi : numI c ((items c).getD i ⟨0, 0⟩) = n) : ∀ j, i < j → (∀ j', i < j' → j' < j → numI c ((items c).getD j' ⟨0, 0⟩) ≠ n) → (layK c j)[n]? = some (valI c i)
  | 0, h, _ => absurd h (Nat.not_lt_zero _)
  | j + 1, h, hl => by
    rcases Nat.lt_or_ge i j with hij | hij
    · rw [layK, List.getElem?_set_ne (hl j hij (Nat.lt_succ_self _))]
      exact lay_val c hn hi j hij fun j' h1 h2 => hl j' h1 (by omega)
    · obtain rfl : i = j := by omega
      rw [layK, hi, List.getElem?_set_self (by rw [layK_len]; exact hn)]
theorem item_ne {c : Cf} (hm : MayOk c) {i j : Nat} (hi : i < (items c).length) (hj : j < (items c).length) (h : i ≠ j) : numI c ((items c).getD i ⟨0, 0⟩) ≠ numI c ((items c).getD j ⟨0, 0⟩) := by
  have h1 := getD_get hi (⟨0, 0⟩ : Cl)
  have h2 := getD_get hj (⟨0, 0⟩ : Cl)
  intro e
  have e2 := numI_inj (items_in hm h1) (items_in hm h2) e
  obtain ⟨_, e3⟩ := List.getElem?_eq_some_iff.1 h1
  obtain ⟨_, e4⟩ := List.getElem?_eq_some_iff.1 h2
  rcases Nat.lt_or_gt_of_ne h with hlt | hlt
  · exact List.pairwise_iff_getElem.1 (items_nodup hm) i j hi hj hlt (by rw [e3, e4, e2])
  · exact List.pairwise_iff_getElem.1 (items_nodup hm) j i hj hi hlt (by rw [e3, e4, e2])
theorem lay_item {c : Cf} (hm : MayOk c) {i : Nat} {x : Cl} (hx : (items c)[i]? = some x) : (layK c (items c).length)[numI c x]? = some (valI c i) := by
  have hi := (List.getElem?_eq_some_iff.1 hx).1
  have e : (items c).getD i ⟨0, 0⟩ = x := by rw [List.getD_eq_getElem?_getD, hx]; rfl
  have hlt := (numI_lt hm.num (items_in hm hx)).1
  refine lay_val c hlt (by rw [e]) _ hi fun j' h1 h2 => ?_
  have := item_ne hm h2 hi (by omega)
  rwa [e] at this
theorem lay_all {c : Cf} (hm : MayOk c) : layK c (items c).length = (List.range (area c)).map fun n => kA c (cellN c n) := by
  apply List.ext_getElem?
  intro n
  by_cases hn : n < area c
  · rw [List.getElem?_map, List.getElem?_range hn]
    obtain ⟨hin, hnum⟩ := cellN_in hm.num hn
    by_cases hb : cellN c n ∈ c.blocked
    · obtain ⟨i, hi⟩ := List.getElem?_of_mem hb
      have hil := (List.getElem?_eq_some_iff.1 hi).1
      have h1 := lay_item hm (i := i) (x := cellN c n) (by rw [List.getElem?_append_left hil, hi])
      rw [hnum] at h1
      rw [h1, valI, if_pos hil]
      simp [kA, hb]
    · by_cases hp : cellN c n ∈ c.ports
      · obtain ⟨i, hi⟩ := List.getElem?_of_mem hp
        have hil := (List.getElem?_eq_some_iff.1 hi).1
        have h1 := lay_item hm (i := c.blocked.length + i) (x := cellN c n) (by rw [List.getElem?_append_right (by omega)]; simpa using hi)
        rw [hnum] at h1
        have hnd := (List.nodup_append.1 (items_nodup hm)).2.1
        have h2 : portFrom c.ports (cellN c n).x (cellN c n).y = (i : Int) := portFrom_some hi rfl fun j hj e => by
          obtain ⟨hjl, e1⟩ := List.getElem?_eq_some_iff.1 e
          obtain ⟨_, e2⟩ := List.getElem?_eq_some_iff.1 hi
          exact List.pairwise_iff_getElem.1 hnd j i hjl hil hj (e1.trans e2.symm)
        rw [h1, valI, if_neg (by omega)]
        simp only [kA, hb, if_false, h2, Option.map_some]
        congr 1; omega
      · have h1 : (layK c (items c).length)[n]? = some 0 := lay_zero c hn _ fun j' hj' e => by
          have h2 := getD_get hj' (⟨0, 0⟩ : Cl)
          have h3 := cellN_num hm.num (items_in hm h2)
          rw [e] at h3
          rw [← h3] at h2
          have := List.mem_of_getElem? h2
          rcases List.mem_append.1 this with h | h
          · exact hb h
          · exact hp h
        rw [h1]
        have h2 : portFrom c.ports (cellN c n).x (cellN c n).y = -1 := portFrom_none fun j hj e => hp (List.mem_of_getElem? e)
        simp [kA, hb, h2]
  · rw [List.getElem?_eq_none (by rw [layK_len]; omega), List.getElem?_eq_none (by simpa using hn)]
end Go.Proofs.YtmbibkifbehgnaaGreatDoor
/-! ## L3: What the grid's robots does to the kinds (plain Lean): how open cells, stack cells and ports of the laid grid are those of the document. -/
namespace Go.Proofs.YtmbibkifbehgnaaGreatDoor
open Go Sk
set_option linter.unusedVariables false
set_option linter.unusedSimpArgs false
/-- kinds, by cell -/
abbrev kinds (c : Cf) (f : Nat → Int) : List Int := (List.range (area c)).map f
theorem kinds_len (c : Cf) (f : Nat → Int) : (kinds c f).length = area c := by simp [kinds]
theorem kinds_get (c : Cf) (f : Nat → Int) {n : Nat} (h : n < area c) : (kinds c f)[n]? = some (f n) := by simp [kinds, List.getElem?_range h]
theorem kinds_set (c : Cf) (f g : Nat → Int) {n : Nat} {v : Int} (h : n < area c) (hv : g n = v) (ho : ∀ m, m < area c → m ≠ n → g m = f m) : (kinds c f).set n v = kinds c g := by
  apply List.ext_getElem?
  intro m
  by_cases hm : m < area c
  · by_cases hmn : m = n
    · subst hmn
      rw [List.getElem?_set_self (by rw [kinds_len]; exact hm), kinds_get c g hm, hv]
    · rw [List.getElem?_set_ne (by omega), kinds_get c f hm, kinds_get c g hm, ho m hm hmn]
  · rw [List.getElem?_eq_none (by rw [List.length_set, kinds_len]; omega), List.getElem?_eq_none (by rw [kinds_len]; omega)]
abbrev flags (c : Cf) (f : Nat → Bool) : List Bool := (List.range (area c)).map f
theorem flags_len (c : Cf) (f : Nat → Bool) : (flags c f).length = area c := by simp [flags]
theorem flags_get (c : Cf) (f : Nat → Bool) {n : Nat} (h : n < area c) : (flags c f)[n]? = some (f n) := by simp [flags, List.getElem?_range h]
theorem flags_set (c : Cf) (f g : Nat → Bool) {n : Nat} {v : Bool} (h : n < area c) (hv : g n = v) (ho : ∀ m, m < area c → m ≠ n → g m = f m) : (flags c f).set n v = flags c g := by
  apply List.ext_getElem?
  intro m
  by_cases hm : m < area c
  · by_cases hmn : m = n
    · subst hmn
      rw [List.getElem?_set_self (by rw [flags_len]; exact hm), flags_get c g hm, hv]
    · rw [List.getElem?_set_ne (by omega), flags_get c f hm, flags_get c g hm, ho m hm hmn]
  · rw [List.getElem?_eq_none (by rw [List.length_set, flags_len]; omega), List.getElem?_eq_none (by rw [flags_len]; omega)]
/-- kinds are told blocked where the config says so -/
structure KRel (c : Cf) (K : List Int) : Prop where
  len : K.length = area c
  get : ∀ n, n < area c → ∃ k, K[n]? = some k ∧ (k = -1 ↔ cellN c n ∈ c.blocked)
theorem KRel.ok {c : Cf} {K : List Int} (h : KRel c K) (hn : NumOk c) : Gd.Ok ⟨c.w, c.h, K⟩ := ⟨hn.w.1, hn.w.2, hn.h.1, hn.h.2, by rw [h.len]; exact (area_le hn).1⟩
theorem num_in {c : Cf} {K : List Int} (h : KRel c K) (hn : NumOk c) {x y : Int} (hi : inR c x y = true) : numB ⟨c.w, c.h, K⟩ x y = ((numI c ⟨x, y⟩ : Nat) : Int) := (numI_lt hn hi).2 K h.len
theorem num_out {c : Cf} {K : List Int} (h : KRel c K) (hn : NumOk c) {x y : Int} (hi : inR c x y = false) : numB ⟨c.w, c.h, K⟩ x y = -1 := by
  refine numB_out (h.ok hn) fun hc => ?_
  simp only at hc
  have : inR c x y = true := by simp [inR]; omega
  rw [this] at hi; cases hi
theorem kind_in {c : Cf} {K : List Int} (h : KRel c K) (hn : NumOk c) {x y : Int} (hi : inR c x y = true) {k : Int} (hk : K[numI c ⟨x, y⟩]? = some k) : kindB ⟨c.w, c.h, K⟩ x y = k := by
  have e := num_in h hn hi
  unfold kindB
  rw [e, if_neg (by omega), Int.toNat_natCast, List.getD_eq_getElem?_getD, hk]; rfl
theorem open_eq {c : Cf} {K : List Int} (h : KRel c K) (hn : NumOk c) (x y : Int) : openB ⟨c.w, c.h, K⟩ x y = openR c x y := by
  cases hi : inR c x y with
  | false => simp [openB, openR, num_out h hn hi, hi]
  | true =>
    obtain ⟨hlt, _⟩ := numI_lt hn hi
    obtain ⟨k, hk, hb⟩ := h.get _ hlt
    rw [cellN_num hn (x := ⟨x, y⟩) hi] at hb
    have e := kind_in h hn hi hk
    have e2 := num_in h hn hi
    unfold openB openR
    rw [e, e2, hi]
    by_cases hm : (⟨x, y⟩ : Cl) ∈ c.blocked
    · have hc : 0 < c.blocked.count ⟨x, y⟩ := List.count_pos_iff.2 hm
      have hk1 := hb.2 hm
      simp [hk1]; omega
    · have hc : c.blocked.count ⟨x, y⟩ = 0 := List.count_eq_zero.2 hm
      have hk1 : k ≠ -1 := fun e => hm (hb.1 e)
      simp [hc, hk1]
theorem openR_in {c : Cf} {x y : Int} (h : openR c x y = true) : inR c x y = true := by
  simp only [openR, Bool.and_eq_true] at h; exact h.1
theorem w64_in {c : Cf} (hn : NumOk c) {x y : Int} (h : inR c x y = true) : w64 (x + 0) = x ∧ w64 (y + 0) = y ∧ w64 (x + 1) = x + 1 ∧ w64 (y + 1) = y + 1 := by
  obtain ⟨h1, h2⟩ := inR_iff h
  have := hn.w; have := hn.h
  exact ⟨by rw [Int.add_zero]; exact w64_of (by omega), by rw [Int.add_zero]; exact w64_of (by omega), w64_of (by omega), w64_of (by omega)⟩
theorem cell2_eq {c : Cf} (hn : NumOk c) {p : Ps} (h : inR c p.x p.y = true) : cell2 p = cell2R p := by
  obtain ⟨h1, h2, _, _⟩ := w64_in hn h
  unfold cell2 cell2R
  rw [h1, h2]
theorem fits_eq {c : Cf} {K : List Int} (h : KRel c K) (hn : NumOk c) (p : Ps) : fitsB ⟨c.w, c.h, K⟩ p = fitsR c p := by
  unfold fitsB fitsR
  rw [open_eq h hn]
  cases ho : openR c p.x p.y with
  | false => rfl
  | true => rw [open_eq h hn, cell2_eq hn (openR_in ho)]
/-- a cell's kind behind the first part of robots; done: it was looked at -/
def kM (c : Cf) (done : Bool) (x : Cl) : Int := if (done && (kA c x == 0) && !besideR c x.x x.y) = true then -2 else kA c x
theorem kA_ge {c : Cf} (x : Cl) : kA c x = -1 ∧ x ∈ c.blocked ∨ 0 ≤ kA c x ∧ x ∉ c.blocked := by
  unfold kA
  split
  · exact .inl ⟨rfl, by assumption⟩
  · refine .inr ⟨?_, by assumption⟩
    unfold portFrom
    split <;> omega
theorem kA_port {c : Cf} {x : Cl} (h : 0 < kA c x) : x ∈ c.ports := by
  unfold kA at h
  split at h
  · omega
  · by_cases hp : x ∈ c.ports
    · exact hp
    · rw [portFrom_none fun j hj e => hp (List.mem_of_getElem? e)] at h; omega
theorem kM_blocked {c : Cf} {d : Bool} {x : Cl} : kM c d x = -1 ↔ x ∈ c.blocked := by
  unfold kM
  rcases kA_ge (c := c) x with ⟨h1, h2⟩ | ⟨h1, h2⟩
  · simp [h1, h2]
  · constructor
    · intro h; split at h <;> omega
    · intro h; exact absurd h h2
def kR (c : Cf) (cs : List Cl) (x : Cl) : Int := if x ∈ cs then -2 else kM c true x
theorem kM_rel (c : Cf) (hn : NumOk c) (d : Nat → Bool) : KRel c (kinds c fun n => kM c (d n) (cellN c n)) := ⟨kinds_len c _, fun n h => ⟨_, kinds_get c _ h, kM_blocked⟩⟩
theorem kR_rel (c : Cf) (hn : NumOk c) (cs : List Cl) (h : ∀ x ∈ cs, x ∉ c.blocked) : KRel c (kinds c fun n => kR c cs (cellN c n)) := ⟨kinds_len c _, fun n hlt => ⟨_, kinds_get c _ hlt, by
  unfold kR
  split
  · rename_i hm
    exact ⟨fun e => by omega, fun e => absurd e (h _ hm)⟩
  · exact kM_blocked⟩⟩
theorem beside_of_fits {c : Cf} (hn : NumOk c) {x y : Int} (h : fitsR c ⟨x, y, false⟩ = true ∨ fitsR c ⟨x, y, true⟩ = true) : besideR c x y = true := by
  unfold besideR
  rcases h with h | h
  · simp only [fitsR, cell2R, Bool.and_eq_true] at h
    have := h.2
    simp at this
    simp [this]
  · simp only [fitsR, cell2R, Bool.and_eq_true] at h
    have := h.2
    simp at this
    simp [this]
theorem fits_of_beside {c : Cf} {x y : Int} (ho : openR c x y = true) (h : besideR c x y = true) : fitsR c ⟨x, y, false⟩ = true ∨ fitsR c ⟨x, y, true⟩ = true := by
  unfold besideR at h
  simp only [Bool.or_eq_true] at h
  rcases h with h | h
  · left; simp [fitsR, cell2R, ho, h]
  · right; simp [fitsR, cell2R, ho, h]
end Go.Proofs.YtmbibkifbehgnaaGreatDoor
