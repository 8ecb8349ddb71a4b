/-
  My walks and plain laws, part 2 of 5, joined by a program of my own: R2, R3, R4, R5, R6, R7, SkMk, L1, L2, L3, L4, L5, SkMap, L6, L7, L8.
-/
import Derived.MapKept
import Derived.WideLaws
import Derived.Test.YtmbibkifbehgnaaGreatDoorZ1
namespace Go.Proofs.YtmbibkifbehgnaaGreatDoor
open Go Sk
set_option linter.unusedVariables false
set_option linter.unusedSimpArgs false
theorem fa_26_5 (b o : Nat) (w : World) : (Instr.fieldAt 26 (.pointer (some ⟨b, o, none⟩)) 5).run Tryz.prog w = .ok (.pointer (some ⟨b, o + 5, none⟩)) w := by kernel_rfl
theorem en61 : Enters Tryz.prog 61 := fun args w => by kernel_rfl
theorem en65 : Enters Tryz.prog 65 := fun args w => by kernel_rfl
theorem en66 : Enters Tryz.prog 66 := fun args w => by kernel_rfl
theorem en68 : Enters Tryz.prog 68 := fun args w => by kernel_rfl
theorem en92 : Enters Tryz.prog 92 := fun args w => by kernel_rfl
theorem en113 : Enters Tryz.prog 113 := fun args w => by kernel_rfl
theorem el_23  : elB Tryz.prog 23 3 = true := by kernel_rfl
theorem ob_23  : oneB Tryz.prog 23 = true := by kernel_rfl
def cell2R (p : Ps) : Cl := if p.d then ⟨p.x, w64 (p.y + 1)⟩ else ⟨w64 (p.x + 1), p.y⟩
abbrev cellsL (p : Ps) : List Cl := [⟨p.x, p.y⟩, cell2R p]
theorem cellsR_spec (x y : Int) (d : Bool) : Sk.Spec Tryz.prog 68 #[.agg #[i64 x, i64 y, .bool d]] [] [] fun e F' => ∃ b : Nat, e = .returned (.slice (some ⟨b, 0, none⟩) 2 2) ∧ F' = [blk b ((cellsL ⟨x, y, d⟩).flatMap encC) 38] ∧ True := by
  refine Spec.of_code (vs := [_]) (k0 := [(0, _)]) 27 Tryz.func68 rfl Tryz.ntmps68 rfl (.cons .nil) fun w X RR hRR H => ?_
  refine .seq ?_
  refine .plain rfl ?_
  refine .box rfl rfl rfl rfl rfl H (fun w1 b1 H1 => ⟨fun _ => trivial, ?_⟩)
  refine .q rfl rfl rfl (val_assign rfl) ?_
  refine .nil (cj ?_)
  refine .seq ?_
  refine .seq ?_
  refine .plain rfl ?_
  refine .q rfl rfl rfl (val_fieldAddr rfl fa_40_1) ?_
  refine .qs rfl rfl rfl H1 (ld_b rfl ob_4 (.own .here) rfl) ?_
  refine .nil (cj ?_)
  refine .cond rfl (fun hc0 => ?_) (fun hc0 => ?_)
  · refine .seq ?_
    refine .plain rfl ?_
    refine .q rfl rfl rfl (val_fieldAddr rfl fa_40_0) ?_
    refine .qs rfl rfl rfl H1 (ld_blks rfl ag_38 (.own .here) (by repeat constructor)) ?_
    refine .q rfl rfl rfl (val_fieldAddr rfl fa_40_0) ?_
    refine .q rfl rfl rfl (val_fieldAddr rfl fa_38_0) ?_
    refine .qs rfl rfl rfl H1 (ld_b rfl ob_3 (.own .here) rfl) ?_
    refine .q rfl rfl rfl (val_fieldAddr rfl fa_40_0) ?_
    refine .q rfl rfl rfl (val_fieldAddr rfl fa_38_1) ?_
    refine .qs rfl rfl rfl H1 (ld_b rfl ob_3 (.own .here) rfl) ?_
    refine .q rfl rfl rfl (val_add rfl rfl rfl) ?_
    refine .q rfl rfl rfl (val_mk (.cons rfl (.cons rfl .nil)) (mk_38_0_1 _ _)) ?_
    refine .lit rfl rfl rfl Tryz.underlying22 (.cons rfl (.cons rfl .nil)) (bs_38_2_0_1 _ _ _ _) H1 (fun w2 b2 H2 => ⟨fun _ => trivial, ?_⟩)
    refine .q rfl rfl rfl (val_assign rfl) ?_
    refine .nil (cj ?_)
    refine .ret (fret (res1 rfl rfl) ?_)
    subst hc0; exact hRR _ _ ⟨_, ⟨_, rfl, rfl, trivial⟩, H2.sub (.cons .here .nil)⟩
  · refine .skip (cj ?_)
    refine .seq ?_
    refine .plain rfl ?_
    refine .q rfl rfl rfl (val_fieldAddr rfl fa_40_0) ?_
    refine .qs rfl rfl rfl H1 (ld_blks rfl ag_38 (.own .here) (by repeat constructor)) ?_
    refine .q rfl rfl rfl (val_fieldAddr rfl fa_40_0) ?_
    refine .q rfl rfl rfl (val_fieldAddr rfl fa_38_0) ?_
    refine .qs rfl rfl rfl H1 (ld_b rfl ob_3 (.own .here) rfl) ?_
    refine .q rfl rfl rfl (val_add rfl rfl rfl) ?_
    refine .q rfl rfl rfl (val_fieldAddr rfl fa_40_0) ?_
    refine .q rfl rfl rfl (val_fieldAddr rfl fa_38_1) ?_
    refine .qs rfl rfl rfl H1 (ld_b rfl ob_3 (.own .here) rfl) ?_
    refine .q rfl rfl rfl (val_mk (.cons rfl (.cons rfl .nil)) (mk_38_0_1 _ _)) ?_
    refine .lit rfl rfl rfl Tryz.underlying22 (.cons rfl (.cons rfl .nil)) (bs_38_2_0_1 _ _ _ _) H1 (fun w3 b3 H3 => ⟨fun _ => trivial, ?_⟩)
    refine .q rfl rfl rfl (val_assign rfl) ?_
    refine .nil (cj ?_)
    refine .ret (fret (res1 rfl rfl) ?_)
    subst hc0; exact hRR _ _ ⟨_, ⟨_, rfl, rfl, trivial⟩, H3.sub (.cons .here .nil)⟩
def besideR (c : Cf) (x y : Int) : Bool := openR c (w64 (x + 1)) y || openR c x (w64 (y + 1))
theorem besideR_spec (c : Cf) (hc : c.Fit) (x y : Int) : Sk.Spec Tryz.prog 66 #[.agg (encCf c).toArray, .agg #[i64 x, i64 y]] [cb c] [] fun e F' => e = .returned (.bool (besideR c x y)) ∧ F' = [] := by
  refine Spec.of_code (vs := [_, _]) (k0 := [(0, _), (1, _)]) 23 Tryz.func66 rfl Tryz.ntmps66 rfl (.cons (.cons .nil)) fun w X RR hRR H => ?_
  refine .seq ?_
  refine .plain rfl ?_
  refine .box rfl rfl rfl rfl rfl H (fun w1 b1 H1 => ⟨fun _ => trivial, ?_⟩)
  refine .box rfl rfl rfl rfl rfl H1 (fun w2 b2 H2 => ⟨fun _ => trivial, ?_⟩)
  refine .q rfl rfl rfl (val_assign rfl) ?_
  refine .nil (cj ?_)
  refine .seq ?_
  refine .plain rfl ?_
  refine .qs rfl rfl rfl H2 (ld_w rfl ag_26 (.own (.there .here)) rfl) ?_
  refine .q rfl rfl rfl (val_fieldAddr rfl fa_38_0) ?_
  refine .qs rfl rfl rfl H2 (ld_b rfl ob_3 (.own .here) rfl) ?_
  refine .q rfl rfl rfl (val_add rfl rfl rfl) ?_
  refine .q rfl rfl rfl (val_fieldAddr rfl fa_38_1) ?_
  refine .qs rfl rfl rfl H2 (ld_b rfl ob_3 (.own .here) rfl) ?_
  refine .q rfl rfl rfl (val_mk (.cons rfl (.cons rfl .nil)) (mk_38_0_1 _ _)) ?_
  refine .call1 rfl rfl rfl en61 (.cons rfl (.cons rfl .nil)) (openR_spec _ (by assumption) _ _) H2 .nil (.ro .here .nil) (fun w3 H3 => ⟨fun _ => trivial, ?_⟩)
  refine .q rfl rfl rfl (val_move rfl) ?_
  refine .case (t := 13) rfl (fun hs13 => ?_) (fun hs13 => ?_)
  · refine .no rfl rfl rfl ?_
    refine .no rfl rfl rfl ?_
    refine .no rfl rfl rfl ?_
    refine .no rfl rfl rfl ?_
    refine .no rfl rfl rfl ?_
    refine .no rfl rfl rfl ?_
    refine .no rfl rfl rfl ?_
    refine .no rfl rfl rfl ?_
    refine .q rfl rfl rfl (val_pick_t rfl rfl) ?_
    refine .q rfl rfl rfl (val_assign rfl) ?_
    refine .nil (cj ?_)
    refine .ret (fret (res1 rfl rfl) ?_)
    refine hRR _ _ ⟨_, ⟨?_, rfl⟩, H3.sub .nil⟩
    simp_all [besideR]
  · refine .qs rfl rfl rfl H3 (ld_w rfl ag_26 (.own (.there .here)) rfl) ?_
    refine .q rfl rfl rfl (val_fieldAddr rfl fa_38_0) ?_
    refine .qs rfl rfl rfl H3 (ld_b rfl ob_3 (.own .here) rfl) ?_
    refine .q rfl rfl rfl (val_fieldAddr rfl fa_38_1) ?_
    refine .qs rfl rfl rfl H3 (ld_b rfl ob_3 (.own .here) rfl) ?_
    refine .q rfl rfl rfl (val_add rfl rfl rfl) ?_
    refine .q rfl rfl rfl (val_mk (.cons rfl (.cons rfl .nil)) (mk_38_0_1 _ _)) ?_
    refine .call1 rfl rfl rfl en61 (.cons rfl (.cons rfl .nil)) (openR_spec _ (by assumption) _ _) H3 .nil (.ro .here .nil) (fun w4 H4 => ⟨fun _ => trivial, ?_⟩)
    refine .q rfl rfl rfl (val_pick_f rfl rfl) ?_
    refine .q rfl rfl rfl (val_assign rfl) ?_
    refine .nil (cj ?_)
    refine .ret (fret (res1 rfl rfl) ?_)
    refine hRR _ _ ⟨_, ⟨?_, rfl⟩, H4.sub .nil⟩
    simp_all [besideR]
def homeR (c : Cf) (x y : Int) : Bool := c.robots.any fun p => decide (0 < (((cellsL p).count ⟨x, y⟩ : Nat) : Int))
theorem any_snoc {α : Type} {f : α → Bool} {l : List α} {i : Nat} {c : α} (h : (l.take i).any f = false) (hc : l[i]? = some c) (ho : f c = false) : (l.take (i + 1)).any f = false := by
  rw [take_snoc hc]; simp [h, ho]
theorem any_some {α : Type} {f : α → Bool} {l : List α} {i : Nat} {c : α} (hc : l[i]? = some c) (ho : f c = true) : l.any f = true := List.any_eq_true.2 ⟨c, List.mem_of_getElem? hc, ho⟩
theorem homeR_spec (c : Cf) (hc : c.Fit) (x y : Int) : Sk.Spec Tryz.prog 65 #[.agg (encCf c).toArray, .agg #[i64 x, i64 y]] [cr c] [] fun e F' => e = .returned (.bool (homeR c x y)) ∧ F' = [] := by
  have hl := hc.r
  simp only [maxLen] at hl
  refine Spec.of_code (vs := [_, _]) (k0 := [(0, _), (1, _)]) 22 Tryz.func65 rfl Tryz.ntmps65 rfl (.cons (.cons .nil)) fun w X RR hRR H => ?_
  refine .seq ?_
  refine .plain rfl ?_
  refine .box rfl rfl rfl rfl rfl H (fun w1 b1 H1 => ⟨fun _ => trivial, ?_⟩)
  refine .box rfl rfl rfl rfl rfl H1 (fun w2 b2 H2 => ⟨fun _ => trivial, ?_⟩)
  refine .q rfl rfl rfl (val_assign rfl) ?_
  refine .nil (cj ?_)
  refine .seq ?_
  refine .seq ?_
  refine .plain rfl ?_
  refine .q rfl rfl rfl (val_assign rfl) ?_
  refine .nil (cj ?_)
  refine .block ?_
  refine .loop (ι := Nat) (fun i => [(2, ptr b1), (3, ptr b2), (5, i64 (i : Int))]) (fun i w' => St w w' X [cr c] [blk b2 [i64 x, i64 y] 38, blk b1 (encCf c) 26] ∧ i ≤ c.robots.length ∧ (c.robots.take i).any (fun p => decide (0 < (((cellsL p).count ⟨x, y⟩ : Nat) : Int))) = false) (fun i => c.robots.length - i) 0 (by repeat (first | exact Pick.nil | refine Pick.cons rfl ?_)) ⟨H2, Nat.zero_le _, rfl⟩ ?_
  rintro i w5 ⟨H3, hi, hn⟩
  refine .seq ?_
  refine .seq ?_
  refine .plain rfl ?_
  refine .q rfl rfl rfl (val_move rfl) ?_
  refine .q rfl rfl rfl (val_fieldAddr rfl fa_26_5) ?_
  refine .qs rfl rfl rfl H3 (ld_b rfl ob_23 (.own (.there .here)) rfl) ?_
  refine .q rfl rfl rfl (val_len Tryz.underlying23 rfl) ?_
  refine .q rfl rfl rfl (val_lss rfl rfl rfl) ?_
  refine .nil (cj ?_)
  refine .cond rfl (fun hc0 => ?_) (fun hc0 => ?_)
  · have hil : i < c.robots.length := by simp at hc0; exact hc0
    have hx := getD_get hil ⟨0, 0, false⟩
    obtain ⟨b, o, hA⟩ := Has.base (R := [cr c]) (.ro .here) H3 (nil_of_flat encP_len (by decide) hil)
    refine .skip (cj ?_)
    refine .seq ?_
    refine .block ?_
    refine .seq ?_
    refine .drawS 9 (.cons (0, true) (.cons (1, true) (.cons (2, true) (.cons (3, true) (.cons (4, true) (.cons (6, true) (.cons (5, false) (.cons (7, false) (.cons (8, true) .nil))))))))) mo (by kernel_rfl) H3 (fun _ _ _ _ _ h => h) (fun w4 H4 => ?_)
    refine .p rfl rfl rfl (val_fieldAddr rfl fa_26_5) ?_
    refine .ps rfl rfl rfl rfl (ld_b rfl ob_23 (.own (.there .here)) rfl) ?_
    refine .p rfl rfl rfl (val_move rfl) ?_
    refine .p rfl rfl rfl (val_ix el_23 hA rfl rfl rfl hil) ?_
    refine .ps rfl rfl rfl rfl (ld_ela rfl ag_40 .base hA (.ro .here) encP_len (by first | assumption | rfl)) ?_
    refine .ps rfl rfl rfl rfl (ld_w rfl ag_38 (.own .here) rfl) ?_
    refine .callx rfl rfl rfl en68 (.cons rfl .nil) (cellsR_spec _ _ _) H4 .nil .nil (fun b5 w5 C5 H5 => ⟨fun _ => (H5.sub (.cons (.there .here) (.cons (.there .here) .nil))), ?_⟩)
    refine .call1 rfl rfl rfl en64 (.cons rfl (.cons rfl .nil)) (among_spec_b (l := cellsL (c.robots.getD i ⟨0, 0, false⟩)) (by simp [maxLen])) H5 .nil (.own .here .nil) (fun w6 H6 => ⟨fun _ => (H6.sub (.cons (.there .here) (.cons (.there .here) .nil))), ?_⟩)
    refine .p rfl rfl rfl (val_gtr rfl rfl rfl) ?_
    refine .nil (cj ?_)
    refine .cond rfl (fun hc1 => ?_) (fun hc1 => ?_)
    · refine .seq ?_
      refine .plain rfl ?_
      refine .q rfl rfl rfl (val_assign rfl) ?_
      refine .nil (cj ?_)
      refine .ret (fret (res1 rfl rfl) ?_)
      refine hRR _ _ ⟨_, ⟨?_, rfl⟩, H6.sub .nil⟩
      first | (rw [show homeR c x y = true from any_some hx hc1]) | (rw [show homeR c x y = false from hn])
    · refine .skip (cj ?_)
      refine .plain rfl ?_
      refine .q rfl rfl rfl (val_move rfl) ?_
      refine .q rfl rfl rfl (val_add rfl rfl (z := ((i + 1 : Nat) : Int)) (w64_of (by omega))) ?_
      refine .q rfl rfl rfl (val_assign rfl) ?_
      refine .nil ?_
      intro act0 hact0; change Exists _
      refine ⟨(i + 1), Pick.kn (by repeat (first | exact Pick.nil | refine Pick.cons rfl ?_)) hact0, ⟨H6.sub (.cons (.there .here) (.cons (.there .here) .nil)), hil, any_snoc hn hx hc1⟩, (by omega)⟩
  · have hil : i = c.robots.length := by simp at hc0; omega
    subst hil
    rw [List.take_length] at hn
    refine .exit (cj ?_)
    refine .seq ?_
    refine .plain rfl ?_
    refine .q rfl rfl rfl (val_assign rfl) ?_
    refine .nil (cj ?_)
    refine .ret (fret (res1 rfl rfl) ?_)
    refine hRR _ _ ⟨_, ⟨?_, rfl⟩, H3.sub .nil⟩
    first | (rw [show homeR c x y = true from any_some hx hc1]) | (rw [show homeR c x y = false from hn])
def stackedR (c : Cf) (x y : Int) : Bool := openR c x y && decide (portFrom c.ports x y < 0) && (!homeR c x y) && besideR c x y
theorem stackedR_spec (c : Cf) (hc : c.Fit) (x y : Int) : Sk.Spec Tryz.prog 93 #[.agg (encCf c).toArray, .agg #[i64 x, i64 y]] [cb c, cp c, cr c] [] fun e F' => e = .returned (.bool (stackedR c x y)) ∧ F' = [] := by
  refine Spec.of_code (vs := [_, _]) (k0 := [(0, _), (1, _)]) 25 Tryz.func93 rfl Tryz.ntmps93 rfl (.cons (.cons .nil)) fun w X RR hRR H => ?_
  refine .seq ?_
  refine .plain rfl ?_
  refine .box rfl rfl rfl rfl rfl H (fun w1 b1 H1 => ⟨fun _ => trivial, ?_⟩)
  refine .box rfl rfl rfl rfl rfl H1 (fun w2 b2 H2 => ⟨fun _ => trivial, ?_⟩)
  refine .q rfl rfl rfl (val_assign rfl) ?_
  refine .nil (cj ?_)
  refine .seq ?_
  refine .plain rfl ?_
  refine .qs rfl rfl rfl H2 (ld_w rfl ag_26 (.own (.there .here)) rfl) ?_
  refine .qs rfl rfl rfl H2 (ld_w rfl ag_38 (.own .here) rfl) ?_
  refine .call1 rfl rfl rfl en61 (.cons rfl (.cons rfl .nil)) (openR_spec _ (by assumption) _ _) H2 .nil (.ro .here .nil) (fun w3 H3 => ⟨fun _ => trivial, ?_⟩)
  refine .q rfl rfl rfl (val_move rfl) ?_
  refine .case (t := 8) rfl (fun hs8 => ?_) (fun hs8 => ?_)
  · refine .qs rfl rfl rfl H3 (ld_w rfl ag_26 (.own (.there .here)) rfl) ?_
    refine .qs rfl rfl rfl H3 (ld_w rfl ag_38 (.own .here) rfl) ?_
    refine .call1 rfl rfl rfl en113 (.cons rfl (.cons rfl .nil)) (portR_spec _ (by assumption) _ _) H3 .nil (.ro (.there .here) .nil) (fun w4 H4 => ⟨fun _ => trivial, ?_⟩)
    refine .q rfl rfl rfl (val_lss rfl rfl rfl) ?_
    refine .q rfl rfl rfl (val_pick_t rfl rfl) ?_
    refine .q rfl rfl rfl (val_move rfl) ?_
    refine .case (t := 14) rfl (fun hs14 => ?_) (fun hs14 => ?_)
    · refine .qs rfl rfl rfl H4 (ld_w rfl ag_26 (.own (.there .here)) rfl) ?_
      refine .qs rfl rfl rfl H4 (ld_w rfl ag_38 (.own .here) rfl) ?_
      refine .call1 rfl rfl rfl en65 (.cons rfl (.cons rfl .nil)) (homeR_spec _ (by assumption) _ _) H4 .nil (.ro (.there (.there .here)) .nil) (fun w5 H5 => ⟨fun _ => trivial, ?_⟩)
      refine .q rfl rfl rfl (val_not rfl rfl) ?_
      refine .q rfl rfl rfl (val_pick_t rfl rfl) ?_
      refine .q rfl rfl rfl (val_move rfl) ?_
      refine .case (t := 20) rfl (fun hs20 => ?_) (fun hs20 => ?_)
      · refine .qs rfl rfl rfl H5 (ld_w rfl ag_26 (.own (.there .here)) rfl) ?_
        refine .qs rfl rfl rfl H5 (ld_w rfl ag_38 (.own .here) rfl) ?_
        refine .call1 rfl rfl rfl en66 (.cons rfl (.cons rfl .nil)) (besideR_spec _ (by assumption) _ _) H5 .nil (.ro .here .nil) (fun w6 H6 => ⟨fun _ => trivial, ?_⟩)
        refine .q rfl rfl rfl (val_pick_t rfl rfl) ?_
        refine .q rfl rfl rfl (val_assign rfl) ?_
        refine .nil (cj ?_)
        refine .ret (fret (res1 rfl rfl) ?_)
        refine hRR _ _ ⟨_, ⟨?_, rfl⟩, H6.sub .nil⟩
        simp_all [stackedR] <;> (intro hq; omega)
      · refine .no rfl rfl rfl ?_
        refine .no rfl rfl rfl ?_
        refine .no rfl rfl rfl ?_
        refine .q rfl rfl rfl (val_pick_f rfl rfl) ?_
        refine .q rfl rfl rfl (val_assign rfl) ?_
        refine .nil (cj ?_)
        refine .ret (fret (res1 rfl rfl) ?_)
        refine hRR _ _ ⟨_, ⟨?_, rfl⟩, H5.sub .nil⟩
        simp_all [stackedR] <;> (intro hq; omega)
    · refine .no rfl rfl rfl ?_
      refine .no rfl rfl rfl ?_
      refine .no rfl rfl rfl ?_
      refine .no rfl rfl rfl ?_
      refine .q rfl rfl rfl (val_pick_f rfl rfl) ?_
      refine .q rfl rfl rfl (val_move rfl) ?_
      refine .no rfl rfl rfl ?_
      refine .no rfl rfl rfl ?_
      refine .no rfl rfl rfl ?_
      refine .q rfl rfl rfl (val_pick_f rfl rfl) ?_
      refine .q rfl rfl rfl (val_assign rfl) ?_
      refine .nil (cj ?_)
      refine .ret (fret (res1 rfl rfl) ?_)
      refine hRR _ _ ⟨_, ⟨?_, rfl⟩, H4.sub .nil⟩
      simp_all [stackedR] <;> (intro hq; omega)
  · refine .no rfl rfl rfl ?_
    refine .no rfl rfl rfl ?_
    refine .no rfl rfl rfl ?_
    refine .no rfl rfl rfl ?_
    refine .q rfl rfl rfl (val_pick_f rfl rfl) ?_
    refine .q rfl rfl rfl (val_move rfl) ?_
    refine .no rfl rfl rfl ?_
    refine .no rfl rfl rfl ?_
    refine .no rfl rfl rfl ?_
    refine .no rfl rfl rfl ?_
    refine .q rfl rfl rfl (val_pick_f rfl rfl) ?_
    refine .q rfl rfl rfl (val_move rfl) ?_
    refine .no rfl rfl rfl ?_
    refine .no rfl rfl rfl ?_
    refine .no rfl rfl rfl ?_
    refine .q rfl rfl rfl (val_pick_f rfl rfl) ?_
    refine .q rfl rfl rfl (val_assign rfl) ?_
    refine .nil (cj ?_)
    refine .ret (fret (res1 rfl rfl) ?_)
    refine hRR _ _ ⟨_, ⟨?_, rfl⟩, H3.sub .nil⟩
    simp_all [stackedR] <;> (intro hq; omega)
def fitsR (c : Cf) (p : Ps) : Bool := openR c p.x p.y && openR c (cell2R p).x (cell2R p).y
theorem fitsR_spec (c : Cf) (hc : c.Fit) (x y : Int) (d : Bool) : Sk.Spec Tryz.prog 67 #[.agg (encCf c).toArray, .agg #[i64 x, i64 y, .bool d]] [cb c] [] fun e F' => e = .returned (.bool (fitsR c ⟨x, y, d⟩)) ∧ F' = [] := by
  refine Spec.of_code (vs := [_, _]) (k0 := [(0, _), (1, _)]) 20 Tryz.func67 rfl Tryz.ntmps67 rfl (.cons (.cons .nil)) fun w X RR hRR H => ?_
  refine .seq ?_
  refine .plain rfl ?_
  refine .box rfl rfl rfl rfl rfl H (fun w1 b1 H1 => ⟨fun _ => trivial, ?_⟩)
  refine .box rfl rfl rfl rfl rfl H1 (fun w2 b2 H2 => ⟨fun _ => trivial, ?_⟩)
  refine .q rfl rfl rfl (val_assign rfl) ?_
  refine .nil (cj ?_)
  refine .seq ?_
  refine .plain rfl ?_
  refine .qs rfl rfl rfl H2 (ld_w rfl ag_40 (.own .here) rfl) ?_
  refine .callx rfl rfl rfl en68 (.cons rfl .nil) (cellsR_spec _ _ _) H2 .nil .nil (fun b3 w3 C3 H3 => ⟨fun _ => trivial, ?_⟩)
  refine .q rfl rfl rfl (val_assign rfl) ?_
  refine .nil (cj ?_)
  refine .seq ?_
  refine .drawS 13 (.cons (0, true) (.cons (1, true) (.cons (2, true) (.cons (3, true) (.cons (4, false) (.cons (5, true) (.cons (6, true) (.cons (7, true) (.cons (8, true) (.cons (9, true) (.cons (10, false) (.cons (11, true) (.cons (12, true) .nil))))))))))))) mo (by kernel_rfl) H3 (fun _ _ _ _ _ h => h) (fun w4 H4 => ?_)
  refine .ps rfl rfl rfl rfl (ld_w rfl ag_26 (.own (.there (.there .here))) rfl) ?_
  refine .p rfl rfl rfl (val_move rfl) ?_
  refine .p rfl rfl rfl (val_ix el_22 rfl rfl rfl (i := 0) rfl (by decide)) ?_
  refine .ps rfl rfl rfl rfl (ld_blks rfl ag_38 (.own .here) (by repeat constructor)) ?_
  refine .call1 rfl rfl rfl en61 (.cons rfl (.cons rfl .nil)) (openR_spec _ (by assumption) _ _) H4 .nil (.ro .here .nil) (fun w5 H5 => ⟨fun _ => H5, ?_⟩)
  refine .p rfl rfl rfl (val_move rfl) ?_
  refine .case (t := 13) rfl (fun hs13 => ?_) (fun hs13 => ?_)
  · refine .ps rfl rfl rfl rfl (ld_w rfl ag_26 (.own (.there (.there .here))) rfl) ?_
    refine .p rfl rfl rfl (val_move rfl) ?_
    refine .p rfl rfl rfl (val_ix el_22 rfl rfl rfl (i := 1) rfl (by decide)) ?_
    refine .ps rfl rfl rfl rfl (ld_blks rfl ag_38 (.own .here) (by repeat constructor)) ?_
    refine .call1 rfl rfl rfl en61 (.cons rfl (.cons rfl .nil)) (openR_spec _ (by assumption) _ _) H5 .nil (.ro .here .nil) (fun w6 H6 => ⟨fun _ => H6, ?_⟩)
    refine .p rfl rfl rfl (val_pick_t rfl rfl) ?_
    refine .p rfl rfl rfl (val_assign rfl) ?_
    refine .nil (cj ?_)
    refine .ret (fret (res1 rfl rfl) ?_)
    refine hRR _ _ ⟨_, ⟨?_, rfl⟩, H6.sub .nil⟩
    simp_all [fitsR]
  · refine .no rfl rfl rfl ?_
    refine .no rfl rfl rfl ?_
    refine .no rfl rfl rfl ?_
    refine .no rfl rfl rfl ?_
    refine .no rfl rfl rfl ?_
    refine .p rfl rfl rfl (val_pick_f rfl rfl) ?_
    refine .p rfl rfl rfl (val_assign rfl) ?_
    refine .nil (cj ?_)
    refine .ret (fret (res1 rfl rfl) ?_)
    refine hRR _ _ ⟨_, ⟨?_, rfl⟩, H5.sub .nil⟩
    simp_all [fitsR]
def shiftS (p : Ps) (dir n : Int) : Ps :=
  if dir = 0 then ⟨p.x, w64 (p.y - n), p.d⟩ else if dir = 1 then ⟨w64 (p.x + n), p.y, p.d⟩ else if dir = 2 then ⟨p.x, w64 (p.y + n), p.d⟩ else if dir = 3 then ⟨w64 (p.x - n), p.y, p.d⟩ else p
end Go.Proofs.YtmbibkifbehgnaaGreatDoor
namespace Go.Proofs.YtmbibkifbehgnaaGreatDoor
open Go Sk
set_option linter.unusedVariables false
set_option linter.unusedSimpArgs false
theorem en67 : Enters Tryz.prog 67 := fun args w => by kernel_rfl
/-- places 1 to k of a run fit -/
def fitR (c : Cf) (fr : Ps) (dir : Int) : Nat → Bool
  | 0 => true
  | k + 1 => fitR c fr dir k && fitsR c (shiftS fr dir ((k + 1 : Nat) : Int))
def legalR (c : Cf) (m : Mv) : Bool :=
  if fitsR c m.fr = false then false
  else if m.kind = 1 then withinB m.n 1 16 && (withinB m.dir 0 3 && (decide (m.to = shiftS m.fr m.dir m.n) && fitR c m.fr m.dir m.n.toNat))
  else if m.kind = 2 then (squareL m.fr.x m.fr.y).all (fun x => openR c x.x x.y) && ((m.n == 0) && ((m.dir == 0) && decide (m.to = ⟨m.fr.x, m.fr.y, !m.fr.d⟩)))
  else if m.kind = 3 ∨ m.kind = 4 then (m.n == 0) && ((m.dir == 0) && decide (m.to = m.fr)) else false
theorem nf {b : Bool} (h : (!b) = false) : b = true := by simpa using h
theorem nt {b : Bool} (h : (!b) = true) : b = false := by simpa using h
end Go.Proofs.YtmbibkifbehgnaaGreatDoor
namespace Go.Proofs.YtmbibkifbehgnaaGreatDoor
open Go Sk
set_option linter.unusedVariables false
set_option linter.unusedSimpArgs false
theorem sz_42  : (Tryz.prog.info? 42).map (·.size) = some 11 := by kernel_rfl
theorem ze_42  : (Tryz.prog.info? 42).bind (·.zero) = some (.agg (List.toArray [.int .i64 0, .int .i64 0, .int .i64 0, .int .i64 0, .int .i64 0, .bool false, .int .i64 0, .int .i64 0, .bool false, .int .i64 0, .int .i64 0])) := by kernel_rfl
structure MI where
  v : Value
  acc : List Mv
structure MJ where
  i : Nat
  v : Value
  acc : List Mv
end Go.Proofs.YtmbibkifbehgnaaGreatDoor
namespace Go.Proofs.YtmbibkifbehgnaaGreatDoor
open Go Sk
set_option linter.unusedVariables false
set_option linter.unusedSimpArgs false
theorem fa_26_2 (b o : Nat) (w : World) : (Instr.fieldAt 26 (.pointer (some ⟨b, o, none⟩)) 2).run Tryz.prog w = .ok (.pointer (some ⟨b, o + 2, none⟩)) w := by kernel_rfl
theorem fa_26_7 (b o : Nat) (w : World) : (Instr.fieldAt 26 (.pointer (some ⟨b, o, none⟩)) 7).run Tryz.prog w = .ok (.pointer (some ⟨b, o + 7, none⟩)) w := by kernel_rfl
theorem fa_26_8 (b o : Nat) (w : World) : (Instr.fieldAt 26 (.pointer (some ⟨b, o, none⟩)) 8).run Tryz.prog w = .ok (.pointer (some ⟨b, o + 8, none⟩)) w := by kernel_rfl
theorem fa_26_9 (b o : Nat) (w : World) : (Instr.fieldAt 26 (.pointer (some ⟨b, o, none⟩)) 9).run Tryz.prog w = .ok (.pointer (some ⟨b, o + 9, none⟩)) w := by kernel_rfl
theorem fa_26_10 (b o : Nat) (w : World) : (Instr.fieldAt 26 (.pointer (some ⟨b, o, none⟩)) 10).run Tryz.prog w = .ok (.pointer (some ⟨b, o + 10, none⟩)) w := by kernel_rfl
theorem fa_26_11 (b o : Nat) (w : World) : (Instr.fieldAt 26 (.pointer (some ⟨b, o, none⟩)) 11).run Tryz.prog w = .ok (.pointer (some ⟨b, o + 11, none⟩)) w := by kernel_rfl
theorem fa_26_12 (b o : Nat) (w : World) : (Instr.fieldAt 26 (.pointer (some ⟨b, o, none⟩)) 12).run Tryz.prog w = .ok (.pointer (some ⟨b, o + 12, none⟩)) w := by kernel_rfl
theorem fa_26_13 (b o : Nat) (w : World) : (Instr.fieldAt 26 (.pointer (some ⟨b, o, none⟩)) 13).run Tryz.prog w = .ok (.pointer (some ⟨b, o + 13, none⟩)) w := by kernel_rfl
theorem fa_26_14 (b o : Nat) (w : World) : (Instr.fieldAt 26 (.pointer (some ⟨b, o, none⟩)) 14).run Tryz.prog w = .ok (.pointer (some ⟨b, o + 14, none⟩)) w := by kernel_rfl
structure NumOk (c : Cf) : Prop where
  w : 1 ≤ c.w ∧ c.w ≤ 16
  h : 1 ≤ c.h ∧ c.h ≤ 16
  height : 1 ≤ c.height ∧ c.height ≤ 8
  unit : 1 ≤ c.unit ∧ c.unit ≤ 1000
  accel : 1 ≤ c.accel ∧ c.accel ≤ 1000
  speed : 1 ≤ c.speed ∧ c.speed ≤ 1000
  turn : 1 ≤ c.turn ∧ c.turn ≤ 1000
  hoist : 1 ≤ c.hoist ∧ c.hoist ≤ 1000
  resend : 1 ≤ c.resend ∧ c.resend ≤ 1000
  queue : 1 ≤ c.queue ∧ c.queue ≤ 16
  budget : 1 ≤ c.budget ∧ c.budget ≤ 1048576
theorem wi {n a b : Int} (h : withinB n a b = true) : a ≤ n ∧ n ≤ b := by simpa [withinB] using h
/-- an answer of which what 'true' says is known -/
abbrev Says (Q : Prop) : Ending → List As → Prop := fun e F' => ∃ b : Bool, e = .returned (.bool b) ∧ F' = [] ∧ (b = true → Q)
theorem numbersR_spec (c : Cf) : Sk.Spec Tryz.prog 62 #[.agg (encCf c).toArray] [] [] (Says (NumOk c)) := by
  refine Spec.of_code (vs := [_]) (k0 := [(0, _)]) 56 Tryz.func62 rfl Tryz.ntmps62 rfl (.cons .nil) fun w X RR hRR H => ?_
  refine .seq ?_
  refine .plain rfl ?_
  refine .box rfl rfl rfl rfl rfl H (fun w1 b1 H1 => ⟨fun _ => trivial, ?_⟩)
  refine .q rfl rfl rfl (val_assign rfl) ?_
  refine .nil (cj ?_)
  refine .seq ?_
  refine .plain rfl ?_
  refine .q rfl rfl rfl (val_fieldAddr rfl fa_26_0) ?_
  refine .qs rfl rfl rfl H1 (ld_b rfl ob_3 (.own .here) rfl) ?_
  refine .call1 rfl rfl rfl en92 (.cons rfl (.cons rfl (.cons rfl .nil))) (within92_spec _ _ _) H1 .nil .nil (fun w2 H2 => ⟨fun _ => trivial, ?_⟩)
  refine .q rfl rfl rfl (val_move rfl) ?_
  refine .case (t := 6) rfl (fun hs6 => ?_) (fun hs6 => ?_)
  · refine .q rfl rfl rfl (val_fieldAddr rfl fa_26_1) ?_
    refine .qs rfl rfl rfl H2 (ld_b rfl ob_3 (.own .here) rfl) ?_
    refine .call1 rfl rfl rfl en92 (.cons rfl (.cons rfl (.cons rfl .nil))) (within92_spec _ _ _) H2 .nil .nil (fun w3 H3 => ⟨fun _ => trivial, ?_⟩)
    refine .q rfl rfl rfl (val_pick_t rfl rfl) ?_
    refine .q rfl rfl rfl (val_move rfl) ?_
    refine .case (t := 11) rfl (fun hs11 => ?_) (fun hs11 => ?_)
    · refine .q rfl rfl rfl (val_fieldAddr rfl fa_26_2) ?_
      refine .qs rfl rfl rfl H3 (ld_b rfl ob_3 (.own .here) rfl) ?_
      refine .call1 rfl rfl rfl en92 (.cons rfl (.cons rfl (.cons rfl .nil))) (within92_spec _ _ _) H3 .nil .nil (fun w4 H4 => ⟨fun _ => trivial, ?_⟩)
      refine .q rfl rfl rfl (val_pick_t rfl rfl) ?_
      refine .q rfl rfl rfl (val_move rfl) ?_
      refine .case (t := 16) rfl (fun hs16 => ?_) (fun hs16 => ?_)
      · refine .q rfl rfl rfl (val_fieldAddr rfl fa_26_7) ?_
        refine .qs rfl rfl rfl H4 (ld_b rfl ob_3 (.own .here) rfl) ?_
        refine .call1 rfl rfl rfl en92 (.cons rfl (.cons rfl (.cons rfl .nil))) (within92_spec _ _ _) H4 .nil .nil (fun w5 H5 => ⟨fun _ => trivial, ?_⟩)
        refine .q rfl rfl rfl (val_pick_t rfl rfl) ?_
        refine .q rfl rfl rfl (val_move rfl) ?_
        refine .case (t := 21) rfl (fun hs21 => ?_) (fun hs21 => ?_)
        · refine .q rfl rfl rfl (val_fieldAddr rfl fa_26_8) ?_
          refine .qs rfl rfl rfl H5 (ld_b rfl ob_3 (.own .here) rfl) ?_
          refine .call1 rfl rfl rfl en92 (.cons rfl (.cons rfl (.cons rfl .nil))) (within92_spec _ _ _) H5 .nil .nil (fun w6 H6 => ⟨fun _ => trivial, ?_⟩)
          refine .q rfl rfl rfl (val_pick_t rfl rfl) ?_
          refine .q rfl rfl rfl (val_move rfl) ?_
          refine .case (t := 26) rfl (fun hs26 => ?_) (fun hs26 => ?_)
          · refine .q rfl rfl rfl (val_fieldAddr rfl fa_26_9) ?_
            refine .qs rfl rfl rfl H6 (ld_b rfl ob_3 (.own .here) rfl) ?_
            refine .call1 rfl rfl rfl en92 (.cons rfl (.cons rfl (.cons rfl .nil))) (within92_spec _ _ _) H6 .nil .nil (fun w7 H7 => ⟨fun _ => trivial, ?_⟩)
            refine .q rfl rfl rfl (val_pick_t rfl rfl) ?_
            refine .q rfl rfl rfl (val_move rfl) ?_
            refine .case (t := 31) rfl (fun hs31 => ?_) (fun hs31 => ?_)
            · refine .q rfl rfl rfl (val_fieldAddr rfl fa_26_10) ?_
              refine .qs rfl rfl rfl H7 (ld_b rfl ob_3 (.own .here) rfl) ?_
              refine .call1 rfl rfl rfl en92 (.cons rfl (.cons rfl (.cons rfl .nil))) (within92_spec _ _ _) H7 .nil .nil (fun w8 H8 => ⟨fun _ => trivial, ?_⟩)
              refine .q rfl rfl rfl (val_pick_t rfl rfl) ?_
              refine .q rfl rfl rfl (val_move rfl) ?_
              refine .case (t := 36) rfl (fun hs36 => ?_) (fun hs36 => ?_)
              · refine .q rfl rfl rfl (val_fieldAddr rfl fa_26_11) ?_
                refine .qs rfl rfl rfl H8 (ld_b rfl ob_3 (.own .here) rfl) ?_
                refine .call1 rfl rfl rfl en92 (.cons rfl (.cons rfl (.cons rfl .nil))) (within92_spec _ _ _) H8 .nil .nil (fun w9 H9 => ⟨fun _ => trivial, ?_⟩)
                refine .q rfl rfl rfl (val_pick_t rfl rfl) ?_
                refine .q rfl rfl rfl (val_move rfl) ?_
                refine .case (t := 41) rfl (fun hs41 => ?_) (fun hs41 => ?_)
                · refine .q rfl rfl rfl (val_fieldAddr rfl fa_26_13) ?_
                  refine .qs rfl rfl rfl H9 (ld_b rfl ob_3 (.own .here) rfl) ?_
                  refine .call1 rfl rfl rfl en92 (.cons rfl (.cons rfl (.cons rfl .nil))) (within92_spec _ _ _) H9 .nil .nil (fun w10 H10 => ⟨fun _ => trivial, ?_⟩)
                  refine .q rfl rfl rfl (val_pick_t rfl rfl) ?_
                  refine .q rfl rfl rfl (val_move rfl) ?_
                  refine .case (t := 46) rfl (fun hs46 => ?_) (fun hs46 => ?_)
                  · refine .q rfl rfl rfl (val_fieldAddr rfl fa_26_12) ?_
                    refine .qs rfl rfl rfl H10 (ld_b rfl ob_3 (.own .here) rfl) ?_
                    refine .call1 rfl rfl rfl en92 (.cons rfl (.cons rfl (.cons rfl .nil))) (within92_spec _ _ _) H10 .nil .nil (fun w11 H11 => ⟨fun _ => trivial, ?_⟩)
                    refine .q rfl rfl rfl (val_pick_t rfl rfl) ?_
                    refine .q rfl rfl rfl (val_move rfl) ?_
                    refine .case (t := 51) rfl (fun hs51 => ?_) (fun hs51 => ?_)
                    · refine .q rfl rfl rfl (val_fieldAddr rfl fa_26_14) ?_
                      refine .qs rfl rfl rfl H11 (ld_b rfl ob_3 (.own .here) rfl) ?_
                      refine .call1 rfl rfl rfl en92 (.cons rfl (.cons rfl (.cons rfl .nil))) (within92_spec _ _ _) H11 .nil .nil (fun w12 H12 => ⟨fun _ => trivial, ?_⟩)
                      refine .q rfl rfl rfl (val_pick_t rfl rfl) ?_
                      refine .q rfl rfl rfl (val_assign rfl) ?_
                      refine .nil (cj ?_)
                      refine .ret (fret (res1 rfl rfl) ?_)
                      refine hRR _ _ ⟨_, ⟨_, rfl, rfl, fun hh => ?_⟩, H12.sub .nil⟩
                      first | (cases hh; done) | exact ⟨wi hs6, wi hs11, wi hs16, wi hs21, wi hs26, wi hs31, wi hs36, wi hs41, wi hs46, wi hs51, wi hh⟩
                    · refine .no rfl rfl rfl ?_
                      refine .no rfl rfl rfl ?_
                      refine .no rfl rfl rfl ?_
                      refine .q rfl rfl rfl (val_pick_f rfl rfl) ?_
                      refine .q rfl rfl rfl (val_assign rfl) ?_
                      refine .nil (cj ?_)
                      refine .ret (fret (res1 rfl rfl) ?_)
                      refine hRR _ _ ⟨_, ⟨_, rfl, rfl, fun hh => ?_⟩, H11.sub .nil⟩
                      first | (cases hh; done) | exact ⟨wi hs6, wi hs11, wi hs16, wi hs21, wi hs26, wi hs31, wi hs36, wi hs41, wi hs46, wi hs51, wi hh⟩
                  · refine .no rfl rfl rfl ?_
                    refine .no rfl rfl rfl ?_
                    refine .no rfl rfl rfl ?_
                    refine .q rfl rfl rfl (val_pick_f rfl rfl) ?_
                    refine .q rfl rfl rfl (val_move rfl) ?_
                    refine .no rfl rfl rfl ?_
                    refine .no rfl rfl rfl ?_
                    refine .no rfl rfl rfl ?_
                    refine .q rfl rfl rfl (val_pick_f rfl rfl) ?_
                    refine .q rfl rfl rfl (val_assign rfl) ?_
                    refine .nil (cj ?_)
                    refine .ret (fret (res1 rfl rfl) ?_)
                    refine hRR _ _ ⟨_, ⟨_, rfl, rfl, fun hh => ?_⟩, H10.sub .nil⟩
                    first | (cases hh; done) | exact ⟨wi hs6, wi hs11, wi hs16, wi hs21, wi hs26, wi hs31, wi hs36, wi hs41, wi hs46, wi hs51, wi hh⟩
                · refine .no rfl rfl rfl ?_
                  refine .no rfl rfl rfl ?_
                  refine .no rfl rfl rfl ?_
                  refine .q rfl rfl rfl (val_pick_f rfl rfl) ?_
                  refine .q rfl rfl rfl (val_move rfl) ?_
                  refine .no rfl rfl rfl ?_
                  refine .no rfl rfl rfl ?_
                  refine .no rfl rfl rfl ?_
                  refine .q rfl rfl rfl (val_pick_f rfl rfl) ?_
                  refine .q rfl rfl rfl (val_move rfl) ?_
                  refine .no rfl rfl rfl ?_
                  refine .no rfl rfl rfl ?_
                  refine .no rfl rfl rfl ?_
                  refine .q rfl rfl rfl (val_pick_f rfl rfl) ?_
                  refine .q rfl rfl rfl (val_assign rfl) ?_
                  refine .nil (cj ?_)
                  refine .ret (fret (res1 rfl rfl) ?_)
                  refine hRR _ _ ⟨_, ⟨_, rfl, rfl, fun hh => ?_⟩, H9.sub .nil⟩
                  first | (cases hh; done) | exact ⟨wi hs6, wi hs11, wi hs16, wi hs21, wi hs26, wi hs31, wi hs36, wi hs41, wi hs46, wi hs51, wi hh⟩
              · refine .no rfl rfl rfl ?_
                refine .no rfl rfl rfl ?_
                refine .no rfl rfl rfl ?_
                refine .q rfl rfl rfl (val_pick_f rfl rfl) ?_
                refine .q rfl rfl rfl (val_move rfl) ?_
                refine .no rfl rfl rfl ?_
                refine .no rfl rfl rfl ?_
                refine .no rfl rfl rfl ?_
                refine .q rfl rfl rfl (val_pick_f rfl rfl) ?_
                refine .q rfl rfl rfl (val_move rfl) ?_
                refine .no rfl rfl rfl ?_
                refine .no rfl rfl rfl ?_
                refine .no rfl rfl rfl ?_
                refine .q rfl rfl rfl (val_pick_f rfl rfl) ?_
                refine .q rfl rfl rfl (val_move rfl) ?_
                refine .no rfl rfl rfl ?_
                refine .no rfl rfl rfl ?_
                refine .no rfl rfl rfl ?_
                refine .q rfl rfl rfl (val_pick_f rfl rfl) ?_
                refine .q rfl rfl rfl (val_assign rfl) ?_
                refine .nil (cj ?_)
                refine .ret (fret (res1 rfl rfl) ?_)
                refine hRR _ _ ⟨_, ⟨_, rfl, rfl, fun hh => ?_⟩, H8.sub .nil⟩
                first | (cases hh; done) | exact ⟨wi hs6, wi hs11, wi hs16, wi hs21, wi hs26, wi hs31, wi hs36, wi hs41, wi hs46, wi hs51, wi hh⟩
            · refine .no rfl rfl rfl ?_
              refine .no rfl rfl rfl ?_
              refine .no rfl rfl rfl ?_
              refine .q rfl rfl rfl (val_pick_f rfl rfl) ?_
              refine .q rfl rfl rfl (val_move rfl) ?_
              refine .no rfl rfl rfl ?_
              refine .no rfl rfl rfl ?_
              refine .no rfl rfl rfl ?_
              refine .q rfl rfl rfl (val_pick_f rfl rfl) ?_
              refine .q rfl rfl rfl (val_move rfl) ?_
              refine .no rfl rfl rfl ?_
              refine .no rfl rfl rfl ?_
              refine .no rfl rfl rfl ?_
              refine .q rfl rfl rfl (val_pick_f rfl rfl) ?_
              refine .q rfl rfl rfl (val_move rfl) ?_
              refine .no rfl rfl rfl ?_
              refine .no rfl rfl rfl ?_
              refine .no rfl rfl rfl ?_
              refine .q rfl rfl rfl (val_pick_f rfl rfl) ?_
              refine .q rfl rfl rfl (val_move rfl) ?_
              refine .no rfl rfl rfl ?_
              refine .no rfl rfl rfl ?_
              refine .no rfl rfl rfl ?_
              refine .q rfl rfl rfl (val_pick_f rfl rfl) ?_
              refine .q rfl rfl rfl (val_assign rfl) ?_
              refine .nil (cj ?_)
              refine .ret (fret (res1 rfl rfl) ?_)
              refine hRR _ _ ⟨_, ⟨_, rfl, rfl, fun hh => ?_⟩, H7.sub .nil⟩
              first | (cases hh; done) | exact ⟨wi hs6, wi hs11, wi hs16, wi hs21, wi hs26, wi hs31, wi hs36, wi hs41, wi hs46, wi hs51, wi hh⟩
          · refine .no rfl rfl rfl ?_
            refine .no rfl rfl rfl ?_
            refine .no rfl rfl rfl ?_
            refine .q rfl rfl rfl (val_pick_f rfl rfl) ?_
            refine .q rfl rfl rfl (val_move rfl) ?_
            refine .no rfl rfl rfl ?_
            refine .no rfl rfl rfl ?_
            refine .no rfl rfl rfl ?_
            refine .q rfl rfl rfl (val_pick_f rfl rfl) ?_
            refine .q rfl rfl rfl (val_move rfl) ?_
            refine .no rfl rfl rfl ?_
            refine .no rfl rfl rfl ?_
            refine .no rfl rfl rfl ?_
            refine .q rfl rfl rfl (val_pick_f rfl rfl) ?_
            refine .q rfl rfl rfl (val_move rfl) ?_
            refine .no rfl rfl rfl ?_
            refine .no rfl rfl rfl ?_
            refine .no rfl rfl rfl ?_
            refine .q rfl rfl rfl (val_pick_f rfl rfl) ?_
            refine .q rfl rfl rfl (val_move rfl) ?_
            refine .no rfl rfl rfl ?_
            refine .no rfl rfl rfl ?_
            refine .no rfl rfl rfl ?_
            refine .q rfl rfl rfl (val_pick_f rfl rfl) ?_
            refine .q rfl rfl rfl (val_move rfl) ?_
            refine .no rfl rfl rfl ?_
            refine .no rfl rfl rfl ?_
            refine .no rfl rfl rfl ?_
            refine .q rfl rfl rfl (val_pick_f rfl rfl) ?_
            refine .q rfl rfl rfl (val_assign rfl) ?_
            refine .nil (cj ?_)
            refine .ret (fret (res1 rfl rfl) ?_)
            refine hRR _ _ ⟨_, ⟨_, rfl, rfl, fun hh => ?_⟩, H6.sub .nil⟩
            first | (cases hh; done) | exact ⟨wi hs6, wi hs11, wi hs16, wi hs21, wi hs26, wi hs31, wi hs36, wi hs41, wi hs46, wi hs51, wi hh⟩
        · refine .no rfl rfl rfl ?_
          refine .no rfl rfl rfl ?_
          refine .no rfl rfl rfl ?_
          refine .q rfl rfl rfl (val_pick_f rfl rfl) ?_
          refine .q rfl rfl rfl (val_move rfl) ?_
          refine .no rfl rfl rfl ?_
          refine .no rfl rfl rfl ?_
          refine .no rfl rfl rfl ?_
          refine .q rfl rfl rfl (val_pick_f rfl rfl) ?_
          refine .q rfl rfl rfl (val_move rfl) ?_
          refine .no rfl rfl rfl ?_
          refine .no rfl rfl rfl ?_
          refine .no rfl rfl rfl ?_
          refine .q rfl rfl rfl (val_pick_f rfl rfl) ?_
          refine .q rfl rfl rfl (val_move rfl) ?_
          refine .no rfl rfl rfl ?_
          refine .no rfl rfl rfl ?_
          refine .no rfl rfl rfl ?_
          refine .q rfl rfl rfl (val_pick_f rfl rfl) ?_
          refine .q rfl rfl rfl (val_move rfl) ?_
          refine .no rfl rfl rfl ?_
          refine .no rfl rfl rfl ?_
          refine .no rfl rfl rfl ?_
          refine .q rfl rfl rfl (val_pick_f rfl rfl) ?_
          refine .q rfl rfl rfl (val_move rfl) ?_
          refine .no rfl rfl rfl ?_
          refine .no rfl rfl rfl ?_
          refine .no rfl rfl rfl ?_
          refine .q rfl rfl rfl (val_pick_f rfl rfl) ?_
          refine .q rfl rfl rfl (val_move rfl) ?_
          refine .no rfl rfl rfl ?_
          refine .no rfl rfl rfl ?_
          refine .no rfl rfl rfl ?_
          refine .q rfl rfl rfl (val_pick_f rfl rfl) ?_
          refine .q rfl rfl rfl (val_assign rfl) ?_
          refine .nil (cj ?_)
          refine .ret (fret (res1 rfl rfl) ?_)
          refine hRR _ _ ⟨_, ⟨_, rfl, rfl, fun hh => ?_⟩, H5.sub .nil⟩
          first | (cases hh; done) | exact ⟨wi hs6, wi hs11, wi hs16, wi hs21, wi hs26, wi hs31, wi hs36, wi hs41, wi hs46, wi hs51, wi hh⟩
      · refine .no rfl rfl rfl ?_
        refine .no rfl rfl rfl ?_
        refine .no rfl rfl rfl ?_
        refine .q rfl rfl rfl (val_pick_f rfl rfl) ?_
        refine .q rfl rfl rfl (val_move rfl) ?_
        refine .no rfl rfl rfl ?_
        refine .no rfl rfl rfl ?_
        refine .no rfl rfl rfl ?_
        refine .q rfl rfl rfl (val_pick_f rfl rfl) ?_
        refine .q rfl rfl rfl (val_move rfl) ?_
        refine .no rfl rfl rfl ?_
        refine .no rfl rfl rfl ?_
        refine .no rfl rfl rfl ?_
        refine .q rfl rfl rfl (val_pick_f rfl rfl) ?_
        refine .q rfl rfl rfl (val_move rfl) ?_
        refine .no rfl rfl rfl ?_
        refine .no rfl rfl rfl ?_
        refine .no rfl rfl rfl ?_
        refine .q rfl rfl rfl (val_pick_f rfl rfl) ?_
        refine .q rfl rfl rfl (val_move rfl) ?_
        refine .no rfl rfl rfl ?_
        refine .no rfl rfl rfl ?_
        refine .no rfl rfl rfl ?_
        refine .q rfl rfl rfl (val_pick_f rfl rfl) ?_
        refine .q rfl rfl rfl (val_move rfl) ?_
        refine .no rfl rfl rfl ?_
        refine .no rfl rfl rfl ?_
        refine .no rfl rfl rfl ?_
        refine .q rfl rfl rfl (val_pick_f rfl rfl) ?_
        refine .q rfl rfl rfl (val_move rfl) ?_
        refine .no rfl rfl rfl ?_
        refine .no rfl rfl rfl ?_
        refine .no rfl rfl rfl ?_
        refine .q rfl rfl rfl (val_pick_f rfl rfl) ?_
        refine .q rfl rfl rfl (val_move rfl) ?_
        refine .no rfl rfl rfl ?_
        refine .no rfl rfl rfl ?_
        refine .no rfl rfl rfl ?_
        refine .q rfl rfl rfl (val_pick_f rfl rfl) ?_
        refine .q rfl rfl rfl (val_assign rfl) ?_
        refine .nil (cj ?_)
        refine .ret (fret (res1 rfl rfl) ?_)
        refine hRR _ _ ⟨_, ⟨_, rfl, rfl, fun hh => ?_⟩, H4.sub .nil⟩
        first | (cases hh; done) | exact ⟨wi hs6, wi hs11, wi hs16, wi hs21, wi hs26, wi hs31, wi hs36, wi hs41, wi hs46, wi hs51, wi hh⟩
    · refine .no rfl rfl rfl ?_
      refine .no rfl rfl rfl ?_
      refine .no rfl rfl rfl ?_
      refine .q rfl rfl rfl (val_pick_f rfl rfl) ?_
      refine .q rfl rfl rfl (val_move rfl) ?_
      refine .no rfl rfl rfl ?_
      refine .no rfl rfl rfl ?_
      refine .no rfl rfl rfl ?_
      refine .q rfl rfl rfl (val_pick_f rfl rfl) ?_
      refine .q rfl rfl rfl (val_move rfl) ?_
      refine .no rfl rfl rfl ?_
      refine .no rfl rfl rfl ?_
      refine .no rfl rfl rfl ?_
      refine .q rfl rfl rfl (val_pick_f rfl rfl) ?_
      refine .q rfl rfl rfl (val_move rfl) ?_
      refine .no rfl rfl rfl ?_
      refine .no rfl rfl rfl ?_
      refine .no rfl rfl rfl ?_
      refine .q rfl rfl rfl (val_pick_f rfl rfl) ?_
      refine .q rfl rfl rfl (val_move rfl) ?_
      refine .no rfl rfl rfl ?_
      refine .no rfl rfl rfl ?_
      refine .no rfl rfl rfl ?_
      refine .q rfl rfl rfl (val_pick_f rfl rfl) ?_
      refine .q rfl rfl rfl (val_move rfl) ?_
      refine .no rfl rfl rfl ?_
      refine .no rfl rfl rfl ?_
      refine .no rfl rfl rfl ?_
      refine .q rfl rfl rfl (val_pick_f rfl rfl) ?_
      refine .q rfl rfl rfl (val_move rfl) ?_
      refine .no rfl rfl rfl ?_
      refine .no rfl rfl rfl ?_
      refine .no rfl rfl rfl ?_
      refine .q rfl rfl rfl (val_pick_f rfl rfl) ?_
      refine .q rfl rfl rfl (val_move rfl) ?_
      refine .no rfl rfl rfl ?_
      refine .no rfl rfl rfl ?_
      refine .no rfl rfl rfl ?_
      refine .q rfl rfl rfl (val_pick_f rfl rfl) ?_
      refine .q rfl rfl rfl (val_move rfl) ?_
      refine .no rfl rfl rfl ?_
      refine .no rfl rfl rfl ?_
      refine .no rfl rfl rfl ?_
      refine .q rfl rfl rfl (val_pick_f rfl rfl) ?_
      refine .q rfl rfl rfl (val_assign rfl) ?_
      refine .nil (cj ?_)
      refine .ret (fret (res1 rfl rfl) ?_)
      refine hRR _ _ ⟨_, ⟨_, rfl, rfl, fun hh => ?_⟩, H3.sub .nil⟩
      first | (cases hh; done) | exact ⟨wi hs6, wi hs11, wi hs16, wi hs21, wi hs26, wi hs31, wi hs36, wi hs41, wi hs46, wi hs51, wi hh⟩
  · refine .no rfl rfl rfl ?_
    refine .no rfl rfl rfl ?_
    refine .no rfl rfl rfl ?_
    refine .q rfl rfl rfl (val_pick_f rfl rfl) ?_
    refine .q rfl rfl rfl (val_move rfl) ?_
    refine .no rfl rfl rfl ?_
    refine .no rfl rfl rfl ?_
    refine .no rfl rfl rfl ?_
    refine .q rfl rfl rfl (val_pick_f rfl rfl) ?_
    refine .q rfl rfl rfl (val_move rfl) ?_
    refine .no rfl rfl rfl ?_
    refine .no rfl rfl rfl ?_
    refine .no rfl rfl rfl ?_
    refine .q rfl rfl rfl (val_pick_f rfl rfl) ?_
    refine .q rfl rfl rfl (val_move rfl) ?_
    refine .no rfl rfl rfl ?_
    refine .no rfl rfl rfl ?_
    refine .no rfl rfl rfl ?_
    refine .q rfl rfl rfl (val_pick_f rfl rfl) ?_
    refine .q rfl rfl rfl (val_move rfl) ?_
    refine .no rfl rfl rfl ?_
    refine .no rfl rfl rfl ?_
    refine .no rfl rfl rfl ?_
    refine .q rfl rfl rfl (val_pick_f rfl rfl) ?_
    refine .q rfl rfl rfl (val_move rfl) ?_
    refine .no rfl rfl rfl ?_
    refine .no rfl rfl rfl ?_
    refine .no rfl rfl rfl ?_
    refine .q rfl rfl rfl (val_pick_f rfl rfl) ?_
    refine .q rfl rfl rfl (val_move rfl) ?_
    refine .no rfl rfl rfl ?_
    refine .no rfl rfl rfl ?_
    refine .no rfl rfl rfl ?_
    refine .q rfl rfl rfl (val_pick_f rfl rfl) ?_
    refine .q rfl rfl rfl (val_move rfl) ?_
    refine .no rfl rfl rfl ?_
    refine .no rfl rfl rfl ?_
    refine .no rfl rfl rfl ?_
    refine .q rfl rfl rfl (val_pick_f rfl rfl) ?_
    refine .q rfl rfl rfl (val_move rfl) ?_
    refine .no rfl rfl rfl ?_
    refine .no rfl rfl rfl ?_
    refine .no rfl rfl rfl ?_
    refine .q rfl rfl rfl (val_pick_f rfl rfl) ?_
    refine .q rfl rfl rfl (val_move rfl) ?_
    refine .no rfl rfl rfl ?_
    refine .no rfl rfl rfl ?_
    refine .no rfl rfl rfl ?_
    refine .q rfl rfl rfl (val_pick_f rfl rfl) ?_
    refine .q rfl rfl rfl (val_assign rfl) ?_
    refine .nil (cj ?_)
    refine .ret (fret (res1 rfl rfl) ?_)
    refine hRR _ _ ⟨_, ⟨_, rfl, rfl, fun hh => ?_⟩, H2.sub .nil⟩
    first | (cases hh; done) | exact ⟨wi hs6, wi hs11, wi hs16, wi hs21, wi hs26, wi hs31, wi hs36, wi hs41, wi hs46, wi hs51, wi hh⟩
structure BinsOk (c : Cf) : Prop where
  st : ∀ (i : Nat) (s : Sk1), c.stacks[i]? = some s → stackedR c s.x s.y = true ∧ (s.bins.length : Int) ≤ c.height
  apart : ∀ (i k : Nat) (s t : Sk1), k < i → c.stacks[i]? = some s → c.stacks[k]? = some t → (⟨t.x, t.y⟩ : Cl) ≠ ⟨s.x, s.y⟩
  few : (c.stacks.flatMap (·.bins)).length ≤ 512
  num : ∀ (i : Nat) (b : Int), (c.stacks.flatMap (·.bins))[i]? = some b → 1 ≤ b ∧ b ≤ 1000000000
  twice : ∀ (i k : Nat) (a b : Int), k < i → (c.stacks.flatMap (·.bins))[i]? = some a → (c.stacks.flatMap (·.bins))[k]? = some b → b ≠ a
abbrev encI (b : Int) : List Value := [i64 b]
/-- the bins of all stacks -/
def binsA (c : Cf) : As where
  on X w := (∀ s ∈ c.stacks, ∃ Y, (arr s.A (s.bins.flatMap encI)).on Y w ∧ (∀ k, Y k → X k) ∧ (s.A = none → s.bins.length = 0 ∧ s.cap = 0)) ∧ ∀ k, X k → k < w.heap.size
  loc X w w' h hk := ⟨fun s hs => by
    obtain ⟨Y, hY, hs, hn⟩ := h.1 s hs
    exact ⟨Y, (arr s.A _).loc Y w w' hY fun k hk' => hk k (hs k hk'), hs, hn⟩, fun k hx => by
    have h1 := h.2 k hx
    have := hk k hx
    rw [Array.getElem?_eq_getElem h1] at this
    exact (Array.getElem?_eq_some_iff.1 this).1⟩
  lt X w h := h.2
theorem binsA_more {c : Cf} {R R' F : List As} {w0 w : World} {M : Nat → Prop} (hR : At R (binsA c) R') (H : St w0 w M R F) {i : Nat} {s : Sk1} (hs : c.stacks[i]? = some s) : St w0 w M (arr s.A (s.bins.flatMap encI) :: R) F ∧ (s.A = none → s.bins.length = 0 ∧ s.cap = 0) := by
  obtain ⟨⟨X, h1, h2, h3⟩, h4⟩ := H
  obtain ⟨Y, hY, hd⟩ := h2 _ hR.mem
  obtain ⟨Z, hZ, hsub, hn⟩ := hY.1 s (List.mem_of_getElem? hs)
  refine ⟨⟨⟨X, h1, fun r hr => ?_, h3⟩, h4⟩, hn⟩
  rcases List.mem_cons.1 hr with rfl | hr
  · exact ⟨Z, hZ, fun k hk => hd k (hsub k hk)⟩
  · exact h2 r hr
end Go.Proofs.YtmbibkifbehgnaaGreatDoor
namespace Go.Proofs.YtmbibkifbehgnaaGreatDoor
open Go Sk
set_option linter.unusedVariables false
set_option linter.unusedSimpArgs false
theorem fa_26_6 (b o : Nat) (w : World) : (Instr.fieldAt 26 (.pointer (some ⟨b, o, none⟩)) 6).run Tryz.prog w = .ok (.pointer (some ⟨b, o + 6, none⟩)) w := by kernel_rfl
theorem fa_114_0 (b o : Nat) (w : World) : (Instr.fieldAt 114 (.pointer (some ⟨b, o, none⟩)) 0).run Tryz.prog w = .ok (.pointer (some ⟨b, o + 0, none⟩)) w := by kernel_rfl
theorem fa_114_1 (b o : Nat) (w : World) : (Instr.fieldAt 114 (.pointer (some ⟨b, o, none⟩)) 1).run Tryz.prog w = .ok (.pointer (some ⟨b, o + 2, none⟩)) w := by kernel_rfl
theorem en93 : Enters Tryz.prog 93 := fun args w => by kernel_rfl
theorem ap_27  : apB Tryz.prog 27 3 1 8 = true := by kernel_rfl
theorem el_24  : elB Tryz.prog 24 3 = true := by kernel_rfl
theorem ob_24  : oneB Tryz.prog 24 = true := by kernel_rfl
theorem encI_len (b : Int) : (encI b).length = 1 := rfl
structure BI where
  i : Nat
  v : Value
abbrev allTo (c : Cf) (i : Nat) : List Int := (c.stacks.take i).flatMap (·.bins)
theorem allTo_succ {c : Cf} {i : Nat} {s : Sk1} (h : c.stacks[i]? = some s) : allTo c (i + 1) = allTo c i ++ s.bins := by
  simp [allTo, take_snoc h]
theorem one_encI {l : List Int} : ∀ u ∈ l.flatMap encI, u.oneCell' = true := by
  intro u hu
  obtain ⟨b, _, hb⟩ := List.mem_flatMap.1 hu
  obtain rfl : u = i64 b := by simpa using hb
  rfl
theorem snd_lt {i j : Nat} (h : j < i + 1) : j < i ∨ j = i := by omega
theorem binsR_spec (c : Cf) (hc : c.Fit) (hh : c.height ≤ 8) : Sk.Spec Tryz.prog 69 #[.agg (encCf c).toArray] [cb c, cp c, cr c, cs c, binsA c] [] (Says (BinsOk c)) := by
  have hl := hc.s
  simp only [maxLen] at hl
  refine Spec.of_code (vs := [_]) (k0 := [(0, _)]) 95 Tryz.func69 rfl Tryz.ntmps69 rfl (.cons .nil) fun w X RR hRR H => ?_
  refine .seq ?_
  refine .plain rfl ?_
  refine .box rfl rfl rfl rfl rfl H (fun w1 b1 H1 => ⟨fun _ => trivial, ?_⟩)
  refine .q rfl rfl rfl (val_assign rfl) ?_
  refine .nil (cj ?_)
  refine .seq ?_
  refine .plain rfl ?_
  refine .q rfl rfl rfl (val_assign rfl) ?_
  refine .nil (cj ?_)
  refine .seq ?_
  refine .seq ?_
  refine .plain rfl ?_
  refine .q rfl rfl rfl (val_assign rfl) ?_
  refine .nil (cj ?_)
  refine .block ?_
  have H3 := H1.rowNil 3 1
  refine .loop (ι := BI) (fun x => [(1, ptr b1), (3, x.v), (4, i64 (x.i : Int))]) (fun x w' => St w w' X [cb c, cp c, cr c, cs c, binsA c] [row x.v 3 1 (allTo c x.i).length ((allTo c x.i).flatMap encI), blk b1 (encCf c) 26] ∧ x.i ≤ c.stacks.length ∧ x.i ≤ 257 ∧ (allTo c x.i).length ≤ 8 * x.i ∧ (∀ (j : Nat) (s : Sk1), j < x.i → c.stacks[j]? = some s → stackedR c s.x s.y = true ∧ (s.bins.length : Int) ≤ c.height) ∧ (∀ (i k : Nat) (s t : Sk1), i < x.i → k < i → c.stacks[i]? = some s → c.stacks[k]? = some t → (⟨t.x, t.y⟩ : Cl) ≠ ⟨s.x, s.y⟩)) (fun x => c.stacks.length - x.i) ⟨0, .slice none 0 0⟩ (by repeat (first | exact Pick.nil | refine Pick.cons rfl ?_)) ⟨H3.sub (.cons .here (.cons .here .nil)), Nat.zero_le _, Nat.zero_le _, Nat.le_refl _, fun j s hj => absurd hj (Nat.not_lt_zero _), fun i k s t hj => absurd hj (Nat.not_lt_zero _)⟩ ?_
  rintro x w5 ⟨H2, hi, hi257, hlen, hst, hap⟩
  refine .seq ?_
  refine .seq ?_
  refine .plain rfl ?_
  refine .q rfl rfl rfl (val_move rfl) ?_
  refine .q rfl rfl rfl (val_fieldAddr rfl fa_26_6) ?_
  refine .qs rfl rfl rfl H2 (ld_b rfl ob_24 (.own (.there .here)) rfl) ?_
  refine .q rfl rfl rfl (val_len Tryz.underlying24 rfl) ?_
  refine .q rfl rfl rfl (val_lss rfl rfl rfl) ?_
  refine .nil (cj ?_)
  refine .cond rfl (fun hc0 => ?_) (fun hc0 => ?_)
  · have hil : x.i < c.stacks.length := by simp at hc0; exact hc0
    obtain ⟨s, hs⟩ : ∃ s, c.stacks[x.i]? = some s := ⟨_, List.getElem?_eq_getElem hil⟩
    obtain ⟨b, o, hA⟩ := Has.base (.ro (.there (.there (.there .here)))) H2 (nil_of_flat encS_len (by decide) hil)
    obtain ⟨HB, hnil⟩ := binsA_more (.there (.there (.there (.there .here)))) H2 hs
    have hsb : s.bins.length ≤ maxLen := hc.k s (List.mem_of_getElem? hs)
    refine .skip (cj ?_)
    refine .seq ?_
    refine .block ?_
    refine .seq ?_
    refine .seq ?_
    refine .drawS 25 (.cons (0, true) (.cons (1, true) (.cons (2, true) (.cons (3, true) (.cons (4, true) (.cons (5, true) (.cons (6, true) (.cons (7, true) (.cons (8, true) (.cons (9, true) (.cons (10, false) (.cons (11, true) (.cons (12, true) (.cons (13, true) (.cons (14, true) (.cons (15, true) (.cons (16, true) (.cons (17, true) (.cons (18, true) (.cons (19, true) (.cons (20, true) (.cons (21, true) (.cons (22, true) (.cons (23, true) (.cons (24, true) .nil))))))))))))))))))))))))) mo (by kernel_rfl) HB (fun _ _ _ _ _ h => h) (fun w4 H4 => ?_)
    refine .p rfl rfl rfl (val_move rfl) ?_
    refine .p rfl rfl rfl (val_gtr rfl rfl rfl) ?_
    refine .p rfl rfl rfl (val_move rfl) ?_
    refine .case (t := 17) rfl (fun hs17 => ?_) (fun hs17 => ?_)
    · refine .no rfl rfl rfl ?_
      refine .no rfl rfl rfl ?_
      refine .no rfl rfl rfl ?_
      refine .no rfl rfl rfl ?_
      refine .no rfl rfl rfl ?_
      refine .no rfl rfl rfl ?_
      refine .no rfl rfl rfl ?_
      refine .no rfl rfl rfl ?_
      refine .no rfl rfl rfl ?_
      refine .p rfl rfl rfl (val_pick_t rfl rfl) ?_
      refine .p rfl rfl rfl (val_move rfl) ?_
      refine .no rfl rfl rfl ?_
      refine .no rfl rfl rfl ?_
      refine .no rfl rfl rfl ?_
      refine .no rfl rfl rfl ?_
      refine .no rfl rfl rfl ?_
      refine .no rfl rfl rfl ?_
      refine .no rfl rfl rfl ?_
      refine .no rfl rfl rfl ?_
      refine .no rfl rfl rfl ?_
      refine .no rfl rfl rfl ?_
      refine .p rfl rfl rfl (val_pick_t rfl rfl) ?_
      refine .nil (cj ?_)
      refine .cond_t rfl ?_
      refine .seq ?_
      refine .plain rfl ?_
      refine .q rfl rfl rfl (val_assign rfl) ?_
      refine .nil (cj ?_)
      refine .ret (fret (res1 rfl rfl) ?_)
      refine hRR _ _ ⟨_, ⟨_, rfl, rfl, fun hh => ?_⟩, (H4.rest (.ro (.there .here) (.ro (.there (.there .here)) (.ro (.there (.there (.there .here))) (.ro (.there (.there (.there (.there .here)))) (.ro (.there (.there (.there (.there (.there .here))))) .nil)))))).sub .nil⟩
      first | (cases hh; done) | exact ⟨fun i s hs => hst i s (List.getElem?_eq_some_iff.1 hs).1 hs, fun i k s t hk hs ht => hap i k s t (List.getElem?_eq_some_iff.1 hs).1 hk hs ht, hall ▸ hfew, fun i b hb => hnum i b (List.getElem?_eq_some_iff.1 (hall ▸ hb)).1 (hall ▸ hb), fun i k a b hk ha hb => htw i k a b (List.getElem?_eq_some_iff.1 (hall ▸ ha)).1 hk (hall ▸ ha) (hall ▸ hb)⟩
    · refine .ps rfl rfl rfl rfl (ld_w rfl ag_26 (.own (.there .here)) rfl) ?_
      refine .p rfl rfl rfl (val_fieldAddr rfl fa_26_6) ?_
      refine .ps rfl rfl rfl rfl (ld_b rfl ob_24 (.own (.there .here)) rfl) ?_
      refine .p rfl rfl rfl (val_move rfl) ?_
      refine .p rfl rfl rfl (val_ix el_24 hA rfl rfl rfl hil) ?_
      refine .p rfl rfl rfl (val_fieldAddr rfl fa_114_0) ?_
      refine .ps rfl rfl rfl rfl (ld_els rfl ag_38 (.add .base) hA (.ro (.there (.there (.there (.there .here))))) encS_len (by first | assumption | rfl) (by repeat constructor)) ?_
      refine .call1 rfl rfl rfl en93 (.cons rfl (.cons rfl .nil)) (stackedR_spec _ (by assumption) _ _) H4 .nil (.ro (.there .here) (.ro (.there (.there .here)) (.ro (.there (.there (.there .here))) .nil))) (fun w5 H5 => ⟨fun _ => H5, ?_⟩)
      refine .p rfl rfl rfl (val_not rfl rfl) ?_
      refine .p rfl rfl rfl (val_pick_f rfl rfl) ?_
      refine .p rfl rfl rfl (val_move rfl) ?_
      refine .case (t := 28) rfl (fun hs28 => ?_) (fun hs28 => ?_)
      · refine .no rfl rfl rfl ?_
        refine .no rfl rfl rfl ?_
        refine .no rfl rfl rfl ?_
        refine .no rfl rfl rfl ?_
        refine .no rfl rfl rfl ?_
        refine .no rfl rfl rfl ?_
        refine .no rfl rfl rfl ?_
        refine .no rfl rfl rfl ?_
        refine .no rfl rfl rfl ?_
        refine .no rfl rfl rfl ?_
        refine .p rfl rfl rfl (val_pick_t rfl rfl) ?_
        refine .nil (cj ?_)
        refine .cond_t rfl ?_
        refine .seq ?_
        refine .plain rfl ?_
        refine .q rfl rfl rfl (val_assign rfl) ?_
        refine .nil (cj ?_)
        refine .ret (fret (res1 rfl rfl) ?_)
        refine hRR _ _ ⟨_, ⟨_, rfl, rfl, fun hh => ?_⟩, (H5.rest (.ro (.there .here) (.ro (.there (.there .here)) (.ro (.there (.there (.there .here))) (.ro (.there (.there (.there (.there .here)))) (.ro (.there (.there (.there (.there (.there .here))))) .nil)))))).sub .nil⟩
        first | (cases hh; done) | exact ⟨fun i s hs => hst i s (List.getElem?_eq_some_iff.1 hs).1 hs, fun i k s t hk hs ht => hap i k s t (List.getElem?_eq_some_iff.1 hs).1 hk hs ht, hall ▸ hfew, fun i b hb => hnum i b (List.getElem?_eq_some_iff.1 (hall ▸ hb)).1 (hall ▸ hb), fun i k a b hk ha hb => htw i k a b (List.getElem?_eq_some_iff.1 (hall ▸ ha)).1 hk (hall ▸ ha) (hall ▸ hb)⟩
      · refine .p rfl rfl rfl (val_fieldAddr rfl fa_26_6) ?_
        refine .ps rfl rfl rfl rfl (ld_b rfl ob_24 (.own (.there .here)) rfl) ?_
        refine .p rfl rfl rfl (val_move rfl) ?_
        refine .p rfl rfl rfl (val_ix el_24 hA rfl rfl rfl hil) ?_
        refine .p rfl rfl rfl (val_fieldAddr rfl fa_114_1) ?_
        refine .ps rfl rfl rfl rfl (ld_el rfl ob_27 (.add .base) hA (.ro (.there (.there (.there (.there .here))))) encS_len (by first | assumption | rfl) rfl) ?_
        refine .p rfl rfl rfl (val_len Tryz.underlying27 rfl) ?_
        refine .p rfl rfl rfl (val_fieldAddr rfl fa_26_2) ?_
        refine .ps rfl rfl rfl rfl (ld_b rfl ob_3 (.own (.there .here)) rfl) ?_
        refine .p rfl rfl rfl (val_gtr rfl rfl rfl) ?_
        refine .p rfl rfl rfl (val_pick_f rfl rfl) ?_
        refine .nil (cj ?_)
        refine .cond rfl (fun hc1 => ?_) (fun hc1 => ?_)
        · refine .seq ?_
          refine .plain rfl ?_
          refine .q rfl rfl rfl (val_assign rfl) ?_
          refine .nil (cj ?_)
          refine .ret (fret (res1 rfl rfl) ?_)
          refine hRR _ _ ⟨_, ⟨_, rfl, rfl, fun hh => ?_⟩, (H5.rest (.ro (.there .here) (.ro (.there (.there .here)) (.ro (.there (.there (.there .here))) (.ro (.there (.there (.there (.there .here)))) (.ro (.there (.there (.there (.there (.there .here))))) .nil)))))).sub .nil⟩
          first | (cases hh; done) | exact ⟨fun i s hs => hst i s (List.getElem?_eq_some_iff.1 hs).1 hs, fun i k s t hk hs ht => hap i k s t (List.getElem?_eq_some_iff.1 hs).1 hk hs ht, hall ▸ hfew, fun i b hb => hnum i b (List.getElem?_eq_some_iff.1 (hall ▸ hb)).1 (hall ▸ hb), fun i k a b hk ha hb => htw i k a b (List.getElem?_eq_some_iff.1 (hall ▸ ha)).1 hk (hall ▸ ha) (hall ▸ hb)⟩
        · have hi256 : x.i ≤ 256 := by have h1 := of_decide_eq_false hs17; omega
          have hbl : (s.bins.length : Int) ≤ c.height := by have h1 := of_decide_eq_false hc1; omega
          have hst' : ∀ (j : Nat) (s : Sk1), j < x.i + 1 → c.stacks[j]? = some s → stackedR c s.x s.y = true ∧ (s.bins.length : Int) ≤ c.height := by
            intro j t hj ht
            rcases snd_lt hj with h | rfl
            · exact hst j t h ht
            · obtain rfl : s = t := Option.some.inj (hs.symm.trans ht)
              exact ⟨nf hs28, hbl⟩
          have hlen' : (allTo c (x.i + 1)).length ≤ 8 * (x.i + 1) := by rw [allTo_succ hs, List.length_append]; omega
          refine .skip (cj ?_)
          refine .seq ?_
          refine .seq ?_
          refine .plain rfl ?_
          refine .q rfl rfl rfl (val_assign rfl) ?_
          refine .nil (cj ?_)
          refine .block ?_
          refine .loop (ι := Nat) (fun k => [(1, ptr b1), (3, x.v), (4, i64 (x.i : Int)), (5, i64 (k : Int))]) (fun k w' => St w w' X [arr s.A (s.bins.flatMap encI), cb c, cp c, cr c, cs c, binsA c] [row x.v 3 1 (allTo c x.i).length ((allTo c x.i).flatMap encI), blk b1 (encCf c) 26] ∧ k ≤ x.i ∧ ∀ (j : Nat) (t : Sk1), j < k → c.stacks[j]? = some t → (⟨t.x, t.y⟩ : Cl) ≠ ⟨s.x, s.y⟩) (fun k => x.i - k) 0 (by repeat (first | exact Pick.nil | refine Pick.cons rfl ?_)) ⟨H5, Nat.zero_le _, fun j t hj => absurd hj (Nat.not_lt_zero _)⟩ ?_
          rintro k w6 ⟨H6, hk, hne⟩
          refine .seq ?_
          refine .seq ?_
          refine .plain rfl ?_
          refine .q rfl rfl rfl (val_move rfl) ?_
          refine .q rfl rfl rfl (val_move rfl) ?_
          refine .q rfl rfl rfl (val_lss rfl rfl rfl) ?_
          refine .nil (cj ?_)
          refine .cond rfl (fun hc2 => ?_) (fun hc2 => ?_)
          · have hki : k < x.i := by simp at hc2; exact hc2
            obtain ⟨t, ht⟩ : ∃ t, c.stacks[k]? = some t := ⟨_, List.getElem?_eq_getElem (Nat.lt_trans hki hil)⟩
            have hkl : k < c.stacks.length := by omega
            refine .skip (cj ?_)
            refine .seq ?_
            refine .block ?_
            refine .seq ?_
            refine .drawS 13 (.cons (0, true) (.cons (1, true) (.cons (2, true) (.cons (3, true) (.cons (4, true) (.cons (5, true) (.cons (6, true) (.cons (7, true) (.cons (8, true) (.cons (9, true) (.cons (10, true) (.cons (11, true) (.cons (12, true) .nil))))))))))))) mo (by kernel_rfl) H6 (fun _ _ _ _ _ h => h) (fun w7 H7 => ?_)
            refine .p rfl rfl rfl (val_fieldAddr rfl fa_26_6) ?_
            refine .ps rfl rfl rfl rfl (ld_b rfl ob_24 (.own (.there .here)) rfl) ?_
            refine .p rfl rfl rfl (val_move rfl) ?_
            refine .p rfl rfl rfl (val_ix el_24 hA rfl rfl rfl hkl) ?_
            refine .p rfl rfl rfl (val_fieldAddr rfl fa_114_0) ?_
            refine .ps rfl rfl rfl rfl (ld_els rfl ag_38 (.add .base) hA (.ro (.there (.there (.there (.there .here))))) encS_len (by first | assumption | rfl) (by repeat constructor)) ?_
            refine .p rfl rfl rfl (val_fieldAddr rfl fa_26_6) ?_
            refine .ps rfl rfl rfl rfl (ld_b rfl ob_24 (.own (.there .here)) rfl) ?_
            refine .p rfl rfl rfl (val_move rfl) ?_
            refine .p rfl rfl rfl (val_ix el_24 hA rfl rfl rfl hil) ?_
            refine .p rfl rfl rfl (val_fieldAddr rfl fa_114_0) ?_
            refine .ps rfl rfl rfl rfl (ld_els rfl ag_38 (.add .base) hA (.ro (.there (.there (.there (.there .here))))) encS_len (by first | assumption | rfl) (by repeat constructor)) ?_
            refine .p rfl rfl rfl (val_binrun rfl rfl seq_38_eql) ?_
            refine .nil (cj ?_)
            refine .cond rfl (fun hc3 => ?_) (fun hc3 => ?_)
            · refine .seq ?_
              refine .plain rfl ?_
              refine .q rfl rfl rfl (val_assign rfl) ?_
              refine .nil (cj ?_)
              refine .ret (fret (res1 rfl rfl) ?_)
              refine hRR _ _ ⟨_, ⟨_, rfl, rfl, fun hh => ?_⟩, (H7.rest (.ro (.there .here) (.ro (.there (.there .here)) (.ro (.there (.there (.there .here))) (.ro (.there (.there (.there (.there .here)))) (.ro (.there (.there (.there (.there (.there .here))))) .nil)))))).sub .nil⟩
              first | (cases hh; done) | exact ⟨fun i s hs => hst i s (List.getElem?_eq_some_iff.1 hs).1 hs, fun i k s t hk hs ht => hap i k s t (List.getElem?_eq_some_iff.1 hs).1 hk hs ht, hall ▸ hfew, fun i b hb => hnum i b (List.getElem?_eq_some_iff.1 (hall ▸ hb)).1 (hall ▸ hb), fun i k a b hk ha hb => htw i k a b (List.getElem?_eq_some_iff.1 (hall ▸ ha)).1 hk (hall ▸ ha) (hall ▸ hb)⟩
            · have hne' : ∀ (j : Nat) (t : Sk1), j < k + 1 → c.stacks[j]? = some t → (⟨t.x, t.y⟩ : Cl) ≠ ⟨s.x, s.y⟩ := by
                intro j u hj hu
                rcases snd_lt hj with h | rfl
                · exact hne j u h hu
                · obtain rfl : t = u := Option.some.inj (ht.symm.trans hu)
                  exact of_decide_eq_false hc3
              refine .skip (cj ?_)
              refine .plain rfl ?_
              refine .q rfl rfl rfl (val_move rfl) ?_
              refine .q rfl rfl rfl (val_add rfl rfl (z := ((k + 1 : Nat) : Int)) (w64_of (by omega))) ?_
              refine .q rfl rfl rfl (val_assign rfl) ?_
              refine .nil ?_
              intro act0 hact0; change Exists _
              refine ⟨(k + 1), Pick.kn (by repeat (first | exact Pick.nil | refine Pick.cons rfl ?_)) hact0, ⟨H7, hki, hne'⟩, (by omega)⟩
          · have hkx : k = x.i := by simp at hc2; omega
            subst hkx
            have hap' : ∀ (i k : Nat) (s t : Sk1), i < x.i + 1 → k < i → c.stacks[i]? = some s → c.stacks[k]? = some t → (⟨t.x, t.y⟩ : Cl) ≠ ⟨s.x, s.y⟩ := by
              intro i j u t hi hj hu ht
              rcases snd_lt hi with h | rfl
              · exact hap i j u t h hj hu ht
              · obtain rfl : s = u := Option.some.inj (hs.symm.trans hu)
                exact hne j t hj ht
            refine .exit (cj ?_)
            refine .plain rfl ?_
            refine .q rfl rfl rfl (val_move rfl) ?_
            refine .q rfl rfl rfl (val_fieldAddr rfl fa_26_6) ?_
            refine .qs rfl rfl rfl H6 (ld_b rfl ob_24 (.own (.there .here)) rfl) ?_
            refine .q rfl rfl rfl (val_move rfl) ?_
            refine .q rfl rfl rfl (val_ix el_24 hA rfl rfl rfl hil) ?_
            refine .q rfl rfl rfl (val_fieldAddr rfl fa_114_1) ?_
            refine .qs rfl rfl rfl H6 (ld_el rfl ob_27 (.add .base) hA (.ro (.there (.there (.there (.there .here))))) encS_len (by first | assumption | rfl) rfl) ?_
            refine .append rfl rfl rfl (ap_27) rfl rfl H6 .here (Has.srcArr (.ro .here) hnil H6) (flat_len encI_len _) one_encI (by simp only [maxLen]; omega) (by omega) (fun v8 w8 H8 => ⟨fun _ => trivial, ?_⟩)
            refine .q rfl rfl rfl (val_assign rfl) ?_
            refine .nil (cj ?_)
            refine .plain rfl ?_
            refine .q rfl rfl rfl (val_move rfl) ?_
            refine .q rfl rfl rfl (val_add rfl rfl (z := ((x.i + 1 : Nat) : Int)) (w64_of (by omega))) ?_
            refine .q rfl rfl rfl (val_assign rfl) ?_
            refine .nil ?_
            intro act0 hact0; change Exists _
            refine ⟨⟨x.i + 1, _⟩, Pick.kn (by repeat (first | exact Pick.nil | refine Pick.cons rfl ?_)) hact0, ⟨by rw [allTo_succ hs, List.length_append, List.flatMap_append]; exact (H8.rest (.ro (.there .here) (.ro (.there (.there .here)) (.ro (.there (.there (.there .here))) (.ro (.there (.there (.there (.there .here)))) (.ro (.there (.there (.there (.there (.there .here))))) .nil)))))).sub (.cons .here (.cons .here .nil)), hil, (show x.i + 1 ≤ 257 by omega), hlen', hst', hap'⟩, (show c.stacks.length - (x.i + 1) < c.stacks.length - x.i by omega)⟩
  · have hix : x.i = c.stacks.length := by simp at hc0; omega
    rw [hix] at H2 hlen hst hap
    obtain ⟨A9, cap9, hv9, hn9, H9⟩ := St.rowArr H2 .here
    rw [hv9]
    refine .exit (cj ?_)
    refine .seq ?_
    refine .seq ?_
    refine .plain rfl ?_
    refine .q rfl rfl rfl (val_move rfl) ?_
    refine .q rfl rfl rfl (val_len Tryz.underlying27 rfl) ?_
    refine .q rfl rfl rfl (val_gtr rfl rfl rfl) ?_
    refine .nil (cj ?_)
    refine .cond rfl (fun hc4 => ?_) (fun hc4 => ?_)
    · refine .seq ?_
      refine .plain rfl ?_
      refine .q rfl rfl rfl (val_assign rfl) ?_
      refine .nil (cj ?_)
      refine .ret (fret (res1 rfl rfl) ?_)
      refine hRR _ _ ⟨_, ⟨_, rfl, rfl, fun hh => ?_⟩, (H9.rest (.ro (.there .here) (.ro (.there (.there .here)) (.ro (.there (.there (.there .here))) (.ro (.there (.there (.there (.there .here)))) (.ro (.there (.there (.there (.there (.there .here))))) .nil)))))).sub .nil⟩
      first | (cases hh; done) | exact ⟨fun i s hs => hst i s (List.getElem?_eq_some_iff.1 hs).1 hs, fun i k s t hk hs ht => hap i k s t (List.getElem?_eq_some_iff.1 hs).1 hk hs ht, hall ▸ hfew, fun i b hb => hnum i b (List.getElem?_eq_some_iff.1 (hall ▸ hb)).1 (hall ▸ hb), fun i k a b hk ha hb => htw i k a b (List.getElem?_eq_some_iff.1 (hall ▸ ha)).1 hk (hall ▸ ha) (hall ▸ hb)⟩
    · have hfew : (allTo c c.stacks.length).length ≤ 512 := by have h1 := of_decide_eq_false hc4; omega
      refine .skip (cj ?_)
      refine .seq ?_
      refine .seq ?_
      refine .plain rfl ?_
      refine .q rfl rfl rfl (val_assign rfl) ?_
      refine .nil (cj ?_)
      refine .block ?_
      refine .loop (ι := Nat) (fun i => [(3, .slice A9 (allTo c c.stacks.length).length cap9), (6, i64 (i : Int))]) (fun i w' => St w w' X [arr A9 ((allTo c c.stacks.length).flatMap encI), cb c, cp c, cr c, cs c, binsA c] [] ∧ i ≤ (allTo c c.stacks.length).length ∧ (∀ (j : Nat) (b : Int), j < i → (allTo c c.stacks.length)[j]? = some b → 1 ≤ b ∧ b ≤ 1000000000) ∧ (∀ (j k : Nat) (a b : Int), j < i → k < j → (allTo c c.stacks.length)[j]? = some a → (allTo c c.stacks.length)[k]? = some b → b ≠ a)) (fun i => (allTo c c.stacks.length).length - i) 0 (by repeat (first | exact Pick.nil | refine Pick.cons rfl ?_)) ⟨H9.sub .nil, Nat.zero_le _, fun j b hj => absurd hj (Nat.not_lt_zero _), fun j k a b hj => absurd hj (Nat.not_lt_zero _)⟩ ?_
      rintro i w7 ⟨H10, hi2, hnum, htw⟩
      refine .seq ?_
      refine .seq ?_
      refine .plain rfl ?_
      refine .q rfl rfl rfl (val_move rfl) ?_
      refine .q rfl rfl rfl (val_move rfl) ?_
      refine .q rfl rfl rfl (val_len Tryz.underlying27 rfl) ?_
      refine .q rfl rfl rfl (val_lss rfl rfl rfl) ?_
      refine .nil (cj ?_)
      refine .cond rfl (fun hc5 => ?_) (fun hc5 => ?_)
      · have hil2 : i < (allTo c c.stacks.length).length := by simp only [decide_eq_true_eq] at hc5; omega
        have hx2 := getD_get hil2 0
        obtain ⟨b, o, hB⟩ := Has.base (.ro .here) H10 (nil_of_flat encI_len (by decide) hil2)
        refine .skip (cj ?_)
        refine .seq ?_
        refine .block ?_
        refine .seq ?_
        refine .seq ?_
        refine .plain rfl ?_
        refine .q rfl rfl rfl (val_move rfl) ?_
        refine .q rfl rfl rfl (val_move rfl) ?_
        refine .q rfl rfl rfl (val_ix el_27 hB rfl rfl rfl hil2) ?_
        refine .qs rfl rfl rfl H10 (ld_el rfl ob_3 .base hB (.ro .here) encI_len (by first | assumption | rfl) rfl) ?_
        refine .call1 rfl rfl rfl en92 (.cons rfl (.cons rfl (.cons rfl .nil))) (within92_spec _ _ _) H10 .nil .nil (fun w11 H11 => ⟨fun _ => trivial, ?_⟩)
        refine .q rfl rfl rfl (val_not rfl rfl) ?_
        refine .nil (cj ?_)
        refine .cond rfl (fun hc6 => ?_) (fun hc6 => ?_)
        · refine .seq ?_
          refine .plain rfl ?_
          refine .q rfl rfl rfl (val_assign rfl) ?_
          refine .nil (cj ?_)
          refine .ret (fret (res1 rfl rfl) ?_)
          refine hRR _ _ ⟨_, ⟨_, rfl, rfl, fun hh => ?_⟩, (H11.rest (.ro (.there .here) (.ro (.there (.there .here)) (.ro (.there (.there (.there .here))) (.ro (.there (.there (.there (.there .here)))) (.ro (.there (.there (.there (.there (.there .here))))) .nil)))))).sub .nil⟩
          first | (cases hh; done) | exact ⟨fun i s hs => hst i s (List.getElem?_eq_some_iff.1 hs).1 hs, fun i k s t hk hs ht => hap i k s t (List.getElem?_eq_some_iff.1 hs).1 hk hs ht, hall ▸ hfew, fun i b hb => hnum i b (List.getElem?_eq_some_iff.1 (hall ▸ hb)).1 (hall ▸ hb), fun i k a b hk ha hb => htw i k a b (List.getElem?_eq_some_iff.1 (hall ▸ ha)).1 hk (hall ▸ ha) (hall ▸ hb)⟩
        · have hw := wi (nf hc6)
          have hnum' : ∀ (j : Nat) (b : Int), j < i + 1 → (allTo c c.stacks.length)[j]? = some b → 1 ≤ b ∧ b ≤ 1000000000 := by
            intro j b hj hb
            rcases snd_lt hj with h | rfl
            · exact hnum j b h hb
            · rw [hx2] at hb; cases hb; exact hw
          refine .skip (cj ?_)
          refine .seq ?_
          refine .plain rfl ?_
          refine .q rfl rfl rfl (val_assign rfl) ?_
          refine .nil (cj ?_)
          refine .block ?_
          refine .loop (ι := Nat) (fun k => [(3, .slice A9 (allTo c c.stacks.length).length cap9), (6, i64 (i : Int)), (7, i64 (k : Int))]) (fun k w' => St w w' X [arr A9 ((allTo c c.stacks.length).flatMap encI), cb c, cp c, cr c, cs c, binsA c] [] ∧ k ≤ i ∧ ∀ (j : Nat) (b : Int), j < k → (allTo c c.stacks.length)[j]? = some b → b ≠ (allTo c c.stacks.length).getD i 0) (fun k => i - k) 0 (by repeat (first | exact Pick.nil | refine Pick.cons rfl ?_)) ⟨H11, Nat.zero_le _, fun j b hj => absurd hj (Nat.not_lt_zero _)⟩ ?_
          rintro k w8 ⟨H12, hk2, hne2⟩
          refine .seq ?_
          refine .seq ?_
          refine .plain rfl ?_
          refine .q rfl rfl rfl (val_move rfl) ?_
          refine .q rfl rfl rfl (val_move rfl) ?_
          refine .q rfl rfl rfl (val_lss rfl rfl rfl) ?_
          refine .nil (cj ?_)
          refine .cond rfl (fun hc7 => ?_) (fun hc7 => ?_)
          · have hki2 : k < i := by simp at hc7; exact hc7
            have hkl2 : k < (allTo c c.stacks.length).length := by omega
            have hx3 := getD_get hkl2 0
            refine .skip (cj ?_)
            refine .seq ?_
            refine .block ?_
            refine .seq ?_
            refine .drawS 9 (.cons (0, true) (.cons (1, true) (.cons (2, true) (.cons (3, true) (.cons (4, true) (.cons (5, true) (.cons (6, true) (.cons (7, true) (.cons (8, true) .nil))))))))) mo (by kernel_rfl) H12 (fun _ _ _ _ _ h => h) (fun w13 H13 => ?_)
            refine .p rfl rfl rfl (val_move rfl) ?_
            refine .p rfl rfl rfl (val_move rfl) ?_
            refine .p rfl rfl rfl (val_ix el_27 hB rfl rfl rfl hkl2) ?_
            refine .ps rfl rfl rfl rfl (ld_el rfl ob_3 .base hB (.ro .here) encI_len (by first | assumption | rfl) rfl) ?_
            refine .p rfl rfl rfl (val_move rfl) ?_
            refine .p rfl rfl rfl (val_move rfl) ?_
            refine .p rfl rfl rfl (val_ix el_27 hB rfl rfl rfl hil2) ?_
            refine .ps rfl rfl rfl rfl (ld_el rfl ob_3 .base hB (.ro .here) encI_len (by first | assumption | rfl) rfl) ?_
            refine .p rfl rfl rfl (val_eql rfl rfl rfl) ?_
            refine .nil (cj ?_)
            refine .cond rfl (fun hc8 => ?_) (fun hc8 => ?_)
            · refine .seq ?_
              refine .plain rfl ?_
              refine .q rfl rfl rfl (val_assign rfl) ?_
              refine .nil (cj ?_)
              refine .ret (fret (res1 rfl rfl) ?_)
              refine hRR _ _ ⟨_, ⟨_, rfl, rfl, fun hh => ?_⟩, (H13.rest (.ro (.there .here) (.ro (.there (.there .here)) (.ro (.there (.there (.there .here))) (.ro (.there (.there (.there (.there .here)))) (.ro (.there (.there (.there (.there (.there .here))))) .nil)))))).sub .nil⟩
              first | (cases hh; done) | exact ⟨fun i s hs => hst i s (List.getElem?_eq_some_iff.1 hs).1 hs, fun i k s t hk hs ht => hap i k s t (List.getElem?_eq_some_iff.1 hs).1 hk hs ht, hall ▸ hfew, fun i b hb => hnum i b (List.getElem?_eq_some_iff.1 (hall ▸ hb)).1 (hall ▸ hb), fun i k a b hk ha hb => htw i k a b (List.getElem?_eq_some_iff.1 (hall ▸ ha)).1 hk (hall ▸ ha) (hall ▸ hb)⟩
            · have hne2' : ∀ (j : Nat) (b : Int), j < k + 1 → (allTo c c.stacks.length)[j]? = some b → b ≠ (allTo c c.stacks.length).getD i 0 := by
                intro j b hj hb
                rcases snd_lt hj with h | rfl
                · exact hne2 j b h hb
                · rw [hx3] at hb; cases hb; simpa using hc8
              refine .skip (cj ?_)
              refine .plain rfl ?_
              refine .q rfl rfl rfl (val_move rfl) ?_
              refine .q rfl rfl rfl (val_add rfl rfl (z := ((k + 1 : Nat) : Int)) (w64_of (by omega))) ?_
              refine .q rfl rfl rfl (val_assign rfl) ?_
              refine .nil ?_
              intro act0 hact0; change Exists _
              refine ⟨(k + 1), Pick.kn (by repeat (first | exact Pick.nil | refine Pick.cons rfl ?_)) hact0, ⟨H13, hki2, hne2'⟩, (by omega)⟩
          · have hkx : k = i := by simp at hc7; omega
            rw [hkx] at hne2
            have htw' : ∀ (j k' : Nat) (a b : Int), j < i + 1 → k' < j → (allTo c c.stacks.length)[j]? = some a → (allTo c c.stacks.length)[k']? = some b → b ≠ a := by
              intro j k' a b hj hk' ha hb
              rcases snd_lt hj with h | rfl
              · exact htw j k' a b h hk' ha hb
              · rw [hx2] at ha; cases ha; exact hne2 k' b hk' hb
            refine .exit (cj ?_)
            refine .plain rfl ?_
            refine .q rfl rfl rfl (val_move rfl) ?_
            refine .q rfl rfl rfl (val_add rfl rfl (z := ((i + 1 : Nat) : Int)) (w64_of (by omega))) ?_
            refine .q rfl rfl rfl (val_assign rfl) ?_
            refine .nil ?_
            intro act0 hact0; change Exists _
            refine ⟨(i + 1), Pick.kn (by repeat (first | exact Pick.nil | refine Pick.cons rfl ?_)) hact0, ⟨H12, hil2, hnum', htw'⟩, (by omega)⟩
      · have hix2 : i = (allTo c c.stacks.length).length := by simp only [decide_eq_false_iff_not] at hc5; omega
        subst hix2
        have hall : allTo c c.stacks.length = c.stacks.flatMap (·.bins) := by simp [allTo]
        refine .exit (cj ?_)
        refine .seq ?_
        refine .plain rfl ?_
        refine .q rfl rfl rfl (val_assign rfl) ?_
        refine .nil (cj ?_)
        refine .ret (fret (res1 rfl rfl) ?_)
        refine hRR _ _ ⟨_, ⟨_, rfl, rfl, fun hh => ?_⟩, (H10.rest (.ro (.there .here) (.ro (.there (.there .here)) (.ro (.there (.there (.there .here))) (.ro (.there (.there (.there (.there .here)))) (.ro (.there (.there (.there (.there (.there .here))))) .nil)))))).sub .nil⟩
        first | (cases hh; done) | exact ⟨fun i s hs => hst i s (List.getElem?_eq_some_iff.1 hs).1 hs, fun i k s t hk hs ht => hap i k s t (List.getElem?_eq_some_iff.1 hs).1 hk hs ht, hall ▸ hfew, fun i b hb => hnum i b (List.getElem?_eq_some_iff.1 (hall ▸ hb)).1 (hall ▸ hb), fun i k a b hk ha hb => htw i k a b (List.getElem?_eq_some_iff.1 (hall ▸ ha)).1 hk (hall ▸ ha) (hall ▸ hb)⟩
end Go.Proofs.YtmbibkifbehgnaaGreatDoor
namespace Go.Proofs.YtmbibkifbehgnaaGreatDoor
open Go Sk
set_option linter.unusedVariables false
set_option linter.unusedSimpArgs false
theorem en32 : Enters Tryz.prog 32 := fun args w => by kernel_rfl
theorem en62 : Enters Tryz.prog 62 := fun args w => by kernel_rfl
theorem en69 : Enters Tryz.prog 69 := fun args w => by kernel_rfl
theorem ap_22  : apB Tryz.prog 22 38 2 16 = true := by kernel_rfl
abbrev cellsTo (c : Cf) (i : Nat) : List Cl := (c.robots.take i).flatMap cellsL
theorem cellsTo_succ {c : Cf} {i : Nat} {p : Ps} (h : c.robots[i]? = some p) : cellsTo c (i + 1) = cellsTo c i ++ cellsL p := by
  simp [cellsTo, take_snoc h]
structure MayOk (c : Cf) : Prop where
  num : NumOk c
  bl : c.blocked.length ≤ 256
  pl : c.ports.length ≤ 8
  rl : c.robots.length ≤ 8
  blocked : ∀ (i : Nat) (x : Cl), c.blocked[i]? = some x → inR c x.x x.y = true ∧ c.blocked.count x ≤ 1 ∧ c.ports.count x = 0
  ports : ∀ (i : Nat) (x : Cl), c.ports[i]? = some x → inR c x.x x.y = true ∧ c.ports.count x ≤ 1 ∧ homeR c x.x x.y = false ∧ besideR c x.x x.y = true
  robots : ∀ (i : Nat) (p : Ps), c.robots[i]? = some p → fitsR c p = true
  cells : ∀ (i : Nat) (x : Cl), (c.robots.flatMap cellsL)[i]? = some x → (c.robots.flatMap cellsL).count x ≤ 1
  bins : BinsOk c
theorem mayR_spec (c : Cf) (hc : c.Fit) : Sk.Spec Tryz.prog 32 #[.agg (encCf c).toArray] [cb c, cp c, cr c, cs c, binsA c] [] (Says (MayOk c)) := by
  have hb := hc.b
  have hp := hc.p
  refine Spec.of_code (vs := [_]) (k0 := [(0, _)]) 149 Tryz.func32 rfl Tryz.ntmps32 rfl (.cons .nil) fun w X RR hRR H => ?_
  refine .seq ?_
  refine .plain rfl ?_
  refine .box rfl rfl rfl rfl rfl H (fun w1 b1 H1 => ⟨fun _ => trivial, ?_⟩)
  refine .q rfl rfl rfl (val_assign rfl) ?_
  refine .nil (cj ?_)
  refine .seq ?_
  refine .seq ?_
  refine .plain rfl ?_
  refine .qs rfl rfl rfl H1 (ld_w rfl ag_26 (.own .here) rfl) ?_
  refine .callx rfl rfl rfl en62 (.cons rfl .nil) (numbersR_spec _) H1 .nil .nil (fun v9 w2 C9 H2 => ⟨fun _ => trivial, ?_⟩)
  refine .q rfl rfl rfl (val_not rfl rfl) ?_
  refine .q rfl rfl rfl (val_move rfl) ?_
  refine .case (t := 11) rfl (fun hs11 => ?_) (fun hs11 => ?_)
  · refine .no rfl rfl rfl ?_
    refine .no rfl rfl rfl ?_
    refine .no rfl rfl rfl ?_
    refine .no rfl rfl rfl ?_
    refine .q rfl rfl rfl (val_pick_t rfl rfl) ?_
    refine .q rfl rfl rfl (val_move rfl) ?_
    refine .no rfl rfl rfl ?_
    refine .no rfl rfl rfl ?_
    refine .no rfl rfl rfl ?_
    refine .no rfl rfl rfl ?_
    refine .q rfl rfl rfl (val_pick_t rfl rfl) ?_
    refine .q rfl rfl rfl (val_move rfl) ?_
    refine .no rfl rfl rfl ?_
    refine .no rfl rfl rfl ?_
    refine .no rfl rfl rfl ?_
    refine .no rfl rfl rfl ?_
    refine .q rfl rfl rfl (val_pick_t rfl rfl) ?_
    refine .nil (cj ?_)
    refine .cond_t rfl ?_
    refine .seq ?_
    refine .plain rfl ?_
    refine .q rfl rfl rfl (val_assign rfl) ?_
    refine .nil (cj ?_)
    refine .ret (fret (res1 rfl rfl) ?_)
    refine hRR _ _ ⟨_, ⟨_, rfl, rfl, fun hh => ?_⟩, H2.sub .nil⟩
    first | (cases hh; done) | exact ⟨hnum, hbl2, hpl, hrl, fun i x hx => hbl i x (List.getElem?_eq_some_iff.1 hx).1 hx, fun i x hx => hpo i x (List.getElem?_eq_some_iff.1 hx).1 hx, fun i x hx => hro i x (List.getElem?_eq_some_iff.1 hx).1 hx, fun i x hx => by rw [← hall] at hx ⊢; exact hce i x (List.getElem?_eq_some_iff.1 hx).1 hx, C9 hh⟩
  · refine .q rfl rfl rfl (val_fieldAddr rfl fa_26_4) ?_
    refine .qs rfl rfl rfl H2 (ld_b rfl ob_22 (.own .here) rfl) ?_
    refine .q rfl rfl rfl (val_len Tryz.underlying22 rfl) ?_
    refine .q rfl rfl rfl (val_gtr rfl rfl rfl) ?_
    refine .q rfl rfl rfl (val_pick_f rfl rfl) ?_
    refine .q rfl rfl rfl (val_move rfl) ?_
    refine .case (t := 17) rfl (fun hs17 => ?_) (fun hs17 => ?_)
    · refine .no rfl rfl rfl ?_
      refine .no rfl rfl rfl ?_
      refine .no rfl rfl rfl ?_
      refine .no rfl rfl rfl ?_
      refine .q rfl rfl rfl (val_pick_t rfl rfl) ?_
      refine .q rfl rfl rfl (val_move rfl) ?_
      refine .no rfl rfl rfl ?_
      refine .no rfl rfl rfl ?_
      refine .no rfl rfl rfl ?_
      refine .no rfl rfl rfl ?_
      refine .q rfl rfl rfl (val_pick_t rfl rfl) ?_
      refine .nil (cj ?_)
      refine .cond_t rfl ?_
      refine .seq ?_
      refine .plain rfl ?_
      refine .q rfl rfl rfl (val_assign rfl) ?_
      refine .nil (cj ?_)
      refine .ret (fret (res1 rfl rfl) ?_)
      refine hRR _ _ ⟨_, ⟨_, rfl, rfl, fun hh => ?_⟩, H2.sub .nil⟩
      first | (cases hh; done) | exact ⟨hnum, hbl2, hpl, hrl, fun i x hx => hbl i x (List.getElem?_eq_some_iff.1 hx).1 hx, fun i x hx => hpo i x (List.getElem?_eq_some_iff.1 hx).1 hx, fun i x hx => hro i x (List.getElem?_eq_some_iff.1 hx).1 hx, fun i x hx => by rw [← hall] at hx ⊢; exact hce i x (List.getElem?_eq_some_iff.1 hx).1 hx, C9 hh⟩
    · refine .q rfl rfl rfl (val_fieldAddr rfl fa_26_5) ?_
      refine .qs rfl rfl rfl H2 (ld_b rfl ob_23 (.own .here) rfl) ?_
      refine .q rfl rfl rfl (val_len Tryz.underlying23 rfl) ?_
      refine .q rfl rfl rfl (val_gtr rfl rfl rfl) ?_
      refine .q rfl rfl rfl (val_pick_f rfl rfl) ?_
      refine .q rfl rfl rfl (val_move rfl) ?_
      refine .case (t := 23) rfl (fun hs23 => ?_) (fun hs23 => ?_)
      · refine .no rfl rfl rfl ?_
        refine .no rfl rfl rfl ?_
        refine .no rfl rfl rfl ?_
        refine .no rfl rfl rfl ?_
        refine .q rfl rfl rfl (val_pick_t rfl rfl) ?_
        refine .nil (cj ?_)
        refine .cond_t rfl ?_
        refine .seq ?_
        refine .plain rfl ?_
        refine .q rfl rfl rfl (val_assign rfl) ?_
        refine .nil (cj ?_)
        refine .ret (fret (res1 rfl rfl) ?_)
        refine hRR _ _ ⟨_, ⟨_, rfl, rfl, fun hh => ?_⟩, H2.sub .nil⟩
        first | (cases hh; done) | exact ⟨hnum, hbl2, hpl, hrl, fun i x hx => hbl i x (List.getElem?_eq_some_iff.1 hx).1 hx, fun i x hx => hpo i x (List.getElem?_eq_some_iff.1 hx).1 hx, fun i x hx => hro i x (List.getElem?_eq_some_iff.1 hx).1 hx, fun i x hx => by rw [← hall] at hx ⊢; exact hce i x (List.getElem?_eq_some_iff.1 hx).1 hx, C9 hh⟩
      · refine .q rfl rfl rfl (val_fieldAddr rfl fa_26_3) ?_
        refine .qs rfl rfl rfl H2 (ld_b rfl ob_22 (.own .here) rfl) ?_
        refine .q rfl rfl rfl (val_len Tryz.underlying22 rfl) ?_
        refine .q rfl rfl rfl (val_gtr rfl rfl rfl) ?_
        refine .q rfl rfl rfl (val_pick_f rfl rfl) ?_
        refine .nil (cj ?_)
        refine .cond rfl (fun hc0 => ?_) (fun hc0 => ?_)
        · refine .seq ?_
          refine .plain rfl ?_
          refine .q rfl rfl rfl (val_assign rfl) ?_
          refine .nil (cj ?_)
          refine .ret (fret (res1 rfl rfl) ?_)
          refine hRR _ _ ⟨_, ⟨_, rfl, rfl, fun hh => ?_⟩, H2.sub .nil⟩
          first | (cases hh; done) | exact ⟨hnum, hbl2, hpl, hrl, fun i x hx => hbl i x (List.getElem?_eq_some_iff.1 hx).1 hx, fun i x hx => hpo i x (List.getElem?_eq_some_iff.1 hx).1 hx, fun i x hx => hro i x (List.getElem?_eq_some_iff.1 hx).1 hx, fun i x hx => by rw [← hall] at hx ⊢; exact hce i x (List.getElem?_eq_some_iff.1 hx).1 hx, C9 hh⟩
        · have hnum := C9 (nf hs11)
          have hpl : c.ports.length ≤ 8 := by have h1 := of_decide_eq_false hs17; omega
          have hrl : c.robots.length ≤ 8 := by have h1 := of_decide_eq_false hs23; omega
          have hbl2 : c.blocked.length ≤ 256 := by have h1 := of_decide_eq_false hc0; omega
          refine .skip (cj ?_)
          refine .seq ?_
          refine .seq ?_
          refine .plain rfl ?_
          refine .q rfl rfl rfl (val_assign rfl) ?_
          refine .nil (cj ?_)
          refine .block ?_
          refine .loop (ι := Nat) (fun i => [(1, ptr b1), (3, i64 (i : Int))]) (fun i w' => St w w' X [cb c, cp c, cr c, cs c, binsA c] [blk b1 (encCf c) 26] ∧ i ≤ c.blocked.length ∧ ∀ (j : Nat) (x : Cl), j < i → c.blocked[j]? = some x → inR c x.x x.y = true ∧ c.blocked.count x ≤ 1 ∧ c.ports.count x = 0) (fun i => c.blocked.length - i) 0 (by repeat (first | exact Pick.nil | refine Pick.cons rfl ?_)) ⟨H2, Nat.zero_le _, fun j x hj => absurd hj (Nat.not_lt_zero _)⟩ ?_
          rintro i w5 ⟨H3, hi, hbl⟩
          refine .seq ?_
          refine .seq ?_
          refine .plain rfl ?_
          refine .q rfl rfl rfl (val_move rfl) ?_
          refine .q rfl rfl rfl (val_fieldAddr rfl fa_26_3) ?_
          refine .qs rfl rfl rfl H3 (ld_b rfl ob_22 (.own .here) rfl) ?_
          refine .q rfl rfl rfl (val_len Tryz.underlying22 rfl) ?_
          refine .q rfl rfl rfl (val_lss rfl rfl rfl) ?_
          refine .nil (cj ?_)
          refine .cond rfl (fun hc1 => ?_) (fun hc1 => ?_)
          · have hil : i < c.blocked.length := by simp at hc1; exact hc1
            have hx := getD_get hil ⟨0, 0⟩
            obtain ⟨b, o, hA⟩ := Has.base (.ro .here) H3 (nil_of_flat encC_len (by decide) hil)
            refine .skip (cj ?_)
            refine .seq ?_
            refine .block ?_
            refine .seq ?_
            refine .drawS 30 (.cons (0, true) (.cons (1, true) (.cons (2, true) (.cons (3, true) (.cons (4, true) (.cons (5, true) (.cons (6, false) (.cons (7, true) (.cons (8, true) (.cons (9, true) (.cons (10, true) (.cons (11, true) (.cons (12, true) (.cons (13, true) (.cons (14, true) (.cons (15, true) (.cons (16, false) (.cons (17, true) (.cons (18, true) (.cons (19, true) (.cons (20, true) (.cons (21, true) (.cons (22, true) (.cons (23, true) (.cons (24, true) (.cons (25, true) (.cons (26, true) (.cons (27, false) (.cons (28, true) (.cons (29, true) .nil)))))))))))))))))))))))))))))) mo (by kernel_rfl) H3 (fun _ _ _ _ _ h => h) (fun w4 H4 => ?_)
            refine .ps rfl rfl rfl rfl (ld_w rfl ag_26 (.own .here) rfl) ?_
            refine .p rfl rfl rfl (val_fieldAddr rfl fa_26_3) ?_
            refine .ps rfl rfl rfl rfl (ld_b rfl ob_22 (.own .here) rfl) ?_
            refine .p rfl rfl rfl (val_move rfl) ?_
            refine .p rfl rfl rfl (val_ix el_22 hA rfl rfl rfl hil) ?_
            refine .ps rfl rfl rfl rfl (ld_ela rfl ag_38 .base hA (.ro .here) encC_len (by first | assumption | rfl)) ?_
            refine .call1 rfl rfl rfl en63 (.cons rfl (.cons rfl .nil)) (in_spec _ _ _) H4 .nil .nil (fun w5 H5 => ⟨fun _ => H5, ?_⟩)
            refine .p rfl rfl rfl (val_not rfl rfl) ?_
            refine .p rfl rfl rfl (val_move rfl) ?_
            refine .case (t := 44) rfl (fun hs44 => ?_) (fun hs44 => ?_)
            · refine .no rfl rfl rfl ?_
              refine .no rfl rfl rfl ?_
              refine .no rfl rfl rfl ?_
              refine .no rfl rfl rfl ?_
              refine .no rfl rfl rfl ?_
              refine .no rfl rfl rfl ?_
              refine .no rfl rfl rfl ?_
              refine .no rfl rfl rfl ?_
              refine .no rfl rfl rfl ?_
              refine .p rfl rfl rfl (val_pick_t rfl rfl) ?_
              refine .p rfl rfl rfl (val_move rfl) ?_
              refine .no rfl rfl rfl ?_
              refine .no rfl rfl rfl ?_
              refine .no rfl rfl rfl ?_
              refine .no rfl rfl rfl ?_
              refine .no rfl rfl rfl ?_
              refine .no rfl rfl rfl ?_
              refine .no rfl rfl rfl ?_
              refine .no rfl rfl rfl ?_
              refine .no rfl rfl rfl ?_
              refine .p rfl rfl rfl (val_pick_t rfl rfl) ?_
              refine .nil (cj ?_)
              refine .cond_t rfl ?_
              refine .seq ?_
              refine .plain rfl ?_
              refine .q rfl rfl rfl (val_assign rfl) ?_
              refine .nil (cj ?_)
              refine .ret (fret (res1 rfl rfl) ?_)
              refine hRR _ _ ⟨_, ⟨_, rfl, rfl, fun hh => ?_⟩, H5.sub .nil⟩
              first | (cases hh; done) | exact ⟨hnum, hbl2, hpl, hrl, fun i x hx => hbl i x (List.getElem?_eq_some_iff.1 hx).1 hx, fun i x hx => hpo i x (List.getElem?_eq_some_iff.1 hx).1 hx, fun i x hx => hro i x (List.getElem?_eq_some_iff.1 hx).1 hx, fun i x hx => by rw [← hall] at hx ⊢; exact hce i x (List.getElem?_eq_some_iff.1 hx).1 hx, C9 hh⟩
            · refine .p rfl rfl rfl (val_fieldAddr rfl fa_26_3) ?_
              refine .ps rfl rfl rfl rfl (ld_b rfl ob_22 (.own .here) rfl) ?_
              refine .p rfl rfl rfl (val_fieldAddr rfl fa_26_3) ?_
              refine .ps rfl rfl rfl rfl (ld_b rfl ob_22 (.own .here) rfl) ?_
              refine .p rfl rfl rfl (val_move rfl) ?_
              refine .p rfl rfl rfl (val_ix el_22 hA rfl rfl rfl hil) ?_
              refine .ps rfl rfl rfl rfl (ld_ela rfl ag_38 .base hA (.ro .here) encC_len (by first | assumption | rfl)) ?_
              refine .call1 rfl rfl rfl en64 (.cons rfl (.cons rfl .nil)) (among_spec _ _ _ (by assumption) _ _) H5 .nil (.ro .here .nil) (fun w6 H6 => ⟨fun _ => H6, ?_⟩)
              refine .p rfl rfl rfl (val_gtr rfl rfl rfl) ?_
              refine .p rfl rfl rfl (val_pick_f rfl rfl) ?_
              refine .p rfl rfl rfl (val_move rfl) ?_
              refine .case (t := 55) rfl (fun hs55 => ?_) (fun hs55 => ?_)
              · refine .no rfl rfl rfl ?_
                refine .no rfl rfl rfl ?_
                refine .no rfl rfl rfl ?_
                refine .no rfl rfl rfl ?_
                refine .no rfl rfl rfl ?_
                refine .no rfl rfl rfl ?_
                refine .no rfl rfl rfl ?_
                refine .no rfl rfl rfl ?_
                refine .no rfl rfl rfl ?_
                refine .p rfl rfl rfl (val_pick_t rfl rfl) ?_
                refine .nil (cj ?_)
                refine .cond_t rfl ?_
                refine .seq ?_
                refine .plain rfl ?_
                refine .q rfl rfl rfl (val_assign rfl) ?_
                refine .nil (cj ?_)
                refine .ret (fret (res1 rfl rfl) ?_)
                refine hRR _ _ ⟨_, ⟨_, rfl, rfl, fun hh => ?_⟩, H6.sub .nil⟩
                first | (cases hh; done) | exact ⟨hnum, hbl2, hpl, hrl, fun i x hx => hbl i x (List.getElem?_eq_some_iff.1 hx).1 hx, fun i x hx => hpo i x (List.getElem?_eq_some_iff.1 hx).1 hx, fun i x hx => hro i x (List.getElem?_eq_some_iff.1 hx).1 hx, fun i x hx => by rw [← hall] at hx ⊢; exact hce i x (List.getElem?_eq_some_iff.1 hx).1 hx, C9 hh⟩
              · refine .p rfl rfl rfl (val_fieldAddr rfl fa_26_4) ?_
                refine .ps rfl rfl rfl rfl (ld_b rfl ob_22 (.own .here) rfl) ?_
                refine .p rfl rfl rfl (val_fieldAddr rfl fa_26_3) ?_
                refine .ps rfl rfl rfl rfl (ld_b rfl ob_22 (.own .here) rfl) ?_
                refine .p rfl rfl rfl (val_move rfl) ?_
                refine .p rfl rfl rfl (val_ix el_22 hA rfl rfl rfl hil) ?_
                refine .ps rfl rfl rfl rfl (ld_ela rfl ag_38 .base hA (.ro .here) encC_len (by first | assumption | rfl)) ?_
                refine .call1 rfl rfl rfl en64 (.cons rfl (.cons rfl .nil)) (among_spec _ _ _ (by assumption) _ _) H6 .nil (.ro (.there .here) .nil) (fun w7 H7 => ⟨fun _ => H7, ?_⟩)
                refine .p rfl rfl rfl (val_gtr rfl rfl rfl) ?_
                refine .p rfl rfl rfl (val_pick_f rfl rfl) ?_
                refine .nil (cj ?_)
                refine .cond rfl (fun hc2 => ?_) (fun hc2 => ?_)
                · refine .seq ?_
                  refine .plain rfl ?_
                  refine .q rfl rfl rfl (val_assign rfl) ?_
                  refine .nil (cj ?_)
                  refine .ret (fret (res1 rfl rfl) ?_)
                  refine hRR _ _ ⟨_, ⟨_, rfl, rfl, fun hh => ?_⟩, H7.sub .nil⟩
                  first | (cases hh; done) | exact ⟨hnum, hbl2, hpl, hrl, fun i x hx => hbl i x (List.getElem?_eq_some_iff.1 hx).1 hx, fun i x hx => hpo i x (List.getElem?_eq_some_iff.1 hx).1 hx, fun i x hx => hro i x (List.getElem?_eq_some_iff.1 hx).1 hx, fun i x hx => by rw [← hall] at hx ⊢; exact hce i x (List.getElem?_eq_some_iff.1 hx).1 hx, C9 hh⟩
                · have hbl' : ∀ (j : Nat) (x : Cl), j < i + 1 → c.blocked[j]? = some x → inR c x.x x.y = true ∧ c.blocked.count x ≤ 1 ∧ c.ports.count x = 0 := by
                    intro j x hj hxj
                    rcases snd_lt hj with h | rfl
                    · exact hbl j x h hxj
                    · rw [hx] at hxj; cases hxj
                      have h1 : ¬ ((1 : Int) < ((c.blocked.count (c.blocked.getD j ⟨0, 0⟩) : Nat) : Int)) := of_decide_eq_false hs55
                      have h2 : ¬ ((0 : Int) < ((c.ports.count (c.blocked.getD j ⟨0, 0⟩) : Nat) : Int)) := of_decide_eq_false hc2
                      exact ⟨nf hs44, by omega, by omega⟩
                  refine .skip (cj ?_)
                  refine .plain rfl ?_
                  refine .q rfl rfl rfl (val_move rfl) ?_
                  refine .q rfl rfl rfl (val_add rfl rfl (z := ((i + 1 : Nat) : Int)) (w64_of (by simp only [maxLen] at hb; omega))) ?_
                  refine .q rfl rfl rfl (val_assign rfl) ?_
                  refine .nil ?_
                  intro act0 hact0; change Exists _
                  refine ⟨(i + 1), Pick.kn (by repeat (first | exact Pick.nil | refine Pick.cons rfl ?_)) hact0, ⟨H7, hil, hbl'⟩, (by omega)⟩
          · have hil : i = c.blocked.length := by simp at hc1; omega
            rw [hil] at hbl
            refine .exit (cj ?_)
            refine .seq ?_
            refine .seq ?_
            refine .plain rfl ?_
            refine .q rfl rfl rfl (val_assign rfl) ?_
            refine .nil (cj ?_)
            refine .block ?_
            refine .loop (ι := Nat) (fun i => [(1, ptr b1), (4, i64 (i : Int))]) (fun i w' => St w w' X [cb c, cp c, cr c, cs c, binsA c] [blk b1 (encCf c) 26] ∧ i ≤ c.ports.length ∧ ∀ (j : Nat) (x : Cl), j < i → c.ports[j]? = some x → inR c x.x x.y = true ∧ c.ports.count x ≤ 1 ∧ homeR c x.x x.y = false ∧ besideR c x.x x.y = true) (fun i => c.ports.length - i) 0 (by repeat (first | exact Pick.nil | refine Pick.cons rfl ?_)) ⟨H3, Nat.zero_le _, fun j x hj => absurd hj (Nat.not_lt_zero _)⟩ ?_
            rintro i w6 ⟨H8, hi, hpo⟩
            refine .seq ?_
            refine .seq ?_
            refine .plain rfl ?_
            refine .q rfl rfl rfl (val_move rfl) ?_
            refine .q rfl rfl rfl (val_fieldAddr rfl fa_26_4) ?_
            refine .qs rfl rfl rfl H8 (ld_b rfl ob_22 (.own .here) rfl) ?_
            refine .q rfl rfl rfl (val_len Tryz.underlying22 rfl) ?_
            refine .q rfl rfl rfl (val_lss rfl rfl rfl) ?_
            refine .nil (cj ?_)
            refine .cond rfl (fun hc3 => ?_) (fun hc3 => ?_)
            · have hil : i < c.ports.length := by simp at hc3; exact hc3
              have hx := getD_get hil ⟨0, 0⟩
              obtain ⟨b, o, hA⟩ := Has.base (.ro (.there .here)) H8 (nil_of_flat encC_len (by decide) hil)
              refine .skip (cj ?_)
              refine .seq ?_
              refine .block ?_
              refine .seq ?_
              refine .drawS 38 (.cons (0, true) (.cons (1, true) (.cons (2, true) (.cons (3, true) (.cons (4, true) (.cons (5, true) (.cons (6, false) (.cons (7, true) (.cons (8, true) (.cons (9, true) (.cons (10, true) (.cons (11, true) (.cons (12, true) (.cons (13, true) (.cons (14, true) (.cons (15, true) (.cons (16, false) (.cons (17, true) (.cons (18, true) (.cons (19, true) (.cons (20, true) (.cons (21, true) (.cons (22, true) (.cons (23, true) (.cons (24, true) (.cons (25, true) (.cons (26, false) (.cons (27, true) (.cons (28, true) (.cons (29, true) (.cons (30, true) (.cons (31, true) (.cons (32, true) (.cons (33, true) (.cons (34, true) (.cons (35, false) (.cons (36, true) (.cons (37, true) .nil)))))))))))))))))))))))))))))))))))))) mo (by kernel_rfl) H8 (fun _ _ _ _ _ h => h) (fun w9 H9 => ?_)
              refine .ps rfl rfl rfl rfl (ld_w rfl ag_26 (.own .here) rfl) ?_
              refine .p rfl rfl rfl (val_fieldAddr rfl fa_26_4) ?_
              refine .ps rfl rfl rfl rfl (ld_b rfl ob_22 (.own .here) rfl) ?_
              refine .p rfl rfl rfl (val_move rfl) ?_
              refine .p rfl rfl rfl (val_ix el_22 hA rfl rfl rfl hil) ?_
              refine .ps rfl rfl rfl rfl (ld_ela rfl ag_38 .base hA (.ro (.there .here)) encC_len (by first | assumption | rfl)) ?_
              refine .call1 rfl rfl rfl en63 (.cons rfl (.cons rfl .nil)) (in_spec _ _ _) H9 .nil .nil (fun w10 H10 => ⟨fun _ => H10, ?_⟩)
              refine .p rfl rfl rfl (val_not rfl rfl) ?_
              refine .p rfl rfl rfl (val_move rfl) ?_
              refine .case (t := 81) rfl (fun hs81 => ?_) (fun hs81 => ?_)
              · refine .no rfl rfl rfl ?_
                refine .no rfl rfl rfl ?_
                refine .no rfl rfl rfl ?_
                refine .no rfl rfl rfl ?_
                refine .no rfl rfl rfl ?_
                refine .no rfl rfl rfl ?_
                refine .no rfl rfl rfl ?_
                refine .no rfl rfl rfl ?_
                refine .no rfl rfl rfl ?_
                refine .p rfl rfl rfl (val_pick_t rfl rfl) ?_
                refine .p rfl rfl rfl (val_move rfl) ?_
                refine .no rfl rfl rfl ?_
                refine .no rfl rfl rfl ?_
                refine .no rfl rfl rfl ?_
                refine .no rfl rfl rfl ?_
                refine .no rfl rfl rfl ?_
                refine .no rfl rfl rfl ?_
                refine .no rfl rfl rfl ?_
                refine .p rfl rfl rfl (val_pick_t rfl rfl) ?_
                refine .p rfl rfl rfl (val_move rfl) ?_
                refine .no rfl rfl rfl ?_
                refine .no rfl rfl rfl ?_
                refine .no rfl rfl rfl ?_
                refine .no rfl rfl rfl ?_
                refine .no rfl rfl rfl ?_
                refine .no rfl rfl rfl ?_
                refine .no rfl rfl rfl ?_
                refine .no rfl rfl rfl ?_
                refine .p rfl rfl rfl (val_pick_t rfl rfl) ?_
                refine .nil (cj ?_)
                refine .cond_t rfl ?_
                refine .seq ?_
                refine .plain rfl ?_
                refine .q rfl rfl rfl (val_assign rfl) ?_
                refine .nil (cj ?_)
                refine .ret (fret (res1 rfl rfl) ?_)
                refine hRR _ _ ⟨_, ⟨_, rfl, rfl, fun hh => ?_⟩, H10.sub .nil⟩
                first | (cases hh; done) | exact ⟨hnum, hbl2, hpl, hrl, fun i x hx => hbl i x (List.getElem?_eq_some_iff.1 hx).1 hx, fun i x hx => hpo i x (List.getElem?_eq_some_iff.1 hx).1 hx, fun i x hx => hro i x (List.getElem?_eq_some_iff.1 hx).1 hx, fun i x hx => by rw [← hall] at hx ⊢; exact hce i x (List.getElem?_eq_some_iff.1 hx).1 hx, C9 hh⟩
              · refine .p rfl rfl rfl (val_fieldAddr rfl fa_26_4) ?_
                refine .ps rfl rfl rfl rfl (ld_b rfl ob_22 (.own .here) rfl) ?_
                refine .p rfl rfl rfl (val_fieldAddr rfl fa_26_4) ?_
                refine .ps rfl rfl rfl rfl (ld_b rfl ob_22 (.own .here) rfl) ?_
                refine .p rfl rfl rfl (val_move rfl) ?_
                refine .p rfl rfl rfl (val_ix el_22 hA rfl rfl rfl hil) ?_
                refine .ps rfl rfl rfl rfl (ld_ela rfl ag_38 .base hA (.ro (.there .here)) encC_len (by first | assumption | rfl)) ?_
                refine .call1 rfl rfl rfl en64 (.cons rfl (.cons rfl .nil)) (among_spec _ _ _ (by assumption) _ _) H10 .nil (.ro (.there .here) .nil) (fun w11 H11 => ⟨fun _ => H11, ?_⟩)
                refine .p rfl rfl rfl (val_gtr rfl rfl rfl) ?_
                refine .p rfl rfl rfl (val_pick_f rfl rfl) ?_
                refine .p rfl rfl rfl (val_move rfl) ?_
                refine .case (t := 92) rfl (fun hs92 => ?_) (fun hs92 => ?_)
                · refine .no rfl rfl rfl ?_
                  refine .no rfl rfl rfl ?_
                  refine .no rfl rfl rfl ?_
                  refine .no rfl rfl rfl ?_
                  refine .no rfl rfl rfl ?_
                  refine .no rfl rfl rfl ?_
                  refine .no rfl rfl rfl ?_
                  refine .p rfl rfl rfl (val_pick_t rfl rfl) ?_
                  refine .p rfl rfl rfl (val_move rfl) ?_
                  refine .no rfl rfl rfl ?_
                  refine .no rfl rfl rfl ?_
                  refine .no rfl rfl rfl ?_
                  refine .no rfl rfl rfl ?_
                  refine .no rfl rfl rfl ?_
                  refine .no rfl rfl rfl ?_
                  refine .no rfl rfl rfl ?_
                  refine .no rfl rfl rfl ?_
                  refine .p rfl rfl rfl (val_pick_t rfl rfl) ?_
                  refine .nil (cj ?_)
                  refine .cond_t rfl ?_
                  refine .seq ?_
                  refine .plain rfl ?_
                  refine .q rfl rfl rfl (val_assign rfl) ?_
                  refine .nil (cj ?_)
                  refine .ret (fret (res1 rfl rfl) ?_)
                  refine hRR _ _ ⟨_, ⟨_, rfl, rfl, fun hh => ?_⟩, H11.sub .nil⟩
                  first | (cases hh; done) | exact ⟨hnum, hbl2, hpl, hrl, fun i x hx => hbl i x (List.getElem?_eq_some_iff.1 hx).1 hx, fun i x hx => hpo i x (List.getElem?_eq_some_iff.1 hx).1 hx, fun i x hx => hro i x (List.getElem?_eq_some_iff.1 hx).1 hx, fun i x hx => by rw [← hall] at hx ⊢; exact hce i x (List.getElem?_eq_some_iff.1 hx).1 hx, C9 hh⟩
                · refine .ps rfl rfl rfl rfl (ld_w rfl ag_26 (.own .here) rfl) ?_
                  refine .p rfl rfl rfl (val_fieldAddr rfl fa_26_4) ?_
                  refine .ps rfl rfl rfl rfl (ld_b rfl ob_22 (.own .here) rfl) ?_
                  refine .p rfl rfl rfl (val_move rfl) ?_
                  refine .p rfl rfl rfl (val_ix el_22 hA rfl rfl rfl hil) ?_
                  refine .ps rfl rfl rfl rfl (ld_ela rfl ag_38 .base hA (.ro (.there .here)) encC_len (by first | assumption | rfl)) ?_
                  refine .call1 rfl rfl rfl en65 (.cons rfl (.cons rfl .nil)) (homeR_spec _ (by assumption) _ _) H11 .nil (.ro (.there (.there .here)) .nil) (fun w12 H12 => ⟨fun _ => H12, ?_⟩)
                  refine .p rfl rfl rfl (val_pick_f rfl rfl) ?_
                  refine .p rfl rfl rfl (val_move rfl) ?_
                  refine .case (t := 101) rfl (fun hs101 => ?_) (fun hs101 => ?_)
                  · refine .no rfl rfl rfl ?_
                    refine .no rfl rfl rfl ?_
                    refine .no rfl rfl rfl ?_
                    refine .no rfl rfl rfl ?_
                    refine .no rfl rfl rfl ?_
                    refine .no rfl rfl rfl ?_
                    refine .no rfl rfl rfl ?_
                    refine .no rfl rfl rfl ?_
                    refine .p rfl rfl rfl (val_pick_t rfl rfl) ?_
                    refine .nil (cj ?_)
                    refine .cond_t rfl ?_
                    refine .seq ?_
                    refine .plain rfl ?_
                    refine .q rfl rfl rfl (val_assign rfl) ?_
                    refine .nil (cj ?_)
                    refine .ret (fret (res1 rfl rfl) ?_)
                    refine hRR _ _ ⟨_, ⟨_, rfl, rfl, fun hh => ?_⟩, H12.sub .nil⟩
                    first | (cases hh; done) | exact ⟨hnum, hbl2, hpl, hrl, fun i x hx => hbl i x (List.getElem?_eq_some_iff.1 hx).1 hx, fun i x hx => hpo i x (List.getElem?_eq_some_iff.1 hx).1 hx, fun i x hx => hro i x (List.getElem?_eq_some_iff.1 hx).1 hx, fun i x hx => by rw [← hall] at hx ⊢; exact hce i x (List.getElem?_eq_some_iff.1 hx).1 hx, C9 hh⟩
                  · refine .ps rfl rfl rfl rfl (ld_w rfl ag_26 (.own .here) rfl) ?_
                    refine .p rfl rfl rfl (val_fieldAddr rfl fa_26_4) ?_
                    refine .ps rfl rfl rfl rfl (ld_b rfl ob_22 (.own .here) rfl) ?_
                    refine .p rfl rfl rfl (val_move rfl) ?_
                    refine .p rfl rfl rfl (val_ix el_22 hA rfl rfl rfl hil) ?_
                    refine .ps rfl rfl rfl rfl (ld_ela rfl ag_38 .base hA (.ro (.there .here)) encC_len (by first | assumption | rfl)) ?_
                    refine .call1 rfl rfl rfl en66 (.cons rfl (.cons rfl .nil)) (besideR_spec _ (by assumption) _ _) H12 .nil (.ro .here .nil) (fun w13 H13 => ⟨fun _ => H13, ?_⟩)
                    refine .p rfl rfl rfl (val_not rfl rfl) ?_
                    refine .p rfl rfl rfl (val_pick_f rfl rfl) ?_
                    refine .nil (cj ?_)
                    refine .cond rfl (fun hc4 => ?_) (fun hc4 => ?_)
                    · refine .seq ?_
                      refine .plain rfl ?_
                      refine .q rfl rfl rfl (val_assign rfl) ?_
                      refine .nil (cj ?_)
                      refine .ret (fret (res1 rfl rfl) ?_)
                      refine hRR _ _ ⟨_, ⟨_, rfl, rfl, fun hh => ?_⟩, H13.sub .nil⟩
                      first | (cases hh; done) | exact ⟨hnum, hbl2, hpl, hrl, fun i x hx => hbl i x (List.getElem?_eq_some_iff.1 hx).1 hx, fun i x hx => hpo i x (List.getElem?_eq_some_iff.1 hx).1 hx, fun i x hx => hro i x (List.getElem?_eq_some_iff.1 hx).1 hx, fun i x hx => by rw [← hall] at hx ⊢; exact hce i x (List.getElem?_eq_some_iff.1 hx).1 hx, C9 hh⟩
                    · have hpo' : ∀ (j : Nat) (x : Cl), j < i + 1 → c.ports[j]? = some x → inR c x.x x.y = true ∧ c.ports.count x ≤ 1 ∧ homeR c x.x x.y = false ∧ besideR c x.x x.y = true := by
                        intro j x hj hxj
                        rcases snd_lt hj with h | rfl
                        · exact hpo j x h hxj
                        · rw [hx] at hxj; cases hxj
                          have h1 : ¬ ((1 : Int) < ((c.ports.count (c.ports.getD j ⟨0, 0⟩) : Nat) : Int)) := of_decide_eq_false hs92
                          exact ⟨nf hs81, by omega, hs101, nf hc4⟩
                      refine .skip (cj ?_)
                      refine .plain rfl ?_
                      refine .q rfl rfl rfl (val_move rfl) ?_
                      refine .q rfl rfl rfl (val_add rfl rfl (z := ((i + 1 : Nat) : Int)) (w64_of (by omega))) ?_
                      refine .q rfl rfl rfl (val_assign rfl) ?_
                      refine .nil ?_
                      intro act0 hact0; change Exists _
                      refine ⟨(i + 1), Pick.kn (by repeat (first | exact Pick.nil | refine Pick.cons rfl ?_)) hact0, ⟨H13, hil, hpo'⟩, (by omega)⟩
            · have hil : i = c.ports.length := by simp at hc3; omega
              rw [hil] at hpo
              refine .exit (cj ?_)
              refine .seq ?_
              refine .plain rfl ?_
              refine .q rfl rfl rfl (val_assign rfl) ?_
              refine .nil (cj ?_)
              refine .seq ?_
              refine .seq ?_
              refine .plain rfl ?_
              refine .q rfl rfl rfl (val_assign rfl) ?_
              refine .nil (cj ?_)
              refine .block ?_
              have H15 := H8.rowNil 38 2
              refine .loop (ι := BI) (fun x => [(1, ptr b1), (5, x.v), (6, i64 (x.i : Int))]) (fun x w' => St w w' X [cb c, cp c, cr c, cs c, binsA c] [row x.v 38 2 (cellsTo c x.i).length ((cellsTo c x.i).flatMap encC), blk b1 (encCf c) 26] ∧ x.i ≤ c.robots.length ∧ (cellsTo c x.i).length ≤ 2 * x.i ∧ ∀ (j : Nat) (p : Ps), j < x.i → c.robots[j]? = some p → fitsR c p = true) (fun x => c.robots.length - x.i) ⟨0, .slice none 0 0⟩ (by repeat (first | exact Pick.nil | refine Pick.cons rfl ?_)) ⟨H15.sub (.cons .here (.cons .here .nil)), Nat.zero_le _, Nat.le_refl _, fun j x hj => absurd hj (Nat.not_lt_zero _)⟩ ?_
              rintro x w7 ⟨H14, hi, hlen, hro⟩
              refine .seq ?_
              refine .seq ?_
              refine .plain rfl ?_
              refine .q rfl rfl rfl (val_move rfl) ?_
              refine .q rfl rfl rfl (val_fieldAddr rfl fa_26_5) ?_
              refine .qs rfl rfl rfl H14 (ld_b rfl ob_23 (.own (.there .here)) rfl) ?_
              refine .q rfl rfl rfl (val_len Tryz.underlying23 rfl) ?_
              refine .q rfl rfl rfl (val_lss rfl rfl rfl) ?_
              refine .nil (cj ?_)
              refine .cond rfl (fun hc5 => ?_) (fun hc5 => ?_)
              · have hil : x.i < c.robots.length := by simp at hc5; exact hc5
                obtain ⟨p, hx⟩ : ∃ p, c.robots[x.i]? = some p := ⟨_, List.getElem?_eq_getElem hil⟩
                obtain ⟨b, o, hA⟩ := Has.base (.ro (.there (.there .here))) H14 (nil_of_flat encP_len (by decide) hil)
                refine .skip (cj ?_)
                refine .seq ?_
                refine .block ?_
                refine .seq ?_
                refine .seq ?_
                refine .drawS 8 (.cons (0, true) (.cons (1, true) (.cons (2, true) (.cons (3, true) (.cons (4, true) (.cons (5, true) (.cons (6, false) (.cons (7, true) .nil)))))))) mo (by kernel_rfl) H14 (fun _ _ _ _ _ h => h) (fun w16 H16 => ?_)
                refine .ps rfl rfl rfl rfl (ld_w rfl ag_26 (.own (.there .here)) rfl) ?_
                refine .p rfl rfl rfl (val_fieldAddr rfl fa_26_5) ?_
                refine .ps rfl rfl rfl rfl (ld_b rfl ob_23 (.own (.there .here)) rfl) ?_
                refine .p rfl rfl rfl (val_move rfl) ?_
                refine .p rfl rfl rfl (val_ix el_23 hA rfl rfl rfl hil) ?_
                refine .ps rfl rfl rfl rfl (ld_ela rfl ag_40 .base hA (.ro (.there (.there .here))) encP_len (by first | assumption | rfl)) ?_
                refine .call1 rfl rfl rfl en67 (.cons rfl (.cons rfl .nil)) (fitsR_spec _ (by assumption) _ _ _) H16 .nil (.ro .here .nil) (fun w17 H17 => ⟨fun _ => H17, ?_⟩)
                refine .p rfl rfl rfl (val_not rfl rfl) ?_
                refine .nil (cj ?_)
                refine .cond rfl (fun hc6 => ?_) (fun hc6 => ?_)
                · refine .seq ?_
                  refine .plain rfl ?_
                  refine .q rfl rfl rfl (val_assign rfl) ?_
                  refine .nil (cj ?_)
                  refine .ret (fret (res1 rfl rfl) ?_)
                  refine hRR _ _ ⟨_, ⟨_, rfl, rfl, fun hh => ?_⟩, H17.sub .nil⟩
                  first | (cases hh; done) | exact ⟨hnum, hbl2, hpl, hrl, fun i x hx => hbl i x (List.getElem?_eq_some_iff.1 hx).1 hx, fun i x hx => hpo i x (List.getElem?_eq_some_iff.1 hx).1 hx, fun i x hx => hro i x (List.getElem?_eq_some_iff.1 hx).1 hx, fun i x hx => by rw [← hall] at hx ⊢; exact hce i x (List.getElem?_eq_some_iff.1 hx).1 hx, C9 hh⟩
                · have hlen' : (cellsTo c (x.i + 1)).length ≤ 2 * (x.i + 1) := by rw [cellsTo_succ hx, List.length_append]; simp only [List.length_cons, List.length_nil]; omega
                  have hro' : ∀ (j : Nat) (p : Ps), j < x.i + 1 → c.robots[j]? = some p → fitsR c p = true := by
                    intro j q hj hq
                    rcases snd_lt hj with h | rfl
                    · exact hro j q h hq
                    · rw [hx] at hq; cases hq; exact nf hc6
                  refine .skip (cj ?_)
                  refine .plain rfl ?_
                  refine .q rfl rfl rfl (val_move rfl) ?_
                  refine .q rfl rfl rfl (val_fieldAddr rfl fa_26_5) ?_
                  refine .qs rfl rfl rfl H17 (ld_b rfl ob_23 (.own (.there .here)) rfl) ?_
                  refine .q rfl rfl rfl (val_move rfl) ?_
                  refine .q rfl rfl rfl (val_ix el_23 hA rfl rfl rfl hil) ?_
                  refine .qs rfl rfl rfl H17 (ld_ela rfl ag_40 .base hA (.ro (.there (.there .here))) encP_len (by first | assumption | rfl)) ?_
                  refine .callx rfl rfl rfl en68 (.cons rfl .nil) (cellsR_spec _ _ _) H17 .nil .nil (fun b18 w18 C18 H18 => ⟨fun _ => trivial, ?_⟩)
                  refine .append rfl rfl rfl (ap_22) rfl rfl H18 (.there .here) (Has.srcBlk (.own .here) H18) rfl (by simp [Value.oneCell']) (by simp only [maxLen]; omega) (by first | omega | (dsimp only; omega)) (fun v19 w19 H19 => ⟨fun _ => trivial, ?_⟩)
                  refine .q rfl rfl rfl (val_assign rfl) ?_
                  refine .nil (cj ?_)
                  refine .plain rfl ?_
                  refine .q rfl rfl rfl (val_move rfl) ?_
                  refine .q rfl rfl rfl (val_add rfl rfl (z := ((x.i + 1 : Nat) : Int)) (w64_of (by omega))) ?_
                  refine .q rfl rfl rfl (val_assign rfl) ?_
                  refine .nil ?_
                  intro act0 hact0; change Exists _
                  refine ⟨⟨x.i + 1, _⟩, Pick.kn (by repeat (first | exact Pick.nil | refine Pick.cons rfl ?_)) hact0, ⟨by rw [cellsTo_succ hx, List.length_append, List.flatMap_append]; exact H19.sub (.cons .here (.cons (.there .here) .nil)), hil, hlen', hro'⟩, (show c.robots.length - (x.i + 1) < c.robots.length - x.i by omega)⟩
              · have hix : x.i = c.robots.length := by simp at hc5; omega
                rw [hix] at H14 hlen hro
                have hcl : (cellsTo c c.robots.length).length ≤ maxLen := by simp only [maxLen]; omega
                obtain ⟨A9, cap9, hv9, hn9, H20⟩ := St.rowArr H14 .here
                rw [hv9]
                refine .exit (cj ?_)
                refine .seq ?_
                refine .seq ?_
                refine .plain rfl ?_
                refine .q rfl rfl rfl (val_assign rfl) ?_
                refine .nil (cj ?_)
                refine .block ?_
                refine .loop (ι := Nat) (fun i => [(1, ptr b1), (5, .slice A9 (cellsTo c c.robots.length).length cap9), (7, i64 (i : Int))]) (fun i w' => St w w' X [arr A9 ((cellsTo c c.robots.length).flatMap encC), cb c, cp c, cr c, cs c, binsA c] [blk b1 (encCf c) 26] ∧ i ≤ (cellsTo c c.robots.length).length ∧ ∀ (j : Nat) (x : Cl), j < i → (cellsTo c c.robots.length)[j]? = some x → (cellsTo c c.robots.length).count x ≤ 1) (fun i => (cellsTo c c.robots.length).length - i) 0 (by repeat (first | exact Pick.nil | refine Pick.cons rfl ?_)) ⟨H20, Nat.zero_le _, fun j x hj => absurd hj (Nat.not_lt_zero _)⟩ ?_
                rintro i w8 ⟨H21, hi, hce⟩
                refine .seq ?_
                refine .seq ?_
                refine .plain rfl ?_
                refine .q rfl rfl rfl (val_move rfl) ?_
                refine .q rfl rfl rfl (val_move rfl) ?_
                refine .q rfl rfl rfl (val_len Tryz.underlying22 rfl) ?_
                refine .q rfl rfl rfl (val_lss rfl rfl rfl) ?_
                refine .nil (cj ?_)
                refine .cond rfl (fun hc7 => ?_) (fun hc7 => ?_)
                · have hil : i < (cellsTo c c.robots.length).length := by simp only [decide_eq_true_eq] at hc7; omega
                  have hx := getD_get hil ⟨0, 0⟩
                  obtain ⟨b, o, hB⟩ := Has.base (.ro .here) H21 (nil_of_flat encC_len (by decide) hil)
                  refine .skip (cj ?_)
                  refine .seq ?_
                  refine .block ?_
                  refine .seq ?_
                  refine .plain rfl ?_
                  refine .q rfl rfl rfl (val_move rfl) ?_
                  refine .q rfl rfl rfl (val_move rfl) ?_
                  refine .q rfl rfl rfl (val_move rfl) ?_
                  refine .q rfl rfl rfl (val_ix el_22 hB rfl rfl rfl hil) ?_
                  refine .qs rfl rfl rfl H21 (ld_ela rfl ag_38 .base hB (.ro .here) encC_len (by first | assumption | rfl)) ?_
                  refine .call1 rfl rfl rfl en64 (.cons rfl (.cons rfl .nil)) (among_spec _ _ _ (by assumption) _ _) H21 .nil (.ro .here .nil) (fun w22 H22 => ⟨fun _ => trivial, ?_⟩)
                  refine .q rfl rfl rfl (val_gtr rfl rfl rfl) ?_
                  refine .nil (cj ?_)
                  refine .cond rfl (fun hc8 => ?_) (fun hc8 => ?_)
                  · refine .seq ?_
                    refine .plain rfl ?_
                    refine .q rfl rfl rfl (val_assign rfl) ?_
                    refine .nil (cj ?_)
                    refine .ret (fret (res1 rfl rfl) ?_)
                    refine hRR _ _ ⟨_, ⟨_, rfl, rfl, fun hh => ?_⟩, (H22.rest (.ro (.there .here) (.ro (.there (.there .here)) (.ro (.there (.there (.there .here))) (.ro (.there (.there (.there (.there .here)))) (.ro (.there (.there (.there (.there (.there .here))))) .nil)))))).sub .nil⟩
                    first | (cases hh; done) | exact ⟨hnum, hbl2, hpl, hrl, fun i x hx => hbl i x (List.getElem?_eq_some_iff.1 hx).1 hx, fun i x hx => hpo i x (List.getElem?_eq_some_iff.1 hx).1 hx, fun i x hx => hro i x (List.getElem?_eq_some_iff.1 hx).1 hx, fun i x hx => by rw [← hall] at hx ⊢; exact hce i x (List.getElem?_eq_some_iff.1 hx).1 hx, C9 hh⟩
                  · have hce' : ∀ (j : Nat) (x : Cl), j < i + 1 → (cellsTo c c.robots.length)[j]? = some x → (cellsTo c c.robots.length).count x ≤ 1 := by
                      intro j x hj hxj
                      rcases snd_lt hj with h | rfl
                      · exact hce j x h hxj
                      · rw [hx] at hxj; cases hxj
                        have h1 : ¬ ((1 : Int) < (((cellsTo c c.robots.length).count ((cellsTo c c.robots.length).getD j ⟨0, 0⟩) : Nat) : Int)) := of_decide_eq_false hc8
                        omega
                    refine .skip (cj ?_)
                    refine .plain rfl ?_
                    refine .q rfl rfl rfl (val_move rfl) ?_
                    refine .q rfl rfl rfl (val_add rfl rfl (z := ((i + 1 : Nat) : Int)) (w64_of (by omega))) ?_
                    refine .q rfl rfl rfl (val_assign rfl) ?_
                    refine .nil ?_
                    intro act0 hact0; change Exists _
                    refine ⟨(i + 1), Pick.kn (by repeat (first | exact Pick.nil | refine Pick.cons rfl ?_)) hact0, ⟨H22, hil, hce'⟩, (by omega)⟩
                · have hil : i = (cellsTo c c.robots.length).length := by simp only [decide_eq_false_iff_not] at hc7; omega
                  rw [hil] at hce
                  have hall : cellsTo c c.robots.length = c.robots.flatMap cellsL := by simp [cellsTo]
                  have hh8 : c.height ≤ 8 := hnum.height.2
                  refine .exit (cj ?_)
                  refine .seq ?_
                  refine .plain rfl ?_
                  refine .qs rfl rfl rfl H21 (ld_w rfl ag_26 (.own .here) rfl) ?_
                  refine .callx rfl rfl rfl en69 (.cons rfl .nil) (binsR_spec _ (by assumption) (by assumption)) H21 .nil (.ro (.there .here) (.ro (.there (.there .here)) (.ro (.there (.there (.there .here))) (.ro (.there (.there (.there (.there .here)))) (.ro (.there (.there (.there (.there (.there .here))))) .nil))))) (fun v9 w23 C9 H23 => ⟨fun _ => trivial, ?_⟩)
                  refine .q rfl rfl rfl (val_assign rfl) ?_
                  refine .nil (cj ?_)
                  refine .ret (fret (res1 rfl rfl) ?_)
                  refine hRR _ _ ⟨_, ⟨_, rfl, rfl, fun hh => ?_⟩, (H23.rest (.ro (.there .here) (.ro (.there (.there .here)) (.ro (.there (.there (.there .here))) (.ro (.there (.there (.there (.there .here)))) (.ro (.there (.there (.there (.there (.there .here))))) .nil)))))).sub .nil⟩
                  first | (cases hh; done) | exact ⟨hnum, hbl2, hpl, hrl, fun i x hx => hbl i x (List.getElem?_eq_some_iff.1 hx).1 hx, fun i x hx => hpo i x (List.getElem?_eq_some_iff.1 hx).1 hx, fun i x hx => hro i x (List.getElem?_eq_some_iff.1 hx).1 hx, fun i x hx => by rw [← hall] at hx ⊢; exact hce i x (List.getElem?_eq_some_iff.1 hx).1 hx, C9 hh⟩
structure SmallOk (c : Cf) : Prop where
  w : c.w ≤ 6
  h : c.h ≤ 6
  budget : c.budget ≤ 4000
  unit : c.unit ≤ 100
  turn : c.turn ≤ 200
  hoist : c.hoist ≤ 200
  robots : c.robots.length ≤ 4
  may : MayOk c
theorem small_spec (c : Cf) (hc : c.Fit) : Sk.Spec Tryz.prog 9 #[.agg (encCf c).toArray] [cb c, cp c, cr c, cs c, binsA c] [] (Says (SmallOk c)) := by
  refine Spec.of_code (vs := [_]) (k0 := [(0, _)]) 41 Tryz.func9 rfl Tryz.ntmps9 rfl (.cons .nil) fun w X RR hRR H => ?_
  refine .seq ?_
  refine .plain rfl ?_
  refine .box rfl rfl rfl rfl rfl H (fun w1 b1 H1 => ⟨fun _ => trivial, ?_⟩)
  refine .q rfl rfl rfl (val_assign rfl) ?_
  refine .nil (cj ?_)
  refine .seq ?_
  refine .plain rfl ?_
  refine .q rfl rfl rfl (val_fieldAddr rfl fa_26_0) ?_
  refine .qs rfl rfl rfl H1 (ld_b rfl ob_3 (.own .here) rfl) ?_
  refine .q rfl rfl rfl (val_leq rfl rfl rfl) ?_
  refine .q rfl rfl rfl (val_move rfl) ?_
  refine .case (t := 6) rfl (fun hs6 => ?_) (fun hs6 => ?_)
  · refine .q rfl rfl rfl (val_fieldAddr rfl fa_26_1) ?_
    refine .qs rfl rfl rfl H1 (ld_b rfl ob_3 (.own .here) rfl) ?_
    refine .q rfl rfl rfl (val_leq rfl rfl rfl) ?_
    refine .q rfl rfl rfl (val_pick_t rfl rfl) ?_
    refine .q rfl rfl rfl (val_move rfl) ?_
    refine .case (t := 11) rfl (fun hs11 => ?_) (fun hs11 => ?_)
    · refine .q rfl rfl rfl (val_fieldAddr rfl fa_26_14) ?_
      refine .qs rfl rfl rfl H1 (ld_b rfl ob_3 (.own .here) rfl) ?_
      refine .q rfl rfl rfl (val_leq rfl rfl rfl) ?_
      refine .q rfl rfl rfl (val_pick_t rfl rfl) ?_
      refine .q rfl rfl rfl (val_move rfl) ?_
      refine .case (t := 16) rfl (fun hs16 => ?_) (fun hs16 => ?_)
      · refine .q rfl rfl rfl (val_fieldAddr rfl fa_26_7) ?_
        refine .qs rfl rfl rfl H1 (ld_b rfl ob_3 (.own .here) rfl) ?_
        refine .q rfl rfl rfl (val_leq rfl rfl rfl) ?_
        refine .q rfl rfl rfl (val_pick_t rfl rfl) ?_
        refine .q rfl rfl rfl (val_move rfl) ?_
        refine .case (t := 21) rfl (fun hs21 => ?_) (fun hs21 => ?_)
        · refine .q rfl rfl rfl (val_fieldAddr rfl fa_26_10) ?_
          refine .qs rfl rfl rfl H1 (ld_b rfl ob_3 (.own .here) rfl) ?_
          refine .q rfl rfl rfl (val_leq rfl rfl rfl) ?_
          refine .q rfl rfl rfl (val_pick_t rfl rfl) ?_
          refine .q rfl rfl rfl (val_move rfl) ?_
          refine .case (t := 26) rfl (fun hs26 => ?_) (fun hs26 => ?_)
          · refine .q rfl rfl rfl (val_fieldAddr rfl fa_26_11) ?_
            refine .qs rfl rfl rfl H1 (ld_b rfl ob_3 (.own .here) rfl) ?_
            refine .q rfl rfl rfl (val_leq rfl rfl rfl) ?_
            refine .q rfl rfl rfl (val_pick_t rfl rfl) ?_
            refine .q rfl rfl rfl (val_move rfl) ?_
            refine .case (t := 31) rfl (fun hs31 => ?_) (fun hs31 => ?_)
            · refine .q rfl rfl rfl (val_fieldAddr rfl fa_26_5) ?_
              refine .qs rfl rfl rfl H1 (ld_b rfl ob_23 (.own .here) rfl) ?_
              refine .q rfl rfl rfl (val_len Tryz.underlying23 rfl) ?_
              refine .q rfl rfl rfl (val_leq rfl rfl rfl) ?_
              refine .q rfl rfl rfl (val_pick_t rfl rfl) ?_
              refine .q rfl rfl rfl (val_move rfl) ?_
              refine .case (t := 37) rfl (fun hs37 => ?_) (fun hs37 => ?_)
              · refine .qs rfl rfl rfl H1 (ld_w rfl ag_26 (.own .here) rfl) ?_
                refine .callx rfl rfl rfl en32 (.cons rfl .nil) (mayR_spec _ (by assumption)) H1 .nil (.ro .here (.ro (.there .here) (.ro (.there (.there .here)) (.ro (.there (.there (.there .here))) (.ro (.there (.there (.there (.there .here)))) .nil))))) (fun v2 w2 C9 H2 => ⟨fun _ => trivial, ?_⟩)
                refine .q rfl rfl rfl (val_pick_t rfl rfl) ?_
                refine .q rfl rfl rfl (val_assign rfl) ?_
                refine .nil (cj ?_)
                refine .ret (fret (res1 rfl rfl) ?_)
                refine hRR _ _ ⟨_, ⟨_, rfl, rfl, fun hh => ?_⟩, H2.sub .nil⟩
                first | (cases hh; done) | exact ⟨of_decide_eq_true hs6, of_decide_eq_true hs11, of_decide_eq_true hs16, of_decide_eq_true hs21, of_decide_eq_true hs26, of_decide_eq_true hs31, (by have h1 := of_decide_eq_true hs37; omega), C9 hh⟩
              · refine .no rfl rfl rfl ?_
                refine .no rfl rfl rfl ?_
                refine .q rfl rfl rfl (val_pick_f rfl rfl) ?_
                refine .q rfl rfl rfl (val_assign rfl) ?_
                refine .nil (cj ?_)
                refine .ret (fret (res1 rfl rfl) ?_)
                refine hRR _ _ ⟨_, ⟨_, rfl, rfl, fun hh => ?_⟩, H1.sub .nil⟩
                first | (cases hh; done) | exact ⟨of_decide_eq_true hs6, of_decide_eq_true hs11, of_decide_eq_true hs16, of_decide_eq_true hs21, of_decide_eq_true hs26, of_decide_eq_true hs31, (by have h1 := of_decide_eq_true hs37; omega), C9 hh⟩
            · refine .no rfl rfl rfl ?_
              refine .no rfl rfl rfl ?_
              refine .no rfl rfl rfl ?_
              refine .no rfl rfl rfl ?_
              refine .q rfl rfl rfl (val_pick_f rfl rfl) ?_
              refine .q rfl rfl rfl (val_move rfl) ?_
              refine .no rfl rfl rfl ?_
              refine .no rfl rfl rfl ?_
              refine .q rfl rfl rfl (val_pick_f rfl rfl) ?_
              refine .q rfl rfl rfl (val_assign rfl) ?_
              refine .nil (cj ?_)
              refine .ret (fret (res1 rfl rfl) ?_)
              refine hRR _ _ ⟨_, ⟨_, rfl, rfl, fun hh => ?_⟩, H1.sub .nil⟩
              first | (cases hh; done) | exact ⟨of_decide_eq_true hs6, of_decide_eq_true hs11, of_decide_eq_true hs16, of_decide_eq_true hs21, of_decide_eq_true hs26, of_decide_eq_true hs31, (by have h1 := of_decide_eq_true hs37; omega), C9 hh⟩
          · refine .no rfl rfl rfl ?_
            refine .no rfl rfl rfl ?_
            refine .no rfl rfl rfl ?_
            refine .q rfl rfl rfl (val_pick_f rfl rfl) ?_
            refine .q rfl rfl rfl (val_move rfl) ?_
            refine .no rfl rfl rfl ?_
            refine .no rfl rfl rfl ?_
            refine .no rfl rfl rfl ?_
            refine .no rfl rfl rfl ?_
            refine .q rfl rfl rfl (val_pick_f rfl rfl) ?_
            refine .q rfl rfl rfl (val_move rfl) ?_
            refine .no rfl rfl rfl ?_
            refine .no rfl rfl rfl ?_
            refine .q rfl rfl rfl (val_pick_f rfl rfl) ?_
            refine .q rfl rfl rfl (val_assign rfl) ?_
            refine .nil (cj ?_)
            refine .ret (fret (res1 rfl rfl) ?_)
            refine hRR _ _ ⟨_, ⟨_, rfl, rfl, fun hh => ?_⟩, H1.sub .nil⟩
            first | (cases hh; done) | exact ⟨of_decide_eq_true hs6, of_decide_eq_true hs11, of_decide_eq_true hs16, of_decide_eq_true hs21, of_decide_eq_true hs26, of_decide_eq_true hs31, (by have h1 := of_decide_eq_true hs37; omega), C9 hh⟩
        · refine .no rfl rfl rfl ?_
          refine .no rfl rfl rfl ?_
          refine .no rfl rfl rfl ?_
          refine .q rfl rfl rfl (val_pick_f rfl rfl) ?_
          refine .q rfl rfl rfl (val_move rfl) ?_
          refine .no rfl rfl rfl ?_
          refine .no rfl rfl rfl ?_
          refine .no rfl rfl rfl ?_
          refine .q rfl rfl rfl (val_pick_f rfl rfl) ?_
          refine .q rfl rfl rfl (val_move rfl) ?_
          refine .no rfl rfl rfl ?_
          refine .no rfl rfl rfl ?_
          refine .no rfl rfl rfl ?_
          refine .no rfl rfl rfl ?_
          refine .q rfl rfl rfl (val_pick_f rfl rfl) ?_
          refine .q rfl rfl rfl (val_move rfl) ?_
          refine .no rfl rfl rfl ?_
          refine .no rfl rfl rfl ?_
          refine .q rfl rfl rfl (val_pick_f rfl rfl) ?_
          refine .q rfl rfl rfl (val_assign rfl) ?_
          refine .nil (cj ?_)
          refine .ret (fret (res1 rfl rfl) ?_)
          refine hRR _ _ ⟨_, ⟨_, rfl, rfl, fun hh => ?_⟩, H1.sub .nil⟩
          first | (cases hh; done) | exact ⟨of_decide_eq_true hs6, of_decide_eq_true hs11, of_decide_eq_true hs16, of_decide_eq_true hs21, of_decide_eq_true hs26, of_decide_eq_true hs31, (by have h1 := of_decide_eq_true hs37; omega), C9 hh⟩
      · refine .no rfl rfl rfl ?_
        refine .no rfl rfl rfl ?_
        refine .no rfl rfl rfl ?_
        refine .q rfl rfl rfl (val_pick_f rfl rfl) ?_
        refine .q rfl rfl rfl (val_move rfl) ?_
        refine .no rfl rfl rfl ?_
        refine .no rfl rfl rfl ?_
        refine .no rfl rfl rfl ?_
        refine .q rfl rfl rfl (val_pick_f rfl rfl) ?_
        refine .q rfl rfl rfl (val_move rfl) ?_
        refine .no rfl rfl rfl ?_
        refine .no rfl rfl rfl ?_
        refine .no rfl rfl rfl ?_
        refine .q rfl rfl rfl (val_pick_f rfl rfl) ?_
        refine .q rfl rfl rfl (val_move rfl) ?_
        refine .no rfl rfl rfl ?_
        refine .no rfl rfl rfl ?_
        refine .no rfl rfl rfl ?_
        refine .no rfl rfl rfl ?_
        refine .q rfl rfl rfl (val_pick_f rfl rfl) ?_
        refine .q rfl rfl rfl (val_move rfl) ?_
        refine .no rfl rfl rfl ?_
        refine .no rfl rfl rfl ?_
        refine .q rfl rfl rfl (val_pick_f rfl rfl) ?_
        refine .q rfl rfl rfl (val_assign rfl) ?_
        refine .nil (cj ?_)
        refine .ret (fret (res1 rfl rfl) ?_)
        refine hRR _ _ ⟨_, ⟨_, rfl, rfl, fun hh => ?_⟩, H1.sub .nil⟩
        first | (cases hh; done) | exact ⟨of_decide_eq_true hs6, of_decide_eq_true hs11, of_decide_eq_true hs16, of_decide_eq_true hs21, of_decide_eq_true hs26, of_decide_eq_true hs31, (by have h1 := of_decide_eq_true hs37; omega), C9 hh⟩
    · refine .no rfl rfl rfl ?_
      refine .no rfl rfl rfl ?_
      refine .no rfl rfl rfl ?_
      refine .q rfl rfl rfl (val_pick_f rfl rfl) ?_
      refine .q rfl rfl rfl (val_move rfl) ?_
      refine .no rfl rfl rfl ?_
      refine .no rfl rfl rfl ?_
      refine .no rfl rfl rfl ?_
      refine .q rfl rfl rfl (val_pick_f rfl rfl) ?_
      refine .q rfl rfl rfl (val_move rfl) ?_
      refine .no rfl rfl rfl ?_
      refine .no rfl rfl rfl ?_
      refine .no rfl rfl rfl ?_
      refine .q rfl rfl rfl (val_pick_f rfl rfl) ?_
      refine .q rfl rfl rfl (val_move rfl) ?_
      refine .no rfl rfl rfl ?_
      refine .no rfl rfl rfl ?_
      refine .no rfl rfl rfl ?_
      refine .q rfl rfl rfl (val_pick_f rfl rfl) ?_
      refine .q rfl rfl rfl (val_move rfl) ?_
      refine .no rfl rfl rfl ?_
      refine .no rfl rfl rfl ?_
      refine .no rfl rfl rfl ?_
      refine .no rfl rfl rfl ?_
      refine .q rfl rfl rfl (val_pick_f rfl rfl) ?_
      refine .q rfl rfl rfl (val_move rfl) ?_
      refine .no rfl rfl rfl ?_
      refine .no rfl rfl rfl ?_
      refine .q rfl rfl rfl (val_pick_f rfl rfl) ?_
      refine .q rfl rfl rfl (val_assign rfl) ?_
      refine .nil (cj ?_)
      refine .ret (fret (res1 rfl rfl) ?_)
      refine hRR _ _ ⟨_, ⟨_, rfl, rfl, fun hh => ?_⟩, H1.sub .nil⟩
      first | (cases hh; done) | exact ⟨of_decide_eq_true hs6, of_decide_eq_true hs11, of_decide_eq_true hs16, of_decide_eq_true hs21, of_decide_eq_true hs26, of_decide_eq_true hs31, (by have h1 := of_decide_eq_true hs37; omega), C9 hh⟩
  · refine .no rfl rfl rfl ?_
    refine .no rfl rfl rfl ?_
    refine .no rfl rfl rfl ?_
    refine .q rfl rfl rfl (val_pick_f rfl rfl) ?_
    refine .q rfl rfl rfl (val_move rfl) ?_
    refine .no rfl rfl rfl ?_
    refine .no rfl rfl rfl ?_
    refine .no rfl rfl rfl ?_
    refine .q rfl rfl rfl (val_pick_f rfl rfl) ?_
    refine .q rfl rfl rfl (val_move rfl) ?_
    refine .no rfl rfl rfl ?_
    refine .no rfl rfl rfl ?_
    refine .no rfl rfl rfl ?_
    refine .q rfl rfl rfl (val_pick_f rfl rfl) ?_
    refine .q rfl rfl rfl (val_move rfl) ?_
    refine .no rfl rfl rfl ?_
    refine .no rfl rfl rfl ?_
    refine .no rfl rfl rfl ?_
    refine .q rfl rfl rfl (val_pick_f rfl rfl) ?_
    refine .q rfl rfl rfl (val_move rfl) ?_
    refine .no rfl rfl rfl ?_
    refine .no rfl rfl rfl ?_
    refine .no rfl rfl rfl ?_
    refine .q rfl rfl rfl (val_pick_f rfl rfl) ?_
    refine .q rfl rfl rfl (val_move rfl) ?_
    refine .no rfl rfl rfl ?_
    refine .no rfl rfl rfl ?_
    refine .no rfl rfl rfl ?_
    refine .no rfl rfl rfl ?_
    refine .q rfl rfl rfl (val_pick_f rfl rfl) ?_
    refine .q rfl rfl rfl (val_move rfl) ?_
    refine .no rfl rfl rfl ?_
    refine .no rfl rfl rfl ?_
    refine .q rfl rfl rfl (val_pick_f rfl rfl) ?_
    refine .q rfl rfl rfl (val_assign rfl) ?_
    refine .nil (cj ?_)
    refine .ret (fret (res1 rfl rfl) ?_)
    refine hRR _ _ ⟨_, ⟨_, rfl, rfl, fun hh => ?_⟩, H1.sub .nil⟩
    first | (cases hh; done) | exact ⟨of_decide_eq_true hs6, of_decide_eq_true hs11, of_decide_eq_true hs16, of_decide_eq_true hs21, of_decide_eq_true hs26, of_decide_eq_true hs31, (by have h1 := of_decide_eq_true hs37; omega), C9 hh⟩
end Go.Proofs.YtmbibkifbehgnaaGreatDoor
namespace Go.Proofs.YtmbibkifbehgnaaGreatDoor.Sk
open Go
set_option linter.unusedVariables false
set_option linter.unusedSimpArgs false
/-- What is read may be told otherwise. -/
def Tells (r' r : As) : Prop := ∀ Y w, r'.on Y w → ∃ Y', r.on Y' w ∧ ∀ k, Y' k → Y k
theorem Tells.refl (r : As) : Tells r r := fun Y w h => ⟨Y, h, fun _ h => h⟩
theorem Tells.blk {b : Nat} {cs : List Value} {e : TypeId} : Tells (blk b cs e) (arr (some ⟨b, 0, none⟩) cs) := fun Y w hY =>
  ⟨Y, .inr ⟨b, 0, rfl, hY.1, (Array.getElem?_eq_some_iff.1 hY.2).1, fun j u hu => by simp [World.cell?, hY.2, hu]⟩, fun _ h => h⟩
inductive Tell : List As → List As → Prop where
  | nil {R' : List As} : Tell R' []
  | cons {R' R R'' : List As} {r r' : As} (h : At R' r' R'') (t : Tells r' r) (n : Tell R' R) : Tell R' (r :: R)
theorem Tell.ro {R' R : List As} (h : Tell R' R) {X : Nat → Prop} {w : World} (hR : Ro R' X w) : Ro R X w := by
  induction h with
  | nil => intro r hr; cases hr
  | cons hat ht _ ih =>
    intro r hr
    rcases List.mem_cons.1 hr with rfl | hr
    · obtain ⟨Y, hY, hd⟩ := hR _ hat.mem
      obtain ⟨Y', hY', hs⟩ := ht Y w hY
      exact ⟨Y', hY', fun k hk => hd k (hs k hk)⟩
    · exact ih r hr
theorem Spec.tell {P : Program} {f : FuncId} {args : Array Value} {Rc Rc' F : List As} {Post : Ending → List As → Prop} (h : Sk.Spec P f args Rc F Post) (ht : Tell Rc' Rc) : Sk.Spec P f args Rc' F Post :=
  fun w X hF hR => h w X hF (ht.ro hR)
theorem Spl_at {α : Type} {xs ys : List α} : ∀ {o : Nat}, o + ys.length ≤ xs.length → Spl xs o ys (xs.take o ++ ys ++ xs.drop (o + ys.length)) := by
  have ovr : ∀ (ys xs : List α), ys.length ≤ xs.length → Ovr xs ys (ys ++ xs.drop ys.length) := by
    intro ys
    induction ys with
    | nil => intro xs _; exact .nil
    | cons y ys ih =>
      intro xs h
      cases xs with
      | nil => simp at h
      | cons x xs => exact .cons (ih xs (by simpa using h))
  induction xs with
  | nil =>
    intro o h
    have ho : o = 0 := by simp at h; omega
    have hy : ys = [] := List.eq_nil_of_length_eq_zero (by rw [List.length_nil] at h; omega)
    subst ho; subst hy
    exact .here .nil
  | cons x xs ih =>
    intro o h
    cases o with
    | zero => simpa using Spl.here (ovr ys (x :: xs) (by simpa using h))
    | succ o =>
      have := ih (o := o) (by simp at h; omega)
      simpa [show o + 1 + ys.length = (o + ys.length) + 1 by omega] using Spl.skip (x := x) this
/-- a store of one cell into a list of one-cell elements -/
theorem Spl_set {α : Type} {enc : α → Value} {l : List α} {i : Nat} {x : α} (h : i < l.length) : Spl (l.map enc) (0 + i * 1) [enc x] ((l.set i x).map enc) := by
  have h1 := Spl_at (xs := l.map enc) (ys := [enc x]) (o := 0 + i * 1) (by simp; omega)
  have e : (l.map enc).take (0 + i * 1) ++ [enc x] ++ (l.map enc).drop (0 + i * 1 + [enc x].length) = (l.set i x).map enc := by
    rw [List.map_set, Nat.zero_add, Nat.mul_one]
    simp only [List.length_singleton]
    rw [List.set_eq_take_append_cons_drop, if_pos (by simpa using h)]
    simp
  rw [e] at h1
  exact h1
/-- A region that draws; S: of what is owned only a part. -/
theorem CJ.drawS2 {P : Program} {nt : NT} {Q : Exit → Act → World → Prop} {k : L} {w : World} {id : Nat} {ops : Array Oper} {w0 : World} {M : Nat → Prop} {R F F0 F1 : List As} (n : Nat) (l : Tr) (hm : P.follows .mixedOrders = true)
    (hb : (Region.noSelect ops && tailB ops n && (canon ops n ops.size (Array.replicate ops.size false) == some l)) = true) (H : St w0 w M R F) (hat : Ats F F0 F1)
    (hQ : ∀ c a d v w, Q (.panic c) (a.put d v) w → Q (.panic c) a w)
    (h : ∀ w', St w0 w' M R F → RJ P nt ops Q (fun w' => St w0 w' M R F0) n l k w') : CJ P nt (.region id ops true) Q k w :=
  CJ.drawn n l hm hb _ (H.sub hat).drew hQ (h _ H.drew)
/-- an owned row, told as an owned array -/
theorem St.rowOwn {w0 w : World} {M : Nat → Prop} {R F F' : List As} {v : Value} {e : TypeId} {sz n : Nat} {xs : List Value} (H : St w0 w M R F) (hat : At F (row v e sz n xs) F') :
    ∃ A cap, v = .slice A n cap ∧ (A = none → n = 0 ∧ cap = 0) ∧ St w0 w M R (arr A xs :: F') := by
  obtain ⟨⟨X, h1, h2, h3⟩, h4⟩ := H
  obtain ⟨X1, X2, ⟨hrow, hblk⟩, g2, g3, g4⟩ := Own.pick hat h1
  rcases hrow.2 with ⟨rfl, rfl⟩ | ⟨g, cap, cur, rfl, hb, hg, hnc, hcm, hcs, htake⟩
  · exact ⟨none, 0, rfl, fun _ => ⟨rfl, rfl⟩, ⟨⟨X, ⟨X1, X2, .inl ⟨List.eq_nil_of_length_eq_zero (by simpa using hrow.1), fun k hk => by have := (hblk k).1 hk; simp [Value.ownBlock] at this⟩, g2, g3, g4⟩, h2, h3⟩, h4⟩⟩
  · exact ⟨some ⟨g, 0, none⟩, cap, rfl, fun h => (by cases h), ⟨⟨X, ⟨X1, X2, .inr ⟨g, 0, rfl, fun k => by rw [hblk k]; simp [Value.ownBlock, eq_comm], (Array.getElem?_eq_some_iff.1 hg).1, fun j u hu => by
      have := hrow.cells (g := g) rfl j u hu
      rwa [add_plain] at this⟩, g2, g3, g4⟩, h2, h3⟩, h4⟩⟩
theorem ix_map {α : Type} {enc : α → Value} {l : List α} {i : Nat} {x : α} (h : l[i]? = some x) : (l.map enc)[0 + i * 1]? = some (enc x) := by
  simp [h]
theorem made_one (v : Value) (n : Nat) : (madeCells #[v] (n * 1)).toList = List.replicate n v := by
  apply List.ext_getElem
  · simp [madeCells]
  · intro i h1 h2
    simp [madeCells, Nat.mod_one]
section
variable {P : Program} {nt : NT} {ops : Array Oper} {Q : Exit → Act → World → Prop} {S : World → Prop} {n i d : Nat} {k : L} {R F : List As} {M : Nat → Prop} {w0 w : World} {ty : TypeId} {pos : String} {af : Array Edge} {g : Option (Nat × Bool)} {l : Tr}
theorem RJ.mk {t e : TypeId} {sz bytes : Nat} {x y : Operand} {ki kj : IntKind} {len cap : Nat} {zs : List Value} {z : Value} (ho : ops[i]? = some (Oper.mk (some d) (.makeSlice t x y) ty pos af g)) (hg : gd ops k g = some true) (hd : Nat.blt d nt.n = true)
    (hap : apB P t e sz bytes = true) (hz : (P.info? e).bind (·.zero) = some z) (hx : ev k x = some (.int ki (len : Int))) (hy : ev k y = some (.int kj (cap : Int))) (hlc : len ≤ cap) (hb : bytes * cap ≤ 281474976710656) (h63 : cap ≤ maxLen)
    (hzs : (madeCells z.cells (cap * sz)).toList = zs) (H : St w0 w M R F)
    (h : ∀ w' b, St w0 w' M R (blk b zs e :: F) → (i < n → S w') ∧ RJ P nt ops Q S n l ((d, .slice (some ⟨b, 0, none⟩) len cap) :: k) w') : RJ P nt ops Q S n (.cons (i, false) l) k w := by
  obtain ⟨inf, z', hu, hi, hz', hsz, hby, _, _⟩ := apB_spec hap
  have : z' = z := by simpa [hi, hz'] using hz
  subst this hsz hby
  exact RJ.make ho hg hd hu hi hz' hx hy hlc hb h63 hzs H h
theorem RJ.copy {t e : TypeId} {sz bytes : Nat} {x y : Operand} {b m c c' : Nat} {A : Option Addr} {zs news : List Value} {F' : List As} (ho : ops[i]? = some (Oper.mk (some d) (.call ⟨.builtin .copy, #[x, y], #[t, t]⟩) ty pos af g)) (hg : gd ops k g = some true) (hd : Nat.blt d nt.n = true)
    (hap : apB P t e sz bytes = true) (hx : ev k x = some (.slice (some ⟨b, 0, none⟩) m c)) (hy : ev k y = some (.slice A m c')) (H : St w0 w M R F) (hat : At F (blk b zs e) F') (hsrc : Src w A m c' news) (hl : news.length = m * sz) (hlz : zs.length = m * sz) (h1 : ∀ u ∈ news, u.oneCell' = true)
    (h : ∀ w', St w0 w' M R (blk b news e :: F') → (i < n → S w') ∧ RJ P nt ops Q S n l ((d, goInt m) :: k) w') : RJ P nt ops Q S n (.cons (i, false) l) k w := by
  obtain ⟨inf, z, hu, hi, hz, hsz, hby, _, _⟩ := apB_spec hap
  subst hsz
  have hb : w.heap[b]? = some (.cells zs.toArray e (0, 0)) := by
    obtain ⟨⟨X, hX, _⟩, _⟩ := H
    obtain ⟨X1, X2, ⟨_, g⟩, _⟩ := Own.pick hat hX
    exact g
  have hst : St w0 (w.setRow b news.toArray) M R (blk b news e :: F') := by
    refine H.store hat (vs := news) (o := 0) ?_
    have := Spl_at (xs := zs) (ys := news) (o := 0) (by omega)
    simpa [List.drop_eq_nil_of_le (show zs.length ≤ news.length by omega)] using this
  have := h _ hst
  refine RJ.act ho hg hd (fun a ha => ?_) this.1 this.2
  rcases hsrc with ⟨rfl, rfl, rfl, rfl⟩ | ⟨a0, rfl, hcell⟩
  · have hz0 : zs = [] := List.eq_nil_of_length_eq_zero (by simpa using hlz)
    subst hz0
    have hr := run_copy_nil (P := P) w t t ty e ⟨b, 0, none⟩ 0 c hu (by simp [hi])
    have hs := setRow_self w b #[] e (0, 0) hb
    have hs' : w.setRow b [].toArray = w := hs
    rw [hs']
    simp only [execOp, resolve, List.map_toArray, List.map_cons, List.map_nil, ha.ev hx, ha.ev hy, invoke, builtin, Sem.run_bind, Sem.run_pure, Result.andThen_ok, hr]; rfl
  · have hl' := run_loadCells_list (P := P) w a0 news hcell
    have hst := run_storeCells_at P b 0 e news 0 zs.toArray w hb (by simp; omega) h1
    have e0 : (zs.toArray.toList.take (0 + 0) ++ news ++ zs.toArray.toList.drop (0 + 0 + news.length)) = news := by
      simp; omega
    rw [e0] at hst
    have hr : (Builtin.copy_ #[t, t] ty #[.slice (some ⟨b, 0, none⟩) m c, .slice (some a0) m c']).run P w = .ok (goInt m) (w.setRow b news.toArray) := by
      simp [Builtin.copy_, run_underlying hu, Builtin.lenOf, Builtin.firstCells, sizeOf, typeInfo, hi, ← hl, hl', hst]
    simp only [execOp, resolve, List.map_toArray, List.map_cons, List.map_nil, ha.ev hx, ha.ev hy, invoke, builtin, Sem.run_bind, Sem.run_pure, Result.andThen_ok, hr]
end
end Go.Proofs.YtmbibkifbehgnaaGreatDoor.Sk
namespace Go.Proofs.YtmbibkifbehgnaaGreatDoor
open Go Sk
set_option linter.unusedVariables false
set_option linter.unusedSimpArgs false
theorem en118 : Enters Tryz.prog 118 := fun args w => by kernel_rfl
theorem ap_193  : apB Tryz.prog 193 4 1 1 = true := by kernel_rfl
theorem el_193  : elB Tryz.prog 193 1 = true := by kernel_rfl
theorem mk_183_0_1_2 (x0_ : Int) (x1_ : Int) (x2_A : Option Addr) (x2_n : Nat) (x2_c : Nat) : Tryz.prog.built 183 [(0, .int .i64 x0_), (1, .int .i64 x1_), (2, .slice x2_A x2_n x2_c)] = some (List.toArray [.int .i64 x0_, .int .i64 x1_, .slice x2_A x2_n x2_c]) := by kernel_rfl
theorem sz_4  : (Tryz.prog.info? 4).map (·.size) = some 1 := by kernel_rfl
theorem ze_3  : (Tryz.prog.info? 3).bind (·.zero) = some (.int .i64 0) := by kernel_rfl
theorem ze_4  : (Tryz.prog.info? 4).bind (·.zero) = some (.bool false) := by kernel_rfl
theorem one_encC {l : List Cl} : ∀ u ∈ l.flatMap encC, u.oneCell' = true := by
  intro u hu
  obtain ⟨b, _, hb⟩ := List.mem_flatMap.1 hu
  rcases (by simpa using hb : u = i64 b.x ∨ u = i64 b.y) with rfl | rfl <;> rfl
theorem zs_len {z : Array Value} {n : Nat} : (madeCells z n).toList.length = n := by simp [madeCells]
theorem listC_spec (A : Option Addr) (cap : Nat) (l : List Cl) (hl : l.length ≤ 1000) (hn : A = none → l.length = 0 ∧ cap = 0) : Sk.Spec Tryz.prog 118 #[.slice A l.length cap] [arr A (l.flatMap encC)] [] fun e F' => ∃ v, e = .returned v ∧ F' = [row v 38 2 l.length (l.flatMap encC)] ∧ True := by
  refine Spec.of_code (vs := [_]) (k0 := [(0, _)]) 14 Tryz.func118 rfl Tryz.ntmps118 rfl (.cons .nil) fun w X RR hRR H => ?_
  refine .seq ?_
  refine .plain rfl ?_
  refine .q rfl rfl rfl (val_assign rfl) ?_
  refine .nil (cj ?_)
  refine .seq ?_
  refine .seq ?_
  refine .plain rfl ?_
  refine .q rfl rfl rfl (val_move rfl) ?_
  refine .q rfl rfl rfl (val_len Tryz.underlying22 rfl) ?_
  refine .q rfl rfl rfl (val_eql rfl rfl rfl) ?_
  refine .nil (cj ?_)
  refine .cond rfl (fun hc0 => ?_) (fun hc0 => ?_)
  · have hl0 : l = [] := List.eq_nil_of_length_eq_zero (by simpa using hc0)
    refine .seq ?_
    refine .plain rfl ?_
    refine .q rfl rfl rfl (val_assign rfl) ?_
    refine .nil (cj ?_)
    refine .ret (fret (res1 rfl rfl) ?_)
    refine hRR _ _ ⟨_, ⟨_, rfl, rfl, trivial⟩, ?_⟩
    first | (subst hl0; exact (H.rowNil 38 2).sub (.cons .here .nil)) | (have h9 := H.blkRow (sz := 2) (n := l.length) (cap := l.length) .here (flat_len encC_len _) (Nat.le_refl _) (by simp only [maxLen]; omega); rw [List.take_of_length_le (by rw [flat_len encC_len]; exact Nat.le_refl _)] at h9; exact h9)
  · refine .skip (cj ?_)
    refine .seq ?_
    refine .plain rfl ?_
    refine .q rfl rfl rfl (val_move rfl) ?_
    refine .q rfl rfl rfl (val_len Tryz.underlying22 rfl) ?_
    refine .mk rfl rfl rfl ap_22 ze_38 rfl rfl (Nat.le_refl _) (by omega) (by simp only [maxLen]; omega) rfl H (fun w1 b1 H1 => ⟨fun _ => trivial, ?_⟩)
    refine .q rfl rfl rfl (val_assign rfl) ?_
    refine .nil (cj ?_)
    refine .seq ?_
    refine .plain rfl ?_
    refine .q rfl rfl rfl (val_move rfl) ?_
    refine .q rfl rfl rfl (val_move rfl) ?_
    refine .copy rfl rfl rfl ap_22 rfl rfl H1 .here (Has.srcArr (.ro .here) hn H1) (flat_len encC_len _) (zs_len) one_encC (fun w2 H2 => ⟨fun _ => trivial, ?_⟩)
    refine .nil (cj ?_)
    refine .seq ?_
    refine .plain rfl ?_
    refine .q rfl rfl rfl (val_move rfl) ?_
    refine .q rfl rfl rfl (val_assign rfl) ?_
    refine .nil (cj ?_)
    refine .ret (fret (res1 rfl rfl) ?_)
    refine hRR _ _ ⟨_, ⟨_, rfl, rfl, trivial⟩, ?_⟩
    first | (subst hl0; exact (H2.rowNil 38 2).sub (.cons .here .nil)) | (have h9 := H2.blkRow (sz := 2) (n := l.length) (cap := l.length) .here (flat_len encC_len _) (Nat.le_refl _) (by simp only [maxLen]; omega); rw [List.take_of_length_le (by rw [flat_len encC_len]; exact Nat.le_refl _)] at h9; exact h9)
/-! ### the kinds that laid leaves -/
abbrev items (c : Cf) : List Cl := c.blocked ++ c.ports
def numI (c : Cf) (x : Cl) : Nat := (x.y * c.w + x.x).toNat
def area (c : Cf) : Nat := (c.w * c.h).toNat
def valI (c : Cf) (j : Nat) : Int := if j < c.blocked.length then -1 else (j : Int) - (c.blocked.length : Int) + 1
def layK (c : Cf) : Nat → List Int
  | 0 => List.replicate (area c) 0
  | j + 1 => (layK c j).set (numI c ((items c).getD j ⟨0, 0⟩)) (valI c j)
def seenK (c : Cf) : Nat → List Bool
  | 0 => List.replicate (area c) false
  | j + 1 => (seenK c j).set (numI c ((items c).getD j ⟨0, 0⟩)) true
theorem layK_len (c : Cf) : ∀ j, (layK c j).length = area c
  | 0 => by simp [layK]
  | j + 1 => by rw [layK, List.length_set, layK_len c j]
theorem seenK_len (c : Cf) : ∀ j, (seenK c j).length = area c
  | 0 => by simp [seenK]
  | j + 1 => by rw [seenK, List.length_set, seenK_len c j]
theorem seenK_get (c : Cf) {i : Nat} (hi : i < area c) : ∀ j, (∀ j', j' < j → numI c ((items c).getD j' ⟨0, 0⟩) ≠ i) → (seenK c j)[i]? = some false
  | 0, _ => by simp [seenK, hi]
  | j + 1, h => by
    rw [seenK, List.getElem?_set_ne (h j (Nat.lt_succ_self _))]
    exact seenK_get c hi j fun j' hj' => h j' (by omega)
theorem items_in {c : Cf} (hm : MayOk c) {j : Nat} {x : Cl} (h : (items c)[j]? = some x) : inR c x.x x.y = true := by
  rcases Nat.lt_or_ge j c.blocked.length with hj | hj
  · rw [List.getElem?_append_left hj] at h
    exact (hm.blocked j x h).1
  · rw [List.getElem?_append_right hj] at h
    exact (hm.ports _ x h).1
theorem items_nodup {c : Cf} (hm : MayOk c) : (items c).Nodup := by
  rw [List.nodup_append]
  refine ⟨List.nodup_iff_count.2 fun a => ?_, List.nodup_iff_count.2 fun a => ?_, fun a ha b hb e => ?_⟩
  · by_cases h : a ∈ c.blocked
    · obtain ⟨i, hi⟩ := List.getElem?_of_mem h
      exact (hm.blocked i a hi).2.1
    · rw [List.count_eq_zero_of_not_mem h]; omega
  · by_cases h : a ∈ c.ports
    · obtain ⟨i, hi⟩ := List.getElem?_of_mem h
      exact (hm.ports i a hi).2.1
    · rw [List.count_eq_zero_of_not_mem h]; omega
  · subst e
    obtain ⟨i, hi⟩ := List.getElem?_of_mem ha
    have := (hm.blocked i a hi).2.2
    exact absurd hb (List.count_eq_zero.1 this)
theorem inR_iff {c : Cf} {x y : Int} (h : inR c x y = true) : (0 ≤ x ∧ x < c.w) ∧ (0 ≤ y ∧ y < c.h) := by
  simp [inR] at h; omega
theorem numI_inj {c : Cf} {a b : Cl} (ha : inR c a.x a.y = true) (hb : inR c b.x b.y = true) (h : numI c a = numI c b) : a = b := by
  obtain ⟨h1, h2⟩ := inR_iff ha
  obtain ⟨h3, h4⟩ := inR_iff hb
  have e1 : 0 ≤ a.y * c.w := Int.mul_nonneg h2.1 (by omega)
  have e2 : 0 ≤ b.y * c.w := Int.mul_nonneg h4.1 (by omega)
  have e3 : a.y * c.w + a.x = b.y * c.w + b.x := by
    unfold numI at h; omega
  have hw : 0 < c.w := by omega
  have hy : a.y = b.y := by
    have q1 : (a.y * c.w + a.x) / c.w = a.y := by
      rw [Int.add_comm, Int.add_mul_ediv_right _ _ (by omega), Int.ediv_eq_zero_of_lt h1.1 h1.2]; omega
    have q2 : (b.y * c.w + b.x) / c.w = b.y := by
      rw [Int.add_comm, Int.add_mul_ediv_right _ _ (by omega), Int.ediv_eq_zero_of_lt h3.1 h3.2]; omega
    rw [← q1, ← q2, e3]
  have hx : a.x = b.x := by rw [hy] at e3; omega
  cases a; cases b; simp_all
theorem seen_no {c : Cf} (hm : MayOk c) {j : Nat} {x : Cl} (h : (items c)[j]? = some x) (hi : numI c x < area c) : (seenK c j)[numI c x]? = some false := by
  refine seenK_get c hi j fun j' hj' e => ?_
  have hj := (List.getElem?_eq_some_iff.1 h).1
  have h' := getD_get (l := items c) (i := j') (by omega) ⟨0, 0⟩
  have := numI_inj (items_in hm h') (items_in hm h) e
  rw [this] at h'
  have h1 := List.pairwise_iff_getElem.1 (items_nodup hm) j' j (by omega) hj hj'
  obtain ⟨_, e1⟩ := List.getElem?_eq_some_iff.1 h
  obtain ⟨_, e2⟩ := List.getElem?_eq_some_iff.1 h'
  exact h1 (e2.trans e1.symm)
theorem area_le {c : Cf} (hn : NumOk c) : (area c : Int) = c.w * c.h ∧ area c ≤ 256 ∧ 1 ≤ area c := by
  have h1 : c.w * c.h ≤ 16 * 16 := Int.mul_le_mul hn.w.2 hn.h.2 (by have := hn.h.1; omega) (by omega)
  have h2 : 0 < c.w * c.h := Int.mul_pos (by have := hn.w.1; omega) (by have := hn.h.1; omega)
  unfold area
  omega
theorem numI_lt {c : Cf} (hn : NumOk c) {x y : Int} (h : inR c x y = true) : numI c ⟨x, y⟩ < area c ∧ ∀ K : List Int, K.length = area c → numB ⟨c.w, c.h, K⟩ x y = ((numI c ⟨x, y⟩ : Nat) : Int) := by
  obtain ⟨h1, h2⟩ := inR_iff h
  have ha := area_le hn
  have hm := mul_lt h1.1 h1.2 h2.1 h2.2
  have e : (numI c ⟨x, y⟩ : Int) = y * c.w + x := by
    have e0 : numI c ⟨x, y⟩ = (y * c.w + x).toNat := rfl
    omega
  refine ⟨by omega, fun K hK => ?_⟩
  have hg : Gd.Ok ⟨c.w, c.h, K⟩ := ⟨hn.w.1, hn.w.2, hn.h.1, hn.h.2, by rw [hK]; exact ha.1⟩
  rw [(numB_in hg h1 h2).1, e]
theorem nodup_lt : ∀ (n : Nat) (l : List Nat), l.Nodup → (∀ x ∈ l, x < n) → l.length ≤ n
  | 0, l, _, h => by
    cases l with
    | nil => simp
    | cons x l => exact absurd (h x List.mem_cons_self) (Nat.not_lt_zero _)
  | n + 1, l, hd, h => by
    have h1 := nodup_lt n (l.erase n) (hd.erase n) fun x hx => by
      have h2 := (hd.mem_erase_iff).1 hx
      have := h x h2.2
      omega
    by_cases hm : n ∈ l
    · rw [List.length_erase_of_mem hm] at h1; omega
    · rw [List.erase_of_not_mem hm] at h1; omega
theorem blocked_le {c : Cf} (hm : MayOk c) : c.blocked.length ≤ area c := by
  have h := nodup_lt (area c) (c.blocked.map (numI c)) (by
    have hd := items_nodup hm
    rw [List.nodup_append] at hd
    refine List.pairwise_map.2 (List.Pairwise.imp_of_mem ?_ hd.1)
    intro a b ha hb hne e
    obtain ⟨i, hi⟩ := List.getElem?_of_mem ha
    obtain ⟨j, hj⟩ := List.getElem?_of_mem hb
    exact hne (numI_inj (hm.blocked i a hi).1 (hm.blocked j b hj).1 e)) (by
    intro x hx
    obtain ⟨a, ha, rfl⟩ := List.mem_map.1 hx
    obtain ⟨i, hi⟩ := List.getElem?_of_mem ha
    exact (numI_lt hm.num (hm.blocked i a hi).1).1)
  simpa using h
structure LI where
  bg : Nat
  bk : Nat
abbrev kblk (b : Nat) (K : List Int) : As := blk b (K.map (Value.int .i64)) 3
abbrev sblk (b : Nat) (S : List Bool) : As := blk b (S.map Value.bool) 4
theorem gblk_set {bg : Nat} {A : Option Addr} {cap : Nat} {w h : Int} {K : List Int} {i : Nat} {v : Int} : gblk bg A cap ⟨w, h, K.set i v⟩ = gblk bg A cap ⟨w, h, K⟩ := by simp [gblk]
theorem lay0 (c : Cf) (b5 b6 b7 : Nat) : [gblk b6 (some ⟨b5, 0, none⟩) (area c) ⟨c.w, c.h, layK c 0⟩, kblk b5 (layK c 0), sblk b7 (seenK c 0)] =
    [blk b6 [i64 c.w, i64 c.h, .slice (some ⟨b5, 0, none⟩) (area c) (area c)] 183, blk b5 (List.replicate (area c) (i64 0)) 3, blk b7 (List.replicate (area c) (.bool false)) 4] := by
  simp only [layK, seenK, gblk, kblk, sblk, List.length_replicate, List.map_replicate]
theorem lay_b {c : Cf} {b5 b6 b7 j : Nat} {x : Cl} (hx : (items c)[j]? = some x) (h : j < c.blocked.length) : [gblk b6 (some ⟨b5, 0, none⟩) (area c) ⟨c.w, c.h, layK c (j + 1)⟩, kblk b5 (layK c (j + 1)), sblk b7 (seenK c (j + 1))] =
    [gblk b6 (some ⟨b5, 0, none⟩) (area c) ⟨c.w, c.h, layK c j⟩, kblk b5 ((layK c j).set (numI c x) (-1)), sblk b7 ((seenK c j).set (numI c x) true)] := by
  have e : (items c).getD j ⟨0, 0⟩ = x := by rw [List.getD_eq_getElem?_getD, hx]; rfl
  rw [layK, seenK, e, gblk_set, valI, if_pos h]
theorem lay_p {c : Cf} {b5 b6 b7 j : Nat} {x : Cl} (hx : (items c)[j]? = some x) (h : ¬ j < c.blocked.length) : [gblk b6 (some ⟨b5, 0, none⟩) (area c) ⟨c.w, c.h, layK c (j + 1)⟩, kblk b5 (layK c (j + 1)), sblk b7 (seenK c (j + 1))] =
    [gblk b6 (some ⟨b5, 0, none⟩) (area c) ⟨c.w, c.h, layK c j⟩, kblk b5 (((layK c j).set (numI c x) (-1)).set (numI c x) ((j : Int) - (c.blocked.length : Int) + 1)), sblk b7 ((seenK c j).set (numI c x) true)] := by
  have e : (items c).getD j ⟨0, 0⟩ = x := by rw [List.getD_eq_getElem?_getD, hx]; rfl
  rw [layK, seenK, e, gblk_set, valI, if_neg h, List.set_set]
theorem stF {w0 w : World} {M : Nat → Prop} {R : List As} {a b d a' b' d' e : As} (h : [a, b, d] = [a', b', d']) (H : St w0 w M R [a', b', d', e]) : St w0 w M R [a, b, d, e] := by
  obtain ⟨rfl, rfl, rfl⟩ : a = a' ∧ b = b' ∧ d = d' := by simpa using h
  exact H
theorem laid_spec (c : Cf) (hc : c.Fit) (hm : MayOk c) : Sk.Spec Tryz.prog 98 #[.agg (encCf c).toArray] [cb c, cp c] [] fun e F' => ∃ x : LI, e = .returned (.tuple #[ptr x.bg, .bool true]) ∧ F' = [gblk x.bg (some ⟨x.bk, 0, none⟩) (area c) ⟨c.w, c.h, layK c (items c).length⟩, kblk x.bk (layK c (items c).length)] ∧ True := by
  have hn := hm.num
  obtain ⟨ha, ha2, ha1⟩ := area_le hn
  have hw := hn.w
  have hh := hn.h
  have hbl := hm.bl
  have hpl := hm.pl
  have hbn := hc.bn
  have hpn := hc.pn
  have hwh : w64 (c.w * c.h) = ((area c : Nat) : Int) := by rw [ha]; exact w64_of (by omega)
  have hlb : (c.blocked.length : Int) ≤ (area c : Int) := by have := blocked_le hm; omega
  refine Spec.of_code (vs := [_]) (k0 := [(0, _)]) 105 Tryz.func98 rfl Tryz.ntmps98 rfl (.cons .nil) fun w X RR hRR H => ?_
  refine .seq ?_
  refine .plain rfl ?_
  refine .box rfl rfl rfl rfl rfl H (fun w1 b1 H1 => ⟨fun _ => trivial, ?_⟩)
  refine .q rfl rfl rfl (val_assign rfl) ?_
  refine .q rfl rfl rfl (val_assign rfl) ?_
  refine .nil (cj ?_)
  refine .seq ?_
  refine .seq ?_
  refine .plain rfl ?_
  refine .q rfl rfl rfl (val_fieldAddr rfl fa_26_0) ?_
  refine .qs rfl rfl rfl H1 (ld_b rfl ob_3 (.own .here) rfl) ?_
  refine .call1 rfl rfl rfl en97 (.cons rfl (.cons rfl (.cons rfl .nil))) (within_spec _ _ _) H1 .nil .nil (fun w2 H2 => ⟨fun _ => trivial, ?_⟩)
  refine .q rfl rfl rfl (val_not rfl rfl) ?_
  refine .q rfl rfl rfl (val_move rfl) ?_
  refine .case (t := 13) rfl (fun hs13 => ?_) (fun hs13 => ?_)
  · exfalso; simp [withinB] at hs13; omega
  · refine .q rfl rfl rfl (val_fieldAddr rfl fa_26_1) ?_
    refine .qs rfl rfl rfl H2 (ld_b rfl ob_3 (.own .here) rfl) ?_
    refine .call1 rfl rfl rfl en97 (.cons rfl (.cons rfl (.cons rfl .nil))) (within_spec _ _ _) H2 .nil .nil (fun w3 H3 => ⟨fun _ => trivial, ?_⟩)
    refine .q rfl rfl rfl (val_not rfl rfl) ?_
    refine .q rfl rfl rfl (val_pick_f rfl rfl) ?_
    refine .q rfl rfl rfl (val_move rfl) ?_
    refine .case (t := 19) rfl (fun hs19 => ?_) (fun hs19 => ?_)
    · exfalso; simp [withinB] at hs19; omega
    · refine .q rfl rfl rfl (val_fieldAddr rfl fa_26_4) ?_
      refine .qs rfl rfl rfl H3 (ld_b rfl ob_22 (.own .here) rfl) ?_
      refine .q rfl rfl rfl (val_len Tryz.underlying22 rfl) ?_
      refine .q rfl rfl rfl (val_gtr rfl rfl rfl) ?_
      refine .q rfl rfl rfl (val_pick_f rfl rfl) ?_
      refine .q rfl rfl rfl (val_move rfl) ?_
      refine .case (t := 25) rfl (fun hs25 => ?_) (fun hs25 => ?_)
      · exfalso; simp at hs25; omega
      · refine .q rfl rfl rfl (val_fieldAddr rfl fa_26_3) ?_
        refine .qs rfl rfl rfl H3 (ld_b rfl ob_22 (.own .here) rfl) ?_
        refine .q rfl rfl rfl (val_len Tryz.underlying22 rfl) ?_
        refine .q rfl rfl rfl (val_fieldAddr rfl fa_26_0) ?_
        refine .qs rfl rfl rfl H3 (ld_b rfl ob_3 (.own .here) rfl) ?_
        refine .q rfl rfl rfl (val_fieldAddr rfl fa_26_1) ?_
        refine .qs rfl rfl rfl H3 (ld_b rfl ob_3 (.own .here) rfl) ?_
        refine .q rfl rfl rfl (val_mul rfl rfl hwh) ?_
        refine .q rfl rfl rfl (val_gtr rfl rfl rfl) ?_
        refine .q rfl rfl rfl (val_pick_f rfl rfl) ?_
        refine .nil (cj ?_)
        refine .cond rfl (fun hc0 => ?_) (fun hc0 => ?_)
        · exfalso; have h9 := of_decide_eq_true hc0; omega
        · refine .skip (cj ?_)
          refine .seq ?_
          refine .drawS 13 (.cons (0, true) (.cons (1, true) (.cons (2, true) (.cons (3, true) (.cons (4, true) (.cons (5, true) (.cons (6, true) (.cons (7, true) (.cons (8, true) (.cons (9, false) (.cons (10, true) (.cons (11, false) (.cons (12, true) .nil))))))))))))) mo (by kernel_rfl) H3 (fun _ _ _ _ _ h => h) (fun w4 H4 => ?_)
          refine .p rfl rfl rfl (val_fieldAddr rfl fa_26_0) ?_
          refine .ps rfl rfl rfl rfl (ld_b rfl ob_3 (.own .here) rfl) ?_
          refine .p rfl rfl rfl (val_fieldAddr rfl fa_26_1) ?_
          refine .ps rfl rfl rfl rfl (ld_b rfl ob_3 (.own .here) rfl) ?_
          refine .p rfl rfl rfl (val_fieldAddr rfl fa_26_0) ?_
          refine .ps rfl rfl rfl rfl (ld_b rfl ob_3 (.own .here) rfl) ?_
          refine .p rfl rfl rfl (val_fieldAddr rfl fa_26_1) ?_
          refine .ps rfl rfl rfl rfl (ld_b rfl ob_3 (.own .here) rfl) ?_
          refine .p rfl rfl rfl (val_mul rfl rfl hwh) ?_
          refine .mk rfl rfl rfl ap_27 ze_3 rfl rfl (Nat.le_refl _) (by omega) (by simp only [maxLen]; omega) (made_one _ _) H4 (fun w5 b5 H5 => ⟨fun _ => (H5.sub (.cons (.there .here) .nil)), ?_⟩)
          refine .p rfl rfl rfl (val_mk (.cons rfl (.cons rfl (.cons rfl .nil))) (mk_183_0_1_2 _ _ _ _ _)) ?_
          refine .box rfl rfl rfl rfl rfl H5 (fun w6 b6 H6 => ⟨fun _ => (H6.sub (.cons (.there (.there .here)) .nil)), ?_⟩)
          refine .p rfl rfl rfl (val_assign rfl) ?_
          refine .nil (cj ?_)
          refine .seq ?_
          refine .plain rfl ?_
          refine .q rfl rfl rfl (val_fieldAddr rfl fa_26_0) ?_
          refine .qs rfl rfl rfl H6 (ld_b rfl ob_3 (.own (.there (.there .here))) rfl) ?_
          refine .q rfl rfl rfl (val_fieldAddr rfl fa_26_1) ?_
          refine .qs rfl rfl rfl H6 (ld_b rfl ob_3 (.own (.there (.there .here))) rfl) ?_
          refine .q rfl rfl rfl (val_mul rfl rfl hwh) ?_
          refine .mk rfl rfl rfl ap_193 ze_4 rfl rfl (Nat.le_refl _) (by omega) (by simp only [maxLen]; omega) (made_one _ _) H6 (fun w7 b7 H7 => ⟨fun _ => trivial, ?_⟩)
          refine .q rfl rfl rfl (val_assign rfl) ?_
          refine .nil (cj ?_)
          refine .seq ?_
          refine .seq ?_
          refine .drawS 8 (.cons (0, true) (.cons (1, true) (.cons (3, true) (.cons (4, true) (.cons (7, true) (.cons (2, false) (.cons (5, false) (.cons (6, true) .nil)))))))) mo (by kernel_rfl) H7 (fun _ _ _ _ _ h => h) (fun w8 H8 => ?_)
          refine .p rfl rfl rfl (val_fieldAddr rfl fa_26_3) ?_
          refine .ps rfl rfl rfl rfl (ld_b rfl ob_22 (.own (.there (.there (.there .here)))) rfl) ?_
          refine .p rfl rfl rfl (val_fieldAddr rfl fa_26_4) ?_
          refine .ps rfl rfl rfl rfl (ld_b rfl ob_22 (.own (.there (.there (.there .here)))) rfl) ?_
          refine .p rfl rfl rfl (val_move rfl) ?_
          refine .callx rfl rfl rfl en118 (.cons rfl .nil) (listC_spec _ _ _ (by omega) (by assumption)) H8 .nil (.ro .here .nil) (fun v9 w9 C9 H9 => ⟨fun _ => (H9.sub (.cons (.there .here) (.cons (.there .here) (.cons (.there .here) (.cons (.there .here) .nil))))), ?_⟩)
          refine .append rfl rfl rfl (ap_22) rfl rfl H9 .here (Has.srcArr (.ro (.there .here)) hpn H9) (flat_len encC_len _) one_encC (by simp only [maxLen]; omega) (by first | omega | (dsimp only; omega)) (fun v10 w10 H10 => ⟨fun _ => (H10.sub (.cons (.there .here) (.cons (.there .here) (.cons (.there .here) (.cons (.there .here) .nil))))), ?_⟩)
          obtain ⟨A9, cap9, hv9, hn9, H11⟩ := St.rowArr H10 .here
          rw [hv9]
          refine .p rfl rfl rfl (val_len Tryz.underlying22 rfl) ?_
          refine .nil (cj ?_)
          refine .block ?_
          refine .loop (ι := Nat) (fun j => [(1, ptr b1), (4, ptr b6), (5, .slice (some ⟨b7, 0, none⟩) (area c) (area c)), (59, .slice A9 (c.blocked.length + c.ports.length) cap9), (60, i64 ((c.blocked.length + c.ports.length : Nat) : Int)), (61, i64 (j : Int))]) (fun j w' => St w w' X [arr A9 ((items c).flatMap encC), cb c, cp c] [gblk b6 (some ⟨b5, 0, none⟩) (area c) ⟨c.w, c.h, layK c j⟩, kblk b5 (layK c j), sblk b7 (seenK c j), blk b1 (encCf c) 26] ∧ j ≤ (items c).length) (fun j => (items c).length - j) 0 (by repeat (first | exact Pick.nil | refine Pick.cons rfl ?_)) ⟨by rw [show (items c).flatMap encC = c.blocked.flatMap encC ++ c.ports.flatMap encC from List.flatMap_append]; exact stF (lay0 c b5 b6 b7) (H11.sub (.cons (.there .here) (.cons (.there .here) (.cons .here (.cons .here .nil))))), Nat.zero_le _⟩ ?_
          rintro j w7 ⟨H12, hj⟩
          refine .seq ?_
          refine .plain rfl ?_
          refine .q rfl rfl rfl (val_lss rfl rfl rfl) ?_
          refine .nil (cj ?_)
          refine .seq ?_
          refine .cond rfl (fun hc1 => ?_) (fun hc1 => ?_)
          · have hjl2 : j < c.blocked.length + c.ports.length := by simp only [decide_eq_true_eq] at hc1; omega
            have hjl : j < (items c).length := by simp only [List.length_append]; omega
            have hx := getD_get hjl ⟨0, 0⟩
            obtain ⟨b, o, hB⟩ := Has.base (.ro .here) H12 (nil_of_flat encC_len (by decide) hjl)
            have hin := items_in hm hx
            obtain ⟨hlt, hnb⟩ := numI_lt hn hin
            have hnum := hnb (layK c j) (layK_len c j)
            have hsn := seen_no hm hx hlt
            have hlts : numI c ((items c).getD j ⟨0, 0⟩) < (seenK c j).length := by rw [seenK_len]; exact hlt
            have hltk : numI c ((items c).getD j ⟨0, 0⟩) < (layK c j).length := by rw [layK_len]; exact hlt
            refine .skip (cj ?_)
            refine .seq ?_
            refine .block ?_
            refine .seq ?_
            refine .plain rfl ?_
            refine .q rfl rfl rfl (val_move rfl) ?_
            refine .q rfl rfl rfl (val_ix el_22 hB rfl rfl rfl hjl2) ?_
            refine .qs rfl rfl rfl H12 (ld_ela rfl ag_38 .base hB (.ro .here) encC_len (by first | assumption | rfl)) ?_
            refine .alloc rfl rfl rfl ze_38 rfl H12 (fun w13 b13 H13 => ⟨fun _ => trivial, ?_⟩)
            refine .q rfl rfl rfl (val_assign rfl) ?_
            refine .store rfl rfl rfl rfl rfl sz_38 rfl H13 .here (by repeat constructor) (fun w14 H14 => ⟨fun _ => trivial, ?_⟩)
            refine .nil (cj ?_)
            refine .seq ?_
            refine .plain rfl ?_
            refine .q rfl rfl rfl (val_move rfl) ?_
            refine .qs rfl rfl rfl H14 (ld_w rfl ag_38 (.own .here) rfl) ?_
            refine .call1 rfl rfl rfl en86 (.cons rfl (.cons rfl .nil)) (number_spec _ _ _ _ _) H14 .nil (.own (.there .here) .nil) (fun w15 H15 => ⟨fun _ => trivial, ?_⟩)
            refine .q rfl rfl rfl (val_assign rfl) ?_
            refine .nil (cj ?_)
            refine .seq ?_
            refine .seq ?_
            refine .plain rfl ?_
            refine .q rfl rfl rfl (val_move rfl) ?_
            refine .q rfl rfl rfl (val_lss rfl rfl rfl) ?_
            refine .q rfl rfl rfl (val_move rfl) ?_
            refine .case (t := 71) rfl (fun hs71 => ?_) (fun hs71 => ?_)
            · exfalso; rw [hnum] at hs71; simp at hs71; omega
            · refine .q rfl rfl rfl (val_move rfl) ?_
              refine .q rfl rfl rfl (val_move rfl) ?_
              refine .q rfl rfl rfl (val_ix el_193 rfl rfl rfl hnum hlt) ?_
              refine .qs rfl rfl rfl H15 (ld_b rfl ob_4 (.own (.there (.there (.there .here)))) (ix_map (by first | assumption | rfl))) ?_
              refine .q rfl rfl rfl (val_pick_f rfl rfl) ?_
              refine .nil (cj ?_)
              refine .cond rfl (fun hc2 => ?_) (fun hc2 => ?_)
              · cases hc2
              · refine .skip (cj ?_)
                refine .seq ?_
                refine .plain rfl ?_
                refine .q rfl rfl rfl (val_move rfl) ?_
                refine .q rfl rfl rfl (val_move rfl) ?_
                refine .q rfl rfl rfl (val_ix el_193 rfl rfl rfl hnum hlt) ?_
                refine .store rfl rfl rfl rfl rfl sz_4 rfl H15 (.there (.there (.there .here))) (Spl_set hlts) (fun w16 H16 => ⟨fun _ => trivial, ?_⟩)
                refine .nil (cj ?_)
                refine .seq ?_
                refine .plain rfl ?_
                refine .q rfl rfl rfl (val_move rfl) ?_
                refine .q rfl rfl rfl (val_nilCheck rfl) ?_
                refine .q rfl rfl rfl (val_fieldAddr rfl fa_183_2) ?_
                refine .qs rfl rfl rfl H16 (ld_b rfl ob_27 (.own (.there (.there .here))) rfl) ?_
                refine .q rfl rfl rfl (val_move rfl) ?_
                refine .q rfl rfl rfl (val_ix el_27 rfl rfl rfl hnum hltk) ?_
                refine .store rfl rfl rfl rfl rfl sz_3 rfl H16 (.there (.there (.there .here))) (Spl_set hltk) (fun w17 H17 => ⟨fun _ => trivial, ?_⟩)
                refine .nil (cj ?_)
                refine .seq ?_
                refine .plain rfl ?_
                refine .q rfl rfl rfl (val_move rfl) ?_
                refine .q rfl rfl rfl (val_fieldAddr rfl fa_26_3) ?_
                refine .qs rfl rfl rfl H17 (ld_b rfl ob_22 (.own (.there (.there (.there (.there .here))))) rfl) ?_
                refine .q rfl rfl rfl (val_len Tryz.underlying22 rfl) ?_
                refine .q rfl rfl rfl (val_geq rfl rfl rfl) ?_
                refine .nil (cj ?_)
                refine .cond rfl (fun hc3 => ?_) (fun hc3 => ?_)
                · have hge := of_decide_eq_true hc3
                  have hstep := lay_p (b5 := b5) (b6 := b6) (b7 := b7) hx (by omega)
                  refine .drawS 12 (.cons (0, true) (.cons (1, true) (.cons (2, true) (.cons (3, true) (.cons (4, true) (.cons (5, true) (.cons (6, true) (.cons (7, true) (.cons (8, true) (.cons (9, true) (.cons (10, true) (.cons (11, true) (.cons (12, false) .nil))))))))))))) mo (by kernel_rfl) H17 (fun _ _ _ _ _ h => h) (fun w18 H18 => ?_)
                  refine .p rfl rfl rfl (val_move rfl) ?_
                  refine .p rfl rfl rfl (val_nilCheck rfl) ?_
                  refine .p rfl rfl rfl (val_fieldAddr rfl fa_183_2) ?_
                  refine .ps rfl rfl rfl rfl (ld_b rfl ob_27 (.own (.there (.there (.there .here)))) rfl) ?_
                  refine .p rfl rfl rfl (val_move rfl) ?_
                  refine .p rfl rfl rfl (val_move rfl) ?_
                  refine .p rfl rfl rfl (val_fieldAddr rfl fa_26_3) ?_
                  refine .ps rfl rfl rfl rfl (ld_b rfl ob_22 (.own (.there (.there (.there (.there .here))))) rfl) ?_
                  refine .p rfl rfl rfl (val_len Tryz.underlying22 rfl) ?_
                  refine .p rfl rfl rfl (val_sub rfl rfl (w64_of (by omega))) ?_
                  refine .p rfl rfl rfl (val_add rfl rfl (w64_of (by omega))) ?_
                  refine .p rfl rfl rfl (val_ix el_27 rfl rfl rfl hnum hltk) ?_
                  refine .store rfl rfl rfl rfl rfl sz_3 rfl H18 .here (Spl_set (by rw [List.length_set]; exact hltk)) (fun w19 H19 => ⟨fun h => absurd h (by decide), ?_⟩)
                  refine .nil (cj ?_)
                  refine .plain rfl ?_
                  refine .q rfl rfl rfl (val_add rfl rfl (z := ((j + 1 : Nat) : Int)) (w64_of (by omega))) ?_
                  refine .q rfl rfl rfl (val_move rfl) ?_
                  refine .nil ?_
                  intro act0 hact0; change Exists _
                  refine ⟨(j + 1), Pick.kn (by repeat (first | exact Pick.nil | refine Pick.cons rfl ?_)) hact0, ⟨stF hstep (H19.sub (.cons (.there (.there (.there .here))) (.cons .here (.cons .here (.cons (.there .here) .nil))))), hjl⟩, (by omega)⟩
                · have hge := of_decide_eq_false hc3
                  have hstep := lay_b (b5 := b5) (b6 := b6) (b7 := b7) hx (by omega)
                  refine .skip (cj ?_)
                  refine .plain rfl ?_
                  refine .q rfl rfl rfl (val_add rfl rfl (z := ((j + 1 : Nat) : Int)) (w64_of (by omega))) ?_
                  refine .q rfl rfl rfl (val_move rfl) ?_
                  refine .nil ?_
                  intro act0 hact0; change Exists _
                  refine ⟨(j + 1), Pick.kn (by repeat (first | exact Pick.nil | refine Pick.cons rfl ?_)) hact0, ⟨stF hstep (H17.sub (.cons (.there (.there (.there .here))) (.cons .here (.cons .here (.cons (.there .here) .nil))))), hjl⟩, (by omega)⟩
          · have hjl : j = (items c).length := by simp only [decide_eq_false_iff_not] at hc1; simp only [List.length_append] at hj ⊢; omega
            subst hjl
            refine .exit (cj ?_)
            refine .seq ?_
            refine .plain rfl ?_
            refine .q rfl rfl rfl (val_move rfl) ?_
            refine .q rfl rfl rfl (val_assign rfl) ?_
            refine .q rfl rfl rfl (val_assign rfl) ?_
            refine .nil (cj ?_)
            refine .ret (fret (res2 rfl rfl rfl) ?_)
            refine hRR _ _ ⟨_, ⟨⟨b6, b5⟩, rfl, rfl, trivial⟩, (H12.rest (.ro (.there .here) (.ro (.there (.there .here)) .nil))).sub (.cons .here (.cons .here .nil))⟩
end Go.Proofs.YtmbibkifbehgnaaGreatDoor
namespace Go.Proofs.YtmbibkifbehgnaaGreatDoor
open Go Sk
set_option linter.unusedVariables false
set_option linter.unusedSimpArgs false
def cellN (c : Cf) (n : Nat) : Cl := ⟨(n : Int) % c.w, (n : Int) / c.w⟩
/-- a cell's kind behind laid -/
def kA (c : Cf) (x : Cl) : Int := if x ∈ c.blocked then -1 else portFrom c.ports x.x x.y + 1
theorem cellN_in {c : Cf} (hn : NumOk c) {n : Nat} (h : n < area c) : inR c (cellN c n).x (cellN c n).y = true ∧ numI c (cellN c n) = n := by
  obtain ⟨ha, _, _⟩ := area_le hn
  have hw : 0 < c.w := by have := hn.w.1; omega
  have h1 := Int.emod_nonneg (n : Int) (show c.w ≠ 0 by omega)
  have h2 := Int.emod_lt_of_pos (n : Int) hw
  have h3 : (0 : Int) ≤ (n : Int) / c.w := Int.ediv_nonneg (by omega) (by omega)
  have h4 : (n : Int) / c.w < c.h := by
    refine Int.ediv_lt_of_lt_mul hw ?_
    rw [Int.mul_comm]; omega
  have h5 : (n : Int) / c.w * c.w + (n : Int) % c.w = n := by
    have := Int.mul_ediv_add_emod (n : Int) c.w
    rw [Int.mul_comm] at this; exact this
  refine ⟨?_, ?_⟩
  · simp only [inR, cellN, Bool.and_eq_true, decide_eq_true_eq]; exact ⟨⟨⟨decide_eq_true h1, decide_eq_true h3⟩, decide_eq_true h2⟩, decide_eq_true h4⟩
  · unfold numI cellN
    dsimp only
    omega
theorem cellN_num {c : Cf} (hn : NumOk c) {x : Cl} (h : inR c x.x x.y = true) : cellN c (numI c x) = x := by
  have h1 := (numI_lt hn h).1
  have h2 := cellN_in hn h1
  exact numI_inj h2.1 h h2.2
theorem lay_zero (c : Cf) {n : Nat} (hn : n < area c) : ∀ j, (∀ j', j' < j → numI c ((items c).getD j' ⟨0, 0⟩) ≠ n) → (layK c j)[n]? = some 0
  | 0, _ => by simp [layK, hn]
  | j + 1, h => by
    rw [layK, List.getElem?_set_ne (h j (Nat.lt_succ_self _))]
    exact lay_zero c hn j fun j' hj' => h j' (by omega)
theorem lay_val (c : Cf) {n i : Nat} (hn : n < area c) (hi : numI c ((items c).getD i ⟨0, 0⟩) = n) : ∀ j, i < j → (∀ j', i < j' → j' < j → numI c ((items c).getD j' ⟨0, 0⟩) ≠ n) → (layK c j)[n]? = some (valI c i)
  | 0, h, _ => absurd h (Nat.not_lt_zero _)
  | j + 1, h, hl => by
    rcases Nat.lt_or_ge i j with hij | hij
    · rw [layK, List.getElem?_set_ne (hl j hij (Nat.lt_succ_self _))]
      exact lay_val c hn hi j hij fun j' h1 h2 => hl j' h1 (by omega)
    · obtain rfl : i = j := by omega
      rw [layK, hi, List.getElem?_set_self (by rw [layK_len]; exact hn)]
theorem item_ne {c : Cf} (hm : MayOk c) {i j : Nat} (hi : i < (items c).length) (hj : j < (items c).length) (h : i ≠ j) : numI c ((items c).getD i ⟨0, 0⟩) ≠ numI c ((items c).getD j ⟨0, 0⟩) := by
  have h1 := getD_get hi (⟨0, 0⟩ : Cl)
  have h2 := getD_get hj (⟨0, 0⟩ : Cl)
  intro e
  have e2 := numI_inj (items_in hm h1) (items_in hm h2) e
  obtain ⟨_, e3⟩ := List.getElem?_eq_some_iff.1 h1
  obtain ⟨_, e4⟩ := List.getElem?_eq_some_iff.1 h2
  rcases Nat.lt_or_gt_of_ne h with hlt | hlt
  · exact List.pairwise_iff_getElem.1 (items_nodup hm) i j hi hj hlt (by rw [e3, e4, e2])
  · exact List.pairwise_iff_getElem.1 (items_nodup hm) j i hj hi hlt (by rw [e3, e4, e2])
theorem lay_item {c : Cf} (hm : MayOk c) {i : Nat} {x : Cl} (hx : (items c)[i]? = some x) : (layK c (items c).length)[numI c x]? = some (valI c i) := by
  have hi := (List.getElem?_eq_some_iff.1 hx).1
  have e : (items c).getD i ⟨0, 0⟩ = x := by rw [List.getD_eq_getElem?_getD, hx]; rfl
  have hlt := (numI_lt hm.num (items_in hm hx)).1
  refine lay_val c hlt (by rw [e]) _ hi fun j' h1 h2 => ?_
  have := item_ne hm h2 hi (by omega)
  rwa [e] at this
theorem lay_all {c : Cf} (hm : MayOk c) : layK c (items c).length = (List.range (area c)).map fun n => kA c (cellN c n) := by
  apply List.ext_getElem?
  intro n
  by_cases hn : n < area c
  · rw [List.getElem?_map, List.getElem?_range hn]
    obtain ⟨hin, hnum⟩ := cellN_in hm.num hn
    by_cases hb : cellN c n ∈ c.blocked
    · obtain ⟨i, hi⟩ := List.getElem?_of_mem hb
      have hil := (List.getElem?_eq_some_iff.1 hi).1
      have h1 := lay_item hm (i := i) (x := cellN c n) (by rw [List.getElem?_append_left hil, hi])
      rw [hnum] at h1
      rw [h1, valI, if_pos hil]
      simp [kA, hb]
    · by_cases hp : cellN c n ∈ c.ports
      · obtain ⟨i, hi⟩ := List.getElem?_of_mem hp
        have hil := (List.getElem?_eq_some_iff.1 hi).1
        have h1 := lay_item hm (i := c.blocked.length + i) (x := cellN c n) (by rw [List.getElem?_append_right (by omega)]; simpa using hi)
        rw [hnum] at h1
        have hnd := (List.nodup_append.1 (items_nodup hm)).2.1
        have h2 : portFrom c.ports (cellN c n).x (cellN c n).y = (i : Int) := portFrom_some hi rfl fun j hj e => by
          obtain ⟨hjl, e1⟩ := List.getElem?_eq_some_iff.1 e
          obtain ⟨_, e2⟩ := List.getElem?_eq_some_iff.1 hi
          exact List.pairwise_iff_getElem.1 hnd j i hjl hil hj (e1.trans e2.symm)
        rw [h1, valI, if_neg (by omega)]
        simp only [kA, hb, if_false, h2, Option.map_some]
        congr 1; omega
      · have h1 : (layK c (items c).length)[n]? = some 0 := lay_zero c hn _ fun j' hj' e => by
          have h2 := getD_get hj' (⟨0, 0⟩ : Cl)
          have h3 := cellN_num hm.num (items_in hm h2)
          rw [e] at h3
          rw [← h3] at h2
          have := List.mem_of_getElem? h2
          rcases List.mem_append.1 this with h | h
          · exact hb h
          · exact hp h
        rw [h1]
        have h2 : portFrom c.ports (cellN c n).x (cellN c n).y = -1 := portFrom_none fun j hj e => hp (List.mem_of_getElem? e)
        simp [kA, hb, h2]
  · rw [List.getElem?_eq_none (by rw [layK_len]; omega), List.getElem?_eq_none (by simpa using hn)]
end Go.Proofs.YtmbibkifbehgnaaGreatDoor
namespace Go.Proofs.YtmbibkifbehgnaaGreatDoor
open Go Sk
set_option linter.unusedVariables false
set_option linter.unusedSimpArgs false
/-- kinds, by cell -/
abbrev kinds (c : Cf) (f : Nat → Int) : List Int := (List.range (area c)).map f
theorem kinds_len (c : Cf) (f : Nat → Int) : (kinds c f).length = area c := by simp [kinds]
theorem kinds_get (c : Cf) (f : Nat → Int) {n : Nat} (h : n < area c) : (kinds c f)[n]? = some (f n) := by simp [kinds, List.getElem?_range h]
theorem kinds_set (c : Cf) (f g : Nat → Int) {n : Nat} {v : Int} (h : n < area c) (hv : g n = v) (ho : ∀ m, m < area c → m ≠ n → g m = f m) : (kinds c f).set n v = kinds c g := by
  apply List.ext_getElem?
  intro m
  by_cases hm : m < area c
  · by_cases hmn : m = n
    · subst hmn
      rw [List.getElem?_set_self (by rw [kinds_len]; exact hm), kinds_get c g hm, hv]
    · rw [List.getElem?_set_ne (by omega), kinds_get c f hm, kinds_get c g hm, ho m hm hmn]
  · rw [List.getElem?_eq_none (by rw [List.length_set, kinds_len]; omega), List.getElem?_eq_none (by rw [kinds_len]; omega)]
abbrev flags (c : Cf) (f : Nat → Bool) : List Bool := (List.range (area c)).map f
theorem flags_len (c : Cf) (f : Nat → Bool) : (flags c f).length = area c := by simp [flags]
theorem flags_get (c : Cf) (f : Nat → Bool) {n : Nat} (h : n < area c) : (flags c f)[n]? = some (f n) := by simp [flags, List.getElem?_range h]
theorem flags_set (c : Cf) (f g : Nat → Bool) {n : Nat} {v : Bool} (h : n < area c) (hv : g n = v) (ho : ∀ m, m < area c → m ≠ n → g m = f m) : (flags c f).set n v = flags c g := by
  apply List.ext_getElem?
  intro m
  by_cases hm : m < area c
  · by_cases hmn : m = n
    · subst hmn
      rw [List.getElem?_set_self (by rw [flags_len]; exact hm), flags_get c g hm, hv]
    · rw [List.getElem?_set_ne (by omega), flags_get c f hm, flags_get c g hm, ho m hm hmn]
  · rw [List.getElem?_eq_none (by rw [List.length_set, flags_len]; omega), List.getElem?_eq_none (by rw [flags_len]; omega)]
/-- kinds are told blocked where the config says so -/
structure KRel (c : Cf) (K : List Int) : Prop where
  len : K.length = area c
  get : ∀ n, n < area c → ∃ k, K[n]? = some k ∧ (k = -1 ↔ cellN c n ∈ c.blocked)
theorem KRel.ok {c : Cf} {K : List Int} (h : KRel c K) (hn : NumOk c) : Gd.Ok ⟨c.w, c.h, K⟩ := ⟨hn.w.1, hn.w.2, hn.h.1, hn.h.2, by rw [h.len]; exact (area_le hn).1⟩
theorem num_in {c : Cf} {K : List Int} (h : KRel c K) (hn : NumOk c) {x y : Int} (hi : inR c x y = true) : numB ⟨c.w, c.h, K⟩ x y = ((numI c ⟨x, y⟩ : Nat) : Int) := (numI_lt hn hi).2 K h.len
theorem num_out {c : Cf} {K : List Int} (h : KRel c K) (hn : NumOk c) {x y : Int} (hi : inR c x y = false) : numB ⟨c.w, c.h, K⟩ x y = -1 := by
  refine numB_out (h.ok hn) fun hc => ?_
  simp only at hc
  have : inR c x y = true := by simp [inR]; omega
  rw [this] at hi; cases hi
theorem kind_in {c : Cf} {K : List Int} (h : KRel c K) (hn : NumOk c) {x y : Int} (hi : inR c x y = true) {k : Int} (hk : K[numI c ⟨x, y⟩]? = some k) : kindB ⟨c.w, c.h, K⟩ x y = k := by
  have e := num_in h hn hi
  unfold kindB
  rw [e, if_neg (by omega), Int.toNat_natCast, List.getD_eq_getElem?_getD, hk]; rfl
theorem open_eq {c : Cf} {K : List Int} (h : KRel c K) (hn : NumOk c) (x y : Int) : openB ⟨c.w, c.h, K⟩ x y = openR c x y := by
  cases hi : inR c x y with
  | false => simp [openB, openR, num_out h hn hi, hi]
  | true =>
    obtain ⟨hlt, _⟩ := numI_lt hn hi
    obtain ⟨k, hk, hb⟩ := h.get _ hlt
    rw [cellN_num hn (x := ⟨x, y⟩) hi] at hb
    have e := kind_in h hn hi hk
    have e2 := num_in h hn hi
    unfold openB openR
    rw [e, e2, hi]
    by_cases hm : (⟨x, y⟩ : Cl) ∈ c.blocked
    · have hc : 0 < c.blocked.count ⟨x, y⟩ := List.count_pos_iff.2 hm
      have hk1 := hb.2 hm
      simp [hk1]; omega
    · have hc : c.blocked.count ⟨x, y⟩ = 0 := List.count_eq_zero.2 hm
      have hk1 : k ≠ -1 := fun e => hm (hb.1 e)
      simp [hc, hk1]
theorem openR_in {c : Cf} {x y : Int} (h : openR c x y = true) : inR c x y = true := by
  simp only [openR, Bool.and_eq_true] at h; exact h.1
theorem w64_in {c : Cf} (hn : NumOk c) {x y : Int} (h : inR c x y = true) : w64 (x + 0) = x ∧ w64 (y + 0) = y ∧ w64 (x + 1) = x + 1 ∧ w64 (y + 1) = y + 1 := by
  obtain ⟨h1, h2⟩ := inR_iff h
  have := hn.w; have := hn.h
  exact ⟨by rw [Int.add_zero]; exact w64_of (by omega), by rw [Int.add_zero]; exact w64_of (by omega), w64_of (by omega), w64_of (by omega)⟩
theorem cell2_eq {c : Cf} (hn : NumOk c) {p : Ps} (h : inR c p.x p.y = true) : cell2 p = cell2R p := by
  obtain ⟨h1, h2, _, _⟩ := w64_in hn h
  unfold cell2 cell2R
  rw [h1, h2]
theorem fits_eq {c : Cf} {K : List Int} (h : KRel c K) (hn : NumOk c) (p : Ps) : fitsB ⟨c.w, c.h, K⟩ p = fitsR c p := by
  unfold fitsB fitsR
  rw [open_eq h hn]
  cases ho : openR c p.x p.y with
  | false => rfl
  | true => rw [open_eq h hn, cell2_eq hn (openR_in ho)]
/-- a cell's kind behind the first part of robots; done: it was looked at -/
def kM (c : Cf) (done : Bool) (x : Cl) : Int := if (done && (kA c x == 0) && !besideR c x.x x.y) = true then -2 else kA c x
theorem kA_ge {c : Cf} (x : Cl) : kA c x = -1 ∧ x ∈ c.blocked ∨ 0 ≤ kA c x ∧ x ∉ c.blocked := by
  unfold kA
  split
  · exact .inl ⟨rfl, by assumption⟩
  · refine .inr ⟨?_, by assumption⟩
    unfold portFrom
    split <;> omega
theorem kA_port {c : Cf} {x : Cl} (h : 0 < kA c x) : x ∈ c.ports := by
  unfold kA at h
  split at h
  · omega
  · by_cases hp : x ∈ c.ports
    · exact hp
    · rw [portFrom_none fun j hj e => hp (List.mem_of_getElem? e)] at h; omega
theorem kM_blocked {c : Cf} {d : Bool} {x : Cl} : kM c d x = -1 ↔ x ∈ c.blocked := by
  unfold kM
  rcases kA_ge (c := c) x with ⟨h1, h2⟩ | ⟨h1, h2⟩
  · simp [h1, h2]
  · constructor
    · intro h; split at h <;> omega
    · intro h; exact absurd h h2
def kR (c : Cf) (cs : List Cl) (x : Cl) : Int := if x ∈ cs then -2 else kM c true x
theorem kM_rel (c : Cf) (hn : NumOk c) (d : Nat → Bool) : KRel c (kinds c fun n => kM c (d n) (cellN c n)) := ⟨kinds_len c _, fun n h => ⟨_, kinds_get c _ h, kM_blocked⟩⟩
theorem kR_rel (c : Cf) (hn : NumOk c) (cs : List Cl) (h : ∀ x ∈ cs, x ∉ c.blocked) : KRel c (kinds c fun n => kR c cs (cellN c n)) := ⟨kinds_len c _, fun n hlt => ⟨_, kinds_get c _ hlt, by
  unfold kR
  split
  · rename_i hm
    exact ⟨fun e => by omega, fun e => absurd e (h _ hm)⟩
  · exact kM_blocked⟩⟩
theorem beside_of_fits {c : Cf} (hn : NumOk c) {x y : Int} (h : fitsR c ⟨x, y, false⟩ = true ∨ fitsR c ⟨x, y, true⟩ = true) : besideR c x y = true := by
  unfold besideR
  rcases h with h | h
  · simp only [fitsR, cell2R, Bool.and_eq_true] at h
    have := h.2
    simp at this
    simp [this]
  · simp only [fitsR, cell2R, Bool.and_eq_true] at h
    have := h.2
    simp at this
    simp [this]
theorem fits_of_beside {c : Cf} {x y : Int} (ho : openR c x y = true) (h : besideR c x y = true) : fitsR c ⟨x, y, false⟩ = true ∨ fitsR c ⟨x, y, true⟩ = true := by
  unfold besideR at h
  simp only [Bool.or_eq_true] at h
  rcases h with h | h
  · left; simp [fitsR, cell2R, ho, h]
  · right; simp [fitsR, cell2R, ho, h]
end Go.Proofs.YtmbibkifbehgnaaGreatDoor
namespace Go.Proofs.YtmbibkifbehgnaaGreatDoor
open Go Sk
set_option linter.unusedVariables false
set_option linter.unusedSimpArgs false
abbrev gfix (c : Cf) (bg bk : Nat) : As := blk bg [i64 c.w, i64 c.h, .slice (some ⟨bk, 0, none⟩) (area c) (area c)] 183
theorem fitsK_spec (c : Cf) (hn : NumOk c) (bg bk : Nat) (K : List Int) (hK : KRel c K) (x y : Int) (d : Bool) : Sk.Spec Tryz.prog 119 #[ptr bg, .agg #[i64 x, i64 y, .bool d]] [gfix c bg bk, kblk bk K, stepsA] [] fun e F' => e = .returned (.bool (fitsR c ⟨x, y, d⟩)) ∧ F' = [] := by
  have h := fits_spec bg (some ⟨bk, 0, none⟩) (area c) ⟨c.w, c.h, K⟩ (hK.ok hn) x y d
  rw [fits_eq hK hn] at h
  have e : gblk bg (some ⟨bk, 0, none⟩) (area c) ⟨c.w, c.h, K⟩ = gfix c bg bk := by simp only [gblk, gfix, hK.len]
  rw [e] at h
  exact Spec.tell h (.cons .here (Tells.refl _) (.cons (.there .here) Tells.blk (.cons (.there (.there .here)) (Tells.refl _) .nil)))
theorem kstep_same {c : Cf} {i : Nat} (h : kM c true (cellN c i) = kA c (cellN c i)) : kinds c (fun n => kM c (decide (n < i + 1)) (cellN c n)) = kinds c (fun n => kM c (decide (n < i)) (cellN c n)) := by
  refine List.map_congr_left fun n hn => ?_
  by_cases hni : n = i
  · subst hni
    rw [decide_eq_true (Nat.lt_succ_self n), h, decide_eq_false (Nat.lt_irrefl n)]
    rfl
  · rw [show decide (n < i + 1) = decide (n < i) from decide_eq_decide.2 (by omega)]
theorem kstep_set {c : Cf} {i : Nat} (hi : i < area c) (h : kM c true (cellN c i) = -2) : kinds c (fun n => kM c (decide (n < i + 1)) (cellN c n)) = (kinds c (fun n => kM c (decide (n < i)) (cellN c n))).set i (-2) := by
  refine (kinds_set c _ _ hi ?_ fun m hm hne => ?_).symm
  · rw [decide_eq_true (Nat.lt_succ_self i), h]
  · rw [show decide (m < i + 1) = decide (m < i) from decide_eq_decide.2 (by omega)]
theorem kM_b {c : Cf} {x : Cl} (h : (kA c x == -1) = true) : kM c true x = kA c x := by
  have : kA c x = -1 := by simpa using h
  simp [kM, this]
theorem kM_f {c : Cf} (hn : NumOk c) {x : Cl} (h : fitsR c ⟨x.x, x.y, false⟩ = true ∨ fitsR c ⟨x.x, x.y, true⟩ = true) : kM c true x = kA c x := by
  have := beside_of_fits hn h
  simp [kM, this]
theorem no_beside {c : Cf} (hn : NumOk c) {x : Cl} (hin : inR c x.x x.y = true) (hb : (kA c x == -1) = false) (h1 : fitsR c ⟨x.x, x.y, false⟩ = false) (h2 : fitsR c ⟨x.x, x.y, true⟩ = false) : besideR c x.x x.y = false := by
  cases h : besideR c x.x x.y with
  | false => rfl
  | true =>
    have hnb : x ∉ c.blocked := by
      rcases kA_ge (c := c) x with ⟨e, _⟩ | ⟨_, e⟩
      · rw [e] at hb; simp at hb
      · exact e
    have ho : openR c x.x x.y = true := by
      have : c.blocked.count ⟨x.x, x.y⟩ = 0 := List.count_eq_zero.2 hnb
      simp [openR, hin, this]
    rcases fits_of_beside ho h with h | h
    · rw [h1] at h; cases h
    · rw [h2] at h; cases h
theorem kM_o {c : Cf} (hn : NumOk c) {x : Cl} (hin : inR c x.x x.y = true) (hb : (kA c x == -1) = false) (h1 : fitsR c ⟨x.x, x.y, false⟩ = false) (h2 : fitsR c ⟨x.x, x.y, true⟩ = false) (h3 : decide (0 < kA c x) = false) : kM c true x = -2 := by
  have h4 := no_beside hn hin hb h1 h2
  have h5 : kA c x = 0 := by
    have := of_decide_eq_false h3
    rcases kA_ge (c := c) x with ⟨e, _⟩ | ⟨e, _⟩
    · rw [e] at hb; simp at hb
    · omega
  simp [kM, h5, h4]
theorem no_port {c : Cf} (hm : MayOk c) {x : Cl} (hin : inR c x.x x.y = true) (hb : (kA c x == -1) = false) (h1 : fitsR c ⟨x.x, x.y, false⟩ = false) (h2 : fitsR c ⟨x.x, x.y, true⟩ = false) (h3 : decide (0 < kA c x) = true) : False := by
  have h4 := no_beside hm.num hin hb h1 h2
  obtain ⟨i, hi⟩ := List.getElem?_of_mem (kA_port (of_decide_eq_true h3))
  have := (hm.ports i x hi).2.2.2
  rw [this] at h4; cases h4
theorem tmod_w {n : Nat} {w : Int} : (n : Int).tmod w = (n : Int) % w := Int.tmod_eq_emod_of_nonneg (by omega)
theorem tdiv_w {n : Nat} {w : Int} (h1 : 1 ≤ w) (hn : n ≤ 256) : w64 ((n : Int).tdiv w) = (n : Int) / w := by
  rw [Int.tdiv_eq_ediv_of_nonneg (by omega)]
  have h2 : (0 : Int) ≤ (n : Int) / w := Int.ediv_nonneg (by omega) (by omega)
  have h3 : (n : Int) / w ≤ n := Int.ediv_le_self _ (by omega)
  exact w64_of (by omega)
theorem kend {c : Cf} : kinds c (fun n => kM c (decide (n < area c)) (cellN c n)) = kinds c (fun n => kR c [] (cellN c n)) := by
  refine List.map_congr_left fun n hn => ?_
  rw [decide_eq_true (List.mem_range.1 hn)]
  simp [kR]
theorem tk0 {c : Cf} : flags c (fun n => decide (cellN c n ∈ ([] : List Cl))) = List.replicate (area c) false := by
  apply List.ext_getElem
  · simp [flags]
  · intro i h1 h2; simp [flags]
theorem cell_ne {c : Cf} (hn : NumOk c) {x : Cl} (hx : inR c x.x x.y = true) {m : Nat} (hm : m < area c) (h : m ≠ numI c x) : cellN c m ≠ x := fun e => h (by rw [← e]; exact (cellN_in hn hm).2.symm)
theorem kr_set {c : Cf} (hn : NumOk c) {cs : List Cl} {x : Cl} (hx : inR c x.x x.y = true) : (kinds c fun n => kR c cs (cellN c n)).set (numI c x) (-2) = kinds c fun n => kR c (cs ++ [x]) (cellN c n) := by
  refine kinds_set c _ _ (numI_lt hn hx).1 ?_ fun m hm hne => ?_
  · rw [cellN_num hn hx]; simp [kR]
  · have := cell_ne hn hx hm hne
    simp [kR, this]
theorem tk_set {c : Cf} (hn : NumOk c) {cs : List Cl} {x : Cl} (hx : inR c x.x x.y = true) : (flags c fun n => decide (cellN c n ∈ cs)).set (numI c x) true = flags c fun n => decide (cellN c n ∈ cs ++ [x]) := by
  refine flags_set c _ _ (numI_lt hn hx).1 ?_ fun m hm hne => ?_
  · rw [cellN_num hn hx]; simp
  · have := cell_ne hn hx hm hne
    simp [this]
theorem cell_new {c : Cf} (hm : MayOk c) {t s : Nat} {p : Ps} {x : Cl} (hp : c.robots[t]? = some p) (hx : (cellsL p)[s]? = some x) : x ∉ cellsTo c t ++ (cellsL p).take s := by
  have hnd : (c.robots.flatMap cellsL).Nodup := List.nodup_iff_count.2 fun a => by
    by_cases h : a ∈ c.robots.flatMap cellsL
    · obtain ⟨i, hi⟩ := List.getElem?_of_mem h
      exact hm.cells i a hi
    · rw [List.count_eq_zero_of_not_mem h]; omega
  have ht := (List.getElem?_eq_some_iff.1 hp).1
  have e1 : c.robots.flatMap cellsL = cellsTo c t ++ (cellsL p ++ (c.robots.drop (t + 1)).flatMap cellsL) := by
    have : c.robots = c.robots.take t ++ p :: c.robots.drop (t + 1) := by
      rw [← (List.getElem?_eq_some_iff.1 hp).2, List.getElem_cons_drop, List.take_append_drop]
    conv => lhs; rw [this]
    simp [cellsTo]
  have hs := (List.getElem?_eq_some_iff.1 hx).1
  have e2 : cellsL p = (cellsL p).take s ++ x :: (cellsL p).drop (s + 1) := by
    rw [← (List.getElem?_eq_some_iff.1 hx).2, List.getElem_cons_drop, List.take_append_drop]
  rw [e1, e2, ← List.append_assoc, ← List.append_assoc, List.append_assoc (cellsTo c t ++ _)] at hnd
  have h3 := (List.nodup_append.1 hnd).2.2
  intro hmem
  exact h3 x hmem x (by simp) rfl
theorem cell_noport {c : Cf} (hm : MayOk c) {t s : Nat} {p : Ps} {x : Cl} (hp : c.robots[t]? = some p) (hx : (cellsL p)[s]? = some x) (h : decide (0 < kM c true x) = true) : False := by
  have h1 : 0 < kA c x := by
    have := of_decide_eq_true h
    unfold kM at this
    split at this <;> omega
  obtain ⟨i, hi⟩ := List.getElem?_of_mem (kA_port h1)
  have h2 := (hm.ports i x hi).2.2.1
  have h3 : homeR c x.x x.y = true := any_some hp (decide_eq_true (by
    have := List.count_pos_iff.2 (List.mem_of_getElem? hx)
    have e : (⟨x.x, x.y⟩ : Cl) = x := rfl
    rw [e]; omega))
  rw [h2] at h3; cases h3
theorem cell_in {c : Cf} (hm : MayOk c) {t s : Nat} {p : Ps} {x : Cl} (hp : c.robots[t]? = some p) (hx : (cellsL p)[s]? = some x) : inR c x.x x.y = true ∧ x ∉ c.blocked := by
  have h := hm.robots t p hp
  simp only [fitsR, Bool.and_eq_true] at h
  have key : ∀ y : Cl, openR c y.x y.y = true → inR c y.x y.y = true ∧ y ∉ c.blocked := fun y hy => by
    refine ⟨openR_in hy, fun hb => ?_⟩
    have := List.count_pos_iff.2 hb
    simp only [openR, Bool.and_eq_true, beq_iff_eq] at hy
    have e : (⟨y.x, y.y⟩ : Cl) = y := rfl
    rw [e] at hy
    omega
  match s, hx with
  | 0, hx => obtain rfl : (⟨p.x, p.y⟩ : Cl) = x := by simpa using hx
             exact key _ h.1
  | 1, hx => obtain rfl : cell2R p = x := by simpa using hx
             exact key _ h.2
theorem cells_free {c : Cf} (hm : MayOk c) : ∀ x ∈ c.robots.flatMap cellsL, x ∉ c.blocked := fun x hx => by
  obtain ⟨p, hp, hxp⟩ := List.mem_flatMap.1 hx
  obtain ⟨t, ht⟩ := List.getElem?_of_mem hp
  obtain ⟨s, hs⟩ := List.getElem?_of_mem hxp
  exact (cell_in hm ht hs).2
theorem cellsK_spec {c : Cf} (hn : NumOk c) {v : Value} {p : Ps} (hin : inR c p.x p.y = true) : Sk.Spec Tryz.prog 120 #[v, .agg #[i64 p.x, i64 p.y, .bool p.d]] [stepsA] [] fun e F' => ∃ b : Nat, e = .returned (.slice (some ⟨b, 0, none⟩) 2 2) ∧ F' = [blk b ((cellsL p).flatMap encC) 38] ∧ True := by
  have h := cells_spec v p.x p.y p.d
  have e : cell2 ⟨p.x, p.y, p.d⟩ = cell2R p := cell2_eq hn hin
  simp only [cellsA, e] at h
  exact h
theorem kr_rel {c : Cf} (hm : MayOk c) {t : Nat} {l : List Cl} (hl : ∀ x ∈ l, x ∉ c.blocked) : KRel c (kinds c fun n => kR c (cellsTo c t ++ l) (cellN c n)) :=
  kR_rel c hm.num _ fun x hx => by
    rcases List.mem_append.1 hx with h | h
    · obtain ⟨p, hp, hxp⟩ := List.mem_flatMap.1 h
      exact cells_free hm x (List.mem_flatMap.2 ⟨p, List.mem_of_mem_take hp, hxp⟩)
    · exact hl x h
theorem kr_get {c : Cf} (hn : NumOk c) {cs : List Cl} {x : Cl} (hx : inR c x.x x.y = true) (h : x ∉ cs) : (kinds c fun n => kR c cs (cellN c n))[numI c x]? = some (kM c true x) := by
  rw [kinds_get c _ (numI_lt hn hx).1, cellN_num hn hx]; simp [kR, h]
theorem tk_get {c : Cf} (hn : NumOk c) {cs : List Cl} {x : Cl} (hx : inR c x.x x.y = true) (h : x ∉ cs) : (flags c fun n => decide (cellN c n ∈ cs))[numI c x]? = some false := by
  rw [flags_get c _ (numI_lt hn hx).1, cellN_num hn hx]; simp [h]
end Go.Proofs.YtmbibkifbehgnaaGreatDoor
namespace Go.Proofs.YtmbibkifbehgnaaGreatDoor
open Go Sk
set_option linter.unusedVariables false
set_option linter.unusedSimpArgs false
theorem mk_40_0 (x0_0_ : Int) (x0_1_ : Int) : Tryz.prog.built 40 [(0, .agg (List.toArray [.int .i64 x0_0_, .int .i64 x0_1_]))] = some (List.toArray [.int .i64 x0_0_, .int .i64 x0_1_, .bool false]) := by kernel_rfl
theorem robots_spec (c : Cf) (hc : c.Fit) (hm : MayOk c) (bg bk : Nat) : Sk.Spec Tryz.prog 99 #[ptr bg, .slice c.rA c.robots.length c.rc] [cr c, stepsA] [gfix c bg bk, kblk bk (kinds c fun n => kA c (cellN c n))]
    (fun e F' => e = .returned (.bool true) ∧ F' = [gfix c bg bk, kblk bk (kinds c fun n => kR c (c.robots.flatMap cellsL) (cellN c n))]) := by
  have hn := hm.num
  obtain ⟨ha, ha2, ha1⟩ := area_le hn
  have hw0 : c.w ≠ 0 := by have := hn.w.1; omega
  have hw1 := hn.w.1
  have hrl := hm.rl
  refine Spec.of_code (vs := [_, _]) (k0 := [(0, _), (1, _)]) 125 Tryz.func99 rfl Tryz.ntmps99 rfl (.cons (.cons .nil)) fun w X RR hRR H => ?_
  refine .seq ?_
  refine .plain rfl ?_
  refine .q rfl rfl rfl (val_assign rfl) ?_
  refine .nil (cj ?_)
  refine .seq ?_
  refine .seq ?_
  refine .plain rfl ?_
  refine .q rfl rfl rfl (val_move rfl) ?_
  refine .q rfl rfl rfl (val_len Tryz.underlying23 rfl) ?_
  refine .q rfl rfl rfl (val_gtr rfl rfl rfl) ?_
  refine .nil (cj ?_)
  refine .cond rfl (fun hc0 => ?_) (fun hc0 => ?_)
  · exfalso; have h9 := of_decide_eq_true hc0; omega
  · refine .skip (cj ?_)
    refine .seq ?_
    refine .seq ?_
    refine .plain rfl ?_
    refine .q rfl rfl rfl (val_move rfl) ?_
    refine .q rfl rfl rfl (val_nilCheck rfl) ?_
    refine .q rfl rfl rfl (val_fieldAddr rfl fa_183_2) ?_
    refine .qs rfl rfl rfl H (ld_b rfl ob_27 (.own .here) rfl) ?_
    refine .q rfl rfl rfl (val_len Tryz.underlying27 rfl) ?_
    refine .q rfl rfl rfl (val_move rfl) ?_
    refine .nil (cj ?_)
    refine .block ?_
    refine .loop (ι := Nat) (fun i => [(0, ptr bg), (1, .slice c.rA c.robots.length c.rc), (20, i64 ((area c : Nat) : Int)), (21, i64 (i : Int))]) (fun i w' => St w w' X [cr c, stepsA] [gfix c bg bk, kblk bk (kinds c fun n => kM c (decide (n < i)) (cellN c n))] ∧ i ≤ area c) (fun i => area c - i) 0 (by repeat (first | exact Pick.nil | refine Pick.cons rfl ?_)) ⟨by rw [show (kinds c fun n => kM c (decide (n < 0)) (cellN c n)) = kinds c fun n => kA c (cellN c n) from List.map_congr_left fun n _ => by simp [kM]]; exact H, Nat.zero_le _⟩ ?_
    rintro i w5 ⟨H1, hi⟩
    refine .seq ?_
    refine .plain rfl ?_
    refine .q rfl rfl rfl (val_lss rfl rfl rfl) ?_
    refine .nil (cj ?_)
    refine .seq ?_
    refine .cond rfl (fun hc1 => ?_) (fun hc1 => ?_)
    · have hil : i < area c := by simp only [decide_eq_true_eq] at hc1; omega
      obtain ⟨hin, hnum⟩ := cellN_in hn hil
      have hrel := kM_rel c hn (fun n => decide (n < i))
      have hki : (kinds c fun n => kM c (decide (n < i)) (cellN c n))[i]? = some (kA c (cellN c i)) := by rw [kinds_get c _ hil, decide_eq_false (Nat.lt_irrefl i)]; rfl
      have hkl : i < (kinds c fun n => kM c (decide (n < i)) (cellN c n)).length := by rw [kinds_len]; exact hil
      refine .skip (cj ?_)
      refine .seq ?_
      refine .block ?_
      refine .seq ?_
      refine .plain rfl ?_
      refine .q rfl rfl rfl (val_move rfl) ?_
      refine .q rfl rfl rfl (val_assign rfl) ?_
      refine .nil (cj ?_)
      refine .seq ?_
      refine .drawS 15 (.cons (0, true) (.cons (1, true) (.cons (2, true) (.cons (3, true) (.cons (4, true) (.cons (5, true) (.cons (6, true) (.cons (7, true) (.cons (8, true) (.cons (9, true) (.cons (10, true) (.cons (11, true) (.cons (12, true) (.cons (13, true) (.cons (14, false) (.cons (15, false) .nil)))))))))))))))) mo (by kernel_rfl) H1 (fun _ _ _ _ _ h => h) (fun w2 H2 => ?_)
      refine .p rfl rfl rfl (val_move rfl) ?_
      refine .p rfl rfl rfl (val_move rfl) ?_
      refine .p rfl rfl rfl (val_nilCheck rfl) ?_
      refine .p rfl rfl rfl (val_fieldAddr rfl fa_183_0) ?_
      refine .ps rfl rfl rfl rfl (ld_b rfl ob_3 (.own .here) rfl) ?_
      refine .p rfl rfl rfl (val_rem rfl rfl hw0 tmod_w) ?_
      refine .p rfl rfl rfl (val_move rfl) ?_
      refine .p rfl rfl rfl (val_move rfl) ?_
      refine .p rfl rfl rfl (val_nilCheck rfl) ?_
      refine .p rfl rfl rfl (val_fieldAddr rfl fa_183_0) ?_
      refine .ps rfl rfl rfl rfl (ld_b rfl ob_3 (.own .here) rfl) ?_
      refine .p rfl rfl rfl (val_quo rfl rfl hw0 (tdiv_w hw1 (by omega))) ?_
      refine .p rfl rfl rfl (val_mk (.cons rfl (.cons rfl .nil)) (mk_38_0_1 _ _)) ?_
      refine .p rfl rfl rfl (val_mk (.cons rfl .nil) (mk_40_0 _ _)) ?_
      refine .alloc rfl rfl rfl ze_40 rfl H2 (fun w3 b3 H3 => ⟨fun _ => (H3.sub (.cons (.there .here) (.cons (.there .here) .nil))), ?_⟩)
      refine .store rfl rfl rfl rfl rfl sz_40 rfl H3 .here (by repeat constructor) (fun w4 H4 => ⟨fun h => absurd h (by decide), ?_⟩)
      refine .nil (cj ?_)
      refine .seq ?_
      refine .seq ?_
      refine .plain rfl ?_
      refine .q rfl rfl rfl (val_move rfl) ?_
      refine .q rfl rfl rfl (val_nilCheck rfl) ?_
      refine .q rfl rfl rfl (val_fieldAddr rfl fa_183_2) ?_
      refine .qs rfl rfl rfl H4 (ld_b rfl ob_27 (.own (.there .here)) rfl) ?_
      refine .q rfl rfl rfl (val_move rfl) ?_
      refine .q rfl rfl rfl (val_ix el_27 rfl rfl rfl rfl hil) ?_
      refine .qs rfl rfl rfl H4 (ld_b rfl ob_3 (.own (.there (.there .here))) (ix_map (by first | assumption | rfl))) ?_
      refine .q rfl rfl rfl (val_eql rfl rfl rfl) ?_
      refine .q rfl rfl rfl (val_move rfl) ?_
      refine .case (t := 46) rfl (fun hs46 => ?_) (fun hs46 => ?_)
      · refine .no rfl rfl rfl ?_
        refine .no rfl rfl rfl ?_
        refine .no rfl rfl rfl ?_
        refine .q rfl rfl rfl (val_pick_t rfl rfl) ?_
        refine .q rfl rfl rfl (val_move rfl) ?_
        refine .no rfl rfl rfl ?_
        refine .no rfl rfl rfl ?_
        refine .no rfl rfl rfl ?_
        refine .no rfl rfl rfl ?_
        refine .no rfl rfl rfl ?_
        refine .q rfl rfl rfl (val_pick_t rfl rfl) ?_
        refine .nil (cj ?_)
        refine .cond_t rfl ?_
        refine .exit (cj ?_)
        refine .plain rfl ?_
        refine .q rfl rfl rfl (val_add rfl rfl (z := ((i + 1 : Nat) : Int)) (w64_of (by omega))) ?_
        refine .q rfl rfl rfl (val_move rfl) ?_
        refine .nil ?_
        intro act0 hact0; change Exists _
        refine ⟨(i + 1), Pick.kn (by repeat (first | exact Pick.nil | refine Pick.cons rfl ?_)) hact0, ⟨by first | (rw [kstep_same (kM_b hs46)]; exact H4.sub (.cons (.there .here) (.cons (.there .here) .nil))) | (rw [kstep_same (kM_f hn (.inl hs51))]; exact H4.sub (.cons (.there .here) (.cons (.there .here) .nil))) | (rw [kstep_same (kM_f hn (.inr hc2))]; exact H4.sub (.cons (.there .here) (.cons (.there .here) .nil))) | (rw [kstep_set hil (kM_o hn hin hs46 hs51 hc2 hc3)]; exact H4.sub (.cons (.there .here) (.cons (.there .here) .nil))), hil⟩, (by omega)⟩
      · refine .q rfl rfl rfl (val_move rfl) ?_
        refine .qs rfl rfl rfl H4 (ld_w rfl ag_40 (.own .here) rfl) ?_
        refine .call1 rfl rfl rfl en119 (.cons rfl (.cons rfl .nil)) (fitsK_spec c hn _ _ _ hrel _ _ _) H4 .nil (.own (.there .here) (.own (.there (.there .here)) (.ro (.there .here) .nil))) (fun w5 H5 => ⟨fun _ => trivial, ?_⟩)
        refine .q rfl rfl rfl (val_pick_f rfl rfl) ?_
        refine .q rfl rfl rfl (val_move rfl) ?_
        refine .case (t := 51) rfl (fun hs51 => ?_) (fun hs51 => ?_)
        · refine .no rfl rfl rfl ?_
          refine .no rfl rfl rfl ?_
          refine .no rfl rfl rfl ?_
          refine .no rfl rfl rfl ?_
          refine .no rfl rfl rfl ?_
          refine .q rfl rfl rfl (val_pick_t rfl rfl) ?_
          refine .nil (cj ?_)
          refine .cond_t rfl ?_
          refine .exit (cj ?_)
          refine .plain rfl ?_
          refine .q rfl rfl rfl (val_add rfl rfl (z := ((i + 1 : Nat) : Int)) (w64_of (by omega))) ?_
          refine .q rfl rfl rfl (val_move rfl) ?_
          refine .nil ?_
          intro act0 hact0; change Exists _
          refine ⟨(i + 1), Pick.kn (by repeat (first | exact Pick.nil | refine Pick.cons rfl ?_)) hact0, ⟨by first | (rw [kstep_same (kM_b hs46)]; exact H5.sub (.cons (.there .here) (.cons (.there .here) .nil))) | (rw [kstep_same (kM_f hn (.inl hs51))]; exact H5.sub (.cons (.there .here) (.cons (.there .here) .nil))) | (rw [kstep_same (kM_f hn (.inr hc2))]; exact H5.sub (.cons (.there .here) (.cons (.there .here) .nil))) | (rw [kstep_set hil (kM_o hn hin hs46 hs51 hc2 hc3)]; exact H5.sub (.cons (.there .here) (.cons (.there .here) .nil))), hil⟩, (by omega)⟩
        · refine .q rfl rfl rfl (val_move rfl) ?_
          refine .q rfl rfl rfl (val_fieldAddr rfl fa_40_0) ?_
          refine .qs rfl rfl rfl H5 (ld_blks rfl ag_38 (.own .here) (by repeat constructor)) ?_
          refine .q rfl rfl rfl (val_mk (.cons rfl (.cons rfl .nil)) (mk_40_0_1 _ _ _)) ?_
          refine .call1 rfl rfl rfl en119 (.cons rfl (.cons rfl .nil)) (fitsK_spec c hn _ _ _ hrel _ _ _) H5 .nil (.own (.there .here) (.own (.there (.there .here)) (.ro (.there .here) .nil))) (fun w6 H6 => ⟨fun _ => trivial, ?_⟩)
          refine .q rfl rfl rfl (val_pick_f rfl rfl) ?_
          refine .nil (cj ?_)
          refine .cond rfl (fun hc2 => ?_) (fun hc2 => ?_)
          · refine .exit (cj ?_)
            refine .plain rfl ?_
            refine .q rfl rfl rfl (val_add rfl rfl (z := ((i + 1 : Nat) : Int)) (w64_of (by omega))) ?_
            refine .q rfl rfl rfl (val_move rfl) ?_
            refine .nil ?_
            intro act0 hact0; change Exists _
            refine ⟨(i + 1), Pick.kn (by repeat (first | exact Pick.nil | refine Pick.cons rfl ?_)) hact0, ⟨by first | (rw [kstep_same (kM_b hs46)]; exact H6.sub (.cons (.there .here) (.cons (.there .here) .nil))) | (rw [kstep_same (kM_f hn (.inl hs51))]; exact H6.sub (.cons (.there .here) (.cons (.there .here) .nil))) | (rw [kstep_same (kM_f hn (.inr hc2))]; exact H6.sub (.cons (.there .here) (.cons (.there .here) .nil))) | (rw [kstep_set hil (kM_o hn hin hs46 hs51 hc2 hc3)]; exact H6.sub (.cons (.there .here) (.cons (.there .here) .nil))), hil⟩, (by omega)⟩
          · refine .skip (cj ?_)
            refine .seq ?_
            refine .seq ?_
            refine .plain rfl ?_
            refine .q rfl rfl rfl (val_move rfl) ?_
            refine .q rfl rfl rfl (val_nilCheck rfl) ?_
            refine .q rfl rfl rfl (val_fieldAddr rfl fa_183_2) ?_
            refine .qs rfl rfl rfl H6 (ld_b rfl ob_27 (.own (.there .here)) rfl) ?_
            refine .q rfl rfl rfl (val_move rfl) ?_
            refine .q rfl rfl rfl (val_ix el_27 rfl rfl rfl rfl hil) ?_
            refine .qs rfl rfl rfl H6 (ld_b rfl ob_3 (.own (.there (.there .here))) (ix_map (by first | assumption | rfl))) ?_
            refine .q rfl rfl rfl (val_gtr rfl rfl rfl) ?_
            refine .nil (cj ?_)
            refine .cond rfl (fun hc3 => ?_) (fun hc3 => ?_)
            · exact (no_port hm hin hs46 hs51 hc2 hc3).elim
            · refine .skip (cj ?_)
              refine .plain rfl ?_
              refine .q rfl rfl rfl (val_move rfl) ?_
              refine .q rfl rfl rfl (val_nilCheck rfl) ?_
              refine .q rfl rfl rfl (val_fieldAddr rfl fa_183_2) ?_
              refine .qs rfl rfl rfl H6 (ld_b rfl ob_27 (.own (.there .here)) rfl) ?_
              refine .q rfl rfl rfl (val_move rfl) ?_
              refine .q rfl rfl rfl (val_ix el_27 rfl rfl rfl rfl hil) ?_
              refine .store rfl rfl rfl rfl rfl sz_3 rfl H6 (.there (.there .here)) (Spl_set hkl) (fun w7 H7 => ⟨fun _ => trivial, ?_⟩)
              refine .nil (cj ?_)
              refine .plain rfl ?_
              refine .q rfl rfl rfl (val_add rfl rfl (z := ((i + 1 : Nat) : Int)) (w64_of (by omega))) ?_
              refine .q rfl rfl rfl (val_move rfl) ?_
              refine .nil ?_
              intro act0 hact0; change Exists _
              refine ⟨(i + 1), Pick.kn (by repeat (first | exact Pick.nil | refine Pick.cons rfl ?_)) hact0, ⟨by first | (rw [kstep_same (kM_b hs46)]; exact H7.sub (.cons (.there (.there .here)) (.cons .here .nil))) | (rw [kstep_same (kM_f hn (.inl hs51))]; exact H7.sub (.cons (.there (.there .here)) (.cons .here .nil))) | (rw [kstep_same (kM_f hn (.inr hc2))]; exact H7.sub (.cons (.there (.there .here)) (.cons .here .nil))) | (rw [kstep_set hil (kM_o hn hin hs46 hs51 hc2 hc3)]; exact H7.sub (.cons (.there (.there .here)) (.cons .here .nil))), hil⟩, (by omega)⟩
    · have hia : i = area c := by simp only [decide_eq_false_iff_not] at hc1; omega
      subst hia
      refine .exit (cj ?_)
      refine .seq ?_
      refine .plain rfl ?_
      refine .q rfl rfl rfl (val_move rfl) ?_
      refine .q rfl rfl rfl (val_nilCheck rfl) ?_
      refine .q rfl rfl rfl (val_fieldAddr rfl fa_183_2) ?_
      refine .qs rfl rfl rfl H1 (ld_b rfl ob_27 (.own .here) rfl) ?_
      refine .q rfl rfl rfl (val_len Tryz.underlying27 rfl) ?_
      refine .mk rfl rfl rfl ap_193 ze_4 rfl rfl (Nat.le_refl _) (by omega) (by simp only [maxLen]; omega) (made_one _ _) H1 (fun w8 b8 H8 => ⟨fun _ => trivial, ?_⟩)
      refine .q rfl rfl rfl (val_assign rfl) ?_
      refine .nil (cj ?_)
      refine .seq ?_
      refine .seq ?_
      refine .plain rfl ?_
      refine .q rfl rfl rfl (val_move rfl) ?_
      refine .q rfl rfl rfl (val_len Tryz.underlying23 rfl) ?_
      refine .q rfl rfl rfl (val_move rfl) ?_
      refine .nil (cj ?_)
      refine .block ?_
      refine .loop (ι := Nat) (fun t => [(0, ptr bg), (7, .slice (some ⟨b8, 0, none⟩) (area c) (area c)), (79, .slice c.rA c.robots.length c.rc), (80, i64 ((c.robots.length : Nat) : Int)), (81, i64 (t : Int))]) (fun t w' => St w w' X [cr c, stepsA] [gfix c bg bk, kblk bk (kinds c fun n => kR c (cellsTo c t) (cellN c n)), sblk b8 (flags c fun n => decide (cellN c n ∈ cellsTo c t))] ∧ t ≤ c.robots.length) (fun t => c.robots.length - t) 0 (by repeat (first | exact Pick.nil | refine Pick.cons rfl ?_)) ⟨by rw [show (flags c fun n => decide (cellN c n ∈ cellsTo c 0)) = List.replicate (area c) false from tk0]; rw [kend] at H8; simp only [sblk, List.map_replicate]; exact H8.sub (.cons (.there .here) (.cons (.there .here) (.cons .here .nil))), Nat.zero_le _⟩ ?_
      rintro t w6 ⟨H9, ht⟩
      refine .seq ?_
      refine .plain rfl ?_
      refine .q rfl rfl rfl (val_lss rfl rfl rfl) ?_
      refine .nil (cj ?_)
      refine .seq ?_
      refine .cond rfl (fun hc4 => ?_) (fun hc4 => ?_)
      · have htl : t < c.robots.length := by simp only [decide_eq_true_eq] at hc4; omega
        obtain ⟨p, hx⟩ : ∃ p, c.robots[t]? = some p := ⟨_, List.getElem?_eq_getElem htl⟩
        obtain ⟨b, o, hA⟩ := Has.base (.ro .here) H9 (nil_of_flat encP_len (by decide) htl)
        have hrel2 := kr_rel hm (t := t) (l := []) (fun x hx => by cases hx)
        rw [List.append_nil] at hrel2
        have hpin : inR c p.x p.y = true := (cell_in hm (s := 0) hx rfl).1
        refine .skip (cj ?_)
        refine .seq ?_
        refine .block ?_
        refine .seq ?_
        refine .plain rfl ?_
        refine .q rfl rfl rfl (val_ix el_23 hA rfl rfl rfl htl) ?_
        refine .qs rfl rfl rfl H9 (ld_ela rfl ag_40 .base hA (.ro .here) encP_len (by first | assumption | rfl)) ?_
        refine .alloc rfl rfl rfl ze_40 rfl H9 (fun w10 b10 H10 => ⟨fun _ => trivial, ?_⟩)
        refine .store rfl rfl rfl rfl rfl sz_40 rfl H10 .here (by repeat constructor) (fun w11 H11 => ⟨fun _ => trivial, ?_⟩)
        refine .nil (cj ?_)
        refine .seq ?_
        refine .seq ?_
        refine .plain rfl ?_
        refine .q rfl rfl rfl (val_move rfl) ?_
        refine .qs rfl rfl rfl H11 (ld_w rfl ag_40 (.own .here) rfl) ?_
        refine .call1 rfl rfl rfl en119 (.cons rfl (.cons rfl .nil)) (fitsK_spec c hn _ _ _ hrel2 _ _ _) H11 .nil (.own (.there .here) (.own (.there (.there .here)) (.ro (.there .here) .nil))) (fun w12 H12 => ⟨fun _ => trivial, ?_⟩)
        refine .q rfl rfl rfl (val_not rfl rfl) ?_
        refine .nil (cj ?_)
        refine .cond rfl (fun hc5 => ?_) (fun hc5 => ?_)
        · exfalso; rw [hm.robots t p hx] at hc5; cases hc5
        · refine .skip (cj ?_)
          refine .seq ?_
          refine .plain rfl ?_
          refine .q rfl rfl rfl (val_move rfl) ?_
          refine .qs rfl rfl rfl H12 (ld_w rfl ag_40 (.own .here) rfl) ?_
          refine .callx rfl rfl rfl en120 (.cons rfl (.cons rfl .nil)) (cellsK_spec hn hpin) H12 .nil (.ro (.there .here) .nil) (fun b13 w13 C13 H13 => ⟨fun _ => trivial, ?_⟩)
          have H14 := H13.blkArr .here
          refine .q rfl rfl rfl (val_len Tryz.underlying22 rfl) ?_
          refine .q rfl rfl rfl (val_move rfl) ?_
          refine .nil (cj ?_)
          refine .block ?_
          refine .loop (ι := Nat) (fun s => [(0, ptr bg), (7, .slice (some ⟨b8, 0, none⟩) (area c) (area c)), (79, .slice c.rA c.robots.length c.rc), (80, i64 ((c.robots.length : Nat) : Int)), (81, i64 (t : Int)), (91, .slice (some ⟨b13, 0, none⟩) 2 2), (92, i64 ((2 : Nat) : Int)), (93, i64 (s : Int))]) (fun s w' => St w w' X [arr (some ⟨b13, 0, none⟩) ((cellsL p).flatMap encC), cr c, stepsA] [gfix c bg bk, kblk bk (kinds c fun n => kR c (cellsTo c t ++ (cellsL p).take s) (cellN c n)), sblk b8 (flags c fun n => decide (cellN c n ∈ cellsTo c t ++ (cellsL p).take s))] ∧ s ≤ 2) (fun s => 2 - s) 0 (by repeat (first | exact Pick.nil | refine Pick.cons rfl ?_)) ⟨by rw [List.take_zero, List.append_nil]; exact H14.sub (.cons (.there .here) (.cons (.there .here) (.cons (.there .here) .nil))), Nat.zero_le _⟩ ?_
          rintro s w7 ⟨H15, hs⟩
          refine .seq ?_
          refine .plain rfl ?_
          refine .q rfl rfl rfl (val_lss rfl rfl rfl) ?_
          refine .nil (cj ?_)
          refine .seq ?_
          refine .cond rfl (fun hc6 => ?_) (fun hc6 => ?_)
          · have hs2 : s < 2 := by simp only [decide_eq_true_eq] at hc6; omega
            obtain ⟨x, hx2⟩ : ∃ x, (cellsL p)[s]? = some x := ⟨_, List.getElem?_eq_getElem (by simpa using hs2)⟩
            obtain ⟨hin2, hnb2⟩ := cell_in hm hx hx2
            have hnew := cell_new hm hx hx2
            obtain ⟨hlt, hnb⟩ := numI_lt hn hin2
            have hnum2 : numB ⟨c.w, c.h, []⟩ x.x x.y = ((numI c x : Nat) : Int) := hnb (kinds c fun n => 0) (kinds_len c _)
            have htk := tk_get hn hin2 hnew
            have hkr := kr_get hn hin2 hnew
            have hltk : numI c x < (kinds c fun n => kR c (cellsTo c t ++ (cellsL p).take s) (cellN c n)).length := by rw [kinds_len]; exact hlt
            have hltt : numI c x < (flags c fun n => decide (cellN c n ∈ cellsTo c t ++ (cellsL p).take s)).length := by rw [flags_len]; exact hlt
            refine .skip (cj ?_)
            refine .seq ?_
            refine .block ?_
            refine .seq ?_
            refine .plain rfl ?_
            refine .q rfl rfl rfl (val_ix el_22 rfl rfl rfl rfl hs2) ?_
            refine .qs rfl rfl rfl H15 (ld_ela rfl ag_38 .base rfl (.ro .here) encC_len (by first | assumption | rfl)) ?_
            refine .alloc rfl rfl rfl ze_38 rfl H15 (fun w16 b16 H16 => ⟨fun _ => trivial, ?_⟩)
            refine .store rfl rfl rfl rfl rfl sz_38 rfl H16 .here (by repeat constructor) (fun w17 H17 => ⟨fun _ => trivial, ?_⟩)
            refine .nil (cj ?_)
            refine .seq ?_
            refine .plain rfl ?_
            refine .q rfl rfl rfl (val_move rfl) ?_
            refine .qs rfl rfl rfl H17 (ld_w rfl ag_38 (.own .here) rfl) ?_
            refine .call1 rfl rfl rfl en86 (.cons rfl (.cons rfl .nil)) (number_spec _ _ ⟨c.w, c.h, []⟩ _ _) H17 .nil (.own (.there .here) .nil) (fun w18 H18 => ⟨fun _ => trivial, ?_⟩)
            refine .q rfl rfl rfl (val_assign rfl) ?_
            refine .nil (cj ?_)
            refine .seq ?_
            refine .seq ?_
            refine .plain rfl ?_
            refine .q rfl rfl rfl (val_move rfl) ?_
            refine .q rfl rfl rfl (val_move rfl) ?_
            refine .q rfl rfl rfl (val_ix el_193 rfl rfl rfl hnum2 hlt) ?_
            refine .qs rfl rfl rfl H18 (ld_b rfl ob_4 (.own (.there (.there (.there .here)))) (ix_map (by first | assumption | rfl))) ?_
            refine .q rfl rfl rfl (val_move rfl) ?_
            refine .case (t := 104) rfl (fun hs104 => ?_) (fun hs104 => ?_)
            · cases hs104
            · refine .q rfl rfl rfl (val_move rfl) ?_
              refine .q rfl rfl rfl (val_nilCheck rfl) ?_
              refine .q rfl rfl rfl (val_fieldAddr rfl fa_183_2) ?_
              refine .qs rfl rfl rfl H18 (ld_b rfl ob_27 (.own (.there .here)) rfl) ?_
              refine .q rfl rfl rfl (val_move rfl) ?_
              refine .q rfl rfl rfl (val_ix el_27 rfl rfl rfl hnum2 hlt) ?_
              refine .qs rfl rfl rfl H18 (ld_b rfl ob_3 (.own (.there (.there .here))) (ix_map (by first | assumption | rfl))) ?_
              refine .q rfl rfl rfl (val_gtr rfl rfl rfl) ?_
              refine .q rfl rfl rfl (val_pick_f rfl rfl) ?_
              refine .nil (cj ?_)
              refine .cond rfl (fun hc7 => ?_) (fun hc7 => ?_)
              · exact (cell_noport hm hx hx2 hc7).elim
              · refine .skip (cj ?_)
                refine .seq ?_
                refine .plain rfl ?_
                refine .q rfl rfl rfl (val_move rfl) ?_
                refine .q rfl rfl rfl (val_move rfl) ?_
                refine .q rfl rfl rfl (val_ix el_193 rfl rfl rfl hnum2 hlt) ?_
                refine .store rfl rfl rfl rfl rfl sz_4 rfl H18 (.there (.there (.there .here))) (Spl_set hltt) (fun w19 H19 => ⟨fun _ => trivial, ?_⟩)
                refine .nil (cj ?_)
                refine .plain rfl ?_
                refine .q rfl rfl rfl (val_move rfl) ?_
                refine .q rfl rfl rfl (val_nilCheck rfl) ?_
                refine .q rfl rfl rfl (val_fieldAddr rfl fa_183_2) ?_
                refine .qs rfl rfl rfl H19 (ld_b rfl ob_27 (.own (.there (.there .here))) rfl) ?_
                refine .q rfl rfl rfl (val_move rfl) ?_
                refine .q rfl rfl rfl (val_ix el_27 rfl rfl rfl hnum2 hlt) ?_
                refine .store rfl rfl rfl rfl rfl sz_3 rfl H19 (.there (.there (.there .here))) (Spl_set hltk) (fun w20 H20 => ⟨fun _ => trivial, ?_⟩)
                refine .nil (cj ?_)
                refine .plain rfl ?_
                refine .q rfl rfl rfl (val_add rfl rfl (z := ((s + 1 : Nat) : Int)) (w64_of (by omega))) ?_
                refine .q rfl rfl rfl (val_move rfl) ?_
                refine .nil ?_
                intro act0 hact0; change Exists _
                refine ⟨(s + 1), Pick.kn (by repeat (first | exact Pick.nil | refine Pick.cons rfl ?_)) hact0, ⟨by rw [take_snoc hx2, ← List.append_assoc, ← kr_set hn hin2, ← tk_set hn hin2]; exact H20.sub (.cons (.there (.there (.there .here))) (.cons .here (.cons .here .nil))), hs2⟩, (by omega)⟩
          · have hs2 : s = 2 := by simp only [decide_eq_false_iff_not] at hc6; omega
            subst hs2
            rw [show (cellsL p).take 2 = cellsL p from rfl] at H15
            refine .exit (cj ?_)
            refine .plain rfl ?_
            refine .q rfl rfl rfl (val_add rfl rfl (z := ((t + 1 : Nat) : Int)) (w64_of (by omega))) ?_
            refine .q rfl rfl rfl (val_move rfl) ?_
            refine .nil ?_
            intro act0 hact0; change Exists _
            refine ⟨(t + 1), Pick.kn (by repeat (first | exact Pick.nil | refine Pick.cons rfl ?_)) hact0, ⟨by rw [cellsTo_succ hx]; exact (H15.rest (.ro (.there .here) (.ro (.there (.there .here)) .nil))).sub (.cons .here (.cons .here (.cons .here .nil))), htl⟩, (by omega)⟩
      · have hta : t = c.robots.length := by simp only [decide_eq_false_iff_not] at hc4; omega
        have hca : cellsTo c t = c.robots.flatMap cellsL := by rw [hta]; simp [cellsTo]
        rw [hca] at H9
        refine .exit (cj ?_)
        refine .seq ?_
        refine .plain rfl ?_
        refine .q rfl rfl rfl (val_assign rfl) ?_
        refine .nil (cj ?_)
        refine .ret (fret (res1 rfl rfl) ?_)
        refine hRR _ _ ⟨_, ⟨rfl, rfl⟩, H9.sub (.cons .here (.cons .here .nil))⟩
end Go.Proofs.YtmbibkifbehgnaaGreatDoor
namespace Go.Proofs.YtmbibkifbehgnaaGreatDoor.Sk
open Go Go.MapKept
set_option linter.unusedVariables false
set_option linter.unusedSimpArgs false
/-- Block b holds a map with just these keys, in this order. -/
def mapA (b : Nat) (ks : List Int) : As where
  on X w := (∀ k, X k ↔ k = b) ∧ ∃ es clock, w.heap[b]? = some (.map es clock) ∧ es.toList.map (·.key) = ks.map (Value.int .i64)
  loc X w w' h hk := ⟨h.1, by
    obtain ⟨h0, es, clock, h1, h2⟩ := h
    exact ⟨es, clock, (hk b ((h0 b).2 rfl)).trans h1, h2⟩⟩
  lt X w h k hk := by
    obtain rfl := (h.1 k).1 hk
    obtain ⟨_, es, clock, h1, _⟩ := h
    exact (Array.getElem?_eq_some_iff.1 h1).1
section
variable {P : Program} {nt : NT} {ops : Array Oper} {Q : Exit → Act → World → Prop} {S : World → Prop} {n i d : Nat} {k : L} {R F : List As} {M : Nat → Prop} {w0 w : World} {ty : TypeId} {pos : String} {af : Array Edge} {g : Option (Nat × Bool)} {l : Tr}
theorem St.newMap {w : World} (H : St w0 w M R F) : St w0 (w.alloc (.map #[] 0)) M R (mapA w.heap.size [] :: F) := by
  obtain ⟨⟨X, h1, h2, h3⟩, h4⟩ := H
  have hold : ∀ k, k < w.heap.size → (w.alloc (.map #[] 0)).heap[k]? = w.heap[k]? := fun k hk => by
    show (w.heap.push _)[k]? = _
    rw [Array.getElem?_push, if_neg (by omega)]
  refine ⟨⟨fun k => k = w.heap.size ∨ X k, ⟨fun k => k = w.heap.size, X, ⟨fun k => Iff.rfl, #[], 0, ?_, rfl⟩, Own.loc h1 fun k hk => hold k (Own.lt h1 k hk), ?_, fun k => Iff.rfl⟩, ?_, ?_⟩, ?_⟩
  · show (w.heap.push _)[w.heap.size]? = _
    simp
  · rintro k rfl hx
    exact absurd (Own.lt h1 _ hx) (by omega)
  · intro r hr
    obtain ⟨Y, hY, hd⟩ := h2 r hr
    refine ⟨Y, r.loc Y w _ hY fun k hk => hold k (r.lt Y w hY k hk), ?_⟩
    rintro k hk (rfl | hx)
    · exact absurd (r.lt Y w hY _ hk) (by omega)
    · exact hd k hk hx
  · rintro k (rfl | hx)
    · exact .inr h4.size
    · exact h3 k hx
  · exact h4.step (N := fun _ => False) ⟨rfl, rfl, rfl, by simp, fun k hk _ => hold k hk⟩ (fun _ h => h.elim)
theorem RJ.newMap {t : TypeId} (ho : ops[i]? = some (Oper.mk (some d) (.makeMap t none) ty pos af g)) (hg : gd ops k g = some true) (hd : Nat.blt d nt.n = true) (H : St w0 w M R F)
    (h : ∀ w' b, St w0 w' M R (mapA b [] :: F) → (i < n → S w') ∧ RJ P nt ops Q S n l ((d, .map (some b)) :: k) w') : RJ P nt ops Q S n (.cons (i, false) l) k w := by
  have := h _ _ H.newMap
  exact RJ.act ho hg hd (fun a ha => by simp only [execOp, Option.map_none, Instr.makeMap]; rfl) this.1 this.2
theorem absent {x : Int} {es : List MapEntry} {ks : List Int} (he : es.map (·.key) = ks.map (Value.int .i64)) (hx : x ∉ ks) : Instr.findNow (.int .i64) (.int .i64 x) es 0 = some none := by
  have hk : ∀ e ∈ es, IsKey (.int .i64) e.key ∧ e.key ≠ .int .i64 x := fun e hm => by
    have : e.key ∈ ks.map (Value.int .i64) := by rw [← he]; exact List.mem_map.2 ⟨e, hm, rfl⟩
    obtain ⟨y, hy, e1⟩ := List.mem_map.1 this
    rw [← e1]
    exact ⟨rfl, fun e2 => by cases e2; exact hx hy⟩
  rcases findNow_spec (d := .int .i64) (k := .int .i64 x) rfl es 0 (fun e hm => (hk e hm).1) with ⟨h, _⟩ | ⟨j, e, _, h2, h3⟩
  · exact h
  · exact absurd h3 (hk e (List.mem_of_getElem? h2)).2
theorem ld_absent {t kt et : TypeId} {X Y : Operand} {b : Nat} {ks : List Int} {x : Int} {z : Value} (ht : P.underlying t = some (.map kt et)) (hk : P.underlying kt = some (.int .i64)) (hz : (P.info? et).bind (·.zero) = some z) (hX : ev k X = some (.map (some b))) (hY : ev k Y = some (.int .i64 x)) (hf : Has R F (mapA b ks)) (hx : x ∉ ks) :
    ValS P nt (fun w => St w0 w M R F) k (.lookup t X Y false) z := fun a ha d ty pos af g w H => by
  obtain ⟨Yf, _, es, clock, h1, h2⟩ := hf.get H
  have hc := run_checkKey (P := P) (w := w) hk (show IsKey (.int .i64) (.int .i64 x) from rfl) es.isEmpty 9999
  have hff := run_findKey (P := P) (w := w) hk (absent h2 hx)
  have hzz : (zeroValue et).run P w = .ok z w := by
    cases hi : P.info? et with
    | none => simp [hi] at hz
    | some inf =>
      have hz' : inf.zero = some z := by simpa [hi] using hz
      simp [zeroValue, typeInfo, hi, hz', go_sem]
  simp only [execOp, ha.ev hX, ha.ev hY, Sem.run_bind, Instr.lookup, run_underlying ht, Result.andThen_ok, MapKept.run_getObj_map h1, Sem.run_pure, hc, hff, hzz, Bool.false_eq_true, if_false]
theorem ld_maplen {t kt et : TypeId} {X : Operand} {b : Nat} {ks : List Int} (ht : P.underlying t = some (.map kt et)) (hX : ev k X = some (.map (some b))) (hf : Has R F (mapA b ks)) :
    ValS P nt (fun w => St w0 w M R F) k (.call ⟨.builtin .len, #[X], #[t]⟩) (.int .i64 (ks.length : Int)) := fun a ha d ty pos af g w H => by
  obtain ⟨Yf, _, es, clock, h1, h2⟩ := hf.get H
  have hl : es.size = ks.length := by
    have := congrArg List.length h2
    simpa using this
  have := run_len_map (P := P) w t ty b es clock (by simp [Program.mapKeyOf, Program.mapElemOf, ht]) h1
  simp only [execOp, resolve, List.map_toArray, List.map_cons, List.map_nil, ha.ev hX, invoke, builtin, Sem.run_bind, Sem.run_pure, Result.andThen_ok, this, hl]; rfl
theorem RJ.setMap {t kt et : TypeId} {X Y Z : Operand} {b : Nat} {ks : List Int} {x : Int} {v : Value} {F' : List As} (ho : ops[i]? = some (Oper.mk none (.mapUpdate t X Y Z) ty pos af g)) (hg : gd ops k g = some true) (ht : P.underlying t = some (.map kt et)) (hk : P.underlying kt = some (.int .i64))
    (hX : ev k X = some (.map (some b))) (hY : ev k Y = some (.int .i64 x)) (hZ : ev k Z = some v) (H : St w0 w M R F) (hat : At F (mapA b ks) F') (hx : x ∉ ks)
    (h : ∀ w', St w0 w' M R (mapA b (ks ++ [x]) :: F') → (i < n → S w') ∧ RJ P nt ops Q S n l k w') : RJ P nt ops Q S n (.cons (i, false) l) k w := by
  obtain ⟨⟨A, h1, h2, h3⟩, h4⟩ := H
  obtain ⟨X1, X2, ⟨g1, es, clock, g1', ge⟩, g2, g3, g4⟩ := Own.pick hat h1
  have hx1 : X1 b := (g1 b).2 rfl
  obtain ⟨hs1, hs2⟩ := heap_set (o' := Obj.map (es.push { key := .int .i64 x, val := v, born := clock }) (clock + 1)) g1'
  have hSt : St w0 { w with heap := w.heap.setIfInBounds b (.map (es.push { key := .int .i64 x, val := v, born := clock }) (clock + 1)) } M R (mapA b (ks ++ [x]) :: F') := by
    refine ⟨⟨A, ⟨X1, X2, ⟨g1, _, _, hs1, by simp [ge]⟩, Own.loc g2 fun k hk => hs2 k (fun e => g3 b hx1 (e ▸ hk)), g3, g4⟩, ?_, h3⟩, ?_⟩
    · intro r hr
      obtain ⟨Y, hY, hd⟩ := h2 r hr
      exact ⟨Y, r.loc Y w _ hY fun k hk => hs2 k (fun e => hd k hk ((g4 k).2 (.inl (e ▸ hx1)))), hd⟩
    · refine h4.step (N := fun k => k = b) ⟨rfl, rfl, rfl, by simp, fun k _ hk => hs2 k hk⟩ ?_
      rintro k rfl
      exact h3 _ ((g4 _).2 (.inl hx1))
  have := h _ hSt
  refine RJ.act0 ho hg (fun a ha => ?_) this.1 this.2
  have hc := run_checkKey (P := P) (w := w) hk (show IsKey (.int .i64) (.int .i64 x) from rfl) false 9999
  have hff := run_findKey (P := P) (w := w) hk (absent ge hx)
  simp only [execOp, ha.ev hX, ha.ev hY, ha.ev hZ, Sem.run_bind, Instr.mapUpdate, run_underlying ht, Result.andThen_ok, MapKept.run_getObj_map g1', hc, hff, MapKept.run_setObj_map _ g1', Sem.run_pure]
end
end Go.Proofs.YtmbibkifbehgnaaGreatDoor.Sk
namespace Go.Proofs.YtmbibkifbehgnaaGreatDoor
open Go Sk
set_option linter.unusedVariables false
set_option linter.unusedSimpArgs false
abbrev KF (c : Cf) : List Int := kinds c fun n => kR c (c.robots.flatMap cellsL) (cellN c n)
theorem KF_rel {c : Cf} (hm : MayOk c) : KRel c (KF c) := kR_rel c hm.num _ (cells_free hm)
theorem home_iff {c : Cf} {x : Cl} : homeR c x.x x.y = true ↔ x ∈ c.robots.flatMap cellsL := by
  have e : (⟨x.x, x.y⟩ : Cl) = x := rfl
  unfold homeR
  rw [List.any_eq_true, List.mem_flatMap]
  constructor
  · rintro ⟨p, hp, h⟩
    have := of_decide_eq_true h
    rw [e] at this
    exact ⟨p, hp, List.count_pos_iff.1 (by omega)⟩
  · rintro ⟨p, hp, h⟩
    have := List.count_pos_iff.2 h
    exact ⟨p, hp, decide_eq_true (by rw [e]; omega)⟩
theorem stacked_eq {c : Cf} (hm : MayOk c) (x y : Int) : stackedB ⟨c.w, c.h, KF c⟩ x y = stackedR c x y := by
  have hn := hm.num
  have hr := KF_rel hm
  cases hi : inR c x y with
  | false => simp [stackedB, stackedR, openR, num_out hr hn hi, hi]
  | true =>
    obtain ⟨hlt, _⟩ := numI_lt hn hi
    have hk : (KF c)[numI c ⟨x, y⟩]? = some (kR c (c.robots.flatMap cellsL) ⟨x, y⟩) := by rw [kinds_get c _ hlt, cellN_num hn (x := ⟨x, y⟩) hi]
    have e := kind_in hr hn hi hk
    have e2 := num_in hr hn hi
    unfold stackedB stackedR
    rw [e, e2]
    have h0 : decide ((0 : Int) ≤ ((numI c ⟨x, y⟩ : Nat) : Int)) = true := decide_eq_true (by omega)
    rw [h0, Bool.true_and]
    by_cases hh : (⟨x, y⟩ : Cl) ∈ c.robots.flatMap cellsL
    · have h1 : homeR c x y = true := home_iff (x := ⟨x, y⟩) |>.2 hh
      simp only [kR, if_pos hh, h1]; simp
    · have h1 : homeR c x y = false := by
        cases h : homeR c x y with
        | false => rfl
        | true => exact absurd (home_iff (x := ⟨x, y⟩) |>.1 h) hh
      simp only [kR, if_neg hh, h1]
      by_cases hb : (⟨x, y⟩ : Cl) ∈ c.blocked
      · have hc := List.count_pos_iff.2 hb
        have : openR c x y = false := by simp [openR]; intro _; omega
        rw [this, show kM c true ⟨x, y⟩ = -1 from kM_blocked.2 hb]; rfl
      · have hc : c.blocked.count ⟨x, y⟩ = 0 := List.count_eq_zero.2 hb
        have ho : openR c x y = true := by simp [openR, hi, hc]
        have ek : kA c ⟨x, y⟩ = portFrom c.ports x y + 1 := by simp [kA, hb]
        have hge := kA_ge (c := c) ⟨x, y⟩
        rw [ho, Bool.true_and]
        unfold kM
        rw [ek]
        cases hbs : besideR c x y with
        | true =>
          rcases hge with ⟨_, h2⟩ | ⟨h2, _⟩
          · exact absurd h2 hb
          · rw [ek] at h2
            simp only [Bool.not_true, Bool.and_false, Bool.false_eq_true, if_false, Bool.not_false, Bool.and_true]
            rw [Bool.eq_iff_iff]; simp; omega
        | false =>
          simp only [Bool.and_false]
          rcases hge with ⟨_, h2⟩ | ⟨h2, _⟩
          · exact absurd h2 hb
          · rw [ek] at h2
            split
            · rfl
            · rename_i h9
              simp at h9
              simp [h9]
theorem stackedK_spec (c : Cf) (hm : MayOk c) (bg bk : Nat) (x y : Int) : Sk.Spec Tryz.prog 112 #[ptr bg, .agg #[i64 x, i64 y]] [gfix c bg bk, kblk bk (KF c)] [] fun e F' => e = .returned (.bool (stackedR c x y)) ∧ F' = [] := by
  have h := stacked_spec bg (some ⟨bk, 0, none⟩) (area c) ⟨c.w, c.h, KF c⟩ ((KF_rel hm).ok hm.num) x y
  rw [stacked_eq hm] at h
  have e : gblk bg (some ⟨bk, 0, none⟩) (area c) ⟨c.w, c.h, KF c⟩ = gfix c bg bk := by simp only [gblk, gfix, (KF_rel hm).len]
  rw [e] at h
  exact Spec.tell h (.cons .here (Tells.refl _) (.cons (.there .here) Tells.blk .nil))
abbrev atsTo (c : Cf) (i : Nat) : List Cl := (c.stacks.take i).map fun s => ⟨s.x, s.y⟩
theorem atsTo_succ {c : Cf} {i : Nat} {s : Sk1} (h : c.stacks[i]? = some s) : atsTo c (i + 1) = atsTo c i ++ [⟨s.x, s.y⟩] := by
  simp [atsTo, take_snoc h]
theorem at_new {c : Cf} (hm : MayOk c) {i : Nat} {s : Sk1} (h : c.stacks[i]? = some s) : (⟨s.x, s.y⟩ : Cl) ∉ atsTo c i := by
  intro hmem
  obtain ⟨t, ht, e⟩ := List.mem_map.1 hmem
  obtain ⟨k, hk⟩ := List.getElem?_of_mem ht
  rw [List.getElem?_take] at hk
  split at hk
  · rename_i hlt
    exact hm.bins.apart i k s t hlt h hk e
  · cases hk
theorem all_pre {c : Cf} {i : Nat} {s : Sk1} (h : c.stacks[i]? = some s) : ∃ r, c.stacks.flatMap (·.bins) = allTo c i ++ (s.bins ++ r) := by
  have : c.stacks = c.stacks.take i ++ s :: c.stacks.drop (i + 1) := by
    rw [← (List.getElem?_eq_some_iff.1 h).2, List.getElem_cons_drop, List.take_append_drop]
  refine ⟨(c.stacks.drop (i + 1)).flatMap (·.bins), ?_⟩
  conv => lhs; rw [this]
  simp [allTo]
theorem bin_at {c : Cf} {i k : Nat} {s : Sk1} {b : Int} (h : c.stacks[i]? = some s) (hb : s.bins[k]? = some b) : (c.stacks.flatMap (·.bins))[(allTo c i).length + k]? = some b := by
  obtain ⟨r, e⟩ := all_pre h
  have hk := (List.getElem?_eq_some_iff.1 hb).1
  rw [e, List.getElem?_append_right (by omega), Nat.add_sub_cancel_left, List.getElem?_append_left hk, hb]
theorem bin_new {c : Cf} (hm : MayOk c) {i k : Nat} {s : Sk1} {b : Int} (h : c.stacks[i]? = some s) (hb : s.bins[k]? = some b) : b ∉ allTo c i ++ s.bins.take k := by
  intro hmem
  obtain ⟨r, e⟩ := all_pre h
  have hk := (List.getElem?_eq_some_iff.1 hb).1
  obtain ⟨j, hj⟩ := List.getElem?_of_mem hmem
  have hjl := (List.getElem?_eq_some_iff.1 hj).1
  simp only [List.length_append, List.length_take] at hjl
  have hj2 : (c.stacks.flatMap (·.bins))[j]? = some b := by
    rw [e, ← hj]
    rcases Nat.lt_or_ge j (allTo c i).length with h1 | h1
    · rw [List.getElem?_append_left h1, List.getElem?_append_left h1]
    · rw [List.getElem?_append_right h1, List.getElem?_append_right h1, List.getElem?_append_left (by omega), List.getElem?_take, if_pos (by omega)]
  exact hm.bins.twice _ j b b (by omega) (bin_at h hb) hj2 rfl
end Go.Proofs.YtmbibkifbehgnaaGreatDoor
namespace Go.Proofs.YtmbibkifbehgnaaGreatDoor
open Go Sk
set_option linter.unusedVariables false
set_option linter.unusedSimpArgs false
theorem en112 : Enters Tryz.prog 112 := fun args w => by kernel_rfl
theorem ag_114  : aggB Tryz.prog 114 3 = true := by kernel_rfl
theorem sz_114  : (Tryz.prog.info? 114).map (·.size) = some 3 := by kernel_rfl
theorem ze_114  : (Tryz.prog.info? 114).bind (·.zero) = some (.agg (List.toArray [.int .i64 0, .int .i64 0, .slice none 0 0])) := by kernel_rfl
theorem ts0 {c : Cf} : flags c (fun n => decide (cellN c n ∈ atsTo c 0)) = List.replicate (area c) false := tk0
theorem stacks_spec (c : Cf) (hc : c.Fit) (hm : MayOk c) (bg bk : Nat) : Sk.Spec Tryz.prog 100 #[ptr bg, .slice c.sA c.stacks.length c.sc, i64 c.height] [gfix c bg bk, kblk bk (KF c), cs c, binsA c] [] (fun e F' => e = .returned (.bool true) ∧ F' = []) := by
  have hn := hm.num
  obtain ⟨ha, ha2, ha1⟩ := area_le hn
  have hl := hc.s
  simp only [maxLen] at hl
  refine Spec.of_code (vs := [_, _, _]) (k0 := [(0, _), (1, _), (2, _)]) 78 Tryz.func100 rfl Tryz.ntmps100 rfl (.cons (.cons (.cons .nil))) fun w X RR hRR H => ?_
  refine .seq ?_
  refine .plain rfl ?_
  refine .q rfl rfl rfl (val_assign rfl) ?_
  refine .nil (cj ?_)
  refine .seq ?_
  refine .plain rfl ?_
  refine .q rfl rfl rfl (val_move rfl) ?_
  refine .q rfl rfl rfl (val_nilCheck rfl) ?_
  refine .q rfl rfl rfl (val_fieldAddr rfl fa_183_2) ?_
  refine .qs rfl rfl rfl H (ld_b rfl ob_27 (.ro .here) rfl) ?_
  refine .q rfl rfl rfl (val_len Tryz.underlying27 rfl) ?_
  refine .mk rfl rfl rfl ap_193 ze_4 rfl rfl (Nat.le_refl _) (by omega) (by simp only [maxLen]; omega) (made_one _ _) H (fun w1 b1 H1 => ⟨fun _ => trivial, ?_⟩)
  refine .q rfl rfl rfl (val_assign rfl) ?_
  refine .nil (cj ?_)
  refine .seq ?_
  refine .plain rfl ?_
  refine .newMap rfl rfl rfl H1 (fun w2 b2 H2 => ⟨fun _ => trivial, ?_⟩)
  refine .q rfl rfl rfl (val_assign rfl) ?_
  refine .nil (cj ?_)
  refine .seq ?_
  refine .seq ?_
  refine .plain rfl ?_
  refine .q rfl rfl rfl (val_move rfl) ?_
  refine .q rfl rfl rfl (val_len Tryz.underlying24 rfl) ?_
  refine .q rfl rfl rfl (val_move rfl) ?_
  refine .nil (cj ?_)
  refine .block ?_
  refine .loop (ι := Nat) (fun i => [(0, ptr bg), (1, .slice c.sA c.stacks.length c.sc), (2, i64 c.height), (7, .slice (some ⟨b1, 0, none⟩) (area c) (area c)), (8, .map (some b2)), (20, .slice c.sA c.stacks.length c.sc), (21, i64 ((c.stacks.length : Nat) : Int)), (22, i64 (i : Int))]) (fun i w' => St w w' X [gfix c bg bk, kblk bk (KF c), cs c, binsA c] [sblk b1 (flags c fun n => decide (cellN c n ∈ atsTo c i)), mapA b2 (allTo c i)] ∧ i ≤ c.stacks.length) (fun i => c.stacks.length - i) 0 (by repeat (first | exact Pick.nil | refine Pick.cons rfl ?_)) ⟨by rw [ts0]; simp only [sblk, List.map_replicate]; exact H2.sub (.cons (.there .here) (.cons .here .nil)), Nat.zero_le _⟩ ?_
  rintro i w5 ⟨H3, hi⟩
  refine .seq ?_
  refine .plain rfl ?_
  refine .q rfl rfl rfl (val_lss rfl rfl rfl) ?_
  refine .nil (cj ?_)
  refine .seq ?_
  refine .cond rfl (fun hc0 => ?_) (fun hc0 => ?_)
  · have hil : i < c.stacks.length := by simp only [decide_eq_true_eq] at hc0; omega
    obtain ⟨s, hs⟩ : ∃ s, c.stacks[i]? = some s := ⟨_, List.getElem?_eq_getElem hil⟩
    obtain ⟨b, o, hA⟩ := Has.base (.ro (.there (.there .here))) H3 (nil_of_flat encS_len (by decide) hil)
    obtain ⟨HB, hnil⟩ := binsA_more (.there (.there (.there .here))) H3 hs
    have hst := hm.bins.st i s hs
    have hsb : s.bins.length ≤ maxLen := hc.k s (List.mem_of_getElem? hs)
    simp only [maxLen] at hsb
    have hin : inR c s.x s.y = true := by have h9 := hst.1; simp only [stackedR, Bool.and_eq_true] at h9; exact openR_in h9.1.1.1
    obtain ⟨hlt, hnb⟩ := numI_lt hn hin
    have hnum2 : numB ⟨c.w, c.h, []⟩ s.x s.y = ((numI c ⟨s.x, s.y⟩ : Nat) : Int) := hnb (kinds c fun n => 0) (kinds_len c _)
    have htk := tk_get (x := ⟨s.x, s.y⟩) hn hin (at_new hm hs)
    have hltt : numI c ⟨s.x, s.y⟩ < (flags c fun n => decide (cellN c n ∈ atsTo c i)).length := by rw [flags_len]; exact hlt
    refine .skip (cj ?_)
    refine .seq ?_
    refine .block ?_
    refine .seq ?_
    refine .plain rfl ?_
    refine .q rfl rfl rfl (val_ix el_24 hA rfl rfl rfl hil) ?_
    refine .qs rfl rfl rfl HB (ld_ela rfl ag_114 .base hA (.ro (.there (.there (.there .here)))) encS_len (by first | assumption | rfl)) ?_
    refine .alloc rfl rfl rfl ze_114 rfl HB (fun w4 b4 H4 => ⟨fun _ => trivial, ?_⟩)
    refine .store rfl rfl rfl rfl rfl sz_114 rfl H4 .here (by repeat constructor) (fun w5 H5 => ⟨fun _ => trivial, ?_⟩)
    refine .nil (cj ?_)
    refine .seq ?_
    refine .seq ?_
    refine .plain rfl ?_
    refine .q rfl rfl rfl (val_move rfl) ?_
    refine .q rfl rfl rfl (val_fieldAddr rfl fa_114_0) ?_
    refine .qs rfl rfl rfl H5 (ld_blks rfl ag_38 (.own .here) (by repeat constructor)) ?_
    refine .call1 rfl rfl rfl en112 (.cons rfl (.cons rfl .nil)) (stackedK_spec c hm _ _ _ _) H5 .nil (.ro (.there .here) (.ro (.there (.there .here)) .nil)) (fun w6 H6 => ⟨fun _ => trivial, ?_⟩)
    refine .q rfl rfl rfl (val_not rfl rfl) ?_
    refine .q rfl rfl rfl (val_move rfl) ?_
    refine .case (t := 31) rfl (fun hs31 => ?_) (fun hs31 => ?_)
    · rw [hst.1] at hs31; cases hs31
    · refine .q rfl rfl rfl (val_move rfl) ?_
      refine .q rfl rfl rfl (val_move rfl) ?_
      refine .q rfl rfl rfl (val_fieldAddr rfl fa_114_0) ?_
      refine .qs rfl rfl rfl H6 (ld_blks rfl ag_38 (.own .here) (by repeat constructor)) ?_
      refine .call1 rfl rfl rfl en86 (.cons rfl (.cons rfl .nil)) (number_spec _ _ ⟨c.w, c.h, []⟩ _ _) H6 .nil (.ro (.there .here) .nil) (fun w7 H7 => ⟨fun _ => trivial, ?_⟩)
      refine .q rfl rfl rfl (val_ix el_193 rfl rfl rfl hnum2 hlt) ?_
      refine .qs rfl rfl rfl H7 (ld_b rfl ob_4 (.own (.there .here)) (ix_map (by first | assumption | rfl))) ?_
      refine .q rfl rfl rfl (val_pick_f rfl rfl) ?_
      refine .q rfl rfl rfl (val_move rfl) ?_
      refine .case (t := 40) rfl (fun hs40 => ?_) (fun hs40 => ?_)
      · cases hs40
      · refine .q rfl rfl rfl (val_fieldAddr rfl fa_114_1) ?_
        refine .qs rfl rfl rfl H7 (ld_b rfl ob_27 (.own .here) rfl) ?_
        refine .q rfl rfl rfl (val_len Tryz.underlying27 rfl) ?_
        refine .q rfl rfl rfl (val_move rfl) ?_
        refine .q rfl rfl rfl (val_gtr rfl rfl rfl) ?_
        refine .q rfl rfl rfl (val_pick_f rfl rfl) ?_
        refine .nil (cj ?_)
        refine .cond rfl (fun hc1 => ?_) (fun hc1 => ?_)
        · exfalso; have h9 := of_decide_eq_true hc1; omega
        · refine .skip (cj ?_)
          refine .seq ?_
          refine .plain rfl ?_
          refine .q rfl rfl rfl (val_move rfl) ?_
          refine .q rfl rfl rfl (val_move rfl) ?_
          refine .q rfl rfl rfl (val_fieldAddr rfl fa_114_0) ?_
          refine .qs rfl rfl rfl H7 (ld_blks rfl ag_38 (.own .here) (by repeat constructor)) ?_
          refine .call1 rfl rfl rfl en86 (.cons rfl (.cons rfl .nil)) (number_spec _ _ ⟨c.w, c.h, []⟩ _ _) H7 .nil (.ro (.there .here) .nil) (fun w8 H8 => ⟨fun _ => trivial, ?_⟩)
          refine .q rfl rfl rfl (val_ix el_193 rfl rfl rfl hnum2 hlt) ?_
          refine .store rfl rfl rfl rfl rfl sz_4 rfl H8 (.there .here) (Spl_set hltt) (fun w9 H9 => ⟨fun _ => trivial, ?_⟩)
          refine .nil (cj ?_)
          refine .seq ?_
          refine .plain rfl ?_
          refine .q rfl rfl rfl (val_fieldAddr rfl fa_114_1) ?_
          refine .qs rfl rfl rfl H9 (ld_b rfl ob_27 (.own (.there .here)) rfl) ?_
          refine .q rfl rfl rfl (val_len Tryz.underlying27 rfl) ?_
          refine .q rfl rfl rfl (val_move rfl) ?_
          refine .nil (cj ?_)
          refine .block ?_
          refine .loop (ι := Nat) (fun k => [(0, ptr bg), (1, .slice c.sA c.stacks.length c.sc), (2, i64 c.height), (7, .slice (some ⟨b1, 0, none⟩) (area c) (area c)), (8, .map (some b2)), (20, .slice c.sA c.stacks.length c.sc), (21, i64 ((c.stacks.length : Nat) : Int)), (22, i64 (i : Int)), (54, .slice s.A s.bins.length s.cap), (55, i64 ((s.bins.length : Nat) : Int)), (56, i64 (k : Int))]) (fun k w' => St w w' X [arr s.A (s.bins.flatMap encI), gfix c bg bk, kblk bk (KF c), cs c, binsA c] [sblk b1 ((flags c fun n => decide (cellN c n ∈ atsTo c i)).set (numI c ⟨s.x, s.y⟩) true), mapA b2 (allTo c i ++ s.bins.take k)] ∧ k ≤ s.bins.length) (fun k => s.bins.length - k) 0 (by repeat (first | exact Pick.nil | refine Pick.cons rfl ?_)) ⟨by rw [List.take_zero, List.append_nil]; exact H9.sub (.cons .here (.cons (.there .here) .nil)), Nat.zero_le _⟩ ?_
          rintro k w6 ⟨H10, hk⟩
          refine .seq ?_
          refine .plain rfl ?_
          refine .q rfl rfl rfl (val_lss rfl rfl rfl) ?_
          refine .nil (cj ?_)
          refine .seq ?_
          refine .cond rfl (fun hc2 => ?_) (fun hc2 => ?_)
          · have hkl : k < s.bins.length := by simp only [decide_eq_true_eq] at hc2; omega
            obtain ⟨b, hx2⟩ : ∃ b, s.bins[k]? = some b := ⟨_, List.getElem?_eq_getElem hkl⟩
            obtain ⟨b9, o9, hB⟩ := Has.base (.ro .here) H10 (nil_of_flat encI_len (by decide) hkl)
            have hbn := hm.bins.num _ b (bin_at hs hx2)
            have hnew := bin_new hm hs hx2
            have hfew : (allTo c i ++ s.bins.take k).length < 512 := by have h1 := (List.getElem?_eq_some_iff.1 (bin_at hs hx2)).1; have h2 := hm.bins.few; rw [List.length_append, List.length_take]; omega
            refine .skip (cj ?_)
            refine .seq ?_
            refine .block ?_
            refine .seq ?_
            refine .plain rfl ?_
            refine .q rfl rfl rfl (val_ix el_27 hB rfl rfl rfl hkl) ?_
            refine .qs rfl rfl rfl H10 (ld_el rfl ob_3 .base hB (.ro .here) encI_len (by first | assumption | rfl) rfl) ?_
            refine .q rfl rfl rfl (val_assign rfl) ?_
            refine .nil (cj ?_)
            refine .seq ?_
            refine .seq ?_
            refine .plain rfl ?_
            refine .q rfl rfl rfl (val_move rfl) ?_
            refine .call1 rfl rfl rfl en97 (.cons rfl (.cons rfl (.cons rfl .nil))) (within_spec _ _ _) H10 .nil .nil (fun w11 H11 => ⟨fun _ => trivial, ?_⟩)
            refine .q rfl rfl rfl (val_not rfl rfl) ?_
            refine .q rfl rfl rfl (val_move rfl) ?_
            refine .case (t := 63) rfl (fun hs63 => ?_) (fun hs63 => ?_)
            · exfalso; simp [withinB] at hs63; omega
            · refine .q rfl rfl rfl (val_move rfl) ?_
              refine .q rfl rfl rfl (val_move rfl) ?_
              refine .qs rfl rfl rfl H11 (ld_absent Tryz.underlying196 Tryz.underlying3 ze_3 rfl rfl (.own (.there .here)) hnew) ?_
              refine .q rfl rfl rfl (val_gtr rfl rfl rfl) ?_
              refine .q rfl rfl rfl (val_pick_f rfl rfl) ?_
              refine .q rfl rfl rfl (val_move rfl) ?_
              refine .case (t := 69) rfl (fun hs69 => ?_) (fun hs69 => ?_)
              · exfalso; simp at hs69
              · refine .q rfl rfl rfl (val_move rfl) ?_
                refine .qs rfl rfl rfl H11 (ld_maplen Tryz.underlying196 rfl (.own (.there .here))) ?_
                refine .q rfl rfl rfl (val_eql rfl rfl rfl) ?_
                refine .q rfl rfl rfl (val_pick_f rfl rfl) ?_
                refine .nil (cj ?_)
                refine .cond rfl (fun hc3 => ?_) (fun hc3 => ?_)
                · exfalso; have h9 := eq_of_beq hc3; omega
                · refine .skip (cj ?_)
                  refine .plain rfl ?_
                  refine .q rfl rfl rfl (val_move rfl) ?_
                  refine .q rfl rfl rfl (val_move rfl) ?_
                  refine .setMap rfl rfl Tryz.underlying196 Tryz.underlying3 rfl rfl rfl H11 (.there .here) hnew (fun w12 H12 => ⟨fun _ => trivial, ?_⟩)
                  refine .nil (cj ?_)
                  refine .plain rfl ?_
                  refine .q rfl rfl rfl (val_add rfl rfl (z := ((k + 1 : Nat) : Int)) (w64_of (by omega))) ?_
                  refine .q rfl rfl rfl (val_move rfl) ?_
                  refine .nil ?_
                  intro act0 hact0; change Exists _
                  refine ⟨(k + 1), Pick.kn (by repeat (first | exact Pick.nil | refine Pick.cons rfl ?_)) hact0, ⟨by rw [take_snoc hx2, ← List.append_assoc]; exact H12.sub (.cons (.there .here) (.cons .here .nil)), hkl⟩, (by omega)⟩
          · have hkl : k = s.bins.length := by simp only [decide_eq_false_iff_not] at hc2; omega
            subst hkl
            rw [List.take_length] at H10
            refine .exit (cj ?_)
            refine .plain rfl ?_
            refine .q rfl rfl rfl (val_add rfl rfl (z := ((i + 1 : Nat) : Int)) (w64_of (by omega))) ?_
            refine .q rfl rfl rfl (val_move rfl) ?_
            refine .nil ?_
            intro act0 hact0; change Exists _
            refine ⟨(i + 1), Pick.kn (by repeat (first | exact Pick.nil | refine Pick.cons rfl ?_)) hact0, ⟨by rw [atsTo_succ hs, allTo_succ hs, ← tk_set hn hin]; exact (H10.rest (.ro (.there .here) (.ro (.there (.there .here)) (.ro (.there (.there (.there .here))) (.ro (.there (.there (.there (.there .here)))) .nil))))).sub (.cons .here (.cons .here .nil)), hil⟩, (by omega)⟩
  · refine .exit (cj ?_)
    refine .seq ?_
    refine .plain rfl ?_
    refine .q rfl rfl rfl (val_assign rfl) ?_
    refine .nil (cj ?_)
    refine .ret (fret (res1 rfl rfl) ?_)
    refine hRR _ _ ⟨_, ⟨rfl, rfl⟩, H3.sub .nil⟩
end Go.Proofs.YtmbibkifbehgnaaGreatDoor
namespace Go.Proofs.YtmbibkifbehgnaaGreatDoor
open Go Sk
set_option linter.unusedVariables false
set_option linter.unusedSimpArgs false
theorem en72 : Enters Tryz.prog 72 := fun args w => by kernel_rfl
theorem en98 : Enters Tryz.prog 98 := fun args w => by kernel_rfl
theorem en99 : Enters Tryz.prog 99 := fun args w => by kernel_rfl
theorem en100 : Enters Tryz.prog 100 := fun args w => by kernel_rfl
theorem bs_3_6_0_1_2_3_4_5 (x0_ : Int) (x1_ : Int) (x2_ : Int) (x3_ : Int) (x4_ : Int) (x5_ : Int) : Tryz.prog.builtSlice 3 6 [(0, .int .i64 x0_), (1, .int .i64 x1_), (2, .int .i64 x2_), (3, .int .i64 x3_), (4, .int .i64 x4_), (5, .int .i64 x5_)] = some (List.toArray [.int .i64 x0_, .int .i64 x1_, .int .i64 x2_, .int .i64 x3_, .int .i64 x4_, .int .i64 x5_]) := by kernel_rfl
abbrev six (c : Cf) : List Int := [c.unit, c.accel, c.speed, c.turn, c.hoist, c.resend]
theorem six_ok {c : Cf} (hn : NumOk c) {i : Nat} {v : Int} (h : (six c)[i]? = some v) : 1 ≤ v ∧ v ≤ 1000 := by
  have := List.mem_of_getElem? h
  simp only [six, List.mem_cons, List.not_mem_nil, or_false] at this
  rcases this with rfl | rfl | rfl | rfl | rfl | rfl
  · exact hn.unit
  · exact hn.accel
  · exact hn.speed
  · exact hn.turn
  · exact hn.hoist
  · exact hn.resend
theorem laid2_spec (c : Cf) (hc : c.Fit) (hm : MayOk c) : Sk.Spec Tryz.prog 98 #[.agg (encCf c).toArray] [cb c, cp c] [] fun e F' => ∃ x : LI, e = .returned (.tuple #[ptr x.bg, .bool true]) ∧ F' = [gfix c x.bg x.bk, kblk x.bk (kinds c fun n => kA c (cellN c n))] ∧ True := by
  have h := laid_spec c hc hm
  rw [lay_all hm] at h
  simp only [gblk, List.length_map, List.length_range] at h
  exact h
theorem made_spec (c : Cf) (hc : c.Fit) (hm : MayOk c) : Sk.Spec Tryz.prog 72 #[.agg (encCf c).toArray] [cb c, cp c, cr c, cs c, binsA c, stepsA] [] fun e F' => ∃ x : LI, e = .returned (ptr x.bg) ∧ F' = [gfix c x.bg x.bk, kblk x.bk (KF c)] ∧ True := by
  have hn := hm.num
  have h1 := hn.height
  have h2 := hn.queue
  have h3 := hn.budget
  refine Spec.of_code (vs := [_]) (k0 := [(0, _)]) 69 Tryz.func72 rfl Tryz.ntmps72 rfl (.cons .nil) fun w X RR hRR H => ?_
  refine .seq ?_
  refine .plain rfl ?_
  refine .box rfl rfl rfl rfl rfl H (fun w1 b1 H1 => ⟨fun _ => trivial, ?_⟩)
  refine .q rfl rfl rfl (val_assign rfl) ?_
  refine .nil (cj ?_)
  refine .seq ?_
  refine .seq ?_
  refine .plain rfl ?_
  refine .q rfl rfl rfl (val_fieldAddr rfl fa_26_7) ?_
  refine .qs rfl rfl rfl H1 (ld_b rfl ob_3 (.own .here) rfl) ?_
  refine .q rfl rfl rfl (val_fieldAddr rfl fa_26_8) ?_
  refine .qs rfl rfl rfl H1 (ld_b rfl ob_3 (.own .here) rfl) ?_
  refine .q rfl rfl rfl (val_fieldAddr rfl fa_26_9) ?_
  refine .qs rfl rfl rfl H1 (ld_b rfl ob_3 (.own .here) rfl) ?_
  refine .q rfl rfl rfl (val_fieldAddr rfl fa_26_10) ?_
  refine .qs rfl rfl rfl H1 (ld_b rfl ob_3 (.own .here) rfl) ?_
  refine .q rfl rfl rfl (val_fieldAddr rfl fa_26_11) ?_
  refine .qs rfl rfl rfl H1 (ld_b rfl ob_3 (.own .here) rfl) ?_
  refine .q rfl rfl rfl (val_fieldAddr rfl fa_26_13) ?_
  refine .qs rfl rfl rfl H1 (ld_b rfl ob_3 (.own .here) rfl) ?_
  refine .lit rfl rfl rfl Tryz.underlying27 (.cons rfl (.cons rfl (.cons rfl (.cons rfl (.cons rfl (.cons rfl .nil)))))) (bs_3_6_0_1_2_3_4_5 _ _ _ _ _ _) H1 (fun w2 b2 H2 => ⟨fun _ => trivial, ?_⟩)
  refine .q rfl rfl rfl (val_len Tryz.underlying27 rfl) ?_
  refine .q rfl rfl rfl (val_move rfl) ?_
  refine .nil (cj ?_)
  refine .block ?_
  refine .loop (ι := Nat) (fun i => [(1, ptr b1), (19, .slice (some ⟨b2, 0, none⟩) 6 6), (20, i64 ((6 : Nat) : Int)), (21, i64 (i : Int))]) (fun i w' => St w w' X [arr (some ⟨b2, 0, none⟩) ((six c).flatMap encI), cb c, cp c, cr c, cs c, binsA c, stepsA] [blk b1 (encCf c) 26] ∧ i ≤ 6) (fun i => 6 - i) 0 (by repeat (first | exact Pick.nil | refine Pick.cons rfl ?_)) ⟨St.sub (H2.blkArr .here) (.cons .here .nil), Nat.zero_le _⟩ ?_
  rintro i w5 ⟨H3, hi⟩
  refine .seq ?_
  refine .plain rfl ?_
  refine .q rfl rfl rfl (val_lss rfl rfl rfl) ?_
  refine .nil (cj ?_)
  refine .seq ?_
  refine .cond rfl (fun hc0 => ?_) (fun hc0 => ?_)
  · have hil : i < 6 := by simp only [decide_eq_true_eq] at hc0; omega
    obtain ⟨v, hx⟩ : ∃ v, (six c)[i]? = some v := ⟨_, List.getElem?_eq_getElem (by simpa using hil)⟩
    have hv := six_ok hn hx
    refine .skip (cj ?_)
    refine .seq ?_
    refine .block ?_
    refine .seq ?_
    refine .plain rfl ?_
    refine .q rfl rfl rfl (val_ix el_27 rfl rfl rfl rfl hil) ?_
    refine .qs rfl rfl rfl H3 (ld_el rfl ob_3 .base rfl (.ro .here) encI_len (by first | assumption | rfl) rfl) ?_
    refine .q rfl rfl rfl (val_assign rfl) ?_
    refine .nil (cj ?_)
    refine .seq ?_
    refine .plain rfl ?_
    refine .q rfl rfl rfl (val_move rfl) ?_
    refine .call1 rfl rfl rfl en97 (.cons rfl (.cons rfl (.cons rfl .nil))) (within_spec _ _ _) H3 .nil .nil (fun w4 H4 => ⟨fun _ => trivial, ?_⟩)
    refine .q rfl rfl rfl (val_not rfl rfl) ?_
    refine .nil (cj ?_)
    refine .cond rfl (fun hc1 => ?_) (fun hc1 => ?_)
    · exfalso; simp [withinB] at hc1; omega
    · refine .skip (cj ?_)
      refine .plain rfl ?_
      refine .q rfl rfl rfl (val_add rfl rfl (z := ((i + 1 : Nat) : Int)) (w64_of (by omega))) ?_
      refine .q rfl rfl rfl (val_move rfl) ?_
      refine .nil ?_
      intro act0 hact0; change Exists _
      refine ⟨(i + 1), Pick.kn (by repeat (first | exact Pick.nil | refine Pick.cons rfl ?_)) hact0, ⟨H4, hil⟩, (by omega)⟩
  · refine .exit (cj ?_)
    refine .seq ?_
    refine .seq ?_
    refine .plain rfl ?_
    refine .q rfl rfl rfl (val_fieldAddr rfl fa_26_2) ?_
    refine .qs rfl rfl rfl H3 (ld_b rfl ob_3 (.own .here) rfl) ?_
    refine .call1 rfl rfl rfl en97 (.cons rfl (.cons rfl (.cons rfl .nil))) (within_spec _ _ _) H3 .nil .nil (fun w5 H5 => ⟨fun _ => trivial, ?_⟩)
    refine .q rfl rfl rfl (val_not rfl rfl) ?_
    refine .q rfl rfl rfl (val_move rfl) ?_
    refine .case (t := 33) rfl (fun hs33 => ?_) (fun hs33 => ?_)
    · exfalso; simp [withinB] at hs33; omega
    · refine .q rfl rfl rfl (val_fieldAddr rfl fa_26_12) ?_
      refine .qs rfl rfl rfl H5 (ld_b rfl ob_3 (.own .here) rfl) ?_
      refine .call1 rfl rfl rfl en97 (.cons rfl (.cons rfl (.cons rfl .nil))) (within_spec _ _ _) H5 .nil .nil (fun w6 H6 => ⟨fun _ => trivial, ?_⟩)
      refine .q rfl rfl rfl (val_not rfl rfl) ?_
      refine .q rfl rfl rfl (val_pick_f rfl rfl) ?_
      refine .q rfl rfl rfl (val_move rfl) ?_
      refine .case (t := 39) rfl (fun hs39 => ?_) (fun hs39 => ?_)
      · exfalso; simp [withinB] at hs39; omega
      · refine .q rfl rfl rfl (val_fieldAddr rfl fa_26_14) ?_
        refine .qs rfl rfl rfl H6 (ld_b rfl ob_3 (.own .here) rfl) ?_
        refine .call1 rfl rfl rfl en97 (.cons rfl (.cons rfl (.cons rfl .nil))) (within_spec _ _ _) H6 .nil .nil (fun w7 H7 => ⟨fun _ => trivial, ?_⟩)
        refine .q rfl rfl rfl (val_not rfl rfl) ?_
        refine .q rfl rfl rfl (val_pick_f rfl rfl) ?_
        refine .nil (cj ?_)
        refine .cond rfl (fun hc2 => ?_) (fun hc2 => ?_)
        · exfalso; simp [withinB] at hc2; omega
        · refine .skip (cj ?_)
          refine .seq ?_
          refine .plain rfl ?_
          refine .qs rfl rfl rfl H7 (ld_w rfl ag_26 (.own .here) rfl) ?_
          refine .callx rfl rfl rfl en98 (.cons rfl .nil) (laid2_spec c hc hm) H7 .nil (.ro (.there .here) (.ro (.there (.there .here)) .nil)) (fun x8 w8 C8 H8 => ⟨fun _ => trivial, ?_⟩)
          refine .q rfl rfl rfl (val_move rfl) ?_
          refine .q rfl rfl rfl (val_extract rfl rfl) ?_
          refine .q rfl rfl rfl (val_extract rfl rfl) ?_
          refine .q rfl rfl rfl (val_assign rfl) ?_
          refine .q rfl rfl rfl (val_assign rfl) ?_
          refine .nil (cj ?_)
          refine .seq ?_
          refine .seq ?_
          refine .plain rfl ?_
          refine .q rfl rfl rfl (val_move rfl) ?_
          refine .q rfl rfl rfl (val_not rfl rfl) ?_
          refine .q rfl rfl rfl (val_move rfl) ?_
          refine .case (t := 52) rfl (fun hs52 => ?_) (fun hs52 => ?_)
          · exfalso; simp at hs52
          · refine .q rfl rfl rfl (val_move rfl) ?_
            refine .q rfl rfl rfl (val_fieldAddr rfl fa_26_5) ?_
            refine .qs rfl rfl rfl H8 (ld_b rfl ob_23 (.own (.there (.there .here))) rfl) ?_
            refine .call1 rfl rfl rfl en99 (.cons rfl (.cons rfl .nil)) (robots_spec c hc hm _ _) H8 (.cons .here (.cons .here .nil)) (.ro (.there (.there (.there .here))) (.ro (.there (.there (.there (.there (.there (.there .here)))))) .nil)) (fun w9 H9 => ⟨fun _ => trivial, ?_⟩)
            refine .q rfl rfl rfl (val_not rfl rfl) ?_
            refine .q rfl rfl rfl (val_pick_f rfl rfl) ?_
            refine .q rfl rfl rfl (val_move rfl) ?_
            refine .case (t := 59) rfl (fun hs59 => ?_) (fun hs59 => ?_)
            · exfalso; simp at hs59
            · refine .q rfl rfl rfl (val_move rfl) ?_
              refine .q rfl rfl rfl (val_fieldAddr rfl fa_26_6) ?_
              refine .qs rfl rfl rfl H9 (ld_b rfl ob_24 (.own (.there (.there .here))) rfl) ?_
              refine .q rfl rfl rfl (val_fieldAddr rfl fa_26_2) ?_
              refine .qs rfl rfl rfl H9 (ld_b rfl ob_3 (.own (.there (.there .here))) rfl) ?_
              refine .call1 rfl rfl rfl en100 (.cons rfl (.cons rfl (.cons rfl .nil))) (stacks_spec c hc hm _ _) H9 .nil (.own .here (.own (.there .here) (.ro (.there (.there (.there (.there .here)))) (.ro (.there (.there (.there (.there (.there .here))))) .nil)))) (fun w10 H10 => ⟨fun _ => trivial, ?_⟩)
              refine .q rfl rfl rfl (val_not rfl rfl) ?_
              refine .q rfl rfl rfl (val_pick_f rfl rfl) ?_
              refine .nil (cj ?_)
              refine .cond rfl (fun hc3 => ?_) (fun hc3 => ?_)
              · exfalso; simp at hc3
              · refine .skip (cj ?_)
                refine .seq ?_
                refine .plain rfl ?_
                refine .q rfl rfl rfl (val_move rfl) ?_
                refine .q rfl rfl rfl (val_assign rfl) ?_
                refine .nil (cj ?_)
                refine .ret (fret (res1 rfl rfl) ?_)
                refine hRR _ _ ⟨_, ⟨_, rfl, rfl, trivial⟩, (H10.rest (.ro (.there .here) (.ro (.there (.there .here)) (.ro (.there (.there (.there .here))) (.ro (.there (.there (.there (.there .here)))) (.ro (.there (.there (.there (.there (.there .here))))) (.ro (.there (.there (.there (.there (.there (.there .here)))))) .nil))))))).sub (.cons .here (.cons .here .nil))⟩
theorem gnew_spec (c : Cf) (hc : c.Fit) (hm : MayOk c) : Sk.Spec Tryz.prog 36 #[.agg (encCf c).toArray] [cb c, cp c, cr c, cs c, binsA c, stepsA] [] fun e F' => ∃ x : LI, e = .returned (.tuple #[ptr x.bg, i64 0]) ∧ F' = [gfix c x.bg x.bk, kblk x.bk (KF c)] ∧ True := by
  refine Spec.of_code (vs := [_]) (k0 := [(0, _)]) 10 Tryz.func36 rfl Tryz.ntmps36 rfl (.cons .nil) fun w X RR hRR H => ?_
  refine .seq ?_
  refine .plain rfl ?_
  refine .box rfl rfl rfl rfl rfl H (fun w1 b1 H1 => ⟨fun _ => trivial, ?_⟩)
  refine .q rfl rfl rfl (val_assign rfl) ?_
  refine .q rfl rfl rfl (val_assign rfl) ?_
  refine .nil (cj ?_)
  refine .seq ?_
  refine .plain rfl ?_
  refine .qs rfl rfl rfl H1 (ld_w rfl ag_26 (.own .here) rfl) ?_
  refine .callx rfl rfl rfl en72 (.cons rfl .nil) (made_spec c hc hm) H1 .nil (.ro .here (.ro (.there .here) (.ro (.there (.there .here)) (.ro (.there (.there (.there .here))) (.ro (.there (.there (.there (.there .here)))) (.ro (.there (.there (.there (.there (.there .here))))) .nil)))))) (fun x2 w2 C2 H2 => ⟨fun _ => trivial, ?_⟩)
  refine .q rfl rfl rfl (val_assign rfl) ?_
  refine .nil (cj ?_)
  refine .seq ?_
  refine .seq ?_
  refine .plain rfl ?_
  refine .q rfl rfl rfl (val_move rfl) ?_
  refine .q rfl rfl rfl (val_ptr_eq_nil Tryz.underlying84 rfl rfl rfl) ?_
  refine .nil (cj ?_)
  refine .cond_f rfl ?_
  refine .skip (cj ?_)
  refine .seq ?_
  refine .plain rfl ?_
  refine .q rfl rfl rfl (val_move rfl) ?_
  refine .q rfl rfl rfl (val_assign rfl) ?_
  refine .q rfl rfl rfl (val_assign rfl) ?_
  refine .nil (cj ?_)
  refine .ret (fret (res2 rfl rfl rfl) ?_)
  refine hRR _ _ ⟨_, ⟨_, rfl, rfl, trivial⟩, H2.sub (.cons .here (.cons .here .nil))⟩
end Go.Proofs.YtmbibkifbehgnaaGreatDoor
