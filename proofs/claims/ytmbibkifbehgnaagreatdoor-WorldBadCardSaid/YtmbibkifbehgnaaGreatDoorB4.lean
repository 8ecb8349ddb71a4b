/-
  My walks and plain laws, part 4 of 5, joined by a program of my own: D3, D4, D5, V1, V2, V3, V4, D6, D7, D8, D9, D10, D11, D12, D19, D20, D21.
-/
import Derived.Shelf.Sort.Plain
import Derived.Shelf.Slices.SearchI
import Derived.Shelf.Slices.In.SortNone
import Derived.Sort.OwnSortedInts
import Derived.Test.YtmbibkifbehgnaaGreatDoorB3
namespace Go.Proofs.YtmbibkifbehgnaaGreatDoor
open Go Sk
set_option linter.unusedVariables false
set_option linter.unusedSimpArgs false
set_option linter.unusedSectionVars false
theorem fa_163_3 (b o : Nat) (w : World) : (Instr.fieldAt 163 (.pointer (some ⟨b, o, none⟩)) 3).run Tryz.prog w = .ok (.pointer (some ⟨b, o + 3, none⟩)) w := by kernel_rfl
theorem en91 : Enters Tryz.prog 91 := fun args w => by kernel_rfl
theorem en111 : Enters Tryz.prog 111 := fun args w => by kernel_rfl
/-- how many may stand at a cell -/
def roomI (c : Cf) (px py : Int) : Int := if isPort c px py then 1 else if stackedR c px py then c.height else 0
section
variable (c : Cf) (hm : MayOk c) (b : Nat) (x : SX) (loads : List Int) (i : Nat) (px py : Int) (hl8 : loads.length ≤ 8)
include hm hl8
theorem lift0_spec (ho : openR c px py = false) : Sk.Spec Tryz.prog 88 #[ptr b, i64 (i : Int), .agg #[i64 px, i64 py]] [tblk c b x loads.length, gfix c x.bg x.bk, kblk x.bk (KF c)] [] fun e F' => e = .returned (.tuple #[i64 0, i64 1]) ∧ F' = [] := by
  refine Spec.of_code (vs := [_, _, _]) (k0 := [(0, _), (1, _), (2, _)]) 82 Tryz.func88 rfl Tryz.ntmps88 rfl (.cons (.cons (.cons .nil))) fun w X RR hRR H => ?_
  refine .seq ?_
  refine .plain rfl ?_
  refine .box rfl rfl rfl rfl rfl H (fun w1 b1 H1 => ⟨fun _ => trivial, ?_⟩)
  refine .q rfl rfl rfl (val_assign rfl) ?_
  refine .q rfl rfl rfl (val_assign rfl) ?_
  refine .nil (cj ?_)
  refine .seq ?_
  refine .plain rfl ?_
  refine .q rfl rfl rfl (val_move rfl) ?_
  refine .qs rfl rfl rfl H1 (ld_w rfl ag_38 (.own .here) rfl) ?_
  refine .call1 rfl rfl rfl en110 (.cons rfl (.cons rfl .nil)) (at0_spec c hm _ _ _ _ _ ho) H1 .nil (.ro .here (.ro (.there .here) (.ro (.there (.there .here)) .nil))) (fun w2 H2 => ⟨fun _ => trivial, ?_⟩)
  refine .q rfl rfl rfl (val_assign rfl) ?_
  refine .nil (cj ?_)
  refine .seq ?_
  refine .block ?_
  refine .seq ?_
  refine .plain rfl ?_
  refine .q rfl rfl rfl (val_move rfl) ?_
  refine .q rfl rfl rfl (val_lss rfl rfl rfl) ?_
  refine .q rfl rfl rfl (val_move rfl) ?_
  refine .case (t := 16) rfl (fun hs16 => ?_) (fun hs16 => ?_)
  · refine .no rfl rfl rfl ?_
    refine .no rfl rfl rfl ?_
    refine .q rfl rfl rfl (val_pick_t rfl rfl) ?_
    refine .q rfl rfl rfl (val_move rfl) ?_
    refine .no rfl rfl rfl ?_
    refine .no rfl rfl rfl ?_
    refine .no rfl rfl rfl ?_
    refine .no rfl rfl rfl ?_
    refine .no rfl rfl rfl ?_
    refine .no rfl rfl rfl ?_
    refine .no rfl rfl rfl ?_
    refine .q rfl rfl rfl (val_pick_t rfl rfl) ?_
    refine .q rfl rfl rfl (val_assign rfl) ?_
    refine .nil (cj ?_)
    refine .cond_t rfl ?_
    refine .seq ?_
    refine .plain rfl ?_
    refine .q rfl rfl rfl (val_assign rfl) ?_
    refine .q rfl rfl rfl (val_assign rfl) ?_
    refine .nil (cj ?_)
    refine .ret (fret (res2 rfl rfl rfl) ?_)
    refine hRR _ _ ⟨_, ⟨?_, rfl⟩, H2.sub .nil⟩
    rfl
  · exfalso; simp at hs16
variable (z : Int) (hz : loads[i]? = some z) {A : Option Addr} {cap : Nat} {l : List Int} (ho : openR c px py = true) (hb : x.bs[numI c ⟨px, py⟩]? = some ⟨.slice A l.length cap, l⟩) (hl : l.length ≤ 8)
include hz hb hl ho
theorem lift1_spec (hno : z ≠ 0 ∨ l = []) : Sk.Spec Tryz.prog 88 #[ptr b, i64 (i : Int), .agg #[i64 px, i64 py]] [tblk c b x loads.length, gfix c x.bg x.bk, kblk x.bk (KF c), blk x.bb (x.bs.map fun b => b.v) 27, blk x.bl (loads.map fun z => i64 z) 3] [] fun e F' => e = .returned (.tuple #[i64 0, i64 (if z ≠ 0 then 8 else 3)]) ∧ F' = [] := by
  have hi := lt_of_some hz
  have hn := (numI_lt hm.num (openR_in ho)).1
  refine Spec.of_code (vs := [_, _, _]) (k0 := [(0, _), (1, _), (2, _)]) 82 Tryz.func88 rfl Tryz.ntmps88 rfl (.cons (.cons (.cons .nil))) fun w X RR hRR H => ?_
  refine .seq ?_
  refine .plain rfl ?_
  refine .box rfl rfl rfl rfl rfl H (fun w1 b1 H1 => ⟨fun _ => trivial, ?_⟩)
  refine .q rfl rfl rfl (val_assign rfl) ?_
  refine .q rfl rfl rfl (val_assign rfl) ?_
  refine .nil (cj ?_)
  refine .seq ?_
  refine .plain rfl ?_
  refine .q rfl rfl rfl (val_move rfl) ?_
  refine .qs rfl rfl rfl H1 (ld_w rfl ag_38 (.own .here) rfl) ?_
  refine .call1 rfl rfl rfl en110 (.cons rfl (.cons rfl .nil)) (at1_spec c hm _ _ _ _ _ ho) H1 .nil (.ro .here (.ro (.there .here) (.ro (.there (.there .here)) .nil))) (fun w2 H2 => ⟨fun _ => trivial, ?_⟩)
  refine .q rfl rfl rfl (val_assign rfl) ?_
  refine .nil (cj ?_)
  refine .seq ?_
  refine .block ?_
  refine .seq ?_
  refine .plain rfl ?_
  refine .q rfl rfl rfl (val_move rfl) ?_
  refine .q rfl rfl rfl (val_lss rfl rfl rfl) ?_
  refine .q rfl rfl rfl (val_move rfl) ?_
  refine .case (t := 16) rfl (fun hs16 => ?_) (fun hs16 => ?_)
  · exfalso; simp at hs16; omega
  · refine .q rfl rfl rfl (val_move rfl) ?_
    refine .q rfl rfl rfl (val_lss rfl rfl rfl) ?_
    refine .q rfl rfl rfl (val_pick_f rfl rfl) ?_
    refine .q rfl rfl rfl (val_move rfl) ?_
    refine .case (t := 20) rfl (fun hs20 => ?_) (fun hs20 => ?_)
    · exfalso; simp at hs20; omega
    · refine .q rfl rfl rfl (val_move rfl) ?_
      refine .q rfl rfl rfl (val_move rfl) ?_
      refine .q rfl rfl rfl (val_nilCheck rfl) ?_
      refine .q rfl rfl rfl (val_fieldAddr rfl fa_163_5) ?_
      refine .qs rfl rfl rfl H2 (ld_b rfl ob_27 (.ro .here) rfl) ?_
      refine .q rfl rfl rfl (val_len Tryz.underlying27 rfl) ?_
      refine .q rfl rfl rfl (val_geq rfl rfl rfl) ?_
      refine .q rfl rfl rfl (val_pick_f rfl rfl) ?_
      refine .q rfl rfl rfl (val_assign rfl) ?_
      refine .nil (cj ?_)
      refine .cond rfl (fun hc0 => ?_) (fun hc0 => ?_)
      · exfalso; simp at hc0; omega
      · refine .seq ?_
        refine .plain rfl ?_
        refine .q rfl rfl rfl (val_move rfl) ?_
        refine .q rfl rfl rfl (val_nilCheck rfl) ?_
        refine .q rfl rfl rfl (val_fieldAddr rfl fa_163_5) ?_
        refine .qs rfl rfl rfl H2 (ld_b rfl ob_27 (.ro .here) rfl) ?_
        refine .q rfl rfl rfl (val_move rfl) ?_
        refine .q rfl rfl rfl (val_ix el_27 rfl rfl rfl rfl hi) ?_
        refine .qs rfl rfl rfl H2 (ld_b rfl ob_3 (.ro (.there (.there (.there (.there .here))))) (ix_map (by first | assumption | rfl))) ?_
        refine .q rfl rfl rfl (val_neq rfl rfl rfl) ?_
        refine .q rfl rfl rfl (val_assign rfl) ?_
        refine .nil (cj ?_)
        refine .cond rfl (fun hc1 => ?_) (fun hc1 => ?_)
        · refine .seq ?_
          refine .plain rfl ?_
          refine .q rfl rfl rfl (val_assign rfl) ?_
          refine .q rfl rfl rfl (val_assign rfl) ?_
          refine .nil (cj ?_)
          refine .ret (fret (res2 rfl rfl rfl) ?_)
          refine hRR _ _ ⟨_, ⟨?_, rfl⟩, H2.sub .nil⟩
          simp at hc1; simp [hc1]
        · refine .seq ?_
          refine .plain rfl ?_
          refine .q rfl rfl rfl (val_move rfl) ?_
          refine .q rfl rfl rfl (val_nilCheck rfl) ?_
          refine .q rfl rfl rfl (val_fieldAddr rfl fa_163_4) ?_
          refine .qs rfl rfl rfl H2 (ld_b rfl ob_161 (.ro .here) rfl) ?_
          refine .q rfl rfl rfl (val_move rfl) ?_
          refine .q rfl rfl rfl (val_ix el_161 rfl rfl rfl rfl hn) ?_
          refine .qs rfl rfl rfl H2 (ld_b rfl ob_27 (.ro (.there (.there (.there .here)))) (ix_map (by first | assumption | rfl))) ?_
          refine .q rfl rfl rfl (val_len Tryz.underlying27 rfl) ?_
          refine .q rfl rfl rfl (val_eql rfl rfl rfl) ?_
          refine .q rfl rfl rfl (val_assign rfl) ?_
          refine .nil (cj ?_)
          refine .cond rfl (fun hc2 => ?_) (fun hc2 => ?_)
          · refine .seq ?_
            refine .plain rfl ?_
            refine .q rfl rfl rfl (val_assign rfl) ?_
            refine .q rfl rfl rfl (val_assign rfl) ?_
            refine .nil (cj ?_)
            refine .ret (fret (res2 rfl rfl rfl) ?_)
            refine hRR _ _ ⟨_, ⟨?_, rfl⟩, H2.sub .nil⟩
            simp at hc1; simp [hc1]
          · exfalso; simp at hc1 hc2; simp [hc1] at hno; simp [hno] at hc2
theorem lift2_spec {g : Nat} (hA : A = some ⟨g, 0, none⟩) (hcap : l.length ≤ cap) (h0 : z = 0) {u : Int} (hu : l[l.length - 1]? = some u) :
    Sk.Spec Tryz.prog 88 #[ptr b, i64 (i : Int), .agg #[i64 px, i64 py]] [tblk c b x loads.length, gfix c x.bg x.bk, kblk x.bk (KF c)] [blk x.bb (x.bs.map fun b => b.v) 27, row (.slice A l.length cap) 3 1 l.length (l.flatMap encI), blk x.bl (loads.map fun z => i64 z) 3] fun e F' => e = .returned (.tuple #[i64 u, i64 0]) ∧
      F' = [blk x.bb ((x.bs.map fun b => b.v).set (numI c ⟨px, py⟩) (.slice A (l.length - 1) cap)) 27, row (.slice A (l.length - 1) cap) 3 1 (l.length - 1) ((l.flatMap encI).take ((l.length - 1) * 1)), blk x.bl ((loads.map fun z => i64 z).set i (i64 u)) 3] := by
  subst hA
  have hi := lt_of_some hz
  have hn := (numI_lt hm.num (openR_in ho)).1
  have hbn := lt_of_some hb
  have hln := lt_of_some hu
  refine Spec.of_code (vs := [_, _, _]) (k0 := [(0, _), (1, _), (2, _)]) 82 Tryz.func88 rfl Tryz.ntmps88 rfl (.cons (.cons (.cons .nil))) fun w X RR hRR H => ?_
  refine .seq ?_
  refine .plain rfl ?_
  refine .box rfl rfl rfl rfl rfl H (fun w1 b1 H1 => ⟨fun _ => trivial, ?_⟩)
  refine .q rfl rfl rfl (val_assign rfl) ?_
  refine .q rfl rfl rfl (val_assign rfl) ?_
  refine .nil (cj ?_)
  refine .seq ?_
  refine .plain rfl ?_
  refine .q rfl rfl rfl (val_move rfl) ?_
  refine .qs rfl rfl rfl H1 (ld_w rfl ag_38 (.own .here) rfl) ?_
  refine .call1 rfl rfl rfl en110 (.cons rfl (.cons rfl .nil)) (at1_spec c hm _ _ _ _ _ ho) H1 .nil (.ro .here (.ro (.there .here) (.ro (.there (.there .here)) .nil))) (fun w2 H2 => ⟨fun _ => trivial, ?_⟩)
  refine .q rfl rfl rfl (val_assign rfl) ?_
  refine .nil (cj ?_)
  refine .seq ?_
  refine .block ?_
  refine .seq ?_
  refine .plain rfl ?_
  refine .q rfl rfl rfl (val_move rfl) ?_
  refine .q rfl rfl rfl (val_lss rfl rfl rfl) ?_
  refine .q rfl rfl rfl (val_move rfl) ?_
  refine .case (t := 16) rfl (fun hs16 => ?_) (fun hs16 => ?_)
  · exfalso; simp at hs16; omega
  · refine .q rfl rfl rfl (val_move rfl) ?_
    refine .q rfl rfl rfl (val_lss rfl rfl rfl) ?_
    refine .q rfl rfl rfl (val_pick_f rfl rfl) ?_
    refine .q rfl rfl rfl (val_move rfl) ?_
    refine .case (t := 20) rfl (fun hs20 => ?_) (fun hs20 => ?_)
    · exfalso; simp at hs20; omega
    · refine .q rfl rfl rfl (val_move rfl) ?_
      refine .q rfl rfl rfl (val_move rfl) ?_
      refine .q rfl rfl rfl (val_nilCheck rfl) ?_
      refine .q rfl rfl rfl (val_fieldAddr rfl fa_163_5) ?_
      refine .qs rfl rfl rfl H2 (ld_b rfl ob_27 (.ro .here) rfl) ?_
      refine .q rfl rfl rfl (val_len Tryz.underlying27 rfl) ?_
      refine .q rfl rfl rfl (val_geq rfl rfl rfl) ?_
      refine .q rfl rfl rfl (val_pick_f rfl rfl) ?_
      refine .q rfl rfl rfl (val_assign rfl) ?_
      refine .nil (cj ?_)
      refine .cond rfl (fun hc0 => ?_) (fun hc0 => ?_)
      · exfalso; simp at hc0; omega
      · refine .seq ?_
        refine .plain rfl ?_
        refine .q rfl rfl rfl (val_move rfl) ?_
        refine .q rfl rfl rfl (val_nilCheck rfl) ?_
        refine .q rfl rfl rfl (val_fieldAddr rfl fa_163_5) ?_
        refine .qs rfl rfl rfl H2 (ld_b rfl ob_27 (.ro .here) rfl) ?_
        refine .q rfl rfl rfl (val_move rfl) ?_
        refine .q rfl rfl rfl (val_ix el_27 rfl rfl rfl rfl hi) ?_
        refine .qs rfl rfl rfl H2 (ld_b rfl ob_3 (.own (.there (.there (.there .here)))) (ix_map (by first | assumption | rfl))) ?_
        refine .q rfl rfl rfl (val_neq rfl rfl rfl) ?_
        refine .q rfl rfl rfl (val_assign rfl) ?_
        refine .nil (cj ?_)
        refine .cond rfl (fun hc1 => ?_) (fun hc1 => ?_)
        · exfalso; simp [h0] at hc1
        · refine .seq ?_
          refine .plain rfl ?_
          refine .q rfl rfl rfl (val_move rfl) ?_
          refine .q rfl rfl rfl (val_nilCheck rfl) ?_
          refine .q rfl rfl rfl (val_fieldAddr rfl fa_163_4) ?_
          refine .qs rfl rfl rfl H2 (ld_b rfl ob_161 (.ro .here) rfl) ?_
          refine .q rfl rfl rfl (val_move rfl) ?_
          refine .q rfl rfl rfl (val_ix el_161 rfl rfl rfl rfl hn) ?_
          refine .qs rfl rfl rfl H2 (ld_b rfl ob_27 (.own (.there .here)) (ix_map (by first | assumption | rfl))) ?_
          refine .q rfl rfl rfl (val_len Tryz.underlying27 rfl) ?_
          refine .q rfl rfl rfl (val_eql rfl rfl rfl) ?_
          refine .q rfl rfl rfl (val_assign rfl) ?_
          refine .nil (cj ?_)
          refine .cond rfl (fun hc2 => ?_) (fun hc2 => ?_)
          · exfalso; simp at hc2; subst hc2; simp at hu
          · refine .skip (cj ?_)
            refine .seq ?_
            refine .plain rfl ?_
            refine .q rfl rfl rfl (val_move rfl) ?_
            refine .qs rfl rfl rfl H2 (ld_w rfl ag_38 (.own .here) rfl) ?_
            refine .call1 rfl rfl rfl en111 (.cons rfl (.cons rfl .nil)) (Spec.rowR (top_spec c hm _ _ _ _ _ ho hb hl hu)) H2 .nil (.own (.there (.there .here)) (.ro .here (.ro (.there .here) (.ro (.there (.there .here)) (.own (.there .here) .nil))))) (fun w3 H3 => ⟨fun _ => trivial, ?_⟩)
            refine .q rfl rfl rfl (val_assign rfl) ?_
            refine .nil (cj ?_)
            refine .seq ?_
            refine .drawS 23 (.cons (0, true) (.cons (1, true) (.cons (2, true) (.cons (3, true) (.cons (4, true) (.cons (5, true) (.cons (6, true) (.cons (7, true) (.cons (8, true) (.cons (9, true) (.cons (10, true) (.cons (11, true) (.cons (12, true) (.cons (13, true) (.cons (14, true) (.cons (15, true) (.cons (16, true) (.cons (17, true) (.cons (18, true) (.cons (19, true) (.cons (20, true) (.cons (21, true) (.cons (22, true) (.cons (23, false) .nil)))))))))))))))))))))))) mo (by kernel_rfl) H3 (fun _ _ _ _ _ h => h) (fun w4 H4 => ?_)
            refine .p rfl rfl rfl (val_move rfl) ?_
            refine .p rfl rfl rfl (val_nilCheck rfl) ?_
            refine .p rfl rfl rfl (val_fieldAddr rfl fa_163_4) ?_
            refine .ps rfl rfl rfl rfl (ld_b rfl ob_161 (.ro .here) rfl) ?_
            refine .p rfl rfl rfl (val_move rfl) ?_
            refine .p rfl rfl rfl (val_move rfl) ?_
            refine .p rfl rfl rfl (val_nilCheck rfl) ?_
            refine .p rfl rfl rfl (val_fieldAddr rfl fa_163_4) ?_
            refine .ps rfl rfl rfl rfl (ld_b rfl ob_161 (.ro .here) rfl) ?_
            refine .p rfl rfl rfl (val_move rfl) ?_
            refine .p rfl rfl rfl (val_ix el_161 rfl rfl rfl rfl hn) ?_
            refine .ps rfl rfl rfl rfl (ld_b rfl ob_27 (.own (.there .here)) (ix_map (by first | assumption | rfl))) ?_
            refine .p rfl rfl rfl (val_move rfl) ?_
            refine .p rfl rfl rfl (val_nilCheck rfl) ?_
            refine .p rfl rfl rfl (val_fieldAddr rfl fa_163_4) ?_
            refine .ps rfl rfl rfl rfl (ld_b rfl ob_161 (.ro .here) rfl) ?_
            refine .p rfl rfl rfl (val_move rfl) ?_
            refine .p rfl rfl rfl (val_ix el_161 rfl rfl rfl rfl hn) ?_
            refine .ps rfl rfl rfl rfl (ld_b rfl ob_27 (.own (.there .here)) (ix_map (by first | assumption | rfl))) ?_
            refine .p rfl rfl rfl (val_len Tryz.underlying27 rfl) ?_
            refine .p rfl rfl rfl (val_sub rfl rfl rfl) ?_
            refine .p rfl rfl rfl (val_sliceH (j := l.length - 1) el_27 rfl rfl ((w64_of (by omega)).trans (by omega)) (by omega)) ?_
            refine .p rfl rfl rfl (val_ix el_161 rfl rfl rfl rfl hn) ?_
            refine .store rfl rfl rfl rfl rfl sz_27 rfl H4 (.there .here) (by rw [Nat.zero_add, Nat.mul_one]; exact Spl_cell (by simpa using hbn)) (fun w5 H5 => ⟨fun h => absurd h (by decide), ?_⟩)
            refine .nil (cj ?_)
            refine .seq ?_
            refine .plain rfl ?_
            refine .q rfl rfl rfl (val_move rfl) ?_
            refine .q rfl rfl rfl (val_nilCheck rfl) ?_
            refine .q rfl rfl rfl (val_fieldAddr rfl fa_163_5) ?_
            refine .qs rfl rfl rfl H5 (ld_b rfl ob_27 (.ro .here) rfl) ?_
            refine .q rfl rfl rfl (val_move rfl) ?_
            refine .q rfl rfl rfl (val_move rfl) ?_
            refine .q rfl rfl rfl (val_ix el_27 rfl rfl rfl rfl hi) ?_
            refine .store rfl rfl rfl rfl rfl sz_3 rfl H5 (.there (.there (.there .here))) (by rw [Nat.zero_add, Nat.mul_one]; exact Spl_cell (by simpa using hi)) (fun w6 H6 => ⟨fun _ => trivial, ?_⟩)
            refine .nil (cj ?_)
            refine .seq ?_
            refine .plain rfl ?_
            refine .q rfl rfl rfl (val_move rfl) ?_
            refine .q rfl rfl rfl (val_assign rfl) ?_
            refine .q rfl rfl rfl (val_assign rfl) ?_
            refine .nil (cj ?_)
            refine .ret (fret (res2 rfl rfl rfl) ?_)
            have h9 := H6.rowShort (m := l.length - 1) (.there (.there (.there .here))) (by omega)
            refine hRR _ _ ⟨_, ⟨rfl, rfl⟩, h9.sub (.cons (.there (.there .here)) (.cons .here (.cons .here .nil)))⟩
end
section
variable (c : Cf) (hm : MayOk c) (b : Nat) (x : SX) (loads : List Int) (i : Nat) (px py : Int) (hl8 : loads.length ≤ 8)
include hm hl8
theorem drop0_spec (ho : openR c px py = false) : Sk.Spec Tryz.prog 90 #[ptr b, i64 (i : Int), .agg #[i64 px, i64 py]] [tblk c b x loads.length, gfix c x.bg x.bk, kblk x.bk (KF c)] [] fun e F' => e = .returned (i64 1) ∧ F' = [] := by
  refine Spec.of_code (vs := [_, _, _]) (k0 := [(0, _), (1, _), (2, _)]) 92 Tryz.func90 rfl Tryz.ntmps90 rfl (.cons (.cons (.cons .nil))) fun w X RR hRR H => ?_
  refine .seq ?_
  refine .plain rfl ?_
  refine .box rfl rfl rfl rfl rfl H (fun w1 b1 H1 => ⟨fun _ => trivial, ?_⟩)
  refine .q rfl rfl rfl (val_assign rfl) ?_
  refine .nil (cj ?_)
  refine .seq ?_
  refine .plain rfl ?_
  refine .q rfl rfl rfl (val_move rfl) ?_
  refine .qs rfl rfl rfl H1 (ld_w rfl ag_38 (.own .here) rfl) ?_
  refine .call1 rfl rfl rfl en110 (.cons rfl (.cons rfl .nil)) (at0_spec c hm _ _ _ _ _ ho) H1 .nil (.ro .here (.ro (.there .here) (.ro (.there (.there .here)) .nil))) (fun w2 H2 => ⟨fun _ => trivial, ?_⟩)
  refine .q rfl rfl rfl (val_assign rfl) ?_
  refine .nil (cj ?_)
  refine .seq ?_
  refine .seq ?_
  refine .plain rfl ?_
  refine .q rfl rfl rfl (val_move rfl) ?_
  refine .q rfl rfl rfl (val_lss rfl rfl rfl) ?_
  refine .q rfl rfl rfl (val_move rfl) ?_
  refine .case (t := 14) rfl (fun hs14 => ?_) (fun hs14 => ?_)
  · refine .no rfl rfl rfl ?_
    refine .no rfl rfl rfl ?_
    refine .q rfl rfl rfl (val_pick_t rfl rfl) ?_
    refine .q rfl rfl rfl (val_move rfl) ?_
    refine .no rfl rfl rfl ?_
    refine .no rfl rfl rfl ?_
    refine .no rfl rfl rfl ?_
    refine .no rfl rfl rfl ?_
    refine .no rfl rfl rfl ?_
    refine .no rfl rfl rfl ?_
    refine .no rfl rfl rfl ?_
    refine .q rfl rfl rfl (val_pick_t rfl rfl) ?_
    refine .nil (cj ?_)
    refine .cond_t rfl ?_
    refine .seq ?_
    refine .plain rfl ?_
    refine .q rfl rfl rfl (val_assign rfl) ?_
    refine .nil (cj ?_)
    refine .ret (fret (res1 rfl rfl) ?_)
    refine hRR _ _ ⟨_, ⟨?_, rfl⟩, H2.sub .nil⟩
    rfl
  · exfalso; simp at hs14
variable (z : Int) (hz : loads[i]? = some z) (ho : openR c px py = true)
include hz ho
theorem drop1_spec (h0 : z = 0) : Sk.Spec Tryz.prog 90 #[ptr b, i64 (i : Int), .agg #[i64 px, i64 py]] [tblk c b x loads.length, gfix c x.bg x.bk, kblk x.bk (KF c), blk x.bl (loads.map fun z => i64 z) 3] [] fun e F' => e = .returned (i64 8) ∧ F' = [] := by
  have hi := lt_of_some hz
  refine Spec.of_code (vs := [_, _, _]) (k0 := [(0, _), (1, _), (2, _)]) 92 Tryz.func90 rfl Tryz.ntmps90 rfl (.cons (.cons (.cons .nil))) fun w X RR hRR H => ?_
  refine .seq ?_
  refine .plain rfl ?_
  refine .box rfl rfl rfl rfl rfl H (fun w1 b1 H1 => ⟨fun _ => trivial, ?_⟩)
  refine .q rfl rfl rfl (val_assign rfl) ?_
  refine .nil (cj ?_)
  refine .seq ?_
  refine .plain rfl ?_
  refine .q rfl rfl rfl (val_move rfl) ?_
  refine .qs rfl rfl rfl H1 (ld_w rfl ag_38 (.own .here) rfl) ?_
  refine .call1 rfl rfl rfl en110 (.cons rfl (.cons rfl .nil)) (at1_spec c hm _ _ _ _ _ ho) H1 .nil (.ro .here (.ro (.there .here) (.ro (.there (.there .here)) .nil))) (fun w2 H2 => ⟨fun _ => trivial, ?_⟩)
  refine .q rfl rfl rfl (val_assign rfl) ?_
  refine .nil (cj ?_)
  refine .seq ?_
  refine .seq ?_
  refine .plain rfl ?_
  refine .q rfl rfl rfl (val_move rfl) ?_
  refine .q rfl rfl rfl (val_lss rfl rfl rfl) ?_
  refine .q rfl rfl rfl (val_move rfl) ?_
  refine .case (t := 14) rfl (fun hs14 => ?_) (fun hs14 => ?_)
  · exfalso; simp at hs14; omega
  · refine .q rfl rfl rfl (val_move rfl) ?_
    refine .q rfl rfl rfl (val_lss rfl rfl rfl) ?_
    refine .q rfl rfl rfl (val_pick_f rfl rfl) ?_
    refine .q rfl rfl rfl (val_move rfl) ?_
    refine .case (t := 18) rfl (fun hs18 => ?_) (fun hs18 => ?_)
    · exfalso; simp at hs18; omega
    · refine .q rfl rfl rfl (val_move rfl) ?_
      refine .q rfl rfl rfl (val_move rfl) ?_
      refine .q rfl rfl rfl (val_nilCheck rfl) ?_
      refine .q rfl rfl rfl (val_fieldAddr rfl fa_163_5) ?_
      refine .qs rfl rfl rfl H2 (ld_b rfl ob_27 (.ro .here) rfl) ?_
      refine .q rfl rfl rfl (val_len Tryz.underlying27 rfl) ?_
      refine .q rfl rfl rfl (val_geq rfl rfl rfl) ?_
      refine .q rfl rfl rfl (val_pick_f rfl rfl) ?_
      refine .nil (cj ?_)
      refine .cond rfl (fun hc0 => ?_) (fun hc0 => ?_)
      · exfalso; simp at hc0; omega
      · refine .skip (cj ?_)
        refine .seq ?_
        refine .seq ?_
        refine .plain rfl ?_
        refine .q rfl rfl rfl (val_move rfl) ?_
        refine .q rfl rfl rfl (val_nilCheck rfl) ?_
        refine .q rfl rfl rfl (val_fieldAddr rfl fa_163_5) ?_
        refine .qs rfl rfl rfl H2 (ld_b rfl ob_27 (.ro .here) rfl) ?_
        refine .q rfl rfl rfl (val_move rfl) ?_
        refine .q rfl rfl rfl (val_ix el_27 rfl rfl rfl rfl hi) ?_
        refine .qs rfl rfl rfl H2 (ld_b rfl ob_3 (.ro (.there (.there (.there .here)))) (ix_map (by first | assumption | rfl))) ?_
        refine .q rfl rfl rfl (val_eql rfl rfl rfl) ?_
        refine .nil (cj ?_)
        refine .cond rfl (fun hc1 => ?_) (fun hc1 => ?_)
        · refine .seq ?_
          refine .plain rfl ?_
          refine .q rfl rfl rfl (val_assign rfl) ?_
          refine .nil (cj ?_)
          refine .ret (fret (res1 rfl rfl) ?_)
          refine hRR _ _ ⟨_, ⟨?_, rfl⟩, H2.sub .nil⟩
          rfl
        · exfalso; simp [h0] at hc1
variable {A : Option Addr} {cap : Nat} {l : List Int} (hb : x.bs[numI c ⟨px, py⟩]? = some ⟨.slice A l.length cap, l⟩) (hl : l.length ≤ 8) (h0 : z ≠ 0)
include hb hl h0
theorem drop2_spec (hroom : roomI c px py ≤ (l.length : Int)) : Sk.Spec Tryz.prog 90 #[ptr b, i64 (i : Int), .agg #[i64 px, i64 py]] [tblk c b x loads.length, gfix c x.bg x.bk, kblk x.bk (KF c), blk x.bb (x.bs.map fun b => b.v) 27, blk x.bl (loads.map fun z => i64 z) 3] [] fun e F' => e = .returned (i64 2) ∧ F' = [] := by
  have hi := lt_of_some hz
  have hn := (numI_lt hm.num (openR_in ho)).1
  refine Spec.of_code (vs := [_, _, _]) (k0 := [(0, _), (1, _), (2, _)]) 92 Tryz.func90 rfl Tryz.ntmps90 rfl (.cons (.cons (.cons .nil))) fun w X RR hRR H => ?_
  refine .seq ?_
  refine .plain rfl ?_
  refine .box rfl rfl rfl rfl rfl H (fun w1 b1 H1 => ⟨fun _ => trivial, ?_⟩)
  refine .q rfl rfl rfl (val_assign rfl) ?_
  refine .nil (cj ?_)
  refine .seq ?_
  refine .plain rfl ?_
  refine .q rfl rfl rfl (val_move rfl) ?_
  refine .qs rfl rfl rfl H1 (ld_w rfl ag_38 (.own .here) rfl) ?_
  refine .call1 rfl rfl rfl en110 (.cons rfl (.cons rfl .nil)) (at1_spec c hm _ _ _ _ _ ho) H1 .nil (.ro .here (.ro (.there .here) (.ro (.there (.there .here)) .nil))) (fun w2 H2 => ⟨fun _ => trivial, ?_⟩)
  refine .q rfl rfl rfl (val_assign rfl) ?_
  refine .nil (cj ?_)
  refine .seq ?_
  refine .seq ?_
  refine .plain rfl ?_
  refine .q rfl rfl rfl (val_move rfl) ?_
  refine .q rfl rfl rfl (val_lss rfl rfl rfl) ?_
  refine .q rfl rfl rfl (val_move rfl) ?_
  refine .case (t := 14) rfl (fun hs14 => ?_) (fun hs14 => ?_)
  · exfalso; simp at hs14; omega
  · refine .q rfl rfl rfl (val_move rfl) ?_
    refine .q rfl rfl rfl (val_lss rfl rfl rfl) ?_
    refine .q rfl rfl rfl (val_pick_f rfl rfl) ?_
    refine .q rfl rfl rfl (val_move rfl) ?_
    refine .case (t := 18) rfl (fun hs18 => ?_) (fun hs18 => ?_)
    · exfalso; simp at hs18; omega
    · refine .q rfl rfl rfl (val_move rfl) ?_
      refine .q rfl rfl rfl (val_move rfl) ?_
      refine .q rfl rfl rfl (val_nilCheck rfl) ?_
      refine .q rfl rfl rfl (val_fieldAddr rfl fa_163_5) ?_
      refine .qs rfl rfl rfl H2 (ld_b rfl ob_27 (.ro .here) rfl) ?_
      refine .q rfl rfl rfl (val_len Tryz.underlying27 rfl) ?_
      refine .q rfl rfl rfl (val_geq rfl rfl rfl) ?_
      refine .q rfl rfl rfl (val_pick_f rfl rfl) ?_
      refine .nil (cj ?_)
      refine .cond rfl (fun hc0 => ?_) (fun hc0 => ?_)
      · exfalso; simp at hc0; omega
      · refine .skip (cj ?_)
        refine .seq ?_
        refine .seq ?_
        refine .plain rfl ?_
        refine .q rfl rfl rfl (val_move rfl) ?_
        refine .q rfl rfl rfl (val_nilCheck rfl) ?_
        refine .q rfl rfl rfl (val_fieldAddr rfl fa_163_5) ?_
        refine .qs rfl rfl rfl H2 (ld_b rfl ob_27 (.ro .here) rfl) ?_
        refine .q rfl rfl rfl (val_move rfl) ?_
        refine .q rfl rfl rfl (val_ix el_27 rfl rfl rfl rfl hi) ?_
        refine .qs rfl rfl rfl H2 (ld_b rfl ob_3 (.ro (.there (.there (.there (.there .here))))) (ix_map (by first | assumption | rfl))) ?_
        refine .q rfl rfl rfl (val_eql rfl rfl rfl) ?_
        refine .nil (cj ?_)
        refine .cond rfl (fun hc1 => ?_) (fun hc1 => ?_)
        · exfalso; simp at hc1; exact h0 hc1
        · refine .skip (cj ?_)
          refine .seq ?_
          refine .plain rfl ?_
          refine .q rfl rfl rfl (val_assign rfl) ?_
          refine .nil (cj ?_)
          refine .seq ?_
          refine .block ?_
          refine .seq ?_
          refine .drawS 8 (.cons (0, true) (.cons (1, true) (.cons (2, true) (.cons (3, true) (.cons (4, true) (.cons (5, false) (.cons (6, true) (.cons (7, true) .nil)))))))) mo (by kernel_rfl) H2 (fun _ _ _ _ _ h => h) (fun w3 H3 => ?_)
          refine .p rfl rfl rfl (val_move rfl) ?_
          refine .p rfl rfl rfl (val_nilCheck rfl) ?_
          refine .p rfl rfl rfl (val_fieldAddr rfl fa_163_0) ?_
          refine .ps rfl rfl rfl rfl (ld_b rfl ob_84 (.ro .here) rfl) ?_
          refine .ps rfl rfl rfl rfl (ld_w rfl ag_38 (.own .here) rfl) ?_
          refine .call1 rfl rfl rfl en91 (.cons rfl (.cons rfl .nil)) (portK_spec c hm _ _ _ _) H3 .nil (.ro (.there .here) (.ro (.there (.there .here)) .nil)) (fun w4 H4 => ⟨fun _ => H4, ?_⟩)
          refine .p rfl rfl rfl (val_geq rfl rfl rfl) ?_
          refine .p rfl rfl rfl (val_assign rfl) ?_
          refine .nil (cj ?_)
          refine .cond rfl (fun hc2 => ?_) (fun hc2 => ?_)
          · refine .plain rfl ?_
            refine .q rfl rfl rfl (val_assign rfl) ?_
            refine .nil (cj ?_)
            refine .seq ?_
            refine .seq ?_
            refine .plain rfl ?_
            refine .q rfl rfl rfl (val_move rfl) ?_
            refine .q rfl rfl rfl (val_nilCheck rfl) ?_
            refine .q rfl rfl rfl (val_fieldAddr rfl fa_163_4) ?_
            refine .qs rfl rfl rfl H4 (ld_b rfl ob_161 (.ro .here) rfl) ?_
            refine .q rfl rfl rfl (val_move rfl) ?_
            refine .q rfl rfl rfl (val_ix el_161 rfl rfl rfl rfl hn) ?_
            refine .qs rfl rfl rfl H4 (ld_b rfl ob_27 (.ro (.there (.there (.there .here)))) (ix_map (by first | assumption | rfl))) ?_
            refine .q rfl rfl rfl (val_len Tryz.underlying27 rfl) ?_
            refine .q rfl rfl rfl (val_move rfl) ?_
            refine .q rfl rfl rfl (val_geq rfl rfl rfl) ?_
            refine .nil (cj ?_)
            refine .cond rfl (fun hc4 => ?_) (fun hc4 => ?_)
            · refine .seq ?_
              refine .plain rfl ?_
              refine .q rfl rfl rfl (val_assign rfl) ?_
              refine .nil (cj ?_)
              refine .ret (fret (res1 rfl rfl) ?_)
              refine hRR _ _ ⟨_, ⟨?_, rfl⟩, H4.sub .nil⟩
              rfl
            · exfalso; first | (simp at hc4; done) | (simp at hc4; simp only [roomI, isPort] at hroom; simp_all; done) | (simp at hc4; simp only [roomI, isPort] at hroom; simp_all; omega)
          · refine .seq ?_
            refine .drawS 7 (.cons (0, true) (.cons (1, true) (.cons (2, true) (.cons (3, true) (.cons (4, true) (.cons (5, false) (.cons (6, true) .nil))))))) mo (by kernel_rfl) H4 (fun _ _ _ _ _ h => h) (fun w5 H5 => ?_)
            refine .p rfl rfl rfl (val_move rfl) ?_
            refine .p rfl rfl rfl (val_nilCheck rfl) ?_
            refine .p rfl rfl rfl (val_fieldAddr rfl fa_163_0) ?_
            refine .ps rfl rfl rfl rfl (ld_b rfl ob_84 (.ro .here) rfl) ?_
            refine .ps rfl rfl rfl rfl (ld_w rfl ag_38 (.own .here) rfl) ?_
            refine .call1 rfl rfl rfl en112 (.cons rfl (.cons rfl .nil)) (stackedK_spec c hm _ _ _ _) H5 .nil (.ro (.there .here) (.ro (.there (.there .here)) .nil)) (fun w6 H6 => ⟨fun _ => H6, ?_⟩)
            refine .p rfl rfl rfl (val_assign rfl) ?_
            refine .nil (cj ?_)
            refine .cond rfl (fun hc3 => ?_) (fun hc3 => ?_)
            · refine .plain rfl ?_
              refine .q rfl rfl rfl (val_move rfl) ?_
              refine .q rfl rfl rfl (val_nilCheck rfl) ?_
              refine .q rfl rfl rfl (val_fieldAddr rfl fa_163_3) ?_
              refine .qs rfl rfl rfl H6 (ld_b rfl ob_3 (.ro .here) rfl) ?_
              refine .q rfl rfl rfl (val_assign rfl) ?_
              refine .nil (cj ?_)
              refine .seq ?_
              refine .seq ?_
              refine .plain rfl ?_
              refine .q rfl rfl rfl (val_move rfl) ?_
              refine .q rfl rfl rfl (val_nilCheck rfl) ?_
              refine .q rfl rfl rfl (val_fieldAddr rfl fa_163_4) ?_
              refine .qs rfl rfl rfl H6 (ld_b rfl ob_161 (.ro .here) rfl) ?_
              refine .q rfl rfl rfl (val_move rfl) ?_
              refine .q rfl rfl rfl (val_ix el_161 rfl rfl rfl rfl hn) ?_
              refine .qs rfl rfl rfl H6 (ld_b rfl ob_27 (.ro (.there (.there (.there .here)))) (ix_map (by first | assumption | rfl))) ?_
              refine .q rfl rfl rfl (val_len Tryz.underlying27 rfl) ?_
              refine .q rfl rfl rfl (val_move rfl) ?_
              refine .q rfl rfl rfl (val_geq rfl rfl rfl) ?_
              refine .nil (cj ?_)
              refine .cond rfl (fun hc4 => ?_) (fun hc4 => ?_)
              · refine .seq ?_
                refine .plain rfl ?_
                refine .q rfl rfl rfl (val_assign rfl) ?_
                refine .nil (cj ?_)
                refine .ret (fret (res1 rfl rfl) ?_)
                refine hRR _ _ ⟨_, ⟨?_, rfl⟩, H6.sub .nil⟩
                rfl
              · exfalso; first | (simp at hc4; done) | (simp at hc4; simp only [roomI, isPort] at hroom; simp_all; done) | (simp at hc4; simp only [roomI, isPort] at hroom; simp_all; omega)
            · refine .skip (cj ?_)
              refine .seq ?_
              refine .seq ?_
              refine .plain rfl ?_
              refine .q rfl rfl rfl (val_move rfl) ?_
              refine .q rfl rfl rfl (val_nilCheck rfl) ?_
              refine .q rfl rfl rfl (val_fieldAddr rfl fa_163_4) ?_
              refine .qs rfl rfl rfl H6 (ld_b rfl ob_161 (.ro .here) rfl) ?_
              refine .q rfl rfl rfl (val_move rfl) ?_
              refine .q rfl rfl rfl (val_ix el_161 rfl rfl rfl rfl hn) ?_
              refine .qs rfl rfl rfl H6 (ld_b rfl ob_27 (.ro (.there (.there (.there .here)))) (ix_map (by first | assumption | rfl))) ?_
              refine .q rfl rfl rfl (val_len Tryz.underlying27 rfl) ?_
              refine .q rfl rfl rfl (val_move rfl) ?_
              refine .q rfl rfl rfl (val_geq rfl rfl rfl) ?_
              refine .nil (cj ?_)
              refine .cond rfl (fun hc4 => ?_) (fun hc4 => ?_)
              · refine .seq ?_
                refine .plain rfl ?_
                refine .q rfl rfl rfl (val_assign rfl) ?_
                refine .nil (cj ?_)
                refine .ret (fret (res1 rfl rfl) ?_)
                refine hRR _ _ ⟨_, ⟨?_, rfl⟩, H6.sub .nil⟩
                rfl
              · exfalso; first | (simp at hc4; done) | (simp at hc4; simp only [roomI, isPort] at hroom; simp_all; done) | (simp at hc4; simp only [roomI, isPort] at hroom; simp_all; omega)
theorem drop3_spec (hroom : (l.length : Int) < roomI c px py) : Sk.Spec Tryz.prog 90 #[ptr b, i64 (i : Int), .agg #[i64 px, i64 py]] [tblk c b x loads.length, gfix c x.bg x.bk, kblk x.bk (KF c)] [blk x.bb (x.bs.map fun b => b.v) 27, row (.slice A l.length cap) 3 1 l.length (l.flatMap encI), blk x.bl (loads.map fun z => i64 z) 3] fun e F' => ∃ v : Value, e = .returned (i64 0) ∧
      F' = [blk x.bb ((x.bs.map fun b => b.v).set (numI c ⟨px, py⟩) v) 27, row v 3 1 (l.length + 1) (l.flatMap encI ++ [i64 z]), blk x.bl ((loads.map fun z => i64 z).set i (i64 0)) 3] ∧ True := by
  have hi := lt_of_some hz
  have hn := (numI_lt hm.num (openR_in ho)).1
  have hbn := lt_of_some hb
  refine Spec.of_code (vs := [_, _, _]) (k0 := [(0, _), (1, _), (2, _)]) 92 Tryz.func90 rfl Tryz.ntmps90 rfl (.cons (.cons (.cons .nil))) fun w X RR hRR H => ?_
  refine .seq ?_
  refine .plain rfl ?_
  refine .box rfl rfl rfl rfl rfl H (fun w1 b1 H1 => ⟨fun _ => trivial, ?_⟩)
  refine .q rfl rfl rfl (val_assign rfl) ?_
  refine .nil (cj ?_)
  refine .seq ?_
  refine .plain rfl ?_
  refine .q rfl rfl rfl (val_move rfl) ?_
  refine .qs rfl rfl rfl H1 (ld_w rfl ag_38 (.own .here) rfl) ?_
  refine .call1 rfl rfl rfl en110 (.cons rfl (.cons rfl .nil)) (at1_spec c hm _ _ _ _ _ ho) H1 .nil (.ro .here (.ro (.there .here) (.ro (.there (.there .here)) .nil))) (fun w2 H2 => ⟨fun _ => trivial, ?_⟩)
  refine .q rfl rfl rfl (val_assign rfl) ?_
  refine .nil (cj ?_)
  refine .seq ?_
  refine .seq ?_
  refine .plain rfl ?_
  refine .q rfl rfl rfl (val_move rfl) ?_
  refine .q rfl rfl rfl (val_lss rfl rfl rfl) ?_
  refine .q rfl rfl rfl (val_move rfl) ?_
  refine .case (t := 14) rfl (fun hs14 => ?_) (fun hs14 => ?_)
  · exfalso; simp at hs14; omega
  · refine .q rfl rfl rfl (val_move rfl) ?_
    refine .q rfl rfl rfl (val_lss rfl rfl rfl) ?_
    refine .q rfl rfl rfl (val_pick_f rfl rfl) ?_
    refine .q rfl rfl rfl (val_move rfl) ?_
    refine .case (t := 18) rfl (fun hs18 => ?_) (fun hs18 => ?_)
    · exfalso; simp at hs18; omega
    · refine .q rfl rfl rfl (val_move rfl) ?_
      refine .q rfl rfl rfl (val_move rfl) ?_
      refine .q rfl rfl rfl (val_nilCheck rfl) ?_
      refine .q rfl rfl rfl (val_fieldAddr rfl fa_163_5) ?_
      refine .qs rfl rfl rfl H2 (ld_b rfl ob_27 (.ro .here) rfl) ?_
      refine .q rfl rfl rfl (val_len Tryz.underlying27 rfl) ?_
      refine .q rfl rfl rfl (val_geq rfl rfl rfl) ?_
      refine .q rfl rfl rfl (val_pick_f rfl rfl) ?_
      refine .nil (cj ?_)
      refine .cond rfl (fun hc0 => ?_) (fun hc0 => ?_)
      · exfalso; simp at hc0; omega
      · refine .skip (cj ?_)
        refine .seq ?_
        refine .seq ?_
        refine .plain rfl ?_
        refine .q rfl rfl rfl (val_move rfl) ?_
        refine .q rfl rfl rfl (val_nilCheck rfl) ?_
        refine .q rfl rfl rfl (val_fieldAddr rfl fa_163_5) ?_
        refine .qs rfl rfl rfl H2 (ld_b rfl ob_27 (.ro .here) rfl) ?_
        refine .q rfl rfl rfl (val_move rfl) ?_
        refine .q rfl rfl rfl (val_ix el_27 rfl rfl rfl rfl hi) ?_
        refine .qs rfl rfl rfl H2 (ld_b rfl ob_3 (.own (.there (.there (.there .here)))) (ix_map (by first | assumption | rfl))) ?_
        refine .q rfl rfl rfl (val_eql rfl rfl rfl) ?_
        refine .nil (cj ?_)
        refine .cond rfl (fun hc1 => ?_) (fun hc1 => ?_)
        · exfalso; simp at hc1; exact h0 hc1
        · refine .skip (cj ?_)
          refine .seq ?_
          refine .plain rfl ?_
          refine .q rfl rfl rfl (val_assign rfl) ?_
          refine .nil (cj ?_)
          refine .seq ?_
          refine .block ?_
          refine .seq ?_
          refine .drawS 8 (.cons (0, true) (.cons (1, true) (.cons (2, true) (.cons (3, true) (.cons (4, true) (.cons (5, false) (.cons (6, true) (.cons (7, true) .nil)))))))) mo (by kernel_rfl) H2 (fun _ _ _ _ _ h => h) (fun w3 H3 => ?_)
          refine .p rfl rfl rfl (val_move rfl) ?_
          refine .p rfl rfl rfl (val_nilCheck rfl) ?_
          refine .p rfl rfl rfl (val_fieldAddr rfl fa_163_0) ?_
          refine .ps rfl rfl rfl rfl (ld_b rfl ob_84 (.ro .here) rfl) ?_
          refine .ps rfl rfl rfl rfl (ld_w rfl ag_38 (.own .here) rfl) ?_
          refine .call1 rfl rfl rfl en91 (.cons rfl (.cons rfl .nil)) (portK_spec c hm _ _ _ _) H3 .nil (.ro (.there .here) (.ro (.there (.there .here)) .nil)) (fun w4 H4 => ⟨fun _ => H4, ?_⟩)
          refine .p rfl rfl rfl (val_geq rfl rfl rfl) ?_
          refine .p rfl rfl rfl (val_assign rfl) ?_
          refine .nil (cj ?_)
          refine .cond rfl (fun hc2 => ?_) (fun hc2 => ?_)
          · refine .plain rfl ?_
            refine .q rfl rfl rfl (val_assign rfl) ?_
            refine .nil (cj ?_)
            refine .seq ?_
            refine .seq ?_
            refine .plain rfl ?_
            refine .q rfl rfl rfl (val_move rfl) ?_
            refine .q rfl rfl rfl (val_nilCheck rfl) ?_
            refine .q rfl rfl rfl (val_fieldAddr rfl fa_163_4) ?_
            refine .qs rfl rfl rfl H4 (ld_b rfl ob_161 (.ro .here) rfl) ?_
            refine .q rfl rfl rfl (val_move rfl) ?_
            refine .q rfl rfl rfl (val_ix el_161 rfl rfl rfl rfl hn) ?_
            refine .qs rfl rfl rfl H4 (ld_b rfl ob_27 (.own (.there .here)) (ix_map (by first | assumption | rfl))) ?_
            refine .q rfl rfl rfl (val_len Tryz.underlying27 rfl) ?_
            refine .q rfl rfl rfl (val_move rfl) ?_
            refine .q rfl rfl rfl (val_geq rfl rfl rfl) ?_
            refine .nil (cj ?_)
            refine .cond rfl (fun hc4 => ?_) (fun hc4 => ?_)
            · exfalso; first | (simp at hc4; done) | (simp at hc4; simp only [roomI, isPort] at hroom; simp_all; done) | (simp at hc4; simp only [roomI, isPort] at hroom; simp_all; omega)
            · refine .skip (cj ?_)
              refine .seq ?_
              refine .drawS2 22 (.cons (0, true) (.cons (1, true) (.cons (2, true) (.cons (3, true) (.cons (4, true) (.cons (5, true) (.cons (6, true) (.cons (7, true) (.cons (8, true) (.cons (9, true) (.cons (10, true) (.cons (11, true) (.cons (12, true) (.cons (13, true) (.cons (14, true) (.cons (15, true) (.cons (16, true) (.cons (17, true) (.cons (18, true) (.cons (19, false) (.cons (20, false) (.cons (21, true) (.cons (22, false) .nil))))))))))))))))))))))) mo (by kernel_rfl) H4 (.cons (.there .here) (.cons (.there (.there .here)) .nil)) (fun _ _ _ _ _ h => h) (fun w5 H5 => ?_)
              refine .p rfl rfl rfl (val_move rfl) ?_
              refine .p rfl rfl rfl (val_nilCheck rfl) ?_
              refine .p rfl rfl rfl (val_fieldAddr rfl fa_163_4) ?_
              refine .ps rfl rfl rfl rfl (ld_b rfl ob_161 (.ro .here) rfl) ?_
              refine .p rfl rfl rfl (val_move rfl) ?_
              refine .p rfl rfl rfl (val_move rfl) ?_
              refine .p rfl rfl rfl (val_nilCheck rfl) ?_
              refine .p rfl rfl rfl (val_fieldAddr rfl fa_163_4) ?_
              refine .ps rfl rfl rfl rfl (ld_b rfl ob_161 (.ro .here) rfl) ?_
              refine .p rfl rfl rfl (val_move rfl) ?_
              refine .p rfl rfl rfl (val_ix el_161 rfl rfl rfl rfl hn) ?_
              refine .ps rfl rfl rfl rfl (ld_b rfl ob_27 (.own .here) (ix_map (by first | assumption | rfl))) ?_
              refine .p rfl rfl rfl (val_move rfl) ?_
              refine .p rfl rfl rfl (val_nilCheck rfl) ?_
              refine .p rfl rfl rfl (val_fieldAddr rfl fa_163_5) ?_
              refine .ps rfl rfl rfl rfl (ld_b rfl ob_27 (.ro .here) rfl) ?_
              refine .p rfl rfl rfl (val_move rfl) ?_
              refine .p rfl rfl rfl (val_ix el_27 rfl rfl rfl rfl hi) ?_
              refine .ps rfl rfl rfl rfl (ld_b rfl ob_3 (.own (.there .here)) (ix_map (by first | assumption | rfl))) ?_
              refine .lit rfl rfl rfl Tryz.underlying27 (.cons rfl .nil) (bs_3_1_0 _) H5 (fun w6 b6 H6 => ⟨fun _ => (H6.sub (.cons (.there (.there .here)) (.cons (.there (.there (.there .here))) .nil))), ?_⟩)
              refine .append rfl rfl rfl (ap_27) rfl rfl H6 (.there (.there (.there .here))) (Has.srcBlk (.own .here) H6) rfl (by simp [Value.oneCell']) (by simp only [maxLen]; omega) (by omega) (fun v7 w7 H7 => ⟨fun _ => (H7.sub (.cons (.there (.there (.there .here))) (.cons (.there (.there (.there .here))) .nil))), ?_⟩)
              obtain ⟨A8, cap8, rfl⟩ := St.rowVal H7 .here
              refine .p rfl rfl rfl (val_ix el_161 rfl rfl rfl rfl hn) ?_
              refine .store rfl rfl rfl rfl rfl sz_27 rfl H7 (.there (.there (.there .here))) (by rw [Nat.zero_add, Nat.mul_one]; exact Spl_cell (by simpa using hbn)) (fun w8 H8 => ⟨fun h => absurd h (by decide), ?_⟩)
              refine .nil (cj ?_)
              refine .seq ?_
              refine .plain rfl ?_
              refine .q rfl rfl rfl (val_move rfl) ?_
              refine .q rfl rfl rfl (val_nilCheck rfl) ?_
              refine .q rfl rfl rfl (val_fieldAddr rfl fa_163_5) ?_
              refine .qs rfl rfl rfl H8 (ld_b rfl ob_27 (.ro .here) rfl) ?_
              refine .q rfl rfl rfl (val_move rfl) ?_
              refine .q rfl rfl rfl (val_ix el_27 rfl rfl rfl rfl hi) ?_
              refine .store rfl rfl rfl rfl rfl sz_3 rfl H8 (.there (.there (.there (.there .here)))) (by rw [Nat.zero_add, Nat.mul_one]; exact Spl_cell (by simpa using hi)) (fun w9 H9 => ⟨fun _ => trivial, ?_⟩)
              refine .nil (cj ?_)
              refine .seq ?_
              refine .plain rfl ?_
              refine .q rfl rfl rfl (val_assign rfl) ?_
              refine .nil (cj ?_)
              refine .ret (fret (res1 rfl rfl) ?_)
              refine hRR _ _ ⟨_, ⟨_, rfl, rfl, trivial⟩, H9.sub (.cons (.there .here) (.cons (.there .here) (.cons .here .nil)))⟩
          · refine .seq ?_
            refine .drawS 7 (.cons (0, true) (.cons (1, true) (.cons (2, true) (.cons (3, true) (.cons (4, true) (.cons (5, false) (.cons (6, true) .nil))))))) mo (by kernel_rfl) H4 (fun _ _ _ _ _ h => h) (fun w10 H10 => ?_)
            refine .p rfl rfl rfl (val_move rfl) ?_
            refine .p rfl rfl rfl (val_nilCheck rfl) ?_
            refine .p rfl rfl rfl (val_fieldAddr rfl fa_163_0) ?_
            refine .ps rfl rfl rfl rfl (ld_b rfl ob_84 (.ro .here) rfl) ?_
            refine .ps rfl rfl rfl rfl (ld_w rfl ag_38 (.own .here) rfl) ?_
            refine .call1 rfl rfl rfl en112 (.cons rfl (.cons rfl .nil)) (stackedK_spec c hm _ _ _ _) H10 .nil (.ro (.there .here) (.ro (.there (.there .here)) .nil)) (fun w11 H11 => ⟨fun _ => H11, ?_⟩)
            refine .p rfl rfl rfl (val_assign rfl) ?_
            refine .nil (cj ?_)
            refine .cond rfl (fun hc3 => ?_) (fun hc3 => ?_)
            · refine .plain rfl ?_
              refine .q rfl rfl rfl (val_move rfl) ?_
              refine .q rfl rfl rfl (val_nilCheck rfl) ?_
              refine .q rfl rfl rfl (val_fieldAddr rfl fa_163_3) ?_
              refine .qs rfl rfl rfl H11 (ld_b rfl ob_3 (.ro .here) rfl) ?_
              refine .q rfl rfl rfl (val_assign rfl) ?_
              refine .nil (cj ?_)
              refine .seq ?_
              refine .seq ?_
              refine .plain rfl ?_
              refine .q rfl rfl rfl (val_move rfl) ?_
              refine .q rfl rfl rfl (val_nilCheck rfl) ?_
              refine .q rfl rfl rfl (val_fieldAddr rfl fa_163_4) ?_
              refine .qs rfl rfl rfl H11 (ld_b rfl ob_161 (.ro .here) rfl) ?_
              refine .q rfl rfl rfl (val_move rfl) ?_
              refine .q rfl rfl rfl (val_ix el_161 rfl rfl rfl rfl hn) ?_
              refine .qs rfl rfl rfl H11 (ld_b rfl ob_27 (.own (.there .here)) (ix_map (by first | assumption | rfl))) ?_
              refine .q rfl rfl rfl (val_len Tryz.underlying27 rfl) ?_
              refine .q rfl rfl rfl (val_move rfl) ?_
              refine .q rfl rfl rfl (val_geq rfl rfl rfl) ?_
              refine .nil (cj ?_)
              refine .cond rfl (fun hc4 => ?_) (fun hc4 => ?_)
              · exfalso; first | (simp at hc4; done) | (simp at hc4; simp only [roomI, isPort] at hroom; simp_all; done) | (simp at hc4; simp only [roomI, isPort] at hroom; simp_all; omega)
              · refine .skip (cj ?_)
                refine .seq ?_
                refine .drawS2 22 (.cons (0, true) (.cons (1, true) (.cons (2, true) (.cons (3, true) (.cons (4, true) (.cons (5, true) (.cons (6, true) (.cons (7, true) (.cons (8, true) (.cons (9, true) (.cons (10, true) (.cons (11, true) (.cons (12, true) (.cons (13, true) (.cons (14, true) (.cons (15, true) (.cons (16, true) (.cons (17, true) (.cons (18, true) (.cons (19, false) (.cons (20, false) (.cons (21, true) (.cons (22, false) .nil))))))))))))))))))))))) mo (by kernel_rfl) H11 (.cons (.there .here) (.cons (.there (.there .here)) .nil)) (fun _ _ _ _ _ h => h) (fun w12 H12 => ?_)
                refine .p rfl rfl rfl (val_move rfl) ?_
                refine .p rfl rfl rfl (val_nilCheck rfl) ?_
                refine .p rfl rfl rfl (val_fieldAddr rfl fa_163_4) ?_
                refine .ps rfl rfl rfl rfl (ld_b rfl ob_161 (.ro .here) rfl) ?_
                refine .p rfl rfl rfl (val_move rfl) ?_
                refine .p rfl rfl rfl (val_move rfl) ?_
                refine .p rfl rfl rfl (val_nilCheck rfl) ?_
                refine .p rfl rfl rfl (val_fieldAddr rfl fa_163_4) ?_
                refine .ps rfl rfl rfl rfl (ld_b rfl ob_161 (.ro .here) rfl) ?_
                refine .p rfl rfl rfl (val_move rfl) ?_
                refine .p rfl rfl rfl (val_ix el_161 rfl rfl rfl rfl hn) ?_
                refine .ps rfl rfl rfl rfl (ld_b rfl ob_27 (.own .here) (ix_map (by first | assumption | rfl))) ?_
                refine .p rfl rfl rfl (val_move rfl) ?_
                refine .p rfl rfl rfl (val_nilCheck rfl) ?_
                refine .p rfl rfl rfl (val_fieldAddr rfl fa_163_5) ?_
                refine .ps rfl rfl rfl rfl (ld_b rfl ob_27 (.ro .here) rfl) ?_
                refine .p rfl rfl rfl (val_move rfl) ?_
                refine .p rfl rfl rfl (val_ix el_27 rfl rfl rfl rfl hi) ?_
                refine .ps rfl rfl rfl rfl (ld_b rfl ob_3 (.own (.there .here)) (ix_map (by first | assumption | rfl))) ?_
                refine .lit rfl rfl rfl Tryz.underlying27 (.cons rfl .nil) (bs_3_1_0 _) H12 (fun w13 b13 H13 => ⟨fun _ => (H13.sub (.cons (.there (.there .here)) (.cons (.there (.there (.there .here))) .nil))), ?_⟩)
                refine .append rfl rfl rfl (ap_27) rfl rfl H13 (.there (.there (.there .here))) (Has.srcBlk (.own .here) H13) rfl (by simp [Value.oneCell']) (by simp only [maxLen]; omega) (by omega) (fun v14 w14 H14 => ⟨fun _ => (H14.sub (.cons (.there (.there (.there .here))) (.cons (.there (.there (.there .here))) .nil))), ?_⟩)
                obtain ⟨A8, cap8, rfl⟩ := St.rowVal H14 .here
                refine .p rfl rfl rfl (val_ix el_161 rfl rfl rfl rfl hn) ?_
                refine .store rfl rfl rfl rfl rfl sz_27 rfl H14 (.there (.there (.there .here))) (by rw [Nat.zero_add, Nat.mul_one]; exact Spl_cell (by simpa using hbn)) (fun w15 H15 => ⟨fun h => absurd h (by decide), ?_⟩)
                refine .nil (cj ?_)
                refine .seq ?_
                refine .plain rfl ?_
                refine .q rfl rfl rfl (val_move rfl) ?_
                refine .q rfl rfl rfl (val_nilCheck rfl) ?_
                refine .q rfl rfl rfl (val_fieldAddr rfl fa_163_5) ?_
                refine .qs rfl rfl rfl H15 (ld_b rfl ob_27 (.ro .here) rfl) ?_
                refine .q rfl rfl rfl (val_move rfl) ?_
                refine .q rfl rfl rfl (val_ix el_27 rfl rfl rfl rfl hi) ?_
                refine .store rfl rfl rfl rfl rfl sz_3 rfl H15 (.there (.there (.there (.there .here)))) (by rw [Nat.zero_add, Nat.mul_one]; exact Spl_cell (by simpa using hi)) (fun w16 H16 => ⟨fun _ => trivial, ?_⟩)
                refine .nil (cj ?_)
                refine .seq ?_
                refine .plain rfl ?_
                refine .q rfl rfl rfl (val_assign rfl) ?_
                refine .nil (cj ?_)
                refine .ret (fret (res1 rfl rfl) ?_)
                refine hRR _ _ ⟨_, ⟨_, rfl, rfl, trivial⟩, H16.sub (.cons (.there .here) (.cons (.there .here) (.cons .here .nil)))⟩
            · refine .skip (cj ?_)
              refine .seq ?_
              refine .seq ?_
              refine .plain rfl ?_
              refine .q rfl rfl rfl (val_move rfl) ?_
              refine .q rfl rfl rfl (val_nilCheck rfl) ?_
              refine .q rfl rfl rfl (val_fieldAddr rfl fa_163_4) ?_
              refine .qs rfl rfl rfl H11 (ld_b rfl ob_161 (.ro .here) rfl) ?_
              refine .q rfl rfl rfl (val_move rfl) ?_
              refine .q rfl rfl rfl (val_ix el_161 rfl rfl rfl rfl hn) ?_
              refine .qs rfl rfl rfl H11 (ld_b rfl ob_27 (.own (.there .here)) (ix_map (by first | assumption | rfl))) ?_
              refine .q rfl rfl rfl (val_len Tryz.underlying27 rfl) ?_
              refine .q rfl rfl rfl (val_move rfl) ?_
              refine .q rfl rfl rfl (val_geq rfl rfl rfl) ?_
              refine .nil (cj ?_)
              refine .cond rfl (fun hc4 => ?_) (fun hc4 => ?_)
              · exfalso; first | (simp at hc4; done) | (simp at hc4; simp only [roomI, isPort] at hroom; simp_all; done) | (simp at hc4; simp only [roomI, isPort] at hroom; simp_all; omega)
              · refine .skip (cj ?_)
                refine .seq ?_
                refine .drawS2 22 (.cons (0, true) (.cons (1, true) (.cons (2, true) (.cons (3, true) (.cons (4, true) (.cons (5, true) (.cons (6, true) (.cons (7, true) (.cons (8, true) (.cons (9, true) (.cons (10, true) (.cons (11, true) (.cons (12, true) (.cons (13, true) (.cons (14, true) (.cons (15, true) (.cons (16, true) (.cons (17, true) (.cons (18, true) (.cons (19, false) (.cons (20, false) (.cons (21, true) (.cons (22, false) .nil))))))))))))))))))))))) mo (by kernel_rfl) H11 (.cons (.there .here) (.cons (.there (.there .here)) .nil)) (fun _ _ _ _ _ h => h) (fun w17 H17 => ?_)
                refine .p rfl rfl rfl (val_move rfl) ?_
                refine .p rfl rfl rfl (val_nilCheck rfl) ?_
                refine .p rfl rfl rfl (val_fieldAddr rfl fa_163_4) ?_
                refine .ps rfl rfl rfl rfl (ld_b rfl ob_161 (.ro .here) rfl) ?_
                refine .p rfl rfl rfl (val_move rfl) ?_
                refine .p rfl rfl rfl (val_move rfl) ?_
                refine .p rfl rfl rfl (val_nilCheck rfl) ?_
                refine .p rfl rfl rfl (val_fieldAddr rfl fa_163_4) ?_
                refine .ps rfl rfl rfl rfl (ld_b rfl ob_161 (.ro .here) rfl) ?_
                refine .p rfl rfl rfl (val_move rfl) ?_
                refine .p rfl rfl rfl (val_ix el_161 rfl rfl rfl rfl hn) ?_
                refine .ps rfl rfl rfl rfl (ld_b rfl ob_27 (.own .here) (ix_map (by first | assumption | rfl))) ?_
                refine .p rfl rfl rfl (val_move rfl) ?_
                refine .p rfl rfl rfl (val_nilCheck rfl) ?_
                refine .p rfl rfl rfl (val_fieldAddr rfl fa_163_5) ?_
                refine .ps rfl rfl rfl rfl (ld_b rfl ob_27 (.ro .here) rfl) ?_
                refine .p rfl rfl rfl (val_move rfl) ?_
                refine .p rfl rfl rfl (val_ix el_27 rfl rfl rfl rfl hi) ?_
                refine .ps rfl rfl rfl rfl (ld_b rfl ob_3 (.own (.there .here)) (ix_map (by first | assumption | rfl))) ?_
                refine .lit rfl rfl rfl Tryz.underlying27 (.cons rfl .nil) (bs_3_1_0 _) H17 (fun w18 b18 H18 => ⟨fun _ => (H18.sub (.cons (.there (.there .here)) (.cons (.there (.there (.there .here))) .nil))), ?_⟩)
                refine .append rfl rfl rfl (ap_27) rfl rfl H18 (.there (.there (.there .here))) (Has.srcBlk (.own .here) H18) rfl (by simp [Value.oneCell']) (by simp only [maxLen]; omega) (by omega) (fun v19 w19 H19 => ⟨fun _ => (H19.sub (.cons (.there (.there (.there .here))) (.cons (.there (.there (.there .here))) .nil))), ?_⟩)
                obtain ⟨A8, cap8, rfl⟩ := St.rowVal H19 .here
                refine .p rfl rfl rfl (val_ix el_161 rfl rfl rfl rfl hn) ?_
                refine .store rfl rfl rfl rfl rfl sz_27 rfl H19 (.there (.there (.there .here))) (by rw [Nat.zero_add, Nat.mul_one]; exact Spl_cell (by simpa using hbn)) (fun w20 H20 => ⟨fun h => absurd h (by decide), ?_⟩)
                refine .nil (cj ?_)
                refine .seq ?_
                refine .plain rfl ?_
                refine .q rfl rfl rfl (val_move rfl) ?_
                refine .q rfl rfl rfl (val_nilCheck rfl) ?_
                refine .q rfl rfl rfl (val_fieldAddr rfl fa_163_5) ?_
                refine .qs rfl rfl rfl H20 (ld_b rfl ob_27 (.ro .here) rfl) ?_
                refine .q rfl rfl rfl (val_move rfl) ?_
                refine .q rfl rfl rfl (val_ix el_27 rfl rfl rfl rfl hi) ?_
                refine .store rfl rfl rfl rfl rfl sz_3 rfl H20 (.there (.there (.there (.there .here)))) (by rw [Nat.zero_add, Nat.mul_one]; exact Spl_cell (by simpa using hi)) (fun w21 H21 => ⟨fun _ => trivial, ?_⟩)
                refine .nil (cj ?_)
                refine .seq ?_
                refine .plain rfl ?_
                refine .q rfl rfl rfl (val_assign rfl) ?_
                refine .nil (cj ?_)
                refine .ret (fret (res1 rfl rfl) ?_)
                refine hRR _ _ ⟨_, ⟨_, rfl, rfl, trivial⟩, H21.sub (.cons (.there .here) (.cons (.there .here) (.cons .here .nil)))⟩
end
end Go.Proofs.YtmbibkifbehgnaaGreatDoor
namespace Go.Proofs.YtmbibkifbehgnaaGreatDoor
open Go Sk
set_option linter.unusedVariables false
set_option linter.unusedSimpArgs false
set_option linter.unusedSectionVars false
theorem flat_take {α : Type} {enc : α → List Value} {sz : Nat} (hl : ∀ x, (enc x).length = sz) : ∀ (l : List α) (n : Nat), (l.flatMap enc).take (n * sz) = (l.take n).flatMap enc
  | [], n => by simp
  | x :: l, 0 => by simp
  | x :: l, n + 1 => by
    rw [List.flatMap_cons, List.take_succ_cons, List.flatMap_cons, Nat.succ_mul, Nat.add_comm, ← hl x, List.take_length_add_append, hl x, flat_take hl l n]
/-- what stands where -/
structure Stm where
  bins : List (List Int)
  loads : List Int
structure Stm.Ok (c : Cf) (s : Stm) : Prop where
  b : s.bins.length = area c
  r : s.loads.length ≤ 8
  n : ∀ l ∈ s.bins, l.length ≤ 8
abbrev stkE (c : Cf) (b : Nat) (loads : List Int) (x : SX) : List As := [tblk c b x loads.length, gfix c x.bg x.bk, kblk x.bk (KF c), blk x.bb (x.bs.map fun b => b.v) 27, sep (x.bs.map rowB), blk x.bl (loads.map fun z => i64 z) 3]
def stkA (c : Cf) (b : Nat) (s : Stm) : As := exAs (ι := { x : SX // x.bs.map (·.l) = s.bins }) fun x => stkE c b s.loads x.1
structure LR where
  bin : Int
  e : Int
  s : Stm
def liftM (c : Cf) (s : Stm) (i : Nat) (px py : Int) : LR :=
  if openR c px py = false then ⟨0, 1, s⟩
  else if s.loads.getD i 0 ≠ 0 then ⟨0, 8, s⟩
  else if (s.bins.getD (numI c ⟨px, py⟩) []).length = 0 then ⟨0, 3, s⟩
  else
    let l := s.bins.getD (numI c ⟨px, py⟩) []
    let u := l.getD (l.length - 1) 0
    ⟨u, 0, ⟨s.bins.set (numI c ⟨px, py⟩) (l.take (l.length - 1)), s.loads.set i u⟩⟩
structure DR where
  e : Int
  s : Stm
def dropM (c : Cf) (s : Stm) (i : Nat) (px py : Int) : DR :=
  if openR c px py = false then ⟨1, s⟩
  else if s.loads.getD i 0 = 0 then ⟨8, s⟩
  else if roomI c px py ≤ ((s.bins.getD (numI c ⟨px, py⟩) []).length : Int) then ⟨2, s⟩
  else ⟨0, ⟨s.bins.set (numI c ⟨px, py⟩) (s.bins.getD (numI c ⟨px, py⟩) [] ++ [s.loads.getD i 0]), s.loads.set i 0⟩⟩
section
variable {P : Program} {f : FuncId} {args : Array Value} {R F F' Rc : List As} {Post : Ending → List As → Prop}
/-- All that is owned is only read. -/
theorem Sk.Spec.keep {e0 : Ending} (h : Sk.Spec P f args Rc [] fun e F' => e = e0 ∧ F' = []) (hR : Sub R F Rc) : Sk.Spec P f args R F fun e F' => e = e0 ∧ F' = F :=
  (h.frame .nil hR).conseq fun e F' ⟨F1, ⟨h1, h2⟩, h3⟩ => ⟨F, ⟨h1, rfl⟩, fun X w hX => ⟨X, by rw [h3, h2] at hX; exact hX, fun _ h => h⟩⟩
end
section
variable {c : Cf} {b : Nat} {s : Stm}
theorem stkA_in {F : List As} {X : Nat → Prop} {w : World} (x : SX) (hx : x.bs.map (·.l) = s.bins) (h : Own (stkE c b s.loads x ++ F) X w) : Own (stkA c b s :: F) X w := Own.exIn (ι := { x : SX // x.bs.map (·.l) = s.bins }) ⟨x, hx⟩ h
theorem bs_get {x : SX} (hx : x.bs.map (·.l) = s.bins) {n : Nat} (hn : n < s.bins.length) : ∃ v, x.bs[n]? = some ⟨v, s.bins.getD n []⟩ := by
  have hl : n < x.bs.length := by rw [← hx] at hn; simpa using hn
  have e := List.getElem?_eq_getElem hl
  have : s.bins[n]? = some (x.bs[n].l) := by rw [← hx]; simp [e]
  refine ⟨x.bs[n].v, ?_⟩
  rw [e, List.getD_eq_getElem?_getD, this]; rfl
theorem sloadA_spec {i : Nat} {z : Int} (hz : s.loads[i]? = some z) (hok : s.Ok c) : Sk.Spec Tryz.prog 89 #[ptr b, i64 (i : Int)] [stkA c b s] [] fun e F' => e = .returned (i64 z) ∧ F' = [] :=
  Spec.openR fun x => (sload_spec c b x.1 s.loads i z hz hok.r).ro (.ro .here (.ro (.there (.there (.there (.there (.there .here))))) .nil))
theorem row_out {n : Nat} {x : SX} {v : Value} {l : List Int} (h : x.bs[n]? = some ⟨v, l⟩) : (x.bs.map rowB)[n]? = some (row v 3 1 l.length (l.flatMap encI)) := by simp [h]
theorem liftA_spec (hm : MayOk c) (hok : s.Ok c) {i : Nat} (hi : i < s.loads.length) (px py : Int) : Sk.Spec Tryz.prog 88 #[ptr b, i64 (i : Int), .agg #[i64 px, i64 py]] [] [stkA c b s] fun e F' => e = .returned (.tuple #[i64 (liftM c s i px py).bin, i64 (liftM c s i px py).e]) ∧ F' = [stkA c b (liftM c s i px py).s] := by
  refine Spec.openF fun ⟨x, hx⟩ => ?_
  rw [List.append_nil]
  have fin : ∀ {e0 : Ending}, (Sk.Spec Tryz.prog 88 #[ptr b, i64 (i : Int), .agg #[i64 px, i64 py]] [] (stkE c b s.loads x) fun e F' => e = e0 ∧ F' = stkE c b s.loads x) → Sk.Spec Tryz.prog 88 #[ptr b, i64 (i : Int), .agg #[i64 px, i64 py]] [] (stkE c b s.loads x) fun e F' => e = e0 ∧ F' = [stkA c b s] := fun h =>
    h.conseq fun e F' ⟨h1, h2⟩ => ⟨_, ⟨h1, rfl⟩, fun X w hX => ⟨X, stkA_in x hx (by rw [List.append_nil, ← h2]; exact hX), fun _ h => h⟩⟩
  unfold liftM
  by_cases ho : openR c px py = false
  · rw [if_pos ho]
    exact fin ((lift0_spec c hm b x s.loads i px py hok.r ho).keep (.own .here (.own (.there .here) (.own (.there (.there .here)) .nil))))
  · rw [if_neg ho]
    have ho : openR c px py = true := by simpa using ho
    have hn := (numI_lt hm.num (openR_in ho)).1
    have hnb : numI c ⟨px, py⟩ < s.bins.length := by rw [hok.b]; exact hn
    obtain ⟨v, hv⟩ := bs_get hx hnb
    have hz := getD_get hi 0
    have hl : (s.bins.getD (numI c ⟨px, py⟩) []).length ≤ 8 := hok.n _ (List.mem_of_getElem? (getD_get hnb []))
    generalize s.bins.getD (numI c ⟨px, py⟩) [] = l at hv hl ⊢
    generalize s.loads.getD i 0 = z at hz ⊢
    have hr := row_out hv
    have three : ∀ {e0 : Ending} {F2 : List As}, (∀ A cap, v = .slice A l.length cap → l.length ≤ cap → (A = none → l.length = 0 ∧ cap = 0) → (∀ a, A = some a → a = ⟨a.block, 0, none⟩) → Sk.Spec Tryz.prog 88 #[ptr b, i64 (i : Int), .agg #[i64 px, i64 py]] [] (stkE c b s.loads x) fun e F' => e = e0 ∧ F' = F2) → Sk.Spec Tryz.prog 88 #[ptr b, i64 (i : Int), .agg #[i64 px, i64 py]] [] (stkE c b s.loads x) fun e F' => e = e0 ∧ F' = F2 := fun h w X hF hR => by
      obtain ⟨Y, hY, _⟩ := Own.mem (show sep (x.bs.map rowB) ∈ stkE c b s.loads x by simp) hF
      obtain ⟨Z, hZ, _⟩ := Own.mem (List.mem_of_getElem? hr) hY
      rcases hZ.1.2 with ⟨h1, h2⟩ | ⟨g, cap, cur, h1, _, _, h3, _⟩
      · exact h none 0 (by rw [h1, h2]) (by omega) (fun _ => ⟨h2, rfl⟩) (fun a ha => by cases ha) w X hF hR
      · exact h _ cap h1 h3 (fun h => by cases h) (fun a ha => by cases ha; rfl) w X hF hR
    by_cases h0 : z ≠ 0
    · rw [if_pos h0]
      refine fin (three fun A cap hA hcap hnil hat => ?_)
      subst hA
      have h := lift1_spec c hm b x s.loads i px py hok.r z hz ho hv hl (.inl h0)
      rw [if_pos h0] at h
      exact h.keep (.own .here (.own (.there .here) (.own (.there (.there .here)) (.own (.there (.there (.there .here))) (.own (.there (.there (.there (.there (.there .here))))) .nil)))))
    · rw [if_neg h0]
      by_cases hl0 : l.length = 0
      · rw [if_pos hl0]
        refine fin (three fun A cap hA hcap hnil hat => ?_)
        subst hA
        have h := lift1_spec c hm b x s.loads i px py hok.r z hz ho hv hl (.inr (List.eq_nil_of_length_eq_zero hl0))
        rw [if_neg h0] at h
        exact h.keep (.own .here (.own (.there .here) (.own (.there (.there .here)) (.own (.there (.there (.there .here))) (.own (.there (.there (.there (.there (.there .here))))) .nil)))))
      · rw [if_neg hl0]
        refine three fun A cap hA hcap hnil hat => ?_
        subst hA
        obtain ⟨a, rfl⟩ : ∃ a, A = some a := by
          cases A with
          | none => exact absurd (hnil rfl).1 hl0
          | some a => exact ⟨a, rfl⟩
        have hu := getD_get (show l.length - 1 < l.length by omega) 0
        have h := lift2_spec c hm b x s.loads i px py hok.r z hz ho hv hl (congrArg some (hat a rfl)) hcap (by simpa using h0) hu
        have h2 : Sk.Spec Tryz.prog 88 #[ptr b, i64 (i : Int), .agg #[i64 px, i64 py]] [] (row (.slice (some a) l.length cap) 3 1 l.length (l.flatMap encI) :: sep ((x.bs.map rowB).eraseIdx (numI c ⟨px, py⟩)) :: [tblk c b x s.loads.length, gfix c x.bg x.bk, kblk x.bk (KF c), blk x.bb (x.bs.map fun b => b.v) 27, blk x.bl (s.loads.map fun z => i64 z) 3]) _ :=
          h.frame (.cons (.there (.there (.there (.there (.there .here))))) (.cons .here (.cons (.there (.there (.there (.there .here)))) .nil))) (.own (.there .here) (.own (.there (.there .here)) (.own (.there (.there (.there .here))) .nil)))
        have h3 := Spec.nthO (F := [tblk c b x s.loads.length, gfix c x.bg x.bk, kblk x.bk (KF c), blk x.bb (x.bs.map fun b => b.v) 27, blk x.bl (s.loads.map fun z => i64 z) 3]) hr h2
        intro w X hF hR
        refine ((h3.conseq ?_) w X (Own.perm (.cons (.there (.there (.there (.there .here)))) (Ats.refl _)) hF) hR)
        rintro e F' ⟨F1, ⟨rfl, rfl⟩, rfl⟩
        refine ⟨_, ⟨rfl, rfl⟩, fun X w hX => ⟨X, ?_, fun _ h => h⟩⟩
        refine stkA_in { x with bs := x.bs.set (numI c ⟨px, py⟩) ⟨.slice (some a) (l.length - 1) cap, l.take (l.length - 1)⟩ } ?_ ?_
        · rw [List.map_set, hx]
        · have hX2 : Own (row (.slice (some a) (l.length - 1) cap) 3 1 (l.length - 1) ((l.flatMap encI).take ((l.length - 1) * 1)) :: sep ((x.bs.map rowB).eraseIdx (numI c ⟨px, py⟩)) :: [blk x.bb ((x.bs.map fun b => b.v).set (numI c ⟨px, py⟩) (.slice (some a) (l.length - 1) cap)) 27, blk x.bl ((s.loads.map fun z => i64 z).set i (i64 (l.getD (l.length - 1) 0))) 3, tblk c b x s.loads.length, gfix c x.bg x.bk, kblk x.bk (KF c)]) X w :=
            Own.perm (.cons (.there .here) (.cons (.there (.there .here)) (Ats.refl _))) hX
          have hX3 := Own.nthIn (by simpa using lt_of_some hv) hX2
          have e1 : (x.bs.map rowB).set (numI c ⟨px, py⟩) (row (.slice (some a) (l.length - 1) cap) 3 1 (l.length - 1) ((l.flatMap encI).take ((l.length - 1) * 1))) = (x.bs.set (numI c ⟨px, py⟩) ⟨.slice (some a) (l.length - 1) cap, l.take (l.length - 1)⟩).map rowB := by
            rw [List.map_set]
            congr 1
            have e2 : (l.take (l.length - 1)).length = l.length - 1 := by rw [List.length_take]; omega
            have e3 : (l.flatMap encI).take ((l.length - 1) * 1) = (l.take (l.length - 1)).flatMap encI := by
              exact flat_take encI_len l _
            simp only [rowB, e2, e3]
          rw [e1] at hX3
          have e4 : (s.loads.map fun z => i64 z).set i (i64 (l.getD (l.length - 1) 0)) = (s.loads.set i (l.getD (l.length - 1) 0)).map fun z => i64 z := by rw [List.map_set]
          have e5 : (x.bs.map fun b => b.v).set (numI c ⟨px, py⟩) (.slice (some a) (l.length - 1) cap) = (x.bs.set (numI c ⟨px, py⟩) ⟨.slice (some a) (l.length - 1) cap, l.take (l.length - 1)⟩).map fun b => b.v := by rw [List.map_set]
          rw [e4, e5] at hX3
          have e6 : s.loads.length = (s.loads.set i (l.getD (l.length - 1) 0)).length := by simp
          rw [e6] at hX3
          exact Own.perm (.cons (.there (.there (.there .here))) (.cons (.there (.there (.there .here))) (.cons (.there (.there (.there .here))) (.cons (.there .here) (.cons .here (.cons .here .nil)))))) hX3
end
end Go.Proofs.YtmbibkifbehgnaaGreatDoor
namespace Go.Proofs.YtmbibkifbehgnaaGreatDoor
open Go Sk
set_option linter.unusedVariables false
set_option linter.unusedSimpArgs false
set_option linter.unusedSectionVars false
theorem en85 : Enters Tryz.prog 85 := fun args w => by kernel_rfl
theorem ap_161  : apB Tryz.prog 161 27 1 24 = true := by kernel_rfl
theorem mk_163_0_1_2_3_4_5 (x0_ : Option Addr) (x1_ : Int) (x2_ : Int) (x3_ : Int) (x4_A : Option Addr) (x4_n : Nat) (x4_c : Nat) (x5_A : Option Addr) (x5_n : Nat) (x5_c : Nat) : Tryz.prog.built 163 [(0, .pointer x0_), (1, .int .i64 x1_), (2, .int .i64 x2_), (3, .int .i64 x3_), (4, .slice x4_A x4_n x4_c), (5, .slice x5_A x5_n x5_c)] = some (List.toArray [.pointer x0_, .int .i64 x1_, .int .i64 x2_, .int .i64 x3_, .slice x4_A x4_n x4_c, .slice x5_A x5_n x5_c]) := by kernel_rfl
theorem ze_27  : (Tryz.prog.info? 27).bind (·.zero) = some (.slice none 0 0) := by kernel_rfl
section
variable {c : Cf} {b : Nat} {s : Stm}
theorem stk_close {x : SX} {n : Nat} {v' : Value} {l' : List Int} {loads' : List Int} (hx : x.bs.map (·.l) = s.bins) (hn : n < x.bs.length) (hlen : s.loads.length = loads'.length) {X : Nat → Prop} {w : World}
    (h : Own (row v' 3 1 l'.length (l'.flatMap encI) :: sep ((x.bs.map rowB).eraseIdx n) :: [blk x.bb ((x.bs.map fun b => b.v).set n v') 27, blk x.bl (loads'.map fun z => i64 z) 3, tblk c b x s.loads.length, gfix c x.bg x.bk, kblk x.bk (KF c)]) X w) :
    Own [stkA c b ⟨s.bins.set n l', loads'⟩] X w := by
  refine stkA_in { x with bs := x.bs.set n ⟨v', l'⟩ } ?_ ?_
  · rw [List.map_set, hx]
  · have h3 := Own.nthIn (by simpa using hn) h
    have e1 : (x.bs.map rowB).set n (row v' 3 1 l'.length (l'.flatMap encI)) = (x.bs.set n ⟨v', l'⟩).map rowB := by rw [List.map_set]
    have e5 : (x.bs.map fun b => b.v).set n v' = (x.bs.set n ⟨v', l'⟩).map fun b => b.v := by rw [List.map_set]
    rw [e1, e5, hlen] at h3
    exact Own.perm (.cons (.there (.there (.there .here))) (.cons (.there (.there (.there .here))) (.cons (.there (.there (.there .here))) (.cons (.there .here) (.cons .here (.cons .here .nil)))))) h3
theorem dropA_spec (hm : MayOk c) (hok : s.Ok c) {i : Nat} (hi : i < s.loads.length) (px py : Int) : Sk.Spec Tryz.prog 90 #[ptr b, i64 (i : Int), .agg #[i64 px, i64 py]] [] [stkA c b s] fun e F' => e = .returned (i64 (dropM c s i px py).e) ∧ F' = [stkA c b (dropM c s i px py).s] := by
  refine Spec.openF fun ⟨x, hx⟩ => ?_
  rw [List.append_nil]
  have fin : ∀ {e0 : Ending}, (Sk.Spec Tryz.prog 90 #[ptr b, i64 (i : Int), .agg #[i64 px, i64 py]] [] (stkE c b s.loads x) fun e F' => e = e0 ∧ F' = stkE c b s.loads x) → Sk.Spec Tryz.prog 90 #[ptr b, i64 (i : Int), .agg #[i64 px, i64 py]] [] (stkE c b s.loads x) fun e F' => e = e0 ∧ F' = [stkA c b s] := fun h =>
    h.conseq fun e F' ⟨h1, h2⟩ => ⟨_, ⟨h1, rfl⟩, fun X w hX => ⟨X, stkA_in x hx (by rw [List.append_nil, ← h2]; exact hX), fun _ h => h⟩⟩
  unfold dropM
  by_cases ho : openR c px py = false
  · rw [if_pos ho]
    exact fin ((drop0_spec c hm b x s.loads i px py hok.r ho).keep (.own .here (.own (.there .here) (.own (.there (.there .here)) .nil))))
  · rw [if_neg ho]
    have ho : openR c px py = true := by simpa using ho
    have hn := (numI_lt hm.num (openR_in ho)).1
    have hnb : numI c ⟨px, py⟩ < s.bins.length := by rw [hok.b]; exact hn
    obtain ⟨v, hv⟩ := bs_get hx hnb
    have hz := getD_get hi 0
    have hl : (s.bins.getD (numI c ⟨px, py⟩) []).length ≤ 8 := hok.n _ (List.mem_of_getElem? (getD_get hnb []))
    generalize s.bins.getD (numI c ⟨px, py⟩) [] = l at hv hl ⊢
    generalize s.loads.getD i 0 = z at hz ⊢
    have hr := row_out hv
    have three : ∀ {e0 : Ending} {F2 : List As}, (∀ A cap, v = .slice A l.length cap → l.length ≤ cap → Sk.Spec Tryz.prog 90 #[ptr b, i64 (i : Int), .agg #[i64 px, i64 py]] [] (stkE c b s.loads x) fun e F' => e = e0 ∧ F' = F2) → Sk.Spec Tryz.prog 90 #[ptr b, i64 (i : Int), .agg #[i64 px, i64 py]] [] (stkE c b s.loads x) fun e F' => e = e0 ∧ F' = F2 := fun h w X hF hR => by
      obtain ⟨Y, hY, _⟩ := Own.mem (show sep (x.bs.map rowB) ∈ stkE c b s.loads x by simp) hF
      obtain ⟨Z, hZ, _⟩ := Own.mem (List.mem_of_getElem? hr) hY
      rcases hZ.1.2 with ⟨h1, h2⟩ | ⟨g, cap, cur, h1, _, _, h3, _⟩
      · exact h none 0 (by rw [h1, h2]) (by omega) w X hF hR
      · exact h _ cap h1 h3 w X hF hR
    by_cases h0 : z = 0
    · rw [if_pos h0]
      exact fin ((drop1_spec c hm b x s.loads i px py hok.r z hz ho h0).keep (.own .here (.own (.there .here) (.own (.there (.there .here)) (.own (.there (.there (.there (.there (.there .here))))) .nil)))))
    · rw [if_neg h0]
      by_cases hroom : roomI c px py ≤ (l.length : Int)
      · rw [if_pos hroom]
        refine fin (three fun A cap hA hcap => ?_)
        subst hA
        exact (drop2_spec c hm b x s.loads i px py hok.r z hz ho hv hl h0 hroom).keep (.own .here (.own (.there .here) (.own (.there (.there .here)) (.own (.there (.there (.there .here))) (.own (.there (.there (.there (.there (.there .here))))) .nil)))))
      · rw [if_neg hroom]
        refine three fun A cap hA hcap => ?_
        subst hA
        have h := drop3_spec c hm b x s.loads i px py hok.r z hz ho hv hl h0 (by omega)
        have h2 : Sk.Spec Tryz.prog 90 #[ptr b, i64 (i : Int), .agg #[i64 px, i64 py]] [] (row (.slice A l.length cap) 3 1 l.length (l.flatMap encI) :: sep ((x.bs.map rowB).eraseIdx (numI c ⟨px, py⟩)) :: [tblk c b x s.loads.length, gfix c x.bg x.bk, kblk x.bk (KF c), blk x.bb (x.bs.map fun b => b.v) 27, blk x.bl (s.loads.map fun z => i64 z) 3]) _ :=
          h.frame (.cons (.there (.there (.there (.there (.there .here))))) (.cons .here (.cons (.there (.there (.there (.there .here)))) .nil))) (.own (.there .here) (.own (.there (.there .here)) (.own (.there (.there (.there .here))) .nil)))
        have h3 := Spec.nthO (F := [tblk c b x s.loads.length, gfix c x.bg x.bk, kblk x.bk (KF c), blk x.bb (x.bs.map fun b => b.v) 27, blk x.bl (s.loads.map fun z => i64 z) 3]) hr h2
        intro w X hF hR
        refine ((h3.conseq ?_) w X (Own.perm (.cons (.there (.there (.there (.there .here)))) (Ats.refl _)) hF) hR)
        rintro e F' ⟨F1, ⟨v2, rfl, rfl, _⟩, rfl⟩
        refine ⟨_, ⟨rfl, rfl⟩, fun X w hX => ⟨X, stk_close (v' := v2) hx (lt_of_some hv) (by simp) ?_, fun _ h => h⟩⟩
        have e3 : (l ++ [z]).flatMap encI = l.flatMap encI ++ [i64 z] := by rw [List.flatMap_append]; rfl
        have e4 : (s.loads.map fun z => i64 z).set i (i64 0) = (s.loads.set i 0).map fun z => i64 z := by rw [List.map_set]
        rw [e3, List.length_append, ← e4]
        exact Own.perm (.cons (.there .here) (.cons (.there (.there .here)) (Ats.refl _))) hX
end
/-! ### New -/
/-- the bins, of the first i stacks -/
def layM (c : Cf) : Nat → List (List Int)
  | 0 => List.replicate (area c) []
  | i + 1 => match c.stacks[i]? with
    | some s => (layM c i).set (numI c ⟨s.x, s.y⟩) s.bins
    | none => layM c i
theorem layM_len (c : Cf) : ∀ i, (layM c i).length = area c
  | 0 => by simp [layM]
  | i + 1 => by
    unfold layM
    split
    · rw [List.length_set, layM_len c i]
    · exact layM_len c i
def stm0 (c : Cf) : Stm := ⟨layM c c.stacks.length, List.replicate c.robots.length 0⟩
structure BN0 where
  i : Nat
  bs : List BN
theorem sep_rep {w0 w : World} {M : Nat → Prop} {R F : List As} (H : St w0 w M R F) : ∀ n, St w0 w M R (sep ((List.replicate n (⟨.slice none 0 0, []⟩ : BN)).map rowB) :: F)
  | 0 => H.sepNil
  | n + 1 => by
    rw [List.replicate_succ', List.map_append]
    exact St.snoc ((sep_rep H n).rowNil 3 1)
theorem sb_row {w0 w : World} {M : Nat → Prop} {R F F' : List As} {bs : List BN} {n : Nat} {v : Value} {l : List Int} (H : St w0 w M R F) (hn : n < bs.length) (hat : Ats F [row v 3 1 l.length (l.flatMap encI), sep (bs.map rowB)] F') :
    St w0 w M R (sep ((bs.set n ⟨v, l⟩).map rowB) :: F') := by
  have hg : (bs.map rowB)[n]? = some (rowB bs[n]) := by simp [List.getElem?_eq_getElem hn]
  have e1 : (bs.map rowB).set n (row v 3 1 l.length (l.flatMap encI)) = (bs.set n ⟨v, l⟩).map rowB := by rw [List.map_set]
  obtain ⟨⟨X, h1, h2, h3⟩, h4⟩ := H
  obtain ⟨X1, X2, ⟨Y1, Y2, g1, ⟨Z1, Z2, k1, k2, k3, k4⟩, g3, g4⟩, h5, h6, h7⟩ := Own.picks hat h1
  -- the old row is let go
  obtain ⟨U1, U2, u1, u2, u3, u4⟩ := Own.pick (At.nth hg) k1
  have hz : ∀ k, Z1 k → Y2 k := fun k hk => (k4 k).2 (.inl hk)
  have hu : ∀ k, U2 k → Z1 k := fun k hk => (u4 k).2 (.inr hk)
  have hy : ∀ k, Y1 k → X1 k := fun k hk => (g4 k).2 (.inl hk)
  have hy2 : ∀ k, Y2 k → X1 k := fun k hk => (g4 k).2 (.inr hk)
  have hown : Own (row v 3 1 l.length (l.flatMap encI) :: sep ((bs.map rowB).eraseIdx n) :: F') (fun k => Y1 k ∨ U2 k ∨ X2 k) w := by
    refine ⟨Y1, fun k => U2 k ∨ X2 k, g1, ⟨U2, X2, u2, h5, fun k hk hx => h6 k (hy2 k (hz k (hu k hk))) hx, fun k => Iff.rfl⟩, ?_, fun k => Iff.rfl⟩
    rintro k hk (h | h)
    · exact g3 k hk (hz k (hu k h))
    · exact h6 k (hy k hk) h
  have hsub : ∀ k, (Y1 k ∨ U2 k ∨ X2 k) → X k := by
    rintro k (h | h | h)
    · exact (h7 k).2 (.inl (hy k h))
    · exact (h7 k).2 (.inl (hy2 k (hz k (hu k h))))
    · exact (h7 k).2 (.inr h)
  have h9 := Own.nthIn (by simpa using hn) hown
  rw [e1] at h9
  exact ⟨⟨_, h9, fun r hr => by
    obtain ⟨Y, hY, hd⟩ := h2 r hr
    exact ⟨Y, hY, fun k hk hx => hd k hk (hsub k hx)⟩, fun k hk => h3 k (hsub k hk)⟩, h4⟩
theorem stkNew_spec (c : Cf) (hc : c.Fit) (hm : MayOk c) : Sk.Spec Tryz.prog 53 #[.agg (encCf c).toArray] [cb c, cp c, cr c, cs c, binsA c, stepsA] [] fun e F' => ∃ b : Nat, e = .returned (.tuple #[ptr b, i64 0]) ∧ F' = [stkA c b (stm0 c)] ∧ True := by
  have hn := hm.num
  obtain ⟨ha, ha2, ha1⟩ := area_le hn
  have hl := hc.s
  have hrl := hm.rl
  simp only [maxLen] at hl
  have hw : w64 (c.w * c.h) = ((area c : Nat) : Int) := (w64_of (by omega)).trans ha.symm
  refine Spec.of_code (vs := [_]) (k0 := [(0, _)]) 57 Tryz.func53 rfl Tryz.ntmps53 rfl (.cons .nil) fun w X RR hRR H => ?_
  refine .seq ?_
  refine .plain rfl ?_
  refine .box rfl rfl rfl rfl rfl H (fun w1 b1 H1 => ⟨fun _ => trivial, ?_⟩)
  refine .q rfl rfl rfl (val_assign rfl) ?_
  refine .q rfl rfl rfl (val_assign rfl) ?_
  refine .nil (cj ?_)
  refine .seq ?_
  refine .plain rfl ?_
  refine .qs rfl rfl rfl H1 (ld_w rfl ag_26 (.own .here) rfl) ?_
  refine .callx rfl rfl rfl en36 (.cons rfl .nil) (gnew_spec c hc hm) H1 .nil (.ro .here (.ro (.there .here) (.ro (.there (.there .here)) (.ro (.there (.there (.there .here))) (.ro (.there (.there (.there (.there .here)))) (.ro (.there (.there (.there (.there (.there .here))))) .nil)))))) (fun x2 w2 C2 H2 => ⟨fun _ => trivial, ?_⟩)
  refine .q rfl rfl rfl (val_move rfl) ?_
  refine .q rfl rfl rfl (val_extract rfl rfl) ?_
  refine .q rfl rfl rfl (val_extract rfl rfl) ?_
  refine .q rfl rfl rfl (val_assign rfl) ?_
  refine .q rfl rfl rfl (val_assign rfl) ?_
  refine .nil (cj ?_)
  refine .seq ?_
  refine .seq ?_
  refine .plain rfl ?_
  refine .q rfl rfl rfl (val_move rfl) ?_
  refine .q rfl rfl rfl (val_neq rfl rfl rfl) ?_
  refine .nil (cj ?_)
  refine .cond rfl (fun hc0 => ?_) (fun hc0 => ?_)
  · exfalso; simp at hc0
  · refine .skip (cj ?_)
    refine .seq ?_
    refine .drawS 20 (.cons (0, true) (.cons (1, true) (.cons (2, true) (.cons (3, true) (.cons (4, true) (.cons (5, true) (.cons (6, true) (.cons (7, true) (.cons (8, true) (.cons (9, true) (.cons (10, true) (.cons (11, true) (.cons (13, true) (.cons (14, true) (.cons (15, true) (.fork 12 (.cons (16, false) (.cons (17, true) (.cons (18, false) (.cons (19, true) .nil)))) 16 (.cons (12, false) (.cons (17, true) (.cons (18, false) (.cons (19, true) .nil)))))))))))))))))))) mo (by kernel_rfl) H2 (fun _ _ _ _ _ h => h) (fun w3 H3 => ?_)
    refine .p rfl rfl rfl (val_move rfl) ?_
    refine .p rfl rfl rfl (val_fieldAddr rfl fa_26_0) ?_
    refine .ps rfl rfl rfl rfl (ld_b rfl ob_3 (.own (.there (.there .here))) rfl) ?_
    refine .p rfl rfl rfl (val_fieldAddr rfl fa_26_1) ?_
    refine .ps rfl rfl rfl rfl (ld_b rfl ob_3 (.own (.there (.there .here))) rfl) ?_
    refine .p rfl rfl rfl (val_fieldAddr rfl fa_26_2) ?_
    refine .ps rfl rfl rfl rfl (ld_b rfl ob_3 (.own (.there (.there .here))) rfl) ?_
    refine .p rfl rfl rfl (val_fieldAddr rfl fa_26_0) ?_
    refine .ps rfl rfl rfl rfl (ld_b rfl ob_3 (.own (.there (.there .here))) rfl) ?_
    refine .p rfl rfl rfl (val_fieldAddr rfl fa_26_1) ?_
    refine .ps rfl rfl rfl rfl (ld_b rfl ob_3 (.own (.there (.there .here))) rfl) ?_
    refine .p rfl rfl rfl (val_mul rfl rfl hw) ?_
    refine .p rfl rfl rfl (val_fieldAddr rfl fa_26_5) ?_
    refine .ps rfl rfl rfl rfl (ld_b rfl ob_23 (.own (.there (.there .here))) rfl) ?_
    refine .p rfl rfl rfl (val_len Tryz.underlying23 rfl) ?_
    refine .fork ?_ ?_
    · refine .mk rfl rfl rfl ap_161 ze_27 rfl rfl (Nat.le_refl _) (by omega) (by simp only [maxLen]; omega) (made_one _ _) H3 (fun w4 b4 H4 => ⟨fun _ => (H4.sub (.cons (.there .here) (.cons (.there .here) (.cons (.there .here) .nil)))), ?_⟩)
      refine .mk rfl rfl rfl ap_27 ze_3 rfl rfl (Nat.le_refl _) (by omega) (by simp only [maxLen]; omega) (made_one _ _) H4 (fun w5 b5 H5 => ⟨fun _ => (H5.sub (.cons (.there (.there .here)) (.cons (.there (.there .here)) (.cons (.there (.there .here)) .nil)))), ?_⟩)
      refine .p rfl rfl rfl (val_mk (.cons rfl (.cons rfl (.cons rfl (.cons rfl (.cons rfl (.cons rfl .nil)))))) (mk_163_0_1_2_3_4_5 _ _ _ _ _ _ _ _ _ _)) ?_
      refine .box rfl rfl rfl rfl rfl H5 (fun w6 b6 H6 => ⟨fun _ => (H6.sub (.cons (.there (.there (.there .here))) (.cons (.there (.there (.there .here))) (.cons (.there (.there (.there .here))) .nil)))), ?_⟩)
      refine .p rfl rfl rfl (val_assign rfl) ?_
      refine .nil (cj ?_)
      refine .seq ?_
      refine .seq ?_
      refine .plain rfl ?_
      refine .q rfl rfl rfl (val_fieldAddr rfl fa_26_6) ?_
      refine .qs rfl rfl rfl H6 (ld_b rfl ob_24 (.own (.there (.there (.there (.there (.there .here)))))) rfl) ?_
      refine .q rfl rfl rfl (val_len Tryz.underlying24 rfl) ?_
      refine .q rfl rfl rfl (val_move rfl) ?_
      refine .nil (cj ?_)
      refine .block ?_
      refine .loop (ι := BN0) (fun x => [(1, ptr b1), (4, ptr x2.bg), (6, ptr b6), (37, .slice c.sA c.stacks.length c.sc), (38, i64 ((c.stacks.length : Nat) : Int)), (39, i64 (x.i : Int))]) (fun x w' => St w w' X [cb c, cp c, cr c, cs c, binsA c, stepsA] [blk b1 (encCf c) 26, tblk c b6 ⟨x2.bg, x2.bk, b4, b5, x.bs⟩ (List.replicate c.robots.length (0 : Int)).length, gfix c x2.bg x2.bk, kblk x2.bk (KF c), blk b4 (x.bs.map fun b => b.v) 27, sep (x.bs.map rowB), blk b5 ((List.replicate c.robots.length (0 : Int)).map fun z => i64 z) 3] ∧ x.i ≤ c.stacks.length ∧ x.bs.map (·.l) = layM c x.i) (fun x => c.stacks.length - x.i) ⟨0, List.replicate (area c) ⟨.slice none 0 0, []⟩⟩ (by repeat (first | exact Pick.nil | refine Pick.cons rfl ?_)) ⟨by have hh := sep_rep H6 (area c); simp only [List.map_replicate, List.length_replicate] at hh ⊢; exact hh.sub (.cons (.there (.there (.there (.there (.there (.there .here)))))) (.cons (.there .here) (.cons (.there (.there (.there .here))) (.cons (.there (.there (.there .here))) (.cons (.there (.there .here)) (.cons .here (.cons .here .nil))))))), Nat.zero_le _, by simp [layM]⟩ ?_
      rintro x w5 ⟨H7, hi, hlay⟩
      refine .seq ?_
      refine .plain rfl ?_
      refine .q rfl rfl rfl (val_lss rfl rfl rfl) ?_
      refine .nil (cj ?_)
      refine .seq ?_
      refine .cond rfl (fun hc1 => ?_) (fun hc1 => ?_)
      · have hil : x.i < c.stacks.length := by simp only [decide_eq_true_eq] at hc1; omega
        obtain ⟨s, hs⟩ : ∃ s, c.stacks[x.i]? = some s := ⟨_, List.getElem?_eq_getElem hil⟩
        obtain ⟨b, o, hA⟩ := Has.base (.ro (.there (.there (.there .here)))) H7 (nil_of_flat encS_len (by decide) hil)
        obtain ⟨HB, hnil⟩ := binsA_more (.there (.there (.there (.there .here)))) H7 hs
        have hst := hm.bins.st x.i s hs
        have hh8 := hn.height
        have hsb : s.bins.length ≤ 1000000 := by omega
        have hin : inR c s.x s.y = true := by have h9 := hst.1; simp only [stackedR, Bool.and_eq_true] at h9; exact openR_in h9.1.1.1
        obtain ⟨hlt, hnb⟩ := numI_lt hn hin
        have hbl : numI c ⟨s.x, s.y⟩ < x.bs.length := by have h9 := congrArg List.length hlay; rw [layM_len, List.length_map] at h9; omega
        refine .skip (cj ?_)
        refine .seq ?_
        refine .block ?_
        refine .seq ?_
        refine .plain rfl ?_
        refine .q rfl rfl rfl (val_ix el_24 hA rfl rfl rfl hil) ?_
        refine .qs rfl rfl rfl HB (ld_ela rfl ag_114 .base hA (.ro (.there (.there (.there (.there .here))))) encS_len (by first | assumption | rfl)) ?_
        refine .alloc rfl rfl rfl ze_114 rfl HB (fun w8 b8 H8 => ⟨fun _ => trivial, ?_⟩)
        refine .store rfl rfl rfl rfl rfl sz_114 rfl H8 .here (by repeat constructor) (fun w9 H9 => ⟨fun _ => trivial, ?_⟩)
        refine .nil (cj ?_)
        refine .drawS 12 (.cons (0, true) (.cons (1, true) (.cons (2, true) (.cons (3, true) (.cons (4, true) (.cons (5, true) (.cons (6, true) (.cons (8, true) (.cons (9, true) (.cons (7, false) (.cons (10, false) (.cons (11, true) (.cons (12, false) .nil))))))))))))) mo (by kernel_rfl) H9 (fun _ _ _ _ _ h => h) (fun w10 H10 => ?_)
        refine .p rfl rfl rfl (val_move rfl) ?_
        refine .p rfl rfl rfl (val_nilCheck rfl) ?_
        refine .p rfl rfl rfl (val_fieldAddr rfl fa_163_4) ?_
        refine .ps rfl rfl rfl rfl (ld_b rfl ob_161 (.own (.there (.there .here))) rfl) ?_
        refine .p rfl rfl rfl (val_move rfl) ?_
        refine .p rfl rfl rfl (val_fieldAddr rfl fa_114_0) ?_
        refine .ps rfl rfl rfl rfl (ld_blks rfl ag_38 (.own .here) (by repeat constructor)) ?_
        refine .p rfl rfl rfl (val_fieldAddr rfl fa_114_1) ?_
        refine .ps rfl rfl rfl rfl (ld_b rfl ob_27 (.own .here) rfl) ?_
        refine .call1 rfl rfl rfl en86 (.cons rfl (.cons rfl .nil)) (numK_spec c _ _ _ _ hn hin) H10 .nil (.own (.there (.there (.there .here))) .nil) (fun w11 H11 => ⟨fun _ => H11, ?_⟩)
        refine .callx rfl rfl rfl en85 (.cons rfl .nil) (listI_spec _ _ _ hsb hnil) H11 .nil (.ro .here .nil) (fun v12 w12 C12 H12 => ⟨fun _ => (H12.sub (.cons (.there .here) (.cons (.there .here) (.cons (.there .here) (.cons (.there .here) (.cons (.there .here) (.cons (.there .here) (.cons (.there .here) (.cons (.there .here) .nil))))))))), ?_⟩)
        obtain ⟨A9, cap9, rfl⟩ := St.rowVal H12 .here
        refine .p rfl rfl rfl (val_ix el_161 rfl rfl rfl rfl hlt) ?_
        refine .store rfl rfl rfl rfl rfl sz_27 rfl H12 (.there (.there (.there (.there (.there (.there .here)))))) (by rw [Nat.zero_add, Nat.mul_one]; exact Spl_cell (by simpa using hbl)) (fun w13 H13 => ⟨fun h => absurd h (by decide), ?_⟩)
        refine .nil (cj ?_)
        refine .plain rfl ?_
        refine .q rfl rfl rfl (val_add rfl rfl (z := ((x.i + 1 : Nat) : Int)) (w64_of (by omega))) ?_
        refine .q rfl rfl rfl (val_move rfl) ?_
        refine .nil ?_
        intro act0 hact0; change Exists _
        refine ⟨⟨x.i + 1, x.bs.set (numI c ⟨s.x, s.y⟩) ⟨.slice A9 s.bins.length cap9, s.bins⟩⟩, Pick.kn (by repeat (first | exact Pick.nil | refine Pick.cons rfl ?_)) hact0, ⟨by have h9 := sb_row (H13.rest (.ro (.there .here) (.ro (.there (.there .here)) (.ro (.there (.there (.there .here))) (.ro (.there (.there (.there (.there .here)))) (.ro (.there (.there (.there (.there (.there .here))))) (.ro (.there (.there (.there (.there (.there (.there .here)))))) .nil))))))) hbl (.cons (.there .here) (.cons (.there (.there (.there (.there (.there (.there .here)))))) .nil)); have e9 : (x.bs.set (numI c ⟨s.x, s.y⟩) ⟨.slice A9 s.bins.length cap9, s.bins⟩).map (fun b => b.v) = (x.bs.map fun b => b.v).set (numI c ⟨s.x, s.y⟩) (.slice A9 s.bins.length cap9) := List.map_set; rw [e9]; exact h9.sub (.cons (.there (.there (.there .here))) (.cons (.there (.there (.there .here))) (.cons (.there (.there (.there .here))) (.cons (.there (.there (.there .here))) (.cons (.there .here) (.cons .here (.cons (.there .here) .nil))))))), hil, by rw [List.map_set, hlay]; simp only [layM, hs]⟩, (show c.stacks.length - (x.i + 1) < c.stacks.length - x.i by omega)⟩
      · have hil : x.i = c.stacks.length := by simp only [decide_eq_false_iff_not] at hc1; omega
        refine .exit (cj ?_)
        refine .seq ?_
        refine .plain rfl ?_
        refine .q rfl rfl rfl (val_move rfl) ?_
        refine .q rfl rfl rfl (val_assign rfl) ?_
        refine .q rfl rfl rfl (val_assign rfl) ?_
        refine .nil (cj ?_)
        refine .ret (fret (res2 rfl rfl rfl) ?_)
        refine hRR _ _ ⟨_, ⟨_, rfl, rfl, trivial⟩, ?_⟩
        rw [hil] at hlay
        exact (H7.sub (F := _) (.cons (.there .here) (.cons (.there .here) (.cons (.there .here) (.cons (.there .here) (.cons (.there .here) (.cons (.there .here) .nil))))))).map fun X h => stkA_in (s := stm0 c) _ hlay (by rw [List.append_nil]; exact h)
    · refine .mk rfl rfl rfl ap_27 ze_3 rfl rfl (Nat.le_refl _) (by omega) (by simp only [maxLen]; omega) (made_one _ _) H3 (fun w14 b14 H14 => ⟨fun _ => (H14.sub (.cons (.there .here) (.cons (.there .here) (.cons (.there .here) .nil)))), ?_⟩)
      refine .mk rfl rfl rfl ap_161 ze_27 rfl rfl (Nat.le_refl _) (by omega) (by simp only [maxLen]; omega) (made_one _ _) H14 (fun w15 b15 H15 => ⟨fun _ => (H15.sub (.cons (.there (.there .here)) (.cons (.there (.there .here)) (.cons (.there (.there .here)) .nil)))), ?_⟩)
      refine .p rfl rfl rfl (val_mk (.cons rfl (.cons rfl (.cons rfl (.cons rfl (.cons rfl (.cons rfl .nil)))))) (mk_163_0_1_2_3_4_5 _ _ _ _ _ _ _ _ _ _)) ?_
      refine .box rfl rfl rfl rfl rfl H15 (fun w16 b16 H16 => ⟨fun _ => (H16.sub (.cons (.there (.there (.there .here))) (.cons (.there (.there (.there .here))) (.cons (.there (.there (.there .here))) .nil)))), ?_⟩)
      refine .p rfl rfl rfl (val_assign rfl) ?_
      refine .nil (cj ?_)
      refine .seq ?_
      refine .seq ?_
      refine .plain rfl ?_
      refine .q rfl rfl rfl (val_fieldAddr rfl fa_26_6) ?_
      refine .qs rfl rfl rfl H16 (ld_b rfl ob_24 (.own (.there (.there (.there (.there (.there .here)))))) rfl) ?_
      refine .q rfl rfl rfl (val_len Tryz.underlying24 rfl) ?_
      refine .q rfl rfl rfl (val_move rfl) ?_
      refine .nil (cj ?_)
      refine .block ?_
      refine .loop (ι := BN0) (fun x => [(1, ptr b1), (4, ptr x2.bg), (6, ptr b16), (37, .slice c.sA c.stacks.length c.sc), (38, i64 ((c.stacks.length : Nat) : Int)), (39, i64 (x.i : Int))]) (fun x w' => St w w' X [cb c, cp c, cr c, cs c, binsA c, stepsA] [blk b1 (encCf c) 26, tblk c b16 ⟨x2.bg, x2.bk, b15, b14, x.bs⟩ (List.replicate c.robots.length (0 : Int)).length, gfix c x2.bg x2.bk, kblk x2.bk (KF c), blk b15 (x.bs.map fun b => b.v) 27, sep (x.bs.map rowB), blk b14 ((List.replicate c.robots.length (0 : Int)).map fun z => i64 z) 3] ∧ x.i ≤ c.stacks.length ∧ x.bs.map (·.l) = layM c x.i) (fun x => c.stacks.length - x.i) ⟨0, List.replicate (area c) ⟨.slice none 0 0, []⟩⟩ (by repeat (first | exact Pick.nil | refine Pick.cons rfl ?_)) ⟨by have hh := sep_rep H16 (area c); simp only [List.map_replicate, List.length_replicate] at hh ⊢; exact hh.sub (.cons (.there (.there (.there (.there (.there (.there .here)))))) (.cons (.there .here) (.cons (.there (.there (.there .here))) (.cons (.there (.there (.there .here))) (.cons (.there .here) (.cons .here (.cons .here .nil))))))), Nat.zero_le _, by simp [layM]⟩ ?_
      rintro x w5 ⟨H17, hi, hlay⟩
      refine .seq ?_
      refine .plain rfl ?_
      refine .q rfl rfl rfl (val_lss rfl rfl rfl) ?_
      refine .nil (cj ?_)
      refine .seq ?_
      refine .cond rfl (fun hc1 => ?_) (fun hc1 => ?_)
      · have hil : x.i < c.stacks.length := by simp only [decide_eq_true_eq] at hc1; omega
        obtain ⟨s, hs⟩ : ∃ s, c.stacks[x.i]? = some s := ⟨_, List.getElem?_eq_getElem hil⟩
        obtain ⟨b, o, hA⟩ := Has.base (.ro (.there (.there (.there .here)))) H17 (nil_of_flat encS_len (by decide) hil)
        obtain ⟨HB, hnil⟩ := binsA_more (.there (.there (.there (.there .here)))) H17 hs
        have hst := hm.bins.st x.i s hs
        have hh8 := hn.height
        have hsb : s.bins.length ≤ 1000000 := by omega
        have hin : inR c s.x s.y = true := by have h9 := hst.1; simp only [stackedR, Bool.and_eq_true] at h9; exact openR_in h9.1.1.1
        obtain ⟨hlt, hnb⟩ := numI_lt hn hin
        have hbl : numI c ⟨s.x, s.y⟩ < x.bs.length := by have h9 := congrArg List.length hlay; rw [layM_len, List.length_map] at h9; omega
        refine .skip (cj ?_)
        refine .seq ?_
        refine .block ?_
        refine .seq ?_
        refine .plain rfl ?_
        refine .q rfl rfl rfl (val_ix el_24 hA rfl rfl rfl hil) ?_
        refine .qs rfl rfl rfl HB (ld_ela rfl ag_114 .base hA (.ro (.there (.there (.there (.there .here))))) encS_len (by first | assumption | rfl)) ?_
        refine .alloc rfl rfl rfl ze_114 rfl HB (fun w18 b18 H18 => ⟨fun _ => trivial, ?_⟩)
        refine .store rfl rfl rfl rfl rfl sz_114 rfl H18 .here (by repeat constructor) (fun w19 H19 => ⟨fun _ => trivial, ?_⟩)
        refine .nil (cj ?_)
        refine .drawS 12 (.cons (0, true) (.cons (1, true) (.cons (2, true) (.cons (3, true) (.cons (4, true) (.cons (5, true) (.cons (6, true) (.cons (8, true) (.cons (9, true) (.cons (7, false) (.cons (10, false) (.cons (11, true) (.cons (12, false) .nil))))))))))))) mo (by kernel_rfl) H19 (fun _ _ _ _ _ h => h) (fun w20 H20 => ?_)
        refine .p rfl rfl rfl (val_move rfl) ?_
        refine .p rfl rfl rfl (val_nilCheck rfl) ?_
        refine .p rfl rfl rfl (val_fieldAddr rfl fa_163_4) ?_
        refine .ps rfl rfl rfl rfl (ld_b rfl ob_161 (.own (.there (.there .here))) rfl) ?_
        refine .p rfl rfl rfl (val_move rfl) ?_
        refine .p rfl rfl rfl (val_fieldAddr rfl fa_114_0) ?_
        refine .ps rfl rfl rfl rfl (ld_blks rfl ag_38 (.own .here) (by repeat constructor)) ?_
        refine .p rfl rfl rfl (val_fieldAddr rfl fa_114_1) ?_
        refine .ps rfl rfl rfl rfl (ld_b rfl ob_27 (.own .here) rfl) ?_
        refine .call1 rfl rfl rfl en86 (.cons rfl (.cons rfl .nil)) (numK_spec c _ _ _ _ hn hin) H20 .nil (.own (.there (.there (.there .here))) .nil) (fun w21 H21 => ⟨fun _ => H21, ?_⟩)
        refine .callx rfl rfl rfl en85 (.cons rfl .nil) (listI_spec _ _ _ hsb hnil) H21 .nil (.ro .here .nil) (fun v22 w22 C22 H22 => ⟨fun _ => (H22.sub (.cons (.there .here) (.cons (.there .here) (.cons (.there .here) (.cons (.there .here) (.cons (.there .here) (.cons (.there .here) (.cons (.there .here) (.cons (.there .here) .nil))))))))), ?_⟩)
        obtain ⟨A9, cap9, rfl⟩ := St.rowVal H22 .here
        refine .p rfl rfl rfl (val_ix el_161 rfl rfl rfl rfl hlt) ?_
        refine .store rfl rfl rfl rfl rfl sz_27 rfl H22 (.there (.there (.there (.there (.there (.there .here)))))) (by rw [Nat.zero_add, Nat.mul_one]; exact Spl_cell (by simpa using hbl)) (fun w23 H23 => ⟨fun h => absurd h (by decide), ?_⟩)
        refine .nil (cj ?_)
        refine .plain rfl ?_
        refine .q rfl rfl rfl (val_add rfl rfl (z := ((x.i + 1 : Nat) : Int)) (w64_of (by omega))) ?_
        refine .q rfl rfl rfl (val_move rfl) ?_
        refine .nil ?_
        intro act0 hact0; change Exists _
        refine ⟨⟨x.i + 1, x.bs.set (numI c ⟨s.x, s.y⟩) ⟨.slice A9 s.bins.length cap9, s.bins⟩⟩, Pick.kn (by repeat (first | exact Pick.nil | refine Pick.cons rfl ?_)) hact0, ⟨by have h9 := sb_row (H23.rest (.ro (.there .here) (.ro (.there (.there .here)) (.ro (.there (.there (.there .here))) (.ro (.there (.there (.there (.there .here)))) (.ro (.there (.there (.there (.there (.there .here))))) (.ro (.there (.there (.there (.there (.there (.there .here)))))) .nil))))))) hbl (.cons (.there .here) (.cons (.there (.there (.there (.there (.there (.there .here)))))) .nil)); have e9 : (x.bs.set (numI c ⟨s.x, s.y⟩) ⟨.slice A9 s.bins.length cap9, s.bins⟩).map (fun b => b.v) = (x.bs.map fun b => b.v).set (numI c ⟨s.x, s.y⟩) (.slice A9 s.bins.length cap9) := List.map_set; rw [e9]; exact h9.sub (.cons (.there (.there (.there .here))) (.cons (.there (.there (.there .here))) (.cons (.there (.there (.there .here))) (.cons (.there (.there (.there .here))) (.cons (.there .here) (.cons .here (.cons (.there .here) .nil))))))), hil, by rw [List.map_set, hlay]; simp only [layM, hs]⟩, (show c.stacks.length - (x.i + 1) < c.stacks.length - x.i by omega)⟩
      · have hil : x.i = c.stacks.length := by simp only [decide_eq_false_iff_not] at hc1; omega
        refine .exit (cj ?_)
        refine .seq ?_
        refine .plain rfl ?_
        refine .q rfl rfl rfl (val_move rfl) ?_
        refine .q rfl rfl rfl (val_assign rfl) ?_
        refine .q rfl rfl rfl (val_assign rfl) ?_
        refine .nil (cj ?_)
        refine .ret (fret (res2 rfl rfl rfl) ?_)
        refine hRR _ _ ⟨_, ⟨_, rfl, rfl, trivial⟩, ?_⟩
        rw [hil] at hlay
        exact (H17.sub (F := _) (.cons (.there .here) (.cons (.there .here) (.cons (.there .here) (.cons (.there .here) (.cons (.there .here) (.cons (.there .here) .nil))))))).map fun X h => stkA_in (s := stm0 c) _ hlay (by rw [List.append_nil]; exact h)
end Go.Proofs.YtmbibkifbehgnaaGreatDoor
namespace Go.Proofs.YtmbibkifbehgnaaGreatDoor
open Go Sk
set_option linter.unusedVariables false
set_option linter.unusedSimpArgs false
/-- a run that may still be cut -/
abbrev RunOk (c : Cf) (u : Gg) : Prop := u.move.kind = 1 → u.cut = false → (1 ≤ u.move.n ∧ u.move.n ≤ 16) ∧ inR c u.move.fr.x u.move.fr.y = true ∧ withinB u.move.dir 0 3 = true
structure Rel (c : Cf) (r : Rb) (g : Option Gg) (q : Rw) : Prop where
  i : r.i = q.i
  pose : r.pose = q.pose
  load : r.load = q.load
  epoch : r.epoch = q.epoch
  num : r.num = q.num
  stop : r.stopping = q.stopping
  m : nowM g = q.m
  u : g.isSome = q.under
  und : ∀ u, g = some u → q.left = u.left ∧ q.gone = u.t ∧ q.cut = u.cut ∧ q.wait = r.delay ∧ RunOk c u
  idle : g = none → r.delay = 0
  ep : 0 ≤ q.epoch
section
variable {c c' : Cf} {r : Rb} {g : Option Gg} {q : Rw} {t : Te}
theorem Rel.tell (h : Rel c r g q) : tellB r = tellW q := by
  unfold tellB tellW
  rw [h.i, h.pose, h.load, h.epoch, h.num]
theorem Rel.same (h : Rel c r g q) : sameB r g q = true := by
  unfold sameB
  simp [h.pose, h.load, h.epoch, h.m, h.u, h.tell]
theorem Rel.new {i : Int} {p : Ps} : Rel c ⟨i, p, 0, 0, 0, false, 0⟩ none (rw0 i p) where
  i := rfl
  pose := rfl
  load := rfl
  epoch := rfl
  num := rfl
  stop := rfl
  m := rfl
  u := rfl
  und := fun u h => by cases h
  idle := fun _ => rfl
  ep := Int.le_refl _
theorem legal_runs {m : Mv} (h : legalR c m = true) (hk : m.kind = 1) : (1 ≤ m.n ∧ m.n ≤ 16) ∧ inR c m.fr.x m.fr.y = true ∧ withinB m.dir 0 3 = true := by
  unfold legalR at h
  split at h
  · cases h
  · rename_i hf
    simp only [Bool.not_eq_false] at hf
    try rw [if_pos hk] at h
    simp only [Bool.and_eq_true] at h
    refine ⟨by simpa [withinB] using h.1, ?_, h.2.1⟩
    unfold fitsR openR at hf
    simp only [Bool.and_eq_true] at hf
    exact hf.1.1
end
end Go.Proofs.YtmbibkifbehgnaaGreatDoor
namespace Go.Proofs.YtmbibkifbehgnaaGreatDoor
open Go Sk
set_option linter.unusedVariables false
set_option linter.unusedSimpArgs false
/-- no telegram, or one -/
structure SV where
  A : Option Addr
  cap : Nat
abbrev teV (o : Option Te) (x : SV) : Value := .slice x.A o.toList.length x.cap
abbrev teA (o : Option Te) (x : SV) : As := arr x.A (o.toList.flatMap encT)
theorem blk_arr {b : Nat} {cs : List Value} {T : TypeId} {X : Nat → Prop} {w : World} (h : (blk b cs T).on X w) : (arr (some ⟨b, 0, none⟩) cs).on X w :=
  .inr ⟨b, 0, rfl, h.1, (Array.getElem?_eq_some_iff.1 h.2).1, fun j u hu => by simp [World.cell?, h.2, hu]⟩
theorem Own.one {f : As} {X : Nat → Prop} {w : World} (h : f.on X w) : Own [f] X w := ⟨X, fun _ => False, h, fun _ h => h, fun _ _ h => h, fun k => by simp⟩
theorem TeV.arr {o : Option Te} {v : Value} {fs : List As} (h : TeV o v fs) : ∃ x : SV, v = teV o x ∧ ∀ X w, Own fs X w → Own [teA o x] X w := by
  cases h with
  | none => exact ⟨⟨Option.none, 0⟩, rfl, fun X w h => Own.one (.inl ⟨rfl, h⟩)⟩
  | some b t => exact ⟨⟨_, 1⟩, rfl, fun X w ⟨X1, X2, h1, h2, _, h4⟩ => Own.one (by
      have e : X = X1 := funext fun k => propext ((h4 k).trans ⟨fun h => h.resolve_right (h2 k), .inl⟩)
      rw [e]
      show (Sk.arr (Option.some ⟨b, 0, Option.none⟩) ([t].flatMap encT)).on X1 w
      simpa using blk_arr h1)⟩
theorem hearA2_spec {c : Cf} {br : Nat} {r : Rb} {g : Option Gg} (hm : MayOk c) (hg : RunO g) (t : Te) : Sk.Spec Tryz.prog 34 #[ptr br, .agg (encT t).toArray] [stepsA] [robA c br r g] fun e F' => ∃ x : SV, e = .returned (.tuple #[teV (hearB c r g t).tele x, i64 (hearB c r g t).how]) ∧ F' = [robA c br (hearB c r g t).r (hearB c r g t).g, teA (hearB c r g t).tele x] ∧ True := by
  refine (hearA_spec hm hg t).conseq ?_
  rintro e F' ⟨y, rfl, rfl, hy⟩
  obtain ⟨x, hx, hown⟩ := hy.arr
  refine ⟨_, ⟨x, by rw [hx], rfl, trivial⟩, fun X w ⟨X1, X2, h1, h2, h3, h4⟩ => ⟨X, ⟨X1, X2, h1, hown X2 w h2, h3, h4⟩, fun _ h => h⟩⟩
structure Op18 where
  kind : Int
  n : Int
  t : Te
structure DX where
  r : Rb
  g : Option Gg
  q : Rw
structure DL where
  i : Nat
  r : Rb
  g : Option Gg
  q : Rw
theorem en22 : Enters Tryz.prog 22 := fun args w => by kernel_rfl
theorem en34 : Enters Tryz.prog 34 := fun args w => by kernel_rfl
theorem en41 : Enters Tryz.prog 41 := fun args w => by kernel_rfl
theorem en45 : Enters Tryz.prog 45 := fun args w => by kernel_rfl
end Go.Proofs.YtmbibkifbehgnaaGreatDoor
namespace Go.Proofs.YtmbibkifbehgnaaGreatDoor
open Go Sk
set_option linter.unusedVariables false
set_option linter.unusedSimpArgs false
theorem kin0_kcs (u a s : Int) : kin0 u a s = kcs u a s (List.replicate 17 none) := rfl
theorem kinR_new {u a v : Int} {w : World} : (kinR u a v (List.replicate 17 none)).on (fun _ => False) w := ⟨fun j A len cap h => absurd (List.mem_of_getElem? h) (fun h1 => by rw [List.mem_replicate] at h1; cases h1.2), fun k (h : False) => h.elim⟩
theorem robotNewA_spec (c : Cf) (hc : c.Fit) (hm : MayOk c) (i : Nat) (p : Ps) (hp : c.robots[i]? = some p) : Sk.Spec Tryz.prog 11 #[.agg (encCf c).toArray, i64 (i : Int)] [cb c, cp c, cr c, cs c, binsA c, stepsA] []
    fun e F' => ∃ br : Nat, e = .returned (.tuple #[ptr br, i64 0]) ∧ F' = [robA c br ⟨i, p, 0, 0, 0, false, 0⟩ none] ∧ True := by
  refine (robotNew_spec c hc hm i p hp).conseq ?_
  rintro e F' ⟨x, rfl, rfl, _⟩
  refine ⟨_, ⟨x.br, rfl, rfl, trivial⟩, fun X w h => ⟨X, robA_in ⟨x.bg, x.bk, x.bn, 0, ⟨List.replicate 17 none, by simp⟩⟩ ?_, fun _ h => h⟩⟩
  rw [kin0_kcs] at h
  exact Own.perm (.cons (.there .here) (.cons (.there .here) (.cons (.there .here) (.cons (.there .here) (.cons .here .nil))))) (Own.consE (kinR_new (u := c.unit) (a := c.accel) (v := c.speed)) h)
theorem bs_40_1_0 (x0_0_0_ : Int) (x0_0_1_ : Int) (x0_1_ : Bool) : Tryz.prog.builtSlice 40 1 [(0, .agg (List.toArray [.int .i64 x0_0_0_, .int .i64 x0_0_1_, .bool x0_1_]))] = some (List.toArray [.int .i64 x0_0_0_, .int .i64 x0_0_1_, .bool x0_1_]) := by kernel_rfl
end Go.Proofs.YtmbibkifbehgnaaGreatDoor
namespace Go.Proofs.YtmbibkifbehgnaaGreatDoor
open Go Sk
set_option linter.unusedVariables false
set_option linter.unusedSimpArgs false
theorem ro0 {w0 w : World} {M : Nat → Prop} {R F : List As} (f : As) (hf : f.on (fun _ => False) w) (H : St w0 w M R F) : St w0 w M (f :: R) F := by
  obtain ⟨⟨X, h1, h2, h3⟩, h4⟩ := H
  refine ⟨⟨X, h1, fun r hr => ?_, h3⟩, h4⟩
  rcases List.mem_cons.1 hr with rfl | hr
  · exact ⟨_, hf, fun _ h => h.elim⟩
  · exact h2 r hr
theorem arr_none {w : World} : (arr none []).on (fun _ => False) w := .inl ⟨rfl, fun _ h => h⟩
theorem bins_none {c : Cf} (h : c.stacks = []) {w : World} : (binsA c).on (fun _ => False) w := ⟨fun s hs => absurd hs (by rw [h]; simp), fun k (h : False) => h.elim⟩
theorem en11 : Enters Tryz.prog 11 := fun args w => by kernel_rfl
end Go.Proofs.YtmbibkifbehgnaaGreatDoor
namespace Go.Proofs.YtmbibkifbehgnaaGreatDoor
open Go Sk
set_option linter.unusedVariables false
set_option linter.unusedSimpArgs false
set_option linter.unusedSectionVars false
theorem fa_111_2 (b o : Nat) (w : World) : (Instr.fieldAt 111 (.pointer (some ⟨b, o, none⟩)) 2).run Tryz.prog w = .ok (.pointer (some ⟨b, o + 2, none⟩)) w := by kernel_rfl
theorem fa_111_3 (b o : Nat) (w : World) : (Instr.fieldAt 111 (.pointer (some ⟨b, o, none⟩)) 3).run Tryz.prog w = .ok (.pointer (some ⟨b, o + 3, none⟩)) w := by kernel_rfl
theorem fa_111_4 (b o : Nat) (w : World) : (Instr.fieldAt 111 (.pointer (some ⟨b, o, none⟩)) 4).run Tryz.prog w = .ok (.pointer (some ⟨b, o + 4, none⟩)) w := by kernel_rfl
theorem en51 : Enters Tryz.prog 51 := fun args w => by kernel_rfl
theorem en52 : Enters Tryz.prog 52 := fun args w => by kernel_rfl
theorem el_109  : elB Tryz.prog 109 1 = true := by kernel_rfl
theorem ob_109  : oneB Tryz.prog 109 = true := by kernel_rfl
theorem ob_30  : oneB Tryz.prog 30 = true := by kernel_rfl
theorem ob_57  : oneB Tryz.prog 57 = true := by kernel_rfl
/-- a robot's state -/
structure Rg where
  r : Rb
  g : Option Gg
/-- a world's state -/
structure Wm where
  rs : List Rg
  s : Stm
  now : Int
  l : List Si
abbrev encN (b : Nat) : List Value := [ptr b]
theorem encN_len (b : Nat) : (encN b).length = 1 := rfl
/-- the robots, by where they lie and what they are -/
def rsE (c : Cf) (br : List Nat) (rs : List Rg) : List As := List.zipWith (fun b s => robA c b s.r s.g) br rs
theorem rsE_get {c : Cf} {br : List Nat} {rs : List Rg} {i a : Nat} {s : Rg} (h : br[i]? = some a) (h2 : rs[i]? = some s) : (rsE c br rs)[i]? = some (robA c a s.r s.g) := by
  simp [rsE, List.getElem?_zipWith, h, h2]
theorem rsE_set {c : Cf} : ∀ {br : List Nat} {rs : List Rg} {i a : Nat} (s : Rg), br[i]? = some a → (rsE c br rs).set i (robA c a s.r s.g) = rsE c br (rs.set i s)
  | [], rs, i, a, s, h => by simp at h
  | b :: br, [], i, a, s, h => by simp [rsE]
  | b :: br, q :: rs, 0, a, s, h => by
    obtain rfl : b = a := by simpa using h
    rfl
  | b :: br, q :: rs, i + 1, a, s, h => by
    have := rsE_set (c := c) (rs := rs) s (show br[i]? = some a by simpa using h)
    simp only [rsE, List.zipWith_cons_cons, List.set_cons_succ] at this ⊢
    rw [this]
theorem rsE_snoc {c : Cf} {br : List Nat} {rs : List Rg} {a : Nat} {s : Rg} (h : br.length = rs.length) : rsE c (br ++ [a]) (rs ++ [s]) = rsE c br rs ++ [robA c a s.r s.g] := by
  simp [rsE, List.zipWith_append h]
structure WX where
  bg : Nat
  bk : Nat
  bs : Nat
  br : List Nat
  A : Option Addr
  cap : Nat
  v : Value
abbrev wbv (b : Nat) (x : WX) (now : Int) (v : Value) : As := blk b [ptr x.bg, ptr x.bs, .slice x.A x.br.length x.cap, i64 now, v] 111
abbrev wb (b : Nat) (x : WX) (now : Int) : As := wbv b x now x.v
abbrev raA (x : WX) : As := arr x.A (x.br.flatMap encN)
abbrev siA (v : Value) (l : List Si) : As := row v 60 18 l.length (l.flatMap encSi)
abbrev wldE (c : Cf) (b : Nat) (W : Wm) (x : WX) : List As := [wb b x W.now, gfix c x.bg x.bk, kblk x.bk (KF c), raA x, stkA c x.bs W.s, sep (rsE c x.br W.rs), siA x.v W.l]
def wldA (c : Cf) (b : Nat) (W : Wm) : As := exAs (ι := { x : WX // x.br.length = W.rs.length }) fun x => wldE c b W x.1
theorem wldA_in {c : Cf} {b : Nat} {W : Wm} {F : List As} {X : Nat → Prop} {w : World} (x : WX) (hx : x.br.length = W.rs.length) (h : Own (wldE c b W x ++ F) X w) : Own (wldA c b W :: F) X w := Own.exIn (ι := { x : WX // x.br.length = W.rs.length }) ⟨x, hx⟩ h
theorem br_get {W : Wm} {x : WX} (hx : x.br.length = W.rs.length) {i : Nat} {q : Rg} (h : W.rs[i]? = some q) : ∃ a, x.br[i]? = some a := ⟨_, List.getElem?_eq_getElem (by rw [hx]; exact lt_of_some h)⟩
section
variable {P : Program} {f : FuncId} {args : Array Value} {R F : List As} {Post : Ending → List As → Prop}
theorem rowFacts {v : Value} {e : TypeId} {sz n : Nat} {xs : List Value} {Y : Nat → Prop} {w : World} (h : (row v e sz n xs).on Y w) : ∃ A cap, v = .slice A n cap ∧ n ≤ cap ∧ (A = none → n = 0 ∧ cap = 0) := by
  rcases h.1.2 with ⟨h1, h2⟩ | ⟨g, cap, cur, h1, _, _, h3, _⟩
  · exact ⟨none, 0, by rw [h1, h2], by omega, fun _ => ⟨h2, rfl⟩⟩
  · exact ⟨_, cap, h1, h3, fun h => by cases h⟩
theorem Sk.Spec.rowIn {v : Value} {e : TypeId} {sz n : Nat} {xs : List Value} (hm : row v e sz n xs ∈ R) (h : ∀ A cap, v = .slice A n cap → n ≤ cap → (A = none → n = 0 ∧ cap = 0) → Sk.Spec P f args R F Post) : Sk.Spec P f args R F Post := fun w X hF hR => by
  obtain ⟨Y, hY, _⟩ := hR _ hm
  obtain ⟨A, cap, h1, h2, h3⟩ := rowFacts hY
  exact h A cap h1 h2 h3 w X hF hR
end
section
variable (c : Cf) (b : Nat) (x : WX) (now : Int)
theorem rob1_spec {i : Nat} {a : Nat} (hq : x.br[i]? = some a) : Sk.Spec Tryz.prog 52 #[ptr b, i64 (i : Int)] [wb b x now, raA x] [] fun e F' => e = .returned (ptr a) ∧ F' = [] := by
  have hi := lt_of_some hq
  refine Spec.of_code (vs := [_, _]) (k0 := [(0, _), (1, _)]) 27 Tryz.func52 rfl Tryz.ntmps52 rfl (.cons (.cons .nil)) fun w X RR hRR H => ?_
  obtain ⟨b9, o9, hA⟩ := Has.base (R := [wb b x now, raA x]) (.ro (.there .here)) H (nil_of_flat encN_len (by decide) hi)
  refine .seq ?_
  refine .plain rfl ?_
  refine .q rfl rfl rfl (val_assign rfl) ?_
  refine .nil (cj ?_)
  refine .seq ?_
  refine .seq ?_
  refine .plain rfl ?_
  refine .q rfl rfl rfl (val_move rfl) ?_
  refine .q rfl rfl rfl (val_ptr_eq_nil Tryz.underlying53 rfl rfl rfl) ?_
  refine .q rfl rfl rfl (val_move rfl) ?_
  refine .q rfl rfl rfl (val_move rfl) ?_
  refine .q rfl rfl rfl (val_lss rfl rfl rfl) ?_
  refine .q rfl rfl rfl (val_pick_f rfl rfl) ?_
  refine .q rfl rfl rfl (val_move rfl) ?_
  refine .case (t := 11) rfl (fun hs11 => ?_) (fun hs11 => ?_)
  · exfalso; simp at hs11; omega
  · refine .q rfl rfl rfl (val_move rfl) ?_
    refine .q rfl rfl rfl (val_move rfl) ?_
    refine .q rfl rfl rfl (val_nilCheck rfl) ?_
    refine .q rfl rfl rfl (val_fieldAddr rfl fa_111_2) ?_
    refine .qs rfl rfl rfl H (ld_b rfl ob_109 (.ro .here) rfl) ?_
    refine .q rfl rfl rfl (val_len Tryz.underlying109 rfl) ?_
    refine .q rfl rfl rfl (val_geq rfl rfl rfl) ?_
    refine .q rfl rfl rfl (val_pick_f rfl rfl) ?_
    refine .nil (cj ?_)
    refine .cond rfl (fun hc0 => ?_) (fun hc0 => ?_)
    · exfalso; simp at hc0; omega
    · refine .skip (cj ?_)
      refine .seq ?_
      refine .plain rfl ?_
      refine .q rfl rfl rfl (val_move rfl) ?_
      refine .q rfl rfl rfl (val_nilCheck rfl) ?_
      refine .q rfl rfl rfl (val_fieldAddr rfl fa_111_2) ?_
      refine .qs rfl rfl rfl H (ld_b rfl ob_109 (.ro .here) rfl) ?_
      refine .q rfl rfl rfl (val_move rfl) ?_
      refine .q rfl rfl rfl (val_ix el_109 hA rfl rfl rfl hi) ?_
      refine .qs rfl rfl rfl H (ld_el rfl ob_30 .base hA (.ro (.there .here)) encN_len (by first | assumption | rfl) rfl) ?_
      refine .q rfl rfl rfl (val_assign rfl) ?_
      refine .nil (cj ?_)
      refine .ret (fret (res1 rfl rfl) ?_)
      refine hRR _ _ ⟨_, ⟨?_, rfl⟩, H.sub .nil⟩
      rfl
theorem rob0_spec {i : Int} (hi : i < 0 ∨ (x.br.length : Int) ≤ i) : Sk.Spec Tryz.prog 52 #[ptr b, i64 i] [wb b x now, raA x] [] fun e F' => e = .returned (.pointer none) ∧ F' = [] := by
  refine Spec.of_code (vs := [_, _]) (k0 := [(0, _), (1, _)]) 27 Tryz.func52 rfl Tryz.ntmps52 rfl (.cons (.cons .nil)) fun w X RR hRR H => ?_
  refine .seq ?_
  refine .plain rfl ?_
  refine .q rfl rfl rfl (val_assign rfl) ?_
  refine .nil (cj ?_)
  refine .seq ?_
  refine .seq ?_
  refine .plain rfl ?_
  refine .q rfl rfl rfl (val_move rfl) ?_
  refine .q rfl rfl rfl (val_ptr_eq_nil Tryz.underlying53 rfl rfl rfl) ?_
  refine .q rfl rfl rfl (val_move rfl) ?_
  refine .q rfl rfl rfl (val_move rfl) ?_
  refine .q rfl rfl rfl (val_lss rfl rfl rfl) ?_
  refine .q rfl rfl rfl (val_pick_f rfl rfl) ?_
  refine .q rfl rfl rfl (val_move rfl) ?_
  refine .case (t := 11) rfl (fun hs11 => ?_) (fun hs11 => ?_)
  · refine .no rfl rfl rfl ?_
    refine .no rfl rfl rfl ?_
    refine .no rfl rfl rfl ?_
    refine .no rfl rfl rfl ?_
    refine .no rfl rfl rfl ?_
    refine .no rfl rfl rfl ?_
    refine .no rfl rfl rfl ?_
    refine .q rfl rfl rfl (val_pick_t rfl rfl) ?_
    refine .nil (cj ?_)
    refine .cond_t rfl ?_
    refine .seq ?_
    refine .plain rfl ?_
    refine .q rfl rfl rfl (val_assign rfl) ?_
    refine .nil (cj ?_)
    refine .ret (fret (res1 rfl rfl) ?_)
    refine hRR _ _ ⟨_, ⟨?_, rfl⟩, H.sub .nil⟩
    rfl
  · refine .q rfl rfl rfl (val_move rfl) ?_
    refine .q rfl rfl rfl (val_move rfl) ?_
    refine .q rfl rfl rfl (val_nilCheck rfl) ?_
    refine .q rfl rfl rfl (val_fieldAddr rfl fa_111_2) ?_
    refine .qs rfl rfl rfl H (ld_b rfl ob_109 (.ro .here) rfl) ?_
    refine .q rfl rfl rfl (val_len Tryz.underlying109 rfl) ?_
    refine .q rfl rfl rfl (val_geq rfl rfl rfl) ?_
    refine .q rfl rfl rfl (val_pick_f rfl rfl) ?_
    refine .nil (cj ?_)
    refine .cond rfl (fun hc0 => ?_) (fun hc0 => ?_)
    · refine .seq ?_
      refine .plain rfl ?_
      refine .q rfl rfl rfl (val_assign rfl) ?_
      refine .nil (cj ?_)
      refine .ret (fret (res1 rfl rfl) ?_)
      refine hRR _ _ ⟨_, ⟨?_, rfl⟩, H.sub .nil⟩
      rfl
    · exfalso; simp at hc0; first | (simp at hs11; omega) | omega
theorem wnow_spec : Sk.Spec Tryz.prog 19 #[ptr b] [wb b x now] [] fun e F' => e = .returned (i64 now) ∧ F' = [] := by
  refine Spec.of_code (vs := [_]) (k0 := [(0, _)]) Tryz.f19.ntmps Tryz.func19 rfl Tryz.ntmps19 rfl (.cons .nil) fun w X RR hRR H => ?_
  refine .seq ?_
  refine .plain rfl ?_
  refine .q rfl rfl rfl (val_assign rfl) ?_
  refine .nil (cj ?_)
  refine .seq ?_
  refine .seq ?_
  refine .plain rfl ?_
  refine .q rfl rfl rfl (val_move rfl) ?_
  refine .q rfl rfl rfl (val_ptr_eq_nil Tryz.underlying53 rfl rfl rfl) ?_
  refine .nil (cj ?_)
  refine .cond_f rfl ?_
  refine .skip (cj ?_)
  refine .seq ?_
  refine .plain rfl ?_
  refine .q rfl rfl rfl (val_move rfl) ?_
  refine .q rfl rfl rfl (val_nilCheck rfl) ?_
  refine .q rfl rfl rfl (val_fieldAddr rfl fa_111_3) ?_
  refine .qs rfl rfl rfl H (ld_b rfl ob_3 (.ro .here) rfl) ?_
  refine .q rfl rfl rfl (val_assign rfl) ?_
  refine .nil (cj ?_)
  refine .ret (fret (res1 rfl rfl) ?_)
  refine hRR _ _ ⟨_, ⟨?_, rfl⟩, H.sub .nil⟩
  rfl
theorem sights_spec (l : List Si) (A : Option Addr) (cap : Nat) (hv : x.v = .slice A l.length cap) (hl : l.length ≤ 1000000) (hn : A = none → l.length = 0 ∧ cap = 0) : Sk.Spec Tryz.prog 18 #[ptr b] [arr A (l.flatMap encSi), wb b x now] [] fun e F' => ∃ v, e = .returned v ∧ F' = [siA v l] ∧ True := by
  obtain ⟨bg, bk, bs, br, A1, cap1, v⟩ := x
  dsimp only at hv
  subst hv
  refine Spec.of_code (vs := [_]) (k0 := [(0, _)]) 10 Tryz.func18 rfl Tryz.ntmps18 rfl (.cons .nil) fun w X RR hRR H => ?_
  refine .seq ?_
  refine .plain rfl ?_
  refine .q rfl rfl rfl (val_assign rfl) ?_
  refine .nil (cj ?_)
  refine .seq ?_
  refine .seq ?_
  refine .plain rfl ?_
  refine .q rfl rfl rfl (val_move rfl) ?_
  refine .q rfl rfl rfl (val_ptr_eq_nil Tryz.underlying53 rfl rfl rfl) ?_
  refine .nil (cj ?_)
  refine .cond_f rfl ?_
  refine .skip (cj ?_)
  refine .seq ?_
  refine .plain rfl ?_
  refine .q rfl rfl rfl (val_move rfl) ?_
  refine .q rfl rfl rfl (val_nilCheck rfl) ?_
  refine .q rfl rfl rfl (val_fieldAddr rfl fa_111_4) ?_
  refine .qs rfl rfl rfl H (ld_b rfl ob_57 (.ro (.there .here)) rfl) ?_
  refine .callx rfl rfl rfl en51 (.cons rfl .nil) (listS_spec _ _ _ hl hn) H .nil (.ro .here .nil) (fun v1 w1 C1 H1 => ⟨fun _ => trivial, ?_⟩)
  refine .q rfl rfl rfl (val_assign rfl) ?_
  refine .nil (cj ?_)
  refine .ret (fret (res1 rfl rfl) ?_)
  refine hRR _ _ ⟨_, ⟨_, rfl, rfl, trivial⟩, H1.sub (.cons .here .nil)⟩
end
end Go.Proofs.YtmbibkifbehgnaaGreatDoor
namespace Go.Proofs.YtmbibkifbehgnaaGreatDoor
open Go Sk
set_option linter.unusedVariables false
set_option linter.unusedSimpArgs false
set_option linter.unusedSectionVars false
theorem fa_60_1 (b o : Nat) (w : World) : (Instr.fieldAt 60 (.pointer (some ⟨b, o, none⟩)) 1).run Tryz.prog w = .ok (.pointer (some ⟨b, o + 1, none⟩)) w := by kernel_rfl
theorem fa_60_2 (b o : Nat) (w : World) : (Instr.fieldAt 60 (.pointer (some ⟨b, o, none⟩)) 2).run Tryz.prog w = .ok (.pointer (some ⟨b, o + 2, none⟩)) w := by kernel_rfl
theorem fa_60_4 (b o : Nat) (w : World) : (Instr.fieldAt 60 (.pointer (some ⟨b, o, none⟩)) 4).run Tryz.prog w = .ok (.pointer (some ⟨b, o + 4, none⟩)) w := by kernel_rfl
theorem ag_60  : aggB Tryz.prog 60 18 = true := by kernel_rfl
theorem bs_60_1_0 (x0_0_ : Int) (x0_1_ : Int) (x0_2_ : Int) (x0_3_ : Int) (x0_4_0_0_ : Int) (x0_4_0_1_ : Int) (x0_4_1_ : Bool) (x0_5_0_ : Int) (x0_5_1_ : Int) (x0_5_2_ : Int) (x0_5_3_0_0_ : Int) (x0_5_3_0_1_ : Int) (x0_5_3_1_ : Bool) (x0_5_4_0_0_ : Int) (x0_5_4_0_1_ : Int) (x0_5_4_1_ : Bool) (x0_5_5_ : Int) (x0_5_6_ : Int) : Tryz.prog.builtSlice 60 1 [(0, .agg (List.toArray [.int .i64 x0_0_, .int .i64 x0_1_, .int .i64 x0_2_, .int .i64 x0_3_, .int .i64 x0_4_0_0_, .int .i64 x0_4_0_1_, .bool x0_4_1_, .int .i64 x0_5_0_, .int .i64 x0_5_1_, .int .i64 x0_5_2_, .int .i64 x0_5_3_0_0_, .int .i64 x0_5_3_0_1_, .bool x0_5_3_1_, .int .i64 x0_5_4_0_0_, .int .i64 x0_5_4_0_1_, .bool x0_5_4_1_, .int .i64 x0_5_5_, .int .i64 x0_5_6_]))] = some (List.toArray [.int .i64 x0_0_, .int .i64 x0_1_, .int .i64 x0_2_, .int .i64 x0_3_, .int .i64 x0_4_0_0_, .int .i64 x0_4_0_1_, .bool x0_4_1_, .int .i64 x0_5_0_, .int .i64 x0_5_1_, .int .i64 x0_5_2_, .int .i64 x0_5_3_0_0_, .int .i64 x0_5_3_0_1_, .bool x0_5_3_1_, .int .i64 x0_5_4_0_0_, .int .i64 x0_5_4_0_1_, .bool x0_5_4_1_, .int .i64 x0_5_5_, .int .i64 x0_5_6_]) := by kernel_rfl
theorem el_57  : elB Tryz.prog 57 18 = true := by kernel_rfl
theorem sz_57  : (Tryz.prog.info? 57).map (·.size) = some 1 := by kernel_rfl
theorem sz_60  : (Tryz.prog.info? 60).map (·.size) = some 18 := by kernel_rfl
/-- a sight, as a robot's -/
abbrev fillS (now i : Int) (p : Ps) (s : Si) : Si := ⟨s.kind, now, i, s.bin, p, s.mv⟩
theorem si_snoc (v : Value) (L : List Si) (y : Si) : row v 60 18 (L.length + 1) (L.flatMap encSi ++ encSi y) = siA v (L ++ [y]) := by simp [siA]
theorem Sk.Spec.blkRF {P : Program} {f : FuncId} {args : Array Value} {b : Nat} {cs : List Value} {e : TypeId} {Rc F : List As} {Post : Ending → List As → Prop} (h : Sk.Spec P f args (arr (some ⟨b, 0, none⟩) cs :: Rc) F Post) : Sk.Spec P f args (blk b cs e :: Rc) F Post := by
  intro w X hF hR
  refine h w X hF fun r hr => ?_
  rcases List.mem_cons.1 hr with rfl | hr
  · obtain ⟨Y, hY, hd⟩ := hR _ List.mem_cons_self
    exact ⟨Y, blk_arr hY, hd⟩
  · exact hR r (List.mem_cons_of_mem _ hr)
structure KV where
  k : Nat
  v : Value
section
variable (c : Cf) (b : Nat) (x : WX) (now : Int)
theorem sees_spec {i a : Nat} (hq : x.br[i]? = some a) {fs : List As} {r : Rb} {g : Option Gg} (hf : fs[i]? = some (robA c a r g)) (v : Value) (A : Option Addr) (cap : Nat) (l S : List Si) (hS : S.length + l.length ≤ 1000000) :
    Sk.Spec Tryz.prog 56 #[ptr b, i64 (i : Int), .slice A l.length cap] [arr A (l.flatMap encSi), raA x, sep fs] [wbv b x now v, siA v S] fun e F' => ∃ v', e = .returned (.tuple #[]) ∧ F' = [wbv b x now v', siA v' (S ++ l.map (fillS now (i : Int) r.pose))] ∧ True := by
  have hi := lt_of_some hq
  refine Spec.of_code (vs := [_, _, _]) (k0 := [(0, _), (1, _), (2, _)]) 41 Tryz.func56 rfl Tryz.ntmps56 rfl (.cons (.cons (.cons .nil))) fun w X RR hRR H => ?_
  obtain ⟨b9, o9, hA⟩ := Has.base (.ro (.there .here)) H (nil_of_flat encN_len (by decide) hi)
  refine .seq ?_
  refine .plain rfl ?_
  refine .q rfl rfl rfl (val_move rfl) ?_
  refine .q rfl rfl rfl (val_len Tryz.underlying57 rfl) ?_
  refine .q rfl rfl rfl (val_move rfl) ?_
  refine .nil (cj ?_)
  refine .block ?_
  refine .loop (ι := KV) (fun y => [(0, ptr b), (1, i64 (i : Int)), (8, .slice A l.length cap), (9, i64 ((l.length : Nat) : Int)), (10, i64 (y.k : Int))]) (fun y w' => St w w' X [arr A (l.flatMap encSi), raA x, sep fs] [wbv b x now y.v, siA y.v (S ++ (l.take y.k).map (fillS now (i : Int) r.pose))] ∧ y.k ≤ l.length) (fun y => l.length - y.k) ⟨0, v⟩ (by repeat (first | exact Pick.nil | refine Pick.cons rfl ?_)) ⟨by rw [List.take_zero, List.map_nil, List.append_nil]; exact H, Nat.zero_le _⟩ ?_
  rintro y w5 ⟨H1, hk⟩
  refine .seq ?_
  refine .plain rfl ?_
  refine .q rfl rfl rfl (val_lss rfl rfl rfl) ?_
  refine .nil (cj ?_)
  refine .seq ?_
  refine .cond rfl (fun hc0 => ?_) (fun hc0 => ?_)
  · have hkl : y.k < l.length := by simp only [decide_eq_true_eq] at hc0; omega
    obtain ⟨s, hx⟩ : ∃ s, l[y.k]? = some s := ⟨_, List.getElem?_eq_getElem hkl⟩
    obtain ⟨b8, o8, hB⟩ := Has.base (.ro .here) H1 (nil_of_flat encSi_len (by decide) hkl)
    have hlen : (S ++ (l.take y.k).map (fillS now (i : Int) r.pose)).length ≤ 1000000 := by rw [List.length_append, List.length_map, List.length_take]; omega
    refine .skip (cj ?_)
    refine .seq ?_
    refine .block ?_
    refine .seq ?_
    refine .plain rfl ?_
    refine .q rfl rfl rfl (val_ix el_57 hB rfl rfl rfl hkl) ?_
    refine .qs rfl rfl rfl H1 (ld_ela rfl ag_60 .base hB (.ro .here) encSi_len (by first | assumption | rfl)) ?_
    refine .alloc rfl rfl rfl ze_60 rfl H1 (fun w2 b2 H2 => ⟨fun _ => trivial, ?_⟩)
    refine .store rfl rfl rfl rfl rfl sz_60 rfl H2 .here (by repeat constructor) (fun w3 H3 => ⟨fun _ => trivial, ?_⟩)
    refine .nil (cj ?_)
    refine .seq ?_
    refine .drawS2 19 (.cons (0, true) (.cons (1, true) (.cons (2, true) (.cons (3, true) (.cons (4, true) (.cons (5, true) (.cons (6, true) (.cons (7, true) (.cons (8, true) (.cons (9, true) (.cons (10, true) (.cons (11, true) (.cons (13, true) (.cons (12, false) (.cons (14, false) (.cons (15, true) (.cons (16, false) (.cons (17, true) (.cons (18, false) .nil))))))))))))))))))) mo (by kernel_rfl) H3 (.cons (.there .here) .nil) (fun _ _ _ _ _ h => h) (fun w4 H4 => ?_)
    refine .p rfl rfl rfl (val_move rfl) ?_
    refine .p rfl rfl rfl (val_nilCheck rfl) ?_
    refine .p rfl rfl rfl (val_fieldAddr rfl fa_111_3) ?_
    refine .ps rfl rfl rfl rfl (ld_b rfl ob_3 (.own .here) rfl) ?_
    refine .p rfl rfl rfl (val_move rfl) ?_
    refine .p rfl rfl rfl (val_move rfl) ?_
    refine .p rfl rfl rfl (val_nilCheck rfl) ?_
    refine .p rfl rfl rfl (val_fieldAddr rfl fa_111_2) ?_
    refine .ps rfl rfl rfl rfl (ld_b rfl ob_109 (.own .here) rfl) ?_
    refine .p rfl rfl rfl (val_move rfl) ?_
    refine .p rfl rfl rfl (val_ix el_109 hA rfl rfl rfl hi) ?_
    refine .ps rfl rfl rfl rfl (ld_el rfl ob_30 .base hA (.ro (.there .here)) encN_len (by first | assumption | rfl) rfl) ?_
    refine .p rfl rfl rfl (val_fieldAddr rfl fa_60_1) ?_
    refine .call1 rfl rfl rfl en59 (.cons rfl .nil) (Spec.nthR hf poseA_spec) H4 .nil (.ro (.there (.there .here)) .nil) (fun w5 H5 => ⟨fun _ => (H5.sub (.cons (.there .here) .nil)), ?_⟩)
    refine .store rfl rfl rfl rfl rfl sz_3 rfl H5 .here (by repeat constructor) (fun w6 H6 => ⟨fun _ => (H6.sub (.cons (.there .here) .nil)), ?_⟩)
    refine .p rfl rfl rfl (val_fieldAddr rfl fa_60_2) ?_
    refine .store rfl rfl rfl rfl rfl sz_3 rfl H6 .here (by repeat constructor) (fun w7 H7 => ⟨fun _ => (H7.sub (.cons (.there .here) .nil)), ?_⟩)
    refine .p rfl rfl rfl (val_fieldAddr rfl fa_60_4) ?_
    refine .store rfl rfl rfl rfl rfl sz_40 rfl H7 .here (by repeat constructor) (fun w8 H8 => ⟨fun _ => (H8.sub (.cons (.there .here) .nil)), ?_⟩)
    refine .nil (cj ?_)
    refine .drawS2 8 (.cons (0, true) (.cons (1, true) (.cons (2, true) (.cons (3, true) (.cons (4, true) (.cons (5, true) (.cons (6, false) (.cons (7, false) (.cons (8, true) (.cons (9, true) (.cons (10, false) .nil))))))))))) mo (by kernel_rfl) H8 (.cons (.there .here) (.cons .here .nil)) (fun _ _ _ _ _ h => h) (fun w9 H9 => ?_)
    refine .p rfl rfl rfl (val_move rfl) ?_
    refine .p rfl rfl rfl (val_move rfl) ?_
    refine .p rfl rfl rfl (val_nilCheck rfl) ?_
    refine .p rfl rfl rfl (val_fieldAddr rfl fa_111_4) ?_
    refine .ps rfl rfl rfl rfl (ld_b rfl ob_57 (.own .here) rfl) ?_
    refine .ps rfl rfl rfl rfl (ld_w rfl ag_60 (.own (.there .here)) rfl) ?_
    refine .lit rfl rfl rfl Tryz.underlying57 (.cons rfl .nil) (bs_60_1_0 _ _ _ _ _ _ _ _ _ _ _ _ _ _ _ _ _ _) H9 (fun w10 b10 H10 => ⟨fun _ => (H10.sub (.cons (.there (.there .here)) (.cons (.there .here) .nil))), ?_⟩)
    refine .append rfl rfl rfl (ap_57) rfl rfl H10 (.there (.there (.there .here))) (Has.srcBlk (.own .here) H10) rfl (by simp [Value.oneCell']) (by simp only [maxLen]; omega) (by omega) (fun v11 w11 H11 => ⟨fun _ => (H11.sub (.cons (.there (.there (.there .here))) (.cons (.there (.there .here)) .nil))), ?_⟩)
    obtain ⟨A9, cap9, rfl⟩ := St.rowVal H11 .here
    refine .p rfl rfl rfl (val_nilCheck rfl) ?_
    refine .p rfl rfl rfl (val_fieldAddr rfl fa_111_4) ?_
    refine .store rfl rfl rfl rfl rfl sz_57 rfl H11 (.there (.there (.there .here))) (by repeat constructor) (fun w12 H12 => ⟨fun h => absurd h (by decide), ?_⟩)
    refine .nil (cj ?_)
    refine .plain rfl ?_
    refine .q rfl rfl rfl (val_add rfl rfl (z := ((y.k + 1 : Nat) : Int)) (w64_of (by omega))) ?_
    refine .q rfl rfl rfl (val_move rfl) ?_
    refine .nil ?_
    intro act0 hact0; change Exists _
    refine ⟨⟨y.k + 1, .slice A9 _ cap9⟩, Pick.kn (by repeat (first | exact Pick.nil | refine Pick.cons rfl ?_)) hact0, ⟨by rw [take_snoc hx, List.map_append, ← List.append_assoc, List.map_cons, List.map_nil, ← si_snoc]; exact H12.sub (.cons .here (.cons .here .nil)), hkl⟩, (show l.length - (y.k + 1) < l.length - y.k by omega)⟩
  · have hkl : y.k = l.length := by simp only [decide_eq_false_iff_not] at hc0; omega
    refine .exit (fend (res0 rfl) ?_)
    rw [hkl, List.take_length] at H1
    refine hRR _ _ ⟨_, ⟨_, rfl, rfl, trivial⟩, H1⟩
/-- a block of one sight -/
theorem sees1_spec {i a : Nat} (hq : x.br[i]? = some a) {fs : List As} {r : Rb} {g : Option Gg} (hf : fs[i]? = some (robA c a r g)) (v : Value) (bl : Nat) (s : Si) (S : List Si) (hS : S.length + 1 ≤ 1000000) :
    Sk.Spec Tryz.prog 56 #[ptr b, i64 (i : Int), .slice (some ⟨bl, 0, none⟩) 1 1] [blk bl (encSi s) 60, raA x, sep fs] [wbv b x now v, siA v S] fun e F' => ∃ v', e = .returned (.tuple #[]) ∧ F' = [wbv b x now v', siA v' (S ++ [fillS now (i : Int) r.pose s])] ∧ True := by
  have h := sees_spec c b x now hq hf v (some ⟨bl, 0, none⟩) 1 [s] S hS
  refine Spec.blkRF ?_
  simpa using h
end
end Go.Proofs.YtmbibkifbehgnaaGreatDoor
namespace Go.Proofs.YtmbibkifbehgnaaGreatDoor
open Go Sk
set_option linter.unusedVariables false
set_option linter.unusedSimpArgs false
set_option linter.unusedSectionVars false
theorem en53 : Enters Tryz.prog 53 := fun args w => by kernel_rfl
theorem ap_109  : apB Tryz.prog 109 30 1 8 = true := by kernel_rfl
theorem bs_30_1_0 (x0_ : Option Addr) : Tryz.prog.builtSlice 30 1 [(0, .pointer x0_)] = some (List.toArray [.pointer x0_]) := by kernel_rfl
theorem mk_111_0_1 (x0_ : Option Addr) (x1_ : Option Addr) : Tryz.prog.built 111 [(0, .pointer x0_), (1, .pointer x1_)] = some (List.toArray [.pointer x0_, .pointer x1_, .slice none 0 0, .int .i64 0, .slice none 0 0]) := by kernel_rfl
theorem sz_109  : (Tryz.prog.info? 109).map (·.size) = some 1 := by kernel_rfl
/-- the first i robots, new -/
def newRs (c : Cf) : Nat → List Rg
  | 0 => []
  | i + 1 => newRs c i ++ [⟨⟨(i : Int), c.robots.getD i ⟨0, 0, false⟩, 0, 0, 0, false, 0⟩, none⟩]
theorem newRs_len (c : Cf) : ∀ i, (newRs c i).length = i
  | 0 => rfl
  | i + 1 => by rw [newRs, List.length_append, newRs_len c i]; rfl
def wld0 (c : Cf) : Wm := ⟨newRs c c.robots.length, stm0 c, 0, []⟩
theorem flat_snoc {α : Type} {enc : α → List Value} {l : List α} {x : α} : (l ++ [x]).flatMap enc = l.flatMap enc ++ enc x := by simp
structure NW where
  i : Nat
  br : List Nat
  v : Value
theorem worldNew_spec (c : Cf) (hc : c.Fit) (hm : MayOk c) : Sk.Spec Tryz.prog 23 #[.agg (encCf c).toArray] [cb c, cp c, cr c, cs c, binsA c, stepsA] [] fun e F' => ∃ b : Nat, e = .returned (.tuple #[ptr b, i64 0]) ∧ F' = [wldA c b (wld0 c)] ∧ True := by
  have hrl := hm.rl
  refine Spec.of_code (vs := [_]) (k0 := [(0, _)]) 56 Tryz.func23 rfl Tryz.ntmps23 rfl (.cons .nil) fun w X RR hRR H => ?_
  refine .seq ?_
  refine .plain rfl ?_
  refine .box rfl rfl rfl rfl rfl H (fun w1 b1 H1 => ⟨fun _ => trivial, ?_⟩)
  refine .q rfl rfl rfl (val_assign rfl) ?_
  refine .q rfl rfl rfl (val_assign rfl) ?_
  refine .nil (cj ?_)
  refine .seq ?_
  refine .plain rfl ?_
  refine .qs rfl rfl rfl H1 (ld_w rfl ag_26 (.own .here) rfl) ?_
  refine .callx rfl rfl rfl en36 (.cons rfl .nil) (gnew_spec c hc hm) H1 .nil (.ro .here (.ro (.there .here) (.ro (.there (.there .here)) (.ro (.there (.there (.there .here))) (.ro (.there (.there (.there (.there .here)))) (.ro (.there (.there (.there (.there (.there .here))))) .nil)))))) (fun x2 w2 C2 H2 => ⟨fun _ => trivial, ?_⟩)
  refine .q rfl rfl rfl (val_move rfl) ?_
  refine .q rfl rfl rfl (val_extract rfl rfl) ?_
  refine .q rfl rfl rfl (val_extract rfl rfl) ?_
  refine .q rfl rfl rfl (val_assign rfl) ?_
  refine .q rfl rfl rfl (val_assign rfl) ?_
  refine .nil (cj ?_)
  refine .seq ?_
  refine .seq ?_
  refine .plain rfl ?_
  refine .q rfl rfl rfl (val_move rfl) ?_
  refine .q rfl rfl rfl (val_neq rfl rfl rfl) ?_
  refine .nil (cj ?_)
  refine .cond rfl (fun hc0 => ?_) (fun hc0 => ?_)
  · exfalso; simp at hc0
  · refine .skip (cj ?_)
    refine .seq ?_
    refine .plain rfl ?_
    refine .qs rfl rfl rfl H2 (ld_w rfl ag_26 (.own (.there (.there .here))) rfl) ?_
    refine .callx rfl rfl rfl en53 (.cons rfl .nil) (stkNew_spec c hc hm) H2 .nil (.ro .here (.ro (.there .here) (.ro (.there (.there .here)) (.ro (.there (.there (.there .here))) (.ro (.there (.there (.there (.there .here)))) (.ro (.there (.there (.there (.there (.there .here))))) .nil)))))) (fun bs3 w3 C3 H3 => ⟨fun _ => trivial, ?_⟩)
    refine .q rfl rfl rfl (val_move rfl) ?_
    refine .q rfl rfl rfl (val_extract rfl rfl) ?_
    refine .q rfl rfl rfl (val_extract rfl rfl) ?_
    refine .q rfl rfl rfl (val_assign rfl) ?_
    refine .q rfl rfl rfl (val_assign rfl) ?_
    refine .nil (cj ?_)
    refine .seq ?_
    refine .plain rfl ?_
    refine .q rfl rfl rfl (val_move rfl) ?_
    refine .q rfl rfl rfl (val_move rfl) ?_
    refine .q rfl rfl rfl (val_mk (.cons rfl (.cons rfl .nil)) (mk_111_0_1 _ _)) ?_
    refine .box rfl rfl rfl rfl rfl H3 (fun w4 b4 H4 => ⟨fun _ => trivial, ?_⟩)
    refine .q rfl rfl rfl (val_assign rfl) ?_
    refine .nil (cj ?_)
    refine .seq ?_
    refine .seq ?_
    refine .plain rfl ?_
    refine .q rfl rfl rfl (val_fieldAddr rfl fa_26_5) ?_
    refine .qs rfl rfl rfl H4 (ld_b rfl ob_23 (.own (.there (.there (.there (.there .here))))) rfl) ?_
    refine .q rfl rfl rfl (val_len Tryz.underlying23 rfl) ?_
    refine .q rfl rfl rfl (val_move rfl) ?_
    refine .nil (cj ?_)
    refine .block ?_
    have H6 := H4.rowNil 30 1
    refine .loop (ι := NW) (fun y => [(1, ptr b1), (8, ptr b4), (31, i64 ((c.robots.length : Nat) : Int)), (32, i64 (y.i : Int))]) (fun y w' => St w w' X [cb c, cp c, cr c, cs c, binsA c, stepsA] [blk b1 (encCf c) 26, blk b4 [ptr x2.bg, ptr bs3, y.v, i64 0, .slice none 0 0] 111, gfix c x2.bg x2.bk, kblk x2.bk (KF c), stkA c bs3 (stm0 c), sep (rsE c y.br (newRs c y.i)), row y.v 30 1 y.br.length (y.br.flatMap encN)] ∧ y.i ≤ c.robots.length ∧ y.br.length = y.i) (fun y => c.robots.length - y.i) ⟨0, [], .slice none 0 0⟩ (by repeat (first | exact Pick.nil | refine Pick.cons rfl ?_)) ⟨(St.sepNil H6).sub (.cons (.there (.there (.there (.there (.there (.there .here)))))) (.cons (.there (.there .here)) (.cons (.there (.there (.there .here))) (.cons (.there (.there (.there .here))) (.cons (.there (.there .here)) (.cons .here (.cons .here .nil))))))), Nat.zero_le _, rfl⟩ ?_
    rintro ⟨yi, br, v⟩ w5 ⟨H5, hi, hql⟩
    refine .seq ?_
    refine .plain rfl ?_
    refine .q rfl rfl rfl (val_lss rfl rfl rfl) ?_
    refine .nil (cj ?_)
    refine .seq ?_
    refine .cond rfl (fun hc1 => ?_) (fun hc1 => ?_)
    · dsimp only at hql hi hc1 H5
      have hil : yi < c.robots.length := by simp only [decide_eq_true_eq] at hc1; omega
      obtain ⟨p, hp⟩ : ∃ p, c.robots[yi]? = some p := ⟨_, List.getElem?_eq_getElem hil⟩
      have hpd : c.robots.getD yi ⟨0, 0, false⟩ = p := by rw [List.getD_eq_getElem?_getD, hp]; rfl
      refine .skip (cj ?_)
      refine .seq ?_
      refine .block ?_
      refine .seq ?_
      refine .plain rfl ?_
      refine .q rfl rfl rfl (val_move rfl) ?_
      refine .q rfl rfl rfl (val_assign rfl) ?_
      refine .nil (cj ?_)
      refine .seq ?_
      refine .plain rfl ?_
      refine .qs rfl rfl rfl H5 (ld_w rfl ag_26 (.own .here) rfl) ?_
      refine .q rfl rfl rfl (val_move rfl) ?_
      refine .callx rfl rfl rfl en11 (.cons rfl (.cons rfl .nil)) (robotNewA_spec c hc hm _ _ hp) H5 .nil (.ro .here (.ro (.there .here) (.ro (.there (.there .here)) (.ro (.there (.there (.there .here))) (.ro (.there (.there (.there (.there .here)))) (.ro (.there (.there (.there (.there (.there .here))))) .nil)))))) (fun br9 w7 C7 H7 => ⟨fun _ => trivial, ?_⟩)
      refine .q rfl rfl rfl (val_move rfl) ?_
      refine .q rfl rfl rfl (val_extract rfl rfl) ?_
      refine .q rfl rfl rfl (val_extract rfl rfl) ?_
      refine .q rfl rfl rfl (val_assign rfl) ?_
      refine .q rfl rfl rfl (val_assign rfl) ?_
      refine .nil (cj ?_)
      refine .seq ?_
      refine .seq ?_
      have hbr9 : True := trivial
      refine .plain rfl ?_
      refine .q rfl rfl rfl (val_move rfl) ?_
      refine .q rfl rfl rfl (val_neq rfl rfl rfl) ?_
      refine .nil (cj ?_)
      refine .cond rfl (fun hc2 => ?_) (fun hc2 => ?_)
      · exfalso; simp at hc2
      · refine .skip (cj ?_)
        refine .plain rfl ?_
        refine .q rfl rfl rfl (val_move rfl) ?_
        refine .q rfl rfl rfl (val_move rfl) ?_
        refine .q rfl rfl rfl (val_nilCheck rfl) ?_
        refine .q rfl rfl rfl (val_fieldAddr rfl fa_111_2) ?_
        refine .qs rfl rfl rfl H7 (ld_b rfl ob_109 (.own (.there (.there .here))) rfl) ?_
        refine .q rfl rfl rfl (val_move rfl) ?_
        refine .lit rfl rfl rfl Tryz.underlying109 (.cons rfl .nil) (bs_30_1_0 _) H7 (fun w8 b8 H8 => ⟨fun _ => trivial, ?_⟩)
        refine .append rfl rfl rfl (ap_109) rfl rfl H8 (.there (.there (.there (.there (.there (.there (.there (.there .here)))))))) (Has.srcBlk (.own .here) H8) rfl (by simp [Value.oneCell']) (by simp only [maxLen]; omega) (by omega) (fun v9 w9 H9 => ⟨fun _ => trivial, ?_⟩)
        obtain ⟨A9, cap9, rfl⟩ := St.rowVal H9 .here
        refine .q rfl rfl rfl (val_nilCheck rfl) ?_
        refine .q rfl rfl rfl (val_fieldAddr rfl fa_111_2) ?_
        refine .store rfl rfl rfl rfl rfl sz_109 rfl H9 (.there (.there (.there (.there .here)))) (by repeat constructor) (fun w10 H10 => ⟨fun _ => trivial, ?_⟩)
        refine .nil (cj ?_)
        refine .plain rfl ?_
        refine .q rfl rfl rfl (val_add rfl rfl (z := ((yi + 1 : Nat) : Int)) (w64_of (by dsimp only; omega))) ?_
        refine .q rfl rfl rfl (val_move rfl) ?_
        refine .nil ?_
        intro act0 hact0; change Exists _
        refine ⟨⟨yi + 1, br ++ [br9], .slice A9 _ cap9⟩, Pick.kn (by repeat (first | exact Pick.nil | refine Pick.cons rfl ?_)) hact0, ⟨by have h9 := St.snoc (H10.sub (.cons (.there (.there (.there .here))) (.cons (.there (.there (.there (.there (.there (.there (.there .here))))))) (.cons (.there (.there (.there .here))) (.cons .here (.cons (.there (.there .here)) (.cons (.there (.there .here)) (.cons (.there (.there .here)) (.cons .here .nil))))))))); rw [flat_snoc, List.length_append, show newRs c (yi + 1) = newRs c yi ++ [⟨⟨(yi : Int), p, 0, 0, 0, false, 0⟩, none⟩] by simp only [newRs, hpd], rsE_snoc (by rw [hql, newRs_len])]; exact h9.sub (.cons (.there .here) (.cons (.there .here) (.cons (.there .here) (.cons (.there .here) (.cons (.there .here) (.cons .here (.cons .here .nil))))))), hil, by rw [List.length_append, hql]; rfl⟩, (show c.robots.length - (yi + 1) < c.robots.length - yi by omega)⟩
    · dsimp only at hql hi hc1 H5
      have hil : yi = c.robots.length := by simp only [decide_eq_false_iff_not] at hc1; omega
      refine .exit (cj ?_)
      refine .seq ?_
      refine .plain rfl ?_
      refine .q rfl rfl rfl (val_move rfl) ?_
      refine .q rfl rfl rfl (val_assign rfl) ?_
      refine .q rfl rfl rfl (val_assign rfl) ?_
      refine .nil (cj ?_)
      refine .ret (fret (res2 rfl rfl rfl) ?_)
      obtain ⟨A8, cap8, rfl, hn8, H8⟩ := St.rowOwn H5 (.there (.there (.there (.there (.there (.there .here))))))
      refine hRR _ _ ⟨_, ⟨_, rfl, rfl, trivial⟩, ?_⟩
      exact ((H8.rowNil 60 18).sub (.cons (.there (.there (.there .here))) (.cons (.there (.there (.there .here))) (.cons (.there (.there (.there .here))) (.cons (.there .here) (.cons (.there (.there .here)) (.cons (.there (.there .here)) (.cons .here .nil)))))))).map fun X h => wldA_in (W := wld0 c) ⟨_, _, _, br, A8, cap8, .slice none 0 0⟩ (by rw [hql, hil]; exact (newRs_len c _).symm) (by rw [List.append_nil]; rw [hil] at h; exact h)
end Go.Proofs.YtmbibkifbehgnaaGreatDoor
namespace Go.Proofs.YtmbibkifbehgnaaGreatDoor
open Go Sk
set_option linter.unusedVariables false
set_option linter.unusedSimpArgs false
set_option linter.unusedSectionVars false
theorem fa_111_0 (b o : Nat) (w : World) : (Instr.fieldAt 111 (.pointer (some ⟨b, o, none⟩)) 0).run Tryz.prog w = .ok (.pointer (some ⟨b, o + 0, none⟩)) w := by kernel_rfl
theorem fa_111_1 (b o : Nat) (w : World) : (Instr.fieldAt 111 (.pointer (some ⟨b, o, none⟩)) 1).run Tryz.prog w = .ok (.pointer (some ⟨b, o + 1, none⟩)) w := by kernel_rfl
theorem en88 : Enters Tryz.prog 88 := fun args w => by kernel_rfl
theorem en89 : Enters Tryz.prog 89 := fun args w => by kernel_rfl
theorem en90 : Enters Tryz.prog 90 := fun args w => by kernel_rfl
theorem mk_60_0 (x0_ : Int) : Tryz.prog.built 60 [(0, .int .i64 x0_)] = some (List.toArray [.int .i64 x0_, .int .i64 0, .int .i64 0, .int .i64 0, .int .i64 0, .int .i64 0, .bool false, .int .i64 0, .int .i64 0, .int .i64 0, .int .i64 0, .int .i64 0, .bool false, .int .i64 0, .int .i64 0, .bool false, .int .i64 0, .int .i64 0]) := by kernel_rfl
theorem mk_60_0_3 (x0_ : Int) (x3_ : Int) : Tryz.prog.built 60 [(0, .int .i64 x0_), (3, .int .i64 x3_)] = some (List.toArray [.int .i64 x0_, .int .i64 0, .int .i64 0, .int .i64 x3_, .int .i64 0, .int .i64 0, .bool false, .int .i64 0, .int .i64 0, .int .i64 0, .int .i64 0, .int .i64 0, .bool false, .int .i64 0, .int .i64 0, .bool false, .int .i64 0, .int .i64 0]) := by kernel_rfl
theorem ob_108  : oneB Tryz.prog 108 = true := by kernel_rfl
theorem val_field {P : Program} {nt : NT} {k : L} {X : Operand} {t : TypeId} {f : Nat} {v u : Value} (hx : ev k X = some v) (hr : ∀ w, (Instr.field t v f).run P w = .ok u w) : Val P nt k (.field t X f) u := fun a ha d ty pos af g w => by
  simp only [execOp, ha.ev hx, Sem.run_bind, hr w, Result.andThen_ok]; rfl
theorem fd_40_0 (x y : Int) (d : Bool) (w : World) : (Instr.field 40 (.agg #[i64 x, i64 y, .bool d]) 0).run Tryz.prog w = .ok (.agg #[i64 x, i64 y]) w := by kernel_rfl
theorem St.ownArr {w0 w : World} {M : Nat → Prop} {R F F' : List As} {b : Nat} {cs : List Value} {T : TypeId} (H : St w0 w M R F) (hat : At F (blk b cs T) F') : St w0 w M R (arr (some ⟨b, 0, none⟩) cs :: F') := H.map fun X h => Own.map1 (fun X w h => blk_arr h) (Own.pick hat h)
theorem fset_same {fs : List As} {i : Nat} {f : As} (h : fs[i]? = some f) : fs.set i f = fs := by
  have hl := lt_of_some h
  have e : fs[i] = f := by
    rw [List.getElem?_eq_getElem hl] at h
    exact Option.some.inj h
  rw [← e]
  exact List.set_getElem_self _
def sg (kind bin : Int) : Si := ⟨kind, 0, 0, bin, ⟨0, 0, false⟩, mv0⟩
structure HoR where
  s : Stm
  r : Rb
  l : List Si
def hoistM (c : Cf) (s : Stm) (i : Nat) (r : Rb) (kind : Int) : HoR :=
  if kind = 3 then
    if (liftM c s i r.pose.x r.pose.y).e ≠ 0 then ⟨(liftM c s i r.pose.x r.pose.y).s, r, [sg 8 0]⟩
    else ⟨(liftM c s i r.pose.x r.pose.y).s, { r with load := (liftM c s i r.pose.x r.pose.y).bin }, [sg 4 (liftM c s i r.pose.x r.pose.y).bin]⟩
  else if (dropM c s i r.pose.x r.pose.y).e ≠ 0 then ⟨(dropM c s i r.pose.x r.pose.y).s, r, [sg 8 0]⟩
  else if isPort c r.pose.x r.pose.y = true then ⟨(dropM c s i r.pose.x r.pose.y).s, { r with load := 0 }, [sg 5 (s.loads.getD i 0), sg 6 (s.loads.getD i 0)]⟩
  else ⟨(dropM c s i r.pose.x r.pose.y).s, { r with load := 0 }, [sg 5 (s.loads.getD i 0)]⟩
section
variable {c : Cf} {s : Stm} {i : Nat} {r : Rb} {kind : Int}
theorem ho_a (h : (kind == 3) = true) (h1 : ((liftM c s i r.pose.x r.pose.y).e != 0) = true) : hoistM c s i r kind = ⟨(liftM c s i r.pose.x r.pose.y).s, r, [sg 8 0]⟩ := by
  unfold hoistM; rw [if_pos (by simpa using h), if_pos (by simpa using h1)]
theorem ho_b (h : (kind == 3) = true) (h1 : ((liftM c s i r.pose.x r.pose.y).e != 0) = false) : hoistM c s i r kind = ⟨(liftM c s i r.pose.x r.pose.y).s, { r with load := (liftM c s i r.pose.x r.pose.y).bin }, [sg 4 (liftM c s i r.pose.x r.pose.y).bin]⟩ := by
  unfold hoistM; rw [if_pos (by simpa using h), if_neg (by simpa using h1)]
theorem ho_c (h : (kind == 3) = false) (h1 : ((dropM c s i r.pose.x r.pose.y).e != 0) = true) : hoistM c s i r kind = ⟨(dropM c s i r.pose.x r.pose.y).s, r, [sg 8 0]⟩ := by
  unfold hoistM; rw [if_neg (by simpa using h), if_pos (by simpa using h1)]
theorem ho_d (h : (kind == 3) = false) (h1 : ((dropM c s i r.pose.x r.pose.y).e != 0) = false) (h2 : decide (0 ≤ portB ⟨c.w, c.h, KF c⟩ r.pose.x r.pose.y) = true) : hoistM c s i r kind = ⟨(dropM c s i r.pose.x r.pose.y).s, { r with load := 0 }, [sg 5 (s.loads.getD i 0), sg 6 (s.loads.getD i 0)]⟩ := by
  unfold hoistM; rw [if_neg (by simpa using h), if_neg (by simpa using h1), if_pos (show isPort c r.pose.x r.pose.y = true from h2)]
theorem ho_e (h : (kind == 3) = false) (h1 : ((dropM c s i r.pose.x r.pose.y).e != 0) = false) (h2 : decide (0 ≤ portB ⟨c.w, c.h, KF c⟩ r.pose.x r.pose.y) = false) : hoistM c s i r kind = ⟨(dropM c s i r.pose.x r.pose.y).s, { r with load := 0 }, [sg 5 (s.loads.getD i 0)]⟩ := by
  unfold hoistM; rw [if_neg (by simpa using h), if_neg (by simpa using h1), if_neg]
  unfold isPort
  simp [h2]
end
theorem hoists_spec (c : Cf) (hm : MayOk c) (b : Nat) (x : WX) (now : Int) {i a : Nat} (hq : x.br[i]? = some a) {fs : List As} {r : Rb} {g : Option Gg} (hf : fs[i]? = some (robA c a r g)) (s : Stm) (hok : s.Ok c) (hil : i < s.loads.length) (m : Mv) :
    Sk.Spec Tryz.prog 57 #[ptr b, i64 (i : Int), .agg (encM m).toArray] [wb b x now, gfix c x.bg x.bk, kblk x.bk (KF c), raA x] [stkA c x.bs s, sep fs] fun e F' => ∃ v : SV, e = .returned (.slice v.A (hoistM c s i r m.kind).l.length v.cap) ∧
      F' = [arr v.A ((hoistM c s i r m.kind).l.flatMap encSi), stkA c x.bs (hoistM c s i r m.kind).s, sep (fs.set i (robA c a (hoistM c s i r m.kind).r g))] ∧ True := by
  have hi := lt_of_some hq
  have hz := getD_get hil 0
  have hq' : ∀ f : As, (fs.set i f)[i]? = some f := fun f => by simp [lt_of_some hf]
  refine Spec.of_code (vs := [_, _, _]) (k0 := [(0, _), (1, _), (2, _)]) 91 Tryz.func57 rfl Tryz.ntmps57 rfl (.cons (.cons (.cons .nil))) fun w X RR hRR H => ?_
  obtain ⟨b9, o9, hA⟩ := Has.base (.ro (.there (.there (.there .here)))) H (nil_of_flat encN_len (by decide) hi)
  refine .seq ?_
  refine .plain rfl ?_
  refine .box rfl rfl rfl rfl rfl H (fun w1 b1 H1 => ⟨fun _ => trivial, ?_⟩)
  refine .q rfl rfl rfl (val_assign rfl) ?_
  refine .nil (cj ?_)
  refine .seq ?_
  refine .plain rfl ?_
  refine .q rfl rfl rfl (val_move rfl) ?_
  refine .q rfl rfl rfl (val_nilCheck rfl) ?_
  refine .q rfl rfl rfl (val_fieldAddr rfl fa_111_2) ?_
  refine .qs rfl rfl rfl H1 (ld_b rfl ob_109 (.ro .here) rfl) ?_
  refine .q rfl rfl rfl (val_move rfl) ?_
  refine .q rfl rfl rfl (val_ix el_109 hA rfl rfl rfl hi) ?_
  refine .qs rfl rfl rfl H1 (ld_el rfl ob_30 .base hA (.ro (.there (.there (.there .here)))) encN_len (by first | assumption | rfl) rfl) ?_
  refine .call1 rfl rfl rfl en59 (.cons rfl .nil) (Spec.nthR hf poseA_spec) H1 .nil (.own (.there (.there .here)) .nil) (fun w2 H2 => ⟨fun _ => trivial, ?_⟩)
  refine .q rfl rfl rfl (val_field rfl (fd_40_0 _ _ _)) ?_
  refine .alloc rfl rfl rfl ze_38 rfl H2 (fun w3 b3 H3 => ⟨fun _ => trivial, ?_⟩)
  refine .store rfl rfl rfl rfl rfl sz_38 rfl H3 .here (by repeat constructor) (fun w4 H4 => ⟨fun _ => trivial, ?_⟩)
  refine .nil (cj ?_)
  refine .seq ?_
  refine .plain rfl ?_
  refine .q rfl rfl rfl (val_mk (.cons rfl .nil) (mk_60_0 _)) ?_
  refine .lit rfl rfl rfl Tryz.underlying57 (.cons rfl .nil) (bs_60_1_0 _ _ _ _ _ _ _ _ _ _ _ _ _ _ _ _ _ _) H4 (fun w5 b5 H5 => ⟨fun _ => trivial, ?_⟩)
  refine .q rfl rfl rfl (val_assign rfl) ?_
  refine .nil (cj ?_)
  refine .seq ?_
  refine .seq ?_
  refine .plain rfl ?_
  refine .q rfl rfl rfl (val_fieldAddr rfl fa_42_0) ?_
  refine .qs rfl rfl rfl H5 (ld_b rfl ob_3 (.own (.there (.there .here))) rfl) ?_
  refine .q rfl rfl rfl (val_eql rfl rfl rfl) ?_
  refine .nil (cj ?_)
  refine .cond rfl (fun hc0 => ?_) (fun hc0 => ?_)
  · refine .seq ?_
    refine .drawS2 12 (.cons (0, true) (.cons (1, true) (.cons (2, true) (.cons (3, true) (.cons (4, true) (.cons (5, true) (.cons (6, false) (.cons (7, true) (.cons (8, true) (.cons (9, true) (.cons (10, true) (.cons (11, true) .nil)))))))))))) mo (by kernel_rfl) H5 (.cons (.there .here) .nil) (fun _ _ _ _ _ h => h) (fun w6 H6 => ?_)
    refine .p rfl rfl rfl (val_move rfl) ?_
    refine .p rfl rfl rfl (val_nilCheck rfl) ?_
    refine .p rfl rfl rfl (val_fieldAddr rfl fa_111_1) ?_
    refine .ps rfl rfl rfl rfl (ld_b rfl ob_108 (.ro .here) rfl) ?_
    refine .p rfl rfl rfl (val_move rfl) ?_
    refine .ps rfl rfl rfl rfl (ld_w rfl ag_38 (.own .here) rfl) ?_
    refine .call1 rfl rfl rfl en88 (.cons rfl (.cons rfl (.cons rfl .nil))) (liftA_spec hm hok hil _ _) H6 (.cons (.there (.there (.there .here))) .nil) .nil (fun w7 H7 => ⟨fun _ => (H7.sub (.cons (.there (.there .here)) .nil)), ?_⟩)
    refine .p rfl rfl rfl (val_move rfl) ?_
    refine .p rfl rfl rfl (val_extract rfl rfl) ?_
    refine .p rfl rfl rfl (val_extract rfl rfl) ?_
    refine .p rfl rfl rfl (val_assign rfl) ?_
    refine .p rfl rfl rfl (val_assign rfl) ?_
    refine .nil (cj ?_)
    refine .seq ?_
    refine .seq ?_
    refine .plain rfl ?_
    refine .q rfl rfl rfl (val_move rfl) ?_
    refine .q rfl rfl rfl (val_neq rfl rfl rfl) ?_
    refine .nil (cj ?_)
    refine .cond rfl (fun hc1 => ?_) (fun hc1 => ?_)
    · refine .seq ?_
      refine .plain rfl ?_
      refine .q rfl rfl rfl (val_move rfl) ?_
      refine .q rfl rfl rfl (val_assign rfl) ?_
      refine .nil (cj ?_)
      refine .ret (fret (res1 rfl rfl) ?_)
      first | (rw [ho_a hc0 hc1, fset_same hf] at hRR; exact hRR _ _ ⟨_, ⟨⟨some ⟨_, 0, none⟩, 1⟩, rfl, rfl, trivial⟩, (St.ownArr H7 (.there .here)).sub (.cons .here (.cons .here (.cons (.there (.there .here)) .nil)))⟩) | (rw [ho_b hc0 hc1] at hRR; exact hRR _ _ ⟨_, ⟨⟨some ⟨_, 0, none⟩, 1⟩, rfl, rfl, trivial⟩, (St.ownArr H7 .here).sub .nil⟩) | (rw [ho_c hc0 hc2, fset_same hf] at hRR; exact hRR _ _ ⟨_, ⟨⟨some ⟨_, 0, none⟩, 1⟩, rfl, rfl, trivial⟩, (St.ownArr H7 (.there .here)).sub (.cons .here (.cons .here (.cons (.there (.there .here)) .nil)))⟩) | (rw [ho_d hc0 hc2 hc3] at hRR; exact hRR _ _ ⟨_, ⟨⟨A8, cap8⟩, rfl, rfl, trivial⟩, H7.sub .nil⟩) | (rw [ho_e hc0 hc2 hc3] at hRR; exact hRR _ _ ⟨_, ⟨⟨some ⟨_, 0, none⟩, 1⟩, rfl, rfl, trivial⟩, (St.ownArr H7 .here).sub .nil⟩)
    · refine .skip (cj ?_)
      refine .seq ?_
      refine .plain rfl ?_
      refine .q rfl rfl rfl (val_move rfl) ?_
      refine .q rfl rfl rfl (val_nilCheck rfl) ?_
      refine .q rfl rfl rfl (val_fieldAddr rfl fa_111_2) ?_
      refine .qs rfl rfl rfl H7 (ld_b rfl ob_109 (.ro .here) rfl) ?_
      refine .q rfl rfl rfl (val_move rfl) ?_
      refine .q rfl rfl rfl (val_ix el_109 hA rfl rfl rfl hi) ?_
      refine .qs rfl rfl rfl H7 (ld_el rfl ob_30 .base hA (.ro (.there (.there (.there .here)))) encN_len (by first | assumption | rfl) rfl) ?_
      refine .q rfl rfl rfl (val_move rfl) ?_
      refine .call1 rfl rfl rfl en45 (.cons rfl (.cons rfl .nil)) (Spec.nth1 hf (carryA_spec _)) H7 (.cons (.there (.there (.there (.there .here)))) .nil) .nil (fun w8 H8 => ⟨fun _ => trivial, ?_⟩)
      refine .nil (cj ?_)
      refine .seq ?_
      refine .plain rfl ?_
      refine .q rfl rfl rfl (val_move rfl) ?_
      refine .q rfl rfl rfl (val_mk (.cons rfl (.cons rfl .nil)) (mk_60_0_3 _ _)) ?_
      refine .lit rfl rfl rfl Tryz.underlying57 (.cons rfl .nil) (bs_60_1_0 _ _ _ _ _ _ _ _ _ _ _ _ _ _ _ _ _ _) H8 (fun w9 b9 H9 => ⟨fun _ => trivial, ?_⟩)
      refine .q rfl rfl rfl (val_assign rfl) ?_
      refine .nil (cj ?_)
      refine .ret (fret (res1 rfl rfl) ?_)
      first | (rw [ho_a hc0 hc1, fset_same hf] at hRR; exact hRR _ _ ⟨_, ⟨⟨some ⟨_, 0, none⟩, 1⟩, rfl, rfl, trivial⟩, (St.ownArr H9 (.there (.there (.there .here)))).sub (.cons .here (.cons (.there (.there .here)) (.cons (.there .here) .nil)))⟩) | (rw [ho_b hc0 hc1] at hRR; exact hRR _ _ ⟨_, ⟨⟨some ⟨_, 0, none⟩, 1⟩, rfl, rfl, trivial⟩, (St.ownArr H9 .here).sub (.cons .here (.cons (.there .here) (.cons .here .nil)))⟩) | (rw [ho_c hc0 hc2, fset_same hf] at hRR; exact hRR _ _ ⟨_, ⟨⟨some ⟨_, 0, none⟩, 1⟩, rfl, rfl, trivial⟩, (St.ownArr H9 (.there (.there (.there .here)))).sub (.cons .here (.cons (.there (.there .here)) (.cons (.there .here) .nil)))⟩) | (rw [ho_d hc0 hc2 hc3] at hRR; exact hRR _ _ ⟨_, ⟨⟨A8, cap8⟩, rfl, rfl, trivial⟩, H9.sub .nil⟩) | (rw [ho_e hc0 hc2 hc3] at hRR; exact hRR _ _ ⟨_, ⟨⟨some ⟨_, 0, none⟩, 1⟩, rfl, rfl, trivial⟩, (St.ownArr H9 .here).sub .nil⟩)
  · refine .skip (cj ?_)
    refine .seq ?_
    refine .plain rfl ?_
    refine .q rfl rfl rfl (val_move rfl) ?_
    refine .q rfl rfl rfl (val_nilCheck rfl) ?_
    refine .q rfl rfl rfl (val_fieldAddr rfl fa_111_1) ?_
    refine .qs rfl rfl rfl H5 (ld_b rfl ob_108 (.ro .here) rfl) ?_
    refine .q rfl rfl rfl (val_move rfl) ?_
    refine .call1 rfl rfl rfl en89 (.cons rfl (.cons rfl .nil)) (sloadA_spec hz hok) H5 .nil (.own (.there (.there (.there .here))) .nil) (fun w10 H10 => ⟨fun _ => trivial, ?_⟩)
    refine .q rfl rfl rfl (val_assign rfl) ?_
    refine .nil (cj ?_)
    refine .seq ?_
    refine .seq ?_
    refine .drawS2 8 (.cons (0, true) (.cons (1, true) (.cons (2, true) (.cons (3, true) (.cons (4, true) (.cons (5, true) (.cons (6, false) (.cons (7, true) .nil)))))))) mo (by kernel_rfl) H10 (.cons (.there .here) .nil) (fun _ _ _ _ _ h => h) (fun w11 H11 => ?_)
    refine .p rfl rfl rfl (val_move rfl) ?_
    refine .p rfl rfl rfl (val_nilCheck rfl) ?_
    refine .p rfl rfl rfl (val_fieldAddr rfl fa_111_1) ?_
    refine .ps rfl rfl rfl rfl (ld_b rfl ob_108 (.ro .here) rfl) ?_
    refine .p rfl rfl rfl (val_move rfl) ?_
    refine .ps rfl rfl rfl rfl (ld_w rfl ag_38 (.own .here) rfl) ?_
    refine .call1 rfl rfl rfl en90 (.cons rfl (.cons rfl (.cons rfl .nil))) (dropA_spec hm hok hil _ _) H11 (.cons (.there (.there (.there .here))) .nil) .nil (fun w12 H12 => ⟨fun _ => (H12.sub (.cons (.there (.there .here)) .nil)), ?_⟩)
    refine .p rfl rfl rfl (val_neq rfl rfl rfl) ?_
    refine .nil (cj ?_)
    refine .cond rfl (fun hc2 => ?_) (fun hc2 => ?_)
    · refine .seq ?_
      refine .plain rfl ?_
      refine .q rfl rfl rfl (val_move rfl) ?_
      refine .q rfl rfl rfl (val_assign rfl) ?_
      refine .nil (cj ?_)
      refine .ret (fret (res1 rfl rfl) ?_)
      first | (rw [ho_a hc0 hc1, fset_same hf] at hRR; exact hRR _ _ ⟨_, ⟨⟨some ⟨_, 0, none⟩, 1⟩, rfl, rfl, trivial⟩, (St.ownArr H12 (.there .here)).sub (.cons .here (.cons .here (.cons (.there (.there .here)) .nil)))⟩) | (rw [ho_b hc0 hc1] at hRR; exact hRR _ _ ⟨_, ⟨⟨some ⟨_, 0, none⟩, 1⟩, rfl, rfl, trivial⟩, (St.ownArr H12 .here).sub .nil⟩) | (rw [ho_c hc0 hc2, fset_same hf] at hRR; exact hRR _ _ ⟨_, ⟨⟨some ⟨_, 0, none⟩, 1⟩, rfl, rfl, trivial⟩, (St.ownArr H12 (.there .here)).sub (.cons .here (.cons .here (.cons (.there (.there .here)) .nil)))⟩) | (rw [ho_d hc0 hc2 hc3] at hRR; exact hRR _ _ ⟨_, ⟨⟨A8, cap8⟩, rfl, rfl, trivial⟩, H12.sub .nil⟩) | (rw [ho_e hc0 hc2 hc3] at hRR; exact hRR _ _ ⟨_, ⟨⟨some ⟨_, 0, none⟩, 1⟩, rfl, rfl, trivial⟩, (St.ownArr H12 .here).sub .nil⟩)
    · refine .skip (cj ?_)
      refine .seq ?_
      refine .plain rfl ?_
      refine .q rfl rfl rfl (val_move rfl) ?_
      refine .q rfl rfl rfl (val_nilCheck rfl) ?_
      refine .q rfl rfl rfl (val_fieldAddr rfl fa_111_2) ?_
      refine .qs rfl rfl rfl H12 (ld_b rfl ob_109 (.ro .here) rfl) ?_
      refine .q rfl rfl rfl (val_move rfl) ?_
      refine .q rfl rfl rfl (val_ix el_109 hA rfl rfl rfl (by omega)) ?_
      refine .qs rfl rfl rfl H12 (ld_el rfl ob_30 .base hA (.ro (.there (.there (.there .here)))) encN_len (by first | assumption | rfl) rfl) ?_
      refine .call1 rfl rfl rfl en45 (.cons rfl (.cons rfl .nil)) (Spec.nth1 hf (carryA_spec _)) H12 (.cons (.there (.there (.there (.there .here)))) .nil) .nil (fun w13 H13 => ⟨fun _ => trivial, ?_⟩)
      refine .nil (cj ?_)
      refine .seq ?_
      refine .plain rfl ?_
      refine .q rfl rfl rfl (val_move rfl) ?_
      refine .q rfl rfl rfl (val_mk (.cons rfl (.cons rfl .nil)) (mk_60_0_3 _ _)) ?_
      refine .lit rfl rfl rfl Tryz.underlying57 (.cons rfl .nil) (bs_60_1_0 _ _ _ _ _ _ _ _ _ _ _ _ _ _ _ _ _ _) H13 (fun w14 b14 H14 => ⟨fun _ => trivial, ?_⟩)
      refine .q rfl rfl rfl (val_assign rfl) ?_
      refine .nil (cj ?_)
      refine .seq ?_
      refine .seq ?_
      refine .drawS 7 (.cons (0, true) (.cons (1, true) (.cons (2, true) (.cons (3, true) (.cons (4, true) (.cons (5, false) (.cons (6, true) .nil))))))) mo (by kernel_rfl) H14 (fun _ _ _ _ _ h => h) (fun w15 H15 => ?_)
      refine .p rfl rfl rfl (val_move rfl) ?_
      refine .p rfl rfl rfl (val_nilCheck rfl) ?_
      refine .p rfl rfl rfl (val_fieldAddr rfl fa_111_0) ?_
      refine .ps rfl rfl rfl rfl (ld_b rfl ob_84 (.ro .here) rfl) ?_
      refine .ps rfl rfl rfl rfl (ld_w rfl ag_38 (.own (.there (.there (.there (.there .here))))) rfl) ?_
      refine .call1 rfl rfl rfl en91 (.cons rfl (.cons rfl .nil)) (portK_spec c hm _ _ _ _) H15 .nil (.ro (.there .here) (.ro (.there (.there .here)) .nil)) (fun w16 H16 => ⟨fun _ => H16, ?_⟩)
      refine .p rfl rfl rfl (val_geq rfl rfl rfl) ?_
      refine .nil (cj ?_)
      refine .cond rfl (fun hc3 => ?_) (fun hc3 => ?_)
      · have HR := H16.blkRow (n := 1) (cap := 1) (sz := 18) .here rfl (Nat.le_refl _) (by decide)
        refine .plain rfl ?_
        refine .q rfl rfl rfl (val_move rfl) ?_
        refine .q rfl rfl rfl (val_move rfl) ?_
        refine .q rfl rfl rfl (val_mk (.cons rfl (.cons rfl .nil)) (mk_60_0_3 _ _)) ?_
        refine .lit rfl rfl rfl Tryz.underlying57 (.cons rfl .nil) (bs_60_1_0 _ _ _ _ _ _ _ _ _ _ _ _ _ _ _ _ _ _) HR (fun w17 b17 H17 => ⟨fun _ => trivial, ?_⟩)
        refine .append rfl rfl rfl (ap_57) rfl rfl H17 (.there .here) (Has.srcBlk (.own .here) H17) rfl (by simp [Value.oneCell']) (by decide) (by decide) (fun v18 w18 H18 => ⟨fun _ => trivial, ?_⟩)
        obtain ⟨A8, cap8, rfl, hn8, H19⟩ := St.rowOwn H18 .here
        refine .q rfl rfl rfl (val_assign rfl) ?_
        refine .nil (cj ?_)
        refine .seq ?_
        refine .plain rfl ?_
        refine .q rfl rfl rfl (val_move rfl) ?_
        refine .q rfl rfl rfl (val_assign rfl) ?_
        refine .nil (cj ?_)
        refine .ret (fret (res1 rfl rfl) ?_)
        first | (rw [ho_a hc0 hc1, fset_same hf] at hRR; exact hRR _ _ ⟨_, ⟨⟨some ⟨_, 0, none⟩, 1⟩, rfl, rfl, trivial⟩, (St.ownArr H19 (.there (.there (.there (.there .here))))).sub (.cons .here (.cons (.there (.there (.there .here))) (.cons (.there (.there .here)) .nil)))⟩) | (rw [ho_b hc0 hc1] at hRR; exact hRR _ _ ⟨_, ⟨⟨some ⟨_, 0, none⟩, 1⟩, rfl, rfl, trivial⟩, (St.ownArr H19 .here).sub .nil⟩) | (rw [ho_c hc0 hc2, fset_same hf] at hRR; exact hRR _ _ ⟨_, ⟨⟨some ⟨_, 0, none⟩, 1⟩, rfl, rfl, trivial⟩, (St.ownArr H19 (.there (.there (.there (.there .here))))).sub (.cons .here (.cons (.there (.there (.there .here))) (.cons (.there (.there .here)) .nil)))⟩) | (rw [ho_d hc0 hc2 hc3] at hRR; exact hRR _ _ ⟨_, ⟨⟨A8, cap8⟩, rfl, rfl, trivial⟩, H19.sub (.cons .here (.cons (.there (.there .here)) (.cons (.there .here) .nil)))⟩) | (rw [ho_e hc0 hc2 hc3] at hRR; exact hRR _ _ ⟨_, ⟨⟨some ⟨_, 0, none⟩, 1⟩, rfl, rfl, trivial⟩, (St.ownArr H19 .here).sub (.cons .here (.cons (.there (.there (.there .here))) (.cons (.there (.there .here)) .nil)))⟩)
      · refine .skip (cj ?_)
        refine .seq ?_
        refine .plain rfl ?_
        refine .q rfl rfl rfl (val_move rfl) ?_
        refine .q rfl rfl rfl (val_assign rfl) ?_
        refine .nil (cj ?_)
        refine .ret (fret (res1 rfl rfl) ?_)
        first | (rw [ho_a hc0 hc1, fset_same hf] at hRR; exact hRR _ _ ⟨_, ⟨⟨some ⟨_, 0, none⟩, 1⟩, rfl, rfl, trivial⟩, (St.ownArr H16 (.there (.there (.there .here)))).sub (.cons .here (.cons (.there (.there .here)) (.cons (.there .here) .nil)))⟩) | (rw [ho_b hc0 hc1] at hRR; exact hRR _ _ ⟨_, ⟨⟨some ⟨_, 0, none⟩, 1⟩, rfl, rfl, trivial⟩, (St.ownArr H16 .here).sub .nil⟩) | (rw [ho_c hc0 hc2, fset_same hf] at hRR; exact hRR _ _ ⟨_, ⟨⟨some ⟨_, 0, none⟩, 1⟩, rfl, rfl, trivial⟩, (St.ownArr H16 (.there (.there (.there .here)))).sub (.cons .here (.cons (.there (.there .here)) (.cons (.there .here) .nil)))⟩) | (rw [ho_d hc0 hc2 hc3] at hRR; exact hRR _ _ ⟨_, ⟨⟨A8, cap8⟩, rfl, rfl, trivial⟩, H16.sub .nil⟩) | (rw [ho_e hc0 hc2 hc3] at hRR; exact hRR _ _ ⟨_, ⟨⟨some ⟨_, 0, none⟩, 1⟩, rfl, rfl, trivial⟩, (St.ownArr H16 .here).sub (.cons .here (.cons (.there .here) (.cons .here .nil)))⟩)
end Go.Proofs.YtmbibkifbehgnaaGreatDoor
namespace Go.Proofs.YtmbibkifbehgnaaGreatDoor
open Go Sk
set_option linter.unusedVariables false
set_option linter.unusedSimpArgs false
set_option linter.unusedSectionVars false
theorem en56 : Enters Tryz.prog 56 := fun args w => by kernel_rfl
theorem mk_60_0_5 (x0_ : Int) (x5_0_ : Int) (x5_1_ : Int) (x5_2_ : Int) (x5_3_0_0_ : Int) (x5_3_0_1_ : Int) (x5_3_1_ : Bool) (x5_4_0_0_ : Int) (x5_4_0_1_ : Int) (x5_4_1_ : Bool) (x5_5_ : Int) (x5_6_ : Int) : Tryz.prog.built 60 [(0, .int .i64 x0_), (5, .agg (List.toArray [.int .i64 x5_0_, .int .i64 x5_1_, .int .i64 x5_2_, .int .i64 x5_3_0_0_, .int .i64 x5_3_0_1_, .bool x5_3_1_, .int .i64 x5_4_0_0_, .int .i64 x5_4_0_1_, .bool x5_4_1_, .int .i64 x5_5_, .int .i64 x5_6_]))] = some (List.toArray [.int .i64 x0_, .int .i64 0, .int .i64 0, .int .i64 0, .int .i64 0, .int .i64 0, .bool false, .int .i64 x5_0_, .int .i64 x5_1_, .int .i64 x5_2_, .int .i64 x5_3_0_0_, .int .i64 x5_3_0_1_, .bool x5_3_1_, .int .i64 x5_4_0_0_, .int .i64 x5_4_0_1_, .bool x5_4_1_, .int .i64 x5_5_, .int .i64 x5_6_]) := by kernel_rfl
/-- what is seen when a robot has heard -/
def hearL (how : Int) (g : Option Gg) : List Si := if how = 1 then [⟨1, 0, 0, 0, ⟨0, 0, false⟩, nowM g⟩] else if how = 2 then [sg 7 0] else if how = 3 then [sg 3 0] else []
section
variable {how : Int} {g : Option Gg}
theorem hl_a (h : (how == 1) = true) : hearL how g = [⟨1, 0, 0, 0, ⟨0, 0, false⟩, nowM g⟩] := by unfold hearL; rw [if_pos (by simpa using h)]
theorem hl_b (h : (how == 1) = false) (h2 : (how == 2) = true) : hearL how g = [sg 7 0] := by unfold hearL; rw [if_neg (by simpa using h), if_pos (by simpa using h2)]
theorem hl_c (h : (how == 1) = false) (h2 : (how == 2) = false) (h3 : (how == 3) = true) : hearL how g = [sg 3 0] := by unfold hearL; rw [if_neg (by simpa using h), if_neg (by simpa using h2), if_pos (by simpa using h3)]
theorem hl_d (h : (how == 1) = false) (h2 : (how == 2) = false) (h3 : (how == 3) = false) : hearL how g = [] := by unfold hearL; rw [if_neg (by simpa using h), if_neg (by simpa using h2), if_neg (by simpa using h3)]
end
structure HW where
  x : SV
  v : Value
section
variable (c : Cf) (hm : MayOk c) (b : Nat) (x : WX) (now : Int)
theorem hear0_spec' (t : Te) (ht : t.robot < 0 ∨ (x.br.length : Int) ≤ t.robot) : Sk.Spec Tryz.prog 25 #[ptr b, .agg (encT t).toArray] [wb b x now, raA x] [] fun e F' => e = .returned (.slice none 0 0) ∧ F' = [] := by
  refine Spec.of_code (vs := [_, _]) (k0 := [(0, _), (1, _)]) 54 Tryz.func25 rfl Tryz.ntmps25 rfl (.cons (.cons .nil)) fun w X RR hRR H => ?_
  refine .seq ?_
  refine .plain rfl ?_
  refine .box rfl rfl rfl rfl rfl H (fun w1 b1 H1 => ⟨fun _ => trivial, ?_⟩)
  refine .q rfl rfl rfl (val_assign rfl) ?_
  refine .nil (cj ?_)
  refine .seq ?_
  refine .plain rfl ?_
  refine .q rfl rfl rfl (val_move rfl) ?_
  refine .q rfl rfl rfl (val_fieldAddr rfl fa_44_1) ?_
  refine .qs rfl rfl rfl H1 (ld_b rfl ob_3 (.own .here) rfl) ?_
  refine .call1 rfl rfl rfl en52 (.cons rfl (.cons rfl .nil)) (rob0_spec _ _ _ ht) H1 .nil (.ro .here (.ro (.there .here) .nil)) (fun w2 H2 => ⟨fun _ => trivial, ?_⟩)
  refine .q rfl rfl rfl (val_assign rfl) ?_
  refine .nil (cj ?_)
  refine .seq ?_
  refine .seq ?_
  refine .plain rfl ?_
  refine .q rfl rfl rfl (val_move rfl) ?_
  refine .q rfl rfl rfl (val_ptr_eq_nil Tryz.underlying30 rfl rfl rfl) ?_
  refine .nil (cj ?_)
  refine .cond_t rfl ?_
  refine .seq ?_
  refine .plain rfl ?_
  refine .q rfl rfl rfl (val_assign rfl) ?_
  refine .nil (cj ?_)
  refine .ret (fret (res1 rfl rfl) ?_)
  refine hRR _ _ ⟨_, ⟨?_, rfl⟩, H2.sub .nil⟩
  rfl
include hm
theorem hear1_spec' (v : Value) {i a : Nat} (hq : x.br[i]? = some a) {fs : List As} {r : Rb} {g : Option Gg} (hf : fs[i]? = some (robA c a r g)) (hg : RunO g) (S : List Si) (hS : S.length + 1 ≤ 1000000) (t : Te) (ht : t.robot = (i : Int)) :
    Sk.Spec Tryz.prog 25 #[ptr b, .agg (encT t).toArray] [raA x, stepsA] [wbv b x now v, siA v S, sep fs] fun e F' => ∃ y : HW, e = .returned (teV (hearB c r g t).tele y.x) ∧
      F' = [wbv b x now y.v, siA y.v (S ++ (hearL (hearB c r g t).how (hearB c r g t).g).map (fillS now (i : Int) (hearB c r g t).r.pose)), sep (fs.set i (robA c a (hearB c r g t).r (hearB c r g t).g)), teA (hearB c r g t).tele y.x] ∧ True := by
  obtain ⟨kd, ro, ep, nu, mv, ps, lo⟩ := t
  dsimp only at ht
  subst ht
  have hi := lt_of_some hq
  have hf2 : ∀ f : As, (fs.set i f)[i]? = some f := fun f => by simp [lt_of_some hf]
  refine Spec.of_code (vs := [_, _]) (k0 := [(0, _), (1, _)]) 54 Tryz.func25 rfl Tryz.ntmps25 rfl (.cons (.cons .nil)) fun w X RR hRR H => ?_
  refine .seq ?_
  refine .plain rfl ?_
  refine .box rfl rfl rfl rfl rfl H (fun w1 b1 H1 => ⟨fun _ => trivial, ?_⟩)
  refine .q rfl rfl rfl (val_assign rfl) ?_
  refine .nil (cj ?_)
  refine .seq ?_
  refine .plain rfl ?_
  refine .q rfl rfl rfl (val_move rfl) ?_
  refine .q rfl rfl rfl (val_fieldAddr rfl fa_44_1) ?_
  refine .qs rfl rfl rfl H1 (ld_b rfl ob_3 (.own .here) rfl) ?_
  refine .call1 rfl rfl rfl en52 (.cons rfl (.cons rfl .nil)) (rob1_spec b { x with v := v } now hq) H1 .nil (.own (.there .here) (.ro .here .nil)) (fun w2 H2 => ⟨fun _ => trivial, ?_⟩)
  refine .q rfl rfl rfl (val_assign rfl) ?_
  refine .nil (cj ?_)
  refine .seq ?_
  refine .seq ?_
  refine .plain rfl ?_
  refine .q rfl rfl rfl (val_move rfl) ?_
  refine .q rfl rfl rfl (val_ptr_eq_nil Tryz.underlying30 rfl rfl rfl) ?_
  refine .nil (cj ?_)
  refine .cond_f rfl ?_
  refine .skip (cj ?_)
  refine .seq ?_
  refine .plain rfl ?_
  refine .q rfl rfl rfl (val_move rfl) ?_
  refine .qs rfl rfl rfl H2 (ld_w rfl ag_44 (.own .here) rfl) ?_
  refine .callx rfl rfl rfl en34 (.cons rfl (.cons rfl .nil)) (Spec.nthx hf (hearA2_spec hm hg _)) H2 (.cons (.there (.there (.there .here))) .nil) (.ro (.there .here) .nil) (fun y4 w3 C3 H3 => ⟨fun _ => trivial, ?_⟩)
  refine .q rfl rfl rfl (val_move rfl) ?_
  refine .q rfl rfl rfl (val_extract rfl rfl) ?_
  refine .q rfl rfl rfl (val_extract rfl rfl) ?_
  refine .q rfl rfl rfl (val_assign rfl) ?_
  refine .q rfl rfl rfl (val_assign rfl) ?_
  refine .nil (cj ?_)
  refine .seq ?_
  refine .seq ?_
  refine .plain rfl ?_
  refine .q rfl rfl rfl (val_move rfl) ?_
  refine .nil (cj ?_)
  refine .block ?_
  refine .seq ?_
  refine .plain rfl ?_
  refine .q rfl rfl rfl (val_eql rfl rfl rfl) ?_
  refine .q rfl rfl rfl (val_assign rfl) ?_
  refine .nil (cj ?_)
  refine .cond rfl (fun hc1 => ?_) (fun hc1 => ?_)
  · refine .seq ?_
    refine .plain rfl ?_
    refine .q rfl rfl rfl (val_move rfl) ?_
    refine .call1 rfl rfl rfl en55 (.cons rfl .nil) (Spec.nthR (hf2 _) nowA_spec) H3 .nil (.own .here .nil) (fun w4 H4 => ⟨fun _ => trivial, ?_⟩)
    refine .q rfl rfl rfl (val_move rfl) ?_
    refine .q rfl rfl rfl (val_extract rfl rfl) ?_
    refine .q rfl rfl rfl (val_extract rfl rfl) ?_
    refine .alloc rfl rfl rfl ze_42 rfl H4 (fun w5 b5 H5 => ⟨fun _ => trivial, ?_⟩)
    refine .store rfl rfl rfl rfl rfl sz_42 rfl H5 .here (by repeat constructor) (fun w6 H6 => ⟨fun _ => trivial, ?_⟩)
    refine .q rfl rfl rfl (val_assign rfl) ?_
    refine .nil (cj ?_)
    refine .plain rfl ?_
    refine .q rfl rfl rfl (val_move rfl) ?_
    refine .q rfl rfl rfl (val_fieldAddr rfl fa_44_1) ?_
    refine .qs rfl rfl rfl H6 (ld_b rfl ob_3 (.own (.there (.there (.there .here)))) rfl) ?_
    refine .qs rfl rfl rfl H6 (ld_w rfl ag_42 (.own .here) rfl) ?_
    refine .q rfl rfl rfl (val_mk (.cons rfl (.cons rfl .nil)) (mk_60_0_5 _ _ _ _ _ _ _ _ _ _ _ _)) ?_
    refine .lit rfl rfl rfl Tryz.underlying57 (.cons rfl .nil) (bs_60_1_0 _ _ _ _ _ _ _ _ _ _ _ _ _ _ _ _ _ _) H6 (fun w7 b7 H7 => ⟨fun _ => trivial, ?_⟩)
    refine .callx rfl rfl rfl en56 (.cons rfl (.cons rfl (.cons rfl .nil))) (sees1_spec c b x now hq (hf2 _) v _ ⟨1, 0, 0, 0, ⟨0, 0, false⟩, _⟩ S hS) H7 (.cons (.there (.there (.there (.there (.there .here))))) (.cons (.there (.there (.there (.there (.there .here))))) .nil)) (.own .here (.ro .here (.own (.there (.there .here)) .nil))) (fun v9 w8 C8 H8 => ⟨fun _ => trivial, ?_⟩)
    refine .nil (cj ?_)
    refine .seq ?_
    refine .plain rfl ?_
    refine .q rfl rfl rfl (val_move rfl) ?_
    refine .q rfl rfl rfl (val_assign rfl) ?_
    refine .nil (cj ?_)
    refine .ret (fret (res1 rfl rfl) ?_)
    first | (rw [hl_a hc1] at hRR; exact hRR _ _ ⟨_, ⟨⟨y4, v9⟩, rfl, rfl, trivial⟩, H8.sub (.cons .here (.cons .here (.cons (.there (.there .here)) (.cons (.there (.there .here)) .nil))))⟩) | (rw [hl_b hc1 hc2] at hRR; exact hRR _ _ ⟨_, ⟨⟨y4, v9⟩, rfl, rfl, trivial⟩, H8.sub (.cons .here (.cons .here (.cons (.there (.there .here)) (.cons (.there (.there .here)) .nil))))⟩) | (rw [hl_c hc1 hc2 hc3] at hRR; exact hRR _ _ ⟨_, ⟨⟨y4, v9⟩, rfl, rfl, trivial⟩, H8.sub (.cons .here (.cons .here (.cons (.there (.there .here)) (.cons (.there (.there .here)) .nil))))⟩) | (rw [hl_d hc1 hc2 hc3, List.map_nil, List.append_nil] at hRR; exact hRR _ _ ⟨_, ⟨⟨y4, v⟩, rfl, rfl, trivial⟩, H8.sub (.cons .here (.cons .here (.cons (.there (.there .here)) (.cons (.there (.there .here)) .nil))))⟩)
  · refine .seq ?_
    refine .plain rfl ?_
    refine .q rfl rfl rfl (val_eql rfl rfl rfl) ?_
    refine .q rfl rfl rfl (val_assign rfl) ?_
    refine .nil (cj ?_)
    refine .cond rfl (fun hc2 => ?_) (fun hc2 => ?_)
    · refine .plain rfl ?_
      refine .q rfl rfl rfl (val_move rfl) ?_
      refine .q rfl rfl rfl (val_fieldAddr rfl fa_44_1) ?_
      refine .qs rfl rfl rfl H3 (ld_b rfl ob_3 (.own (.there (.there .here))) rfl) ?_
      refine .q rfl rfl rfl (val_mk (.cons rfl .nil) (mk_60_0 _)) ?_
      refine .lit rfl rfl rfl Tryz.underlying57 (.cons rfl .nil) (bs_60_1_0 _ _ _ _ _ _ _ _ _ _ _ _ _ _ _ _ _ _) H3 (fun w9 b9 H9 => ⟨fun _ => trivial, ?_⟩)
      refine .callx rfl rfl rfl en56 (.cons rfl (.cons rfl (.cons rfl .nil))) (sees1_spec c b x now hq (hf2 _) v _ (sg 7 0) S hS) H9 (.cons (.there (.there (.there (.there .here)))) (.cons (.there (.there (.there (.there .here)))) .nil)) (.own .here (.ro .here (.own (.there .here) .nil))) (fun v9 w10 C10 H10 => ⟨fun _ => trivial, ?_⟩)
      refine .nil (cj ?_)
      refine .seq ?_
      refine .plain rfl ?_
      refine .q rfl rfl rfl (val_move rfl) ?_
      refine .q rfl rfl rfl (val_assign rfl) ?_
      refine .nil (cj ?_)
      refine .ret (fret (res1 rfl rfl) ?_)
      first | (rw [hl_a hc1] at hRR; exact hRR _ _ ⟨_, ⟨⟨y4, v9⟩, rfl, rfl, trivial⟩, H10.sub (.cons .here (.cons .here (.cons (.there .here) (.cons (.there .here) .nil))))⟩) | (rw [hl_b hc1 hc2] at hRR; exact hRR _ _ ⟨_, ⟨⟨y4, v9⟩, rfl, rfl, trivial⟩, H10.sub (.cons .here (.cons .here (.cons (.there .here) (.cons (.there .here) .nil))))⟩) | (rw [hl_c hc1 hc2 hc3] at hRR; exact hRR _ _ ⟨_, ⟨⟨y4, v9⟩, rfl, rfl, trivial⟩, H10.sub (.cons .here (.cons .here (.cons (.there .here) (.cons (.there .here) .nil))))⟩) | (rw [hl_d hc1 hc2 hc3, List.map_nil, List.append_nil] at hRR; exact hRR _ _ ⟨_, ⟨⟨y4, v⟩, rfl, rfl, trivial⟩, H10.sub (.cons .here (.cons .here (.cons (.there .here) (.cons (.there .here) .nil))))⟩)
    · refine .seq ?_
      refine .plain rfl ?_
      refine .q rfl rfl rfl (val_eql rfl rfl rfl) ?_
      refine .q rfl rfl rfl (val_assign rfl) ?_
      refine .nil (cj ?_)
      refine .cond rfl (fun hc3 => ?_) (fun hc3 => ?_)
      · refine .plain rfl ?_
        refine .q rfl rfl rfl (val_move rfl) ?_
        refine .q rfl rfl rfl (val_fieldAddr rfl fa_44_1) ?_
        refine .qs rfl rfl rfl H3 (ld_b rfl ob_3 (.own (.there (.there .here))) rfl) ?_
        refine .q rfl rfl rfl (val_mk (.cons rfl .nil) (mk_60_0 _)) ?_
        refine .lit rfl rfl rfl Tryz.underlying57 (.cons rfl .nil) (bs_60_1_0 _ _ _ _ _ _ _ _ _ _ _ _ _ _ _ _ _ _) H3 (fun w11 b11 H11 => ⟨fun _ => trivial, ?_⟩)
        refine .callx rfl rfl rfl en56 (.cons rfl (.cons rfl (.cons rfl .nil))) (sees1_spec c b x now hq (hf2 _) v _ (sg 3 0) S hS) H11 (.cons (.there (.there (.there (.there .here)))) (.cons (.there (.there (.there (.there .here)))) .nil)) (.own .here (.ro .here (.own (.there .here) .nil))) (fun v9 w12 C12 H12 => ⟨fun _ => trivial, ?_⟩)
        refine .nil (cj ?_)
        refine .seq ?_
        refine .plain rfl ?_
        refine .q rfl rfl rfl (val_move rfl) ?_
        refine .q rfl rfl rfl (val_assign rfl) ?_
        refine .nil (cj ?_)
        refine .ret (fret (res1 rfl rfl) ?_)
        first | (rw [hl_a hc1] at hRR; exact hRR _ _ ⟨_, ⟨⟨y4, v9⟩, rfl, rfl, trivial⟩, H12.sub (.cons .here (.cons .here (.cons (.there .here) (.cons (.there .here) .nil))))⟩) | (rw [hl_b hc1 hc2] at hRR; exact hRR _ _ ⟨_, ⟨⟨y4, v9⟩, rfl, rfl, trivial⟩, H12.sub (.cons .here (.cons .here (.cons (.there .here) (.cons (.there .here) .nil))))⟩) | (rw [hl_c hc1 hc2 hc3] at hRR; exact hRR _ _ ⟨_, ⟨⟨y4, v9⟩, rfl, rfl, trivial⟩, H12.sub (.cons .here (.cons .here (.cons (.there .here) (.cons (.there .here) .nil))))⟩) | (rw [hl_d hc1 hc2 hc3, List.map_nil, List.append_nil] at hRR; exact hRR _ _ ⟨_, ⟨⟨y4, v⟩, rfl, rfl, trivial⟩, H12.sub (.cons .here (.cons .here (.cons (.there .here) (.cons (.there .here) .nil))))⟩)
      · refine .skip (cj ?_)
        refine .seq ?_
        refine .plain rfl ?_
        refine .q rfl rfl rfl (val_move rfl) ?_
        refine .q rfl rfl rfl (val_assign rfl) ?_
        refine .nil (cj ?_)
        refine .ret (fret (res1 rfl rfl) ?_)
        first | (rw [hl_a hc1] at hRR; exact hRR _ _ ⟨_, ⟨⟨y4, v9⟩, rfl, rfl, trivial⟩, H3.sub (.cons (.there (.there (.there .here))) (.cons (.there (.there (.there .here))) (.cons .here (.cons .here .nil))))⟩) | (rw [hl_b hc1 hc2] at hRR; exact hRR _ _ ⟨_, ⟨⟨y4, v9⟩, rfl, rfl, trivial⟩, H3.sub (.cons (.there (.there (.there .here))) (.cons (.there (.there (.there .here))) (.cons .here (.cons .here .nil))))⟩) | (rw [hl_c hc1 hc2 hc3] at hRR; exact hRR _ _ ⟨_, ⟨⟨y4, v9⟩, rfl, rfl, trivial⟩, H3.sub (.cons (.there (.there (.there .here))) (.cons (.there (.there (.there .here))) (.cons .here (.cons .here .nil))))⟩) | (rw [hl_d hc1 hc2 hc3, List.map_nil, List.append_nil] at hRR; exact hRR _ _ ⟨_, ⟨⟨y4, v⟩, rfl, rfl, trivial⟩, H3.sub (.cons (.there (.there (.there .here))) (.cons (.there (.there (.there .here))) (.cons .here (.cons .here .nil))))⟩)
end
end Go.Proofs.YtmbibkifbehgnaaGreatDoor
namespace Go.Proofs.YtmbibkifbehgnaaGreatDoor
open Go Sk
set_option linter.unusedVariables false
set_option linter.unusedSimpArgs false
set_option linter.unusedSectionVars false
theorem en57 : Enters Tryz.prog 57 := fun args w => by kernel_rfl
theorem ap_70  : apB Tryz.prog 70 44 19 152 = true := by kernel_rfl
/-- a tick under way -/
structure TkM where
  rs : List Rg
  s : Stm
  l : List Si
  te : List Te
/-- a Lift or Drop that is done, or nothing -/
def hoT (c : Cf) (s : Stm) (i : Nat) (t : TR) : HoR := if t.m.kind = 3 ∨ t.m.kind = 4 then hoistM c s i t.r t.m.kind else ⟨s, t.r, []⟩
def stepM (c : Cf) (now : Int) (i : Nat) (T : TkM) (q : Rg) : TkM :=
  if (tickO q.r q.g).how = 0 then ⟨T.rs.set i ⟨(tickO q.r q.g).r, (tickO q.r q.g).g⟩, T.s, T.l, T.te⟩
  else ⟨T.rs.set i ⟨(hoT c T.s i (tickO q.r q.g)).r, (tickO q.r q.g).g⟩, (hoT c T.s i (tickO q.r q.g)).s,
    T.l ++ (hoT c T.s i (tickO q.r q.g)).l.map (fillS now (i : Int) (hoT c T.s i (tickO q.r q.g)).r.pose) ++ [fillS now (i : Int) (hoT c T.s i (tickO q.r q.g)).r.pose ⟨2, 0, 0, 0, ⟨0, 0, false⟩, (tickO q.r q.g).m⟩] ++
      (if (tickO q.r q.g).how = 2 then [fillS now (i : Int) (hoT c T.s i (tickO q.r q.g)).r.pose (sg 3 0)] else []), T.te ++ [tellB (hoT c T.s i (tickO q.r q.g)).r]⟩
def tickT (c : Cf) (W : Wm) : Nat → TkM
  | 0 => ⟨W.rs, W.s, W.l, []⟩
  | i + 1 => match (tickT c W i).rs[i]? with
    | some q => stepM c (w64 (W.now + 1)) i (tickT c W i) q
    | none => tickT c W i
def tickWd (c : Cf) (W : Wm) : Wm := ⟨(tickT c W W.rs.length).rs, (tickT c W W.rs.length).s, w64 (W.now + 1), (tickT c W W.rs.length).l⟩
def tickTe (c : Cf) (W : Wm) : List Te := (tickT c W W.rs.length).te
/-! ### what holds of a tick under way -/
theorem liftM_ok {c : Cf} {s : Stm} (hok : s.Ok c) (i : Nat) (px py : Int) : (liftM c s i px py).s.Ok c ∧ (liftM c s i px py).s.loads.length = s.loads.length := by
  unfold liftM
  split
  · exact ⟨hok, rfl⟩
  · split
    · exact ⟨hok, rfl⟩
    · split
      · exact ⟨hok, rfl⟩
      · refine ⟨⟨by simpa using hok.b, by simpa using hok.r, fun l hl => ?_⟩, by simp⟩
        rcases List.mem_or_eq_of_mem_set hl with h | h
        · exact hok.n l h
        · subst h
          rw [List.length_take]
          by_cases hn : numI c ⟨px, py⟩ < s.bins.length
          · have := hok.n _ (List.mem_of_getElem? (getD_get hn []))
            omega
          · rw [List.getD_eq_getElem?_getD, List.getElem?_eq_none (by omega)]
            simp
theorem room_le {c : Cf} (hm : MayOk c) (px py : Int) : roomI c px py ≤ 8 := by
  have := hm.num.height
  unfold roomI
  split
  · omega
  · split <;> omega
theorem dropM_ok {c : Cf} (hm : MayOk c) {s : Stm} (hok : s.Ok c) (i : Nat) (px py : Int) : (dropM c s i px py).s.Ok c ∧ (dropM c s i px py).s.loads.length = s.loads.length := by
  unfold dropM
  split
  · exact ⟨hok, rfl⟩
  · split
    · exact ⟨hok, rfl⟩
    · split
      · exact ⟨hok, rfl⟩
      · rename_i hr
        refine ⟨⟨by simpa using hok.b, by simpa using hok.r, fun l hl => ?_⟩, by simp⟩
        rcases List.mem_or_eq_of_mem_set hl with h | h
        · exact hok.n l h
        · subst h
          have := room_le hm px py
          rw [List.length_append, List.length_singleton]
          omega
theorem hoistM_ok {c : Cf} (hm : MayOk c) {s : Stm} (hok : s.Ok c) (i : Nat) (r : Rb) (kind : Int) : (hoistM c s i r kind).s.Ok c ∧ (hoistM c s i r kind).s.loads.length = s.loads.length ∧ (hoistM c s i r kind).l.length ≤ 2 := by
  have h1 := liftM_ok hok i r.pose.x r.pose.y
  have h2 := dropM_ok hm hok i r.pose.x r.pose.y
  unfold hoistM
  split
  · split <;> exact ⟨h1.1, h1.2, by simp⟩
  · split
    · exact ⟨h2.1, h2.2, by simp⟩
    · split <;> exact ⟨h2.1, h2.2, by simp⟩
theorem hoT_ok {c : Cf} (hm : MayOk c) {s : Stm} (hok : s.Ok c) (i : Nat) (t : TR) : (hoT c s i t).s.Ok c ∧ (hoT c s i t).s.loads.length = s.loads.length ∧ (hoT c s i t).l.length ≤ 2 := by
  unfold hoT
  split
  · exact hoistM_ok hm hok i _ _
  · exact ⟨hok, rfl, Nat.zero_le _⟩
structure TkOk (c : Cf) (W : Wm) (i : Nat) (T : TkM) : Prop where
  s : T.s.Ok c
  n : T.s.loads.length = W.rs.length
  r : T.rs.length = W.rs.length
  l : T.l.length ≤ W.l.length + 4 * i
  t : T.te.length ≤ i
theorem tickT_ok {c : Cf} (hm : MayOk c) {W : Wm} (hok : W.s.Ok c) (hn : W.s.loads.length = W.rs.length) : ∀ i, TkOk c W i (tickT c W i)
  | 0 => ⟨hok, hn, rfl, Nat.le_refl _, Nat.zero_le _⟩
  | i + 1 => by
    have ih := tickT_ok hm hok hn i
    have i4 := ih.l
    have i5 := ih.t
    unfold tickT
    split
    · rename_i q hq
      unfold stepM
      split
      · exact ⟨ih.s, ih.n, by simpa using ih.r, by simp only; omega, by simp only; omega⟩
      · obtain ⟨a1, a2, a3⟩ := hoT_ok hm ih.s i (tickO q.r q.g)
        refine ⟨a1, a2.trans ih.n, by simpa using ih.r, ?_, ?_⟩
        · simp only [List.length_append, List.length_map, List.length_singleton]
          split <;> simp <;> omega
        · simp only [List.length_append, List.length_singleton]
          omega
    · exact ⟨ih.s, ih.n, ih.r, by omega, by omega⟩
section
variable {c : Cf} {W : Wm} {i : Nat} {q : Rg}
theorem tk_step (h : (tickT c W i).rs[i]? = some q) : tickT c W (i + 1) = stepM c (w64 (W.now + 1)) i (tickT c W i) q := by
  rw [tickT]
  simp only [h]
theorem sm_a (hs : (tickT c W i).rs[i]? = some q) (h : ((tickO q.r q.g).how == 0) = true) : tickT c W (i + 1) = ⟨(tickT c W i).rs.set i ⟨(tickO q.r q.g).r, (tickO q.r q.g).g⟩, (tickT c W i).s, (tickT c W i).l, (tickT c W i).te⟩ := by
  rw [tk_step hs, stepM, if_pos (by simpa using h)]
theorem hoT_y {s : Stm} {t : TR} (h : t.m.kind = 3 ∨ t.m.kind = 4) : hoT c s i t = hoistM c s i t.r t.m.kind := if_pos h
theorem hoT_n {s : Stm} {t : TR} (h : ¬ (t.m.kind = 3 ∨ t.m.kind = 4)) : hoT c s i t = ⟨s, t.r, []⟩ := if_neg h
theorem sm_b (hs : (tickT c W i).rs[i]? = some q) (h : ((tickO q.r q.g).how == 0) = false) (h2 : ((tickO q.r q.g).how == 2) = true) : tickT c W (i + 1) = ⟨(tickT c W i).rs.set i ⟨(hoT c (tickT c W i).s i (tickO q.r q.g)).r, (tickO q.r q.g).g⟩, (hoT c (tickT c W i).s i (tickO q.r q.g)).s,
    (tickT c W i).l ++ (hoT c (tickT c W i).s i (tickO q.r q.g)).l.map (fillS (w64 (W.now + 1)) (i : Int) (hoT c (tickT c W i).s i (tickO q.r q.g)).r.pose) ++ [fillS (w64 (W.now + 1)) (i : Int) (hoT c (tickT c W i).s i (tickO q.r q.g)).r.pose ⟨2, 0, 0, 0, ⟨0, 0, false⟩, (tickO q.r q.g).m⟩] ++ [fillS (w64 (W.now + 1)) (i : Int) (hoT c (tickT c W i).s i (tickO q.r q.g)).r.pose (sg 3 0)],
    (tickT c W i).te ++ [tellB (hoT c (tickT c W i).s i (tickO q.r q.g)).r]⟩ := by
  rw [tk_step hs, stepM, if_neg (by simpa using h), if_pos (by simpa using h2)]
theorem sm_c (hs : (tickT c W i).rs[i]? = some q) (h : ((tickO q.r q.g).how == 0) = false) (h2 : ((tickO q.r q.g).how == 2) = false) : tickT c W (i + 1) = ⟨(tickT c W i).rs.set i ⟨(hoT c (tickT c W i).s i (tickO q.r q.g)).r, (tickO q.r q.g).g⟩, (hoT c (tickT c W i).s i (tickO q.r q.g)).s,
    (tickT c W i).l ++ (hoT c (tickT c W i).s i (tickO q.r q.g)).l.map (fillS (w64 (W.now + 1)) (i : Int) (hoT c (tickT c W i).s i (tickO q.r q.g)).r.pose) ++ [fillS (w64 (W.now + 1)) (i : Int) (hoT c (tickT c W i).s i (tickO q.r q.g)).r.pose ⟨2, 0, 0, 0, ⟨0, 0, false⟩, (tickO q.r q.g).m⟩],
    (tickT c W i).te ++ [tellB (hoT c (tickT c W i).s i (tickO q.r q.g)).r]⟩ := by
  rw [tk_step hs, stepM, if_neg (by simpa using h), if_neg (by simpa using h2), List.append_nil]
end
abbrev teR (o : Value) (l : List Te) : As := row o 44 19 l.length (l.flatMap encT)
theorem te_snoc (v : Value) (L : List Te) (y : Te) : row v 44 19 (L.length + 1) (L.flatMap encT ++ encT y) = teR v (L ++ [y]) := by simp [teR]
structure TWx where
  i : Nat
  v : Value
  o : Value
structure TVx where
  v : Value
  o : Value
theorem tick_spec (c : Cf) (hm : MayOk c) (b : Nat) (x : WX) (v0 : Value) (W : Wm) (hok : W.s.Ok c) (hnl : W.s.loads.length = W.rs.length) (hbr : x.br.length = W.rs.length) (hl : W.l.length ≤ 900000) :
    Sk.Spec Tryz.prog 26 #[ptr b] [gfix c x.bg x.bk, kblk x.bk (KF c), raA x] [wbv b x W.now v0, stkA c x.bs W.s, sep (rsE c x.br W.rs), siA v0 W.l] fun e F' => ∃ y : TVx, e = .returned y.o ∧
      F' = [wbv b x (w64 (W.now + 1)) y.v, stkA c x.bs (tickWd c W).s, sep (rsE c x.br (tickWd c W).rs), siA y.v (tickWd c W).l, teR y.o (tickTe c W)] ∧ True := by
  have hn8 : x.br.length ≤ 8 := by rw [hbr, ← hnl]; exact hok.r
  refine Spec.of_code (vs := [_]) (k0 := [(0, _)]) 77 Tryz.func26 rfl Tryz.ntmps26 rfl (.cons .nil) fun w X RR hRR H => ?_
  refine .seq ?_
  refine .plain rfl ?_
  refine .q rfl rfl rfl (val_assign rfl) ?_
  refine .nil (cj ?_)
  refine .seq ?_
  refine .seq ?_
  refine .plain rfl ?_
  refine .q rfl rfl rfl (val_move rfl) ?_
  refine .q rfl rfl rfl (val_ptr_eq_nil Tryz.underlying53 rfl rfl rfl) ?_
  refine .nil (cj ?_)
  refine .cond_f rfl ?_
  refine .skip (cj ?_)
  refine .seq ?_
  refine .plain rfl ?_
  refine .q rfl rfl rfl (val_move rfl) ?_
  refine .q rfl rfl rfl (val_nilCheck rfl) ?_
  refine .q rfl rfl rfl (val_fieldAddr rfl fa_111_3) ?_
  refine .qs rfl rfl rfl H (ld_b rfl ob_3 (.own .here) rfl) ?_
  refine .q rfl rfl rfl (val_add rfl rfl (z := w64 (W.now + 1)) rfl) ?_
  refine .q rfl rfl rfl (val_nilCheck rfl) ?_
  refine .q rfl rfl rfl (val_fieldAddr rfl fa_111_3) ?_
  refine .store rfl rfl rfl rfl rfl sz_3 rfl H .here (by repeat constructor) (fun w1 H1 => ⟨fun _ => trivial, ?_⟩)
  refine .nil (cj ?_)
  refine .seq ?_
  refine .plain rfl ?_
  refine .q rfl rfl rfl (val_assign rfl) ?_
  refine .nil (cj ?_)
  refine .seq ?_
  refine .seq ?_
  refine .plain rfl ?_
  refine .q rfl rfl rfl (val_move rfl) ?_
  refine .q rfl rfl rfl (val_nilCheck rfl) ?_
  refine .q rfl rfl rfl (val_fieldAddr rfl fa_111_2) ?_
  refine .qs rfl rfl rfl H1 (ld_b rfl ob_109 (.own .here) rfl) ?_
  refine .q rfl rfl rfl (val_len Tryz.underlying109 rfl) ?_
  refine .q rfl rfl rfl (val_move rfl) ?_
  refine .nil (cj ?_)
  refine .block ?_
  have H3 := H1.rowNil 44 19
  refine .loop (ι := TWx) (fun y => [(0, ptr b), (3, y.o), (20, i64 ((x.br.length : Nat) : Int)), (21, i64 (y.i : Int))]) (fun y w' => St w w' X [gfix c x.bg x.bk, kblk x.bk (KF c), raA x] [wbv b x (w64 (W.now + 1)) y.v, stkA c x.bs (tickT c W y.i).s, sep (rsE c x.br (tickT c W y.i).rs), siA y.v (tickT c W y.i).l, teR y.o (tickT c W y.i).te] ∧ y.i ≤ x.br.length) (fun y => x.br.length - y.i) ⟨0, v0, .slice none 0 0⟩ (by repeat (first | exact Pick.nil | refine Pick.cons rfl ?_)) ⟨H3.sub (.cons (.there .here) (.cons (.there .here) (.cons (.there .here) (.cons (.there .here) (.cons .here .nil))))), Nat.zero_le _⟩ ?_
  rintro ⟨i, v, o⟩ w5 ⟨H2, hi⟩
  refine .seq ?_
  refine .plain rfl ?_
  refine .q rfl rfl rfl (val_lss rfl rfl rfl) ?_
  refine .nil (cj ?_)
  refine .seq ?_
  refine .cond rfl (fun hc1 => ?_) (fun hc1 => ?_)
  · dsimp only at hi hc1 H2
    have hil : i < x.br.length := by simp only [decide_eq_true_eq] at hc1; omega
    have ok := tickT_ok hm hok hnl i
    have hl4 := ok.l
    have ht4 := ok.t
    have hil2 : i < (tickT c W i).s.loads.length := by rw [ok.n, ← hbr]; exact hil
    obtain ⟨a, hq⟩ : ∃ a, x.br[i]? = some a := ⟨_, List.getElem?_eq_getElem hil⟩
    obtain ⟨q, hs⟩ : ∃ q, (tickT c W i).rs[i]? = some q := ⟨_, List.getElem?_eq_getElem (by rw [ok.r, ← hbr]; exact hil)⟩
    have hf := rsE_get (c := c) hq hs
    have hf2 : ∀ f : As, ((rsE c x.br (tickT c W i).rs).set i f)[i]? = some f := fun f => by simp [lt_of_some hf]
    have hf3 : ∀ f g : As, (((rsE c x.br (tickT c W i).rs).set i f).set i g)[i]? = some g := fun f g => by simp [lt_of_some hf]
    have h8 := (hoistM_ok hm ok.s i (tickO q.r q.g).r (tickO q.r q.g).m.kind).2.2
    obtain ⟨b9, o9, hA⟩ := Has.base (.ro (.there (.there .here))) H2 (nil_of_flat encN_len (by decide) hil)
    refine .skip (cj ?_)
    refine .seq ?_
    refine .block ?_
    refine .seq ?_
    refine .plain rfl ?_
    refine .q rfl rfl rfl (val_move rfl) ?_
    refine .q rfl rfl rfl (val_assign rfl) ?_
    refine .nil (cj ?_)
    refine .seq ?_
    refine .plain rfl ?_
    refine .q rfl rfl rfl (val_move rfl) ?_
    refine .q rfl rfl rfl (val_nilCheck rfl) ?_
    refine .q rfl rfl rfl (val_fieldAddr rfl fa_111_2) ?_
    refine .qs rfl rfl rfl H2 (ld_b rfl ob_109 (.own .here) rfl) ?_
    refine .q rfl rfl rfl (val_move rfl) ?_
    refine .q rfl rfl rfl (val_ix el_109 hA rfl rfl rfl hil) ?_
    refine .qs rfl rfl rfl H2 (ld_el rfl ob_30 .base hA (.ro (.there (.there .here))) encN_len (by first | assumption | rfl) rfl) ?_
    refine .call1 rfl rfl rfl en41 (.cons rfl .nil) (Spec.nth1 hf tickA_spec) H2 (.cons (.there (.there .here)) .nil) .nil (fun w4 H4 => ⟨fun _ => trivial, ?_⟩)
    refine .q rfl rfl rfl (val_move rfl) ?_
    refine .q rfl rfl rfl (val_extract rfl rfl) ?_
    refine .q rfl rfl rfl (val_extract rfl rfl) ?_
    refine .alloc rfl rfl rfl ze_42 rfl H4 (fun w5 b5 H5 => ⟨fun _ => trivial, ?_⟩)
    refine .store rfl rfl rfl rfl rfl sz_42 rfl H5 .here (by repeat constructor) (fun w6 H6 => ⟨fun _ => trivial, ?_⟩)
    refine .q rfl rfl rfl (val_assign rfl) ?_
    refine .nil (cj ?_)
    refine .seq ?_
    refine .seq ?_
    refine .plain rfl ?_
    refine .q rfl rfl rfl (val_move rfl) ?_
    refine .q rfl rfl rfl (val_eql rfl rfl rfl) ?_
    refine .nil (cj ?_)
    refine .cond rfl (fun hc2 => ?_) (fun hc2 => ?_)
    · refine .exit (cj ?_)
      refine .plain rfl ?_
      refine .q rfl rfl rfl (val_add rfl rfl (z := ((i + 1 : Nat) : Int)) (w64_of (by dsimp only; omega))) ?_
      refine .q rfl rfl rfl (val_move rfl) ?_
      refine .nil ?_
      intro act0 hact0; change Exists _
      refine ⟨⟨i + 1, _, _⟩, Pick.kn (by repeat (first | exact Pick.nil | refine Pick.cons rfl ?_)) hact0, ⟨by first | (dsimp only; rw [sm_a hs hc2, ← rsE_set _ hq]; exact H6.sub (.cons (.there (.there .here)) (.cons (.there (.there .here)) (.cons (.there .here) (.cons (.there .here) (.cons (.there .here) .nil)))))) | (have hk : (tickO q.r q.g).m.kind = 3 ∨ (tickO q.r q.g).m.kind = 4 := (by first | exact .inl (by simpa using hs40) | exact .inr (by simpa using hc3)); dsimp only; rw [sm_b hs hc2 hc4, hoT_y hk, ← te_snoc, ← rsE_set _ hq]; rw [List.set_set] at H6; exact H6.sub (.cons (.there (.there .here)) (.cons (.there (.there .here)) (.cons (.there .here) (.cons (.there .here) (.cons (.there .here) .nil)))))) | (have hk : ¬ ((tickO q.r q.g).m.kind = 3 ∨ (tickO q.r q.g).m.kind = 4) := (by simp at hs40 hc3; omega); dsimp only; rw [sm_b hs hc2 hc4, hoT_n hk]; dsimp only; rw [List.map_nil, List.append_nil, ← te_snoc, ← rsE_set _ hq]; exact H6.sub (.cons (.there (.there .here)) (.cons (.there (.there .here)) (.cons (.there .here) (.cons (.there .here) (.cons (.there .here) .nil)))))) | (have hk : (tickO q.r q.g).m.kind = 3 ∨ (tickO q.r q.g).m.kind = 4 := (by first | exact .inl (by simpa using hs40) | exact .inr (by simpa using hc3)); dsimp only; rw [sm_c hs hc2 hc4, hoT_y hk, ← te_snoc, ← rsE_set _ hq]; rw [List.set_set] at H6; exact H6.sub (.cons (.there (.there .here)) (.cons (.there (.there .here)) (.cons (.there .here) (.cons (.there .here) (.cons (.there .here) .nil)))))) | (have hk : ¬ ((tickO q.r q.g).m.kind = 3 ∨ (tickO q.r q.g).m.kind = 4) := (by simp at hs40 hc3; omega); dsimp only; rw [sm_c hs hc2 hc4, hoT_n hk]; dsimp only; rw [List.map_nil, List.append_nil, ← te_snoc, ← rsE_set _ hq]; exact H6.sub (.cons (.there (.there .here)) (.cons (.there (.there .here)) (.cons (.there .here) (.cons (.there .here) (.cons (.there .here) .nil)))))), hil⟩, (show x.br.length - (i + 1) < x.br.length - i by omega)⟩
    · refine .skip (cj ?_)
      refine .seq ?_
      refine .seq ?_
      refine .plain rfl ?_
      refine .q rfl rfl rfl (val_fieldAddr rfl fa_42_0) ?_
      refine .qs rfl rfl rfl H6 (ld_b rfl ob_3 (.own .here) rfl) ?_
      refine .q rfl rfl rfl (val_eql rfl rfl rfl) ?_
      refine .q rfl rfl rfl (val_move rfl) ?_
      refine .case (t := 40) rfl (fun hs40 => ?_) (fun hs40 => ?_)
      · refine .no rfl rfl rfl ?_
        refine .no rfl rfl rfl ?_
        refine .no rfl rfl rfl ?_
        refine .q rfl rfl rfl (val_pick_t rfl rfl) ?_
        refine .nil (cj ?_)
        refine .cond_t rfl ?_
        refine .plain rfl ?_
        refine .q rfl rfl rfl (val_move rfl) ?_
        refine .q rfl rfl rfl (val_move rfl) ?_
        refine .q rfl rfl rfl (val_move rfl) ?_
        refine .q rfl rfl rfl (val_move rfl) ?_
        refine .qs rfl rfl rfl H6 (ld_w rfl ag_42 (.own .here) rfl) ?_
        refine .callx rfl rfl rfl en57 (.cons rfl (.cons rfl (.cons rfl .nil))) (hoists_spec c hm b { x with v := v } _ hq (hf2 _) _ ok.s hil2 _) H6 (.cons (.there (.there (.there .here))) (.cons (.there .here) .nil)) (.own (.there .here) (.ro .here (.ro (.there .here) (.ro (.there (.there .here)) .nil)))) (fun h9 w7 C7 H7 => ⟨fun _ => trivial, ?_⟩)
        refine .callx rfl rfl rfl en56 (.cons rfl (.cons rfl (.cons rfl .nil))) (sees_spec c b x _ hq (hf3 _ _) v h9.A h9.cap _ _ (by first | omega | (simp only [List.length_append, List.length_map, List.length_singleton]; omega))) H7 (.cons (.there (.there (.there (.there .here)))) (.cons (.there (.there (.there (.there .here)))) .nil)) (.own .here (.ro (.there (.there .here)) (.own (.there (.there .here)) .nil))) (fun va w8 C8 H8 => ⟨fun _ => trivial, ?_⟩)
        refine .nil (cj ?_)
        refine .seq ?_
        refine .plain rfl ?_
        refine .q rfl rfl rfl (val_move rfl) ?_
        refine .q rfl rfl rfl (val_move rfl) ?_
        refine .qs rfl rfl rfl H8 (ld_w rfl ag_42 (.own (.there (.there (.there (.there (.there .here)))))) rfl) ?_
        refine .q rfl rfl rfl (val_mk (.cons rfl (.cons rfl .nil)) (mk_60_0_5 _ _ _ _ _ _ _ _ _ _ _ _)) ?_
        refine .lit rfl rfl rfl Tryz.underlying57 (.cons rfl .nil) (bs_60_1_0 _ _ _ _ _ _ _ _ _ _ _ _ _ _ _ _ _ _) H8 (fun w9 b9 H9 => ⟨fun _ => trivial, ?_⟩)
        first | (refine .callx rfl rfl rfl en56 (.cons rfl (.cons rfl (.cons rfl .nil))) (sees1_spec c b x _ hq (hf3 _ _) va _ ⟨2, 0, 0, 0, ⟨0, 0, false⟩, _⟩ _ (by first | omega | (simp only [List.length_append, List.length_map, List.length_singleton]; omega))) H9 (.cons (.there .here) (.cons (.there .here) .nil)) (.own .here (.ro (.there (.there .here)) (.own (.there (.there (.there .here))) .nil))) (fun vb w10 C10 H10 => ⟨fun _ => trivial, ?_⟩)) | (refine .callx rfl rfl rfl en56 (.cons rfl (.cons rfl (.cons rfl .nil))) (sees1_spec c b x _ hq (hf2 _) v _ ⟨2, 0, 0, 0, ⟨0, 0, false⟩, _⟩ _ (by first | omega | (simp only [List.length_append, List.length_map, List.length_singleton]; omega))) H9 (.cons (.there .here) (.cons (.there .here) .nil)) (.own .here (.ro (.there (.there .here)) (.own (.there (.there (.there .here))) .nil))) (fun vb w10 C10 H10 => ⟨fun _ => trivial, ?_⟩))
        refine .nil (cj ?_)
        refine .seq ?_
        refine .seq ?_
        refine .plain rfl ?_
        refine .q rfl rfl rfl (val_move rfl) ?_
        refine .q rfl rfl rfl (val_eql rfl rfl rfl) ?_
        refine .nil (cj ?_)
        refine .cond rfl (fun hc4 => ?_) (fun hc4 => ?_)
        · refine .plain rfl ?_
          refine .q rfl rfl rfl (val_move rfl) ?_
          refine .q rfl rfl rfl (val_move rfl) ?_
          refine .q rfl rfl rfl (val_mk (.cons rfl .nil) (mk_60_0 _)) ?_
          refine .lit rfl rfl rfl Tryz.underlying57 (.cons rfl .nil) (bs_60_1_0 _ _ _ _ _ _ _ _ _ _ _ _ _ _ _ _ _ _) H10 (fun w11 b11 H11 => ⟨fun _ => trivial, ?_⟩)
          first | (refine .callx rfl rfl rfl en56 (.cons rfl (.cons rfl (.cons rfl .nil))) (sees1_spec c b x _ hq (hf3 _ _) vb _ (sg 3 0) _ (by first | omega | (simp only [List.length_append, List.length_map, List.length_singleton]; omega))) H11 (.cons (.there .here) (.cons (.there .here) .nil)) (.own .here (.ro (.there (.there .here)) (.own (.there (.there (.there (.there .here)))) .nil))) (fun vc w12 C12 H12 => ⟨fun _ => trivial, ?_⟩)) | (refine .callx rfl rfl rfl en56 (.cons rfl (.cons rfl (.cons rfl .nil))) (sees1_spec c b x _ hq (hf2 _) vb _ (sg 3 0) _ (by first | omega | (simp only [List.length_append, List.length_map, List.length_singleton]; omega))) H11 (.cons (.there .here) (.cons (.there .here) .nil)) (.own .here (.ro (.there (.there .here)) (.own (.there (.there (.there (.there .here)))) .nil))) (fun vc w12 C12 H12 => ⟨fun _ => trivial, ?_⟩))
          refine .nil (cj ?_)
          refine .plain rfl ?_
          refine .q rfl rfl rfl (val_move rfl) ?_
          refine .q rfl rfl rfl (val_move rfl) ?_
          refine .q rfl rfl rfl (val_nilCheck rfl) ?_
          refine .q rfl rfl rfl (val_fieldAddr rfl fa_111_2) ?_
          refine .qs rfl rfl rfl H12 (ld_b rfl ob_109 (.own .here) rfl) ?_
          refine .q rfl rfl rfl (val_move rfl) ?_
          refine .q rfl rfl rfl (val_ix el_109 hA rfl rfl rfl hil) ?_
          refine .qs rfl rfl rfl H12 (ld_el rfl ob_30 .base hA (.ro (.there (.there .here))) encN_len (by first | assumption | rfl) rfl) ?_
          first | (refine .callx rfl rfl rfl en58 (.cons rfl .nil) (Spec.nthR (hf3 _ _) tellA_spec) H12 .nil (.own (.there (.there (.there (.there (.there (.there .here)))))) .nil) (fun bt w13 C13 H13 => ⟨fun _ => trivial, ?_⟩)) | (refine .callx rfl rfl rfl en58 (.cons rfl .nil) (Spec.nthR (hf2 _) tellA_spec) H12 .nil (.own (.there (.there (.there (.there (.there (.there .here)))))) .nil) (fun bt w13 C13 H13 => ⟨fun _ => trivial, ?_⟩))
          refine .append rfl rfl rfl (ap_70) rfl rfl H13 (.there (.there (.there (.there (.there (.there (.there (.there (.there .here))))))))) (Has.srcBlk (.own .here) H13) rfl (by simp [Value.oneCell']) (by simp only [maxLen]; omega) (by omega) (fun v14 w14 H14 => ⟨fun _ => trivial, ?_⟩)
          refine .q rfl rfl rfl (val_assign rfl) ?_
          refine .nil (cj ?_)
          refine .plain rfl ?_
          refine .q rfl rfl rfl (val_add rfl rfl (z := ((i + 1 : Nat) : Int)) (w64_of (by dsimp only; omega))) ?_
          refine .q rfl rfl rfl (val_move rfl) ?_
          refine .nil ?_
          intro act0 hact0; change Exists _
          refine ⟨⟨i + 1, _, _⟩, Pick.kn (by repeat (first | exact Pick.nil | refine Pick.cons rfl ?_)) hact0, ⟨by first | (dsimp only; rw [sm_a hs hc2, ← rsE_set _ hq]; exact H14.sub (.cons (.there (.there .here)) (.cons (.there (.there (.there (.there (.there (.there .here)))))) (.cons (.there (.there (.there (.there (.there (.there .here)))))) (.cons (.there (.there .here)) (.cons .here .nil)))))) | (have hk : (tickO q.r q.g).m.kind = 3 ∨ (tickO q.r q.g).m.kind = 4 := (by first | exact .inl (by simpa using hs40) | exact .inr (by simpa using hc3)); dsimp only; rw [sm_b hs hc2 hc4, hoT_y hk, ← te_snoc, ← rsE_set _ hq]; rw [List.set_set] at H14; exact H14.sub (.cons (.there (.there .here)) (.cons (.there (.there (.there (.there (.there (.there .here)))))) (.cons (.there (.there (.there (.there (.there (.there .here)))))) (.cons (.there (.there .here)) (.cons .here .nil)))))) | (have hk : ¬ ((tickO q.r q.g).m.kind = 3 ∨ (tickO q.r q.g).m.kind = 4) := (by simp at hs40 hc3; omega); dsimp only; rw [sm_b hs hc2 hc4, hoT_n hk]; dsimp only; rw [List.map_nil, List.append_nil, ← te_snoc, ← rsE_set _ hq]; exact H14.sub (.cons (.there (.there .here)) (.cons (.there (.there (.there (.there (.there (.there .here)))))) (.cons (.there (.there (.there (.there (.there (.there .here)))))) (.cons (.there (.there .here)) (.cons .here .nil)))))) | (have hk : (tickO q.r q.g).m.kind = 3 ∨ (tickO q.r q.g).m.kind = 4 := (by first | exact .inl (by simpa using hs40) | exact .inr (by simpa using hc3)); dsimp only; rw [sm_c hs hc2 hc4, hoT_y hk, ← te_snoc, ← rsE_set _ hq]; rw [List.set_set] at H14; exact H14.sub (.cons (.there (.there .here)) (.cons (.there (.there (.there (.there (.there (.there .here)))))) (.cons (.there (.there (.there (.there (.there (.there .here)))))) (.cons (.there (.there .here)) (.cons .here .nil)))))) | (have hk : ¬ ((tickO q.r q.g).m.kind = 3 ∨ (tickO q.r q.g).m.kind = 4) := (by simp at hs40 hc3; omega); dsimp only; rw [sm_c hs hc2 hc4, hoT_n hk]; dsimp only; rw [List.map_nil, List.append_nil, ← te_snoc, ← rsE_set _ hq]; exact H14.sub (.cons (.there (.there .here)) (.cons (.there (.there (.there (.there (.there (.there .here)))))) (.cons (.there (.there (.there (.there (.there (.there .here)))))) (.cons (.there (.there .here)) (.cons .here .nil)))))), hil⟩, (show x.br.length - (i + 1) < x.br.length - i by omega)⟩
        · refine .skip (cj ?_)
          refine .plain rfl ?_
          refine .q rfl rfl rfl (val_move rfl) ?_
          refine .q rfl rfl rfl (val_move rfl) ?_
          refine .q rfl rfl rfl (val_nilCheck rfl) ?_
          refine .q rfl rfl rfl (val_fieldAddr rfl fa_111_2) ?_
          refine .qs rfl rfl rfl H10 (ld_b rfl ob_109 (.own .here) rfl) ?_
          refine .q rfl rfl rfl (val_move rfl) ?_
          refine .q rfl rfl rfl (val_ix el_109 hA rfl rfl rfl hil) ?_
          refine .qs rfl rfl rfl H10 (ld_el rfl ob_30 .base hA (.ro (.there (.there .here))) encN_len (by first | assumption | rfl) rfl) ?_
          first | (refine .callx rfl rfl rfl en58 (.cons rfl .nil) (Spec.nthR (hf3 _ _) tellA_spec) H10 .nil (.own (.there (.there (.there (.there (.there .here))))) .nil) (fun bt w15 C15 H15 => ⟨fun _ => trivial, ?_⟩)) | (refine .callx rfl rfl rfl en58 (.cons rfl .nil) (Spec.nthR (hf2 _) tellA_spec) H10 .nil (.own (.there (.there (.there (.there (.there .here))))) .nil) (fun bt w15 C15 H15 => ⟨fun _ => trivial, ?_⟩))
          refine .append rfl rfl rfl (ap_70) rfl rfl H15 (.there (.there (.there (.there (.there (.there (.there (.there .here)))))))) (Has.srcBlk (.own .here) H15) rfl (by simp [Value.oneCell']) (by simp only [maxLen]; omega) (by omega) (fun v16 w16 H16 => ⟨fun _ => trivial, ?_⟩)
          refine .q rfl rfl rfl (val_assign rfl) ?_
          refine .nil (cj ?_)
          refine .plain rfl ?_
          refine .q rfl rfl rfl (val_add rfl rfl (z := ((i + 1 : Nat) : Int)) (w64_of (by dsimp only; omega))) ?_
          refine .q rfl rfl rfl (val_move rfl) ?_
          refine .nil ?_
          intro act0 hact0; change Exists _
          refine ⟨⟨i + 1, _, _⟩, Pick.kn (by repeat (first | exact Pick.nil | refine Pick.cons rfl ?_)) hact0, ⟨by first | (dsimp only; rw [sm_a hs hc2, ← rsE_set _ hq]; exact H16.sub (.cons (.there (.there .here)) (.cons (.there (.there (.there (.there (.there .here))))) (.cons (.there (.there (.there (.there (.there .here))))) (.cons (.there (.there .here)) (.cons .here .nil)))))) | (have hk : (tickO q.r q.g).m.kind = 3 ∨ (tickO q.r q.g).m.kind = 4 := (by first | exact .inl (by simpa using hs40) | exact .inr (by simpa using hc3)); dsimp only; rw [sm_b hs hc2 hc4, hoT_y hk, ← te_snoc, ← rsE_set _ hq]; rw [List.set_set] at H16; exact H16.sub (.cons (.there (.there .here)) (.cons (.there (.there (.there (.there (.there .here))))) (.cons (.there (.there (.there (.there (.there .here))))) (.cons (.there (.there .here)) (.cons .here .nil)))))) | (have hk : ¬ ((tickO q.r q.g).m.kind = 3 ∨ (tickO q.r q.g).m.kind = 4) := (by simp at hs40 hc3; omega); dsimp only; rw [sm_b hs hc2 hc4, hoT_n hk]; dsimp only; rw [List.map_nil, List.append_nil, ← te_snoc, ← rsE_set _ hq]; exact H16.sub (.cons (.there (.there .here)) (.cons (.there (.there (.there (.there (.there .here))))) (.cons (.there (.there (.there (.there (.there .here))))) (.cons (.there (.there .here)) (.cons .here .nil)))))) | (have hk : (tickO q.r q.g).m.kind = 3 ∨ (tickO q.r q.g).m.kind = 4 := (by first | exact .inl (by simpa using hs40) | exact .inr (by simpa using hc3)); dsimp only; rw [sm_c hs hc2 hc4, hoT_y hk, ← te_snoc, ← rsE_set _ hq]; rw [List.set_set] at H16; exact H16.sub (.cons (.there (.there .here)) (.cons (.there (.there (.there (.there (.there .here))))) (.cons (.there (.there (.there (.there (.there .here))))) (.cons (.there (.there .here)) (.cons .here .nil)))))) | (have hk : ¬ ((tickO q.r q.g).m.kind = 3 ∨ (tickO q.r q.g).m.kind = 4) := (by simp at hs40 hc3; omega); dsimp only; rw [sm_c hs hc2 hc4, hoT_n hk]; dsimp only; rw [List.map_nil, List.append_nil, ← te_snoc, ← rsE_set _ hq]; exact H16.sub (.cons (.there (.there .here)) (.cons (.there (.there (.there (.there (.there .here))))) (.cons (.there (.there (.there (.there (.there .here))))) (.cons (.there (.there .here)) (.cons .here .nil)))))), hil⟩, (show x.br.length - (i + 1) < x.br.length - i by omega)⟩
      · refine .q rfl rfl rfl (val_fieldAddr rfl fa_42_0) ?_
        refine .qs rfl rfl rfl H6 (ld_b rfl ob_3 (.own .here) rfl) ?_
        refine .q rfl rfl rfl (val_eql rfl rfl rfl) ?_
        refine .q rfl rfl rfl (val_pick_f rfl rfl) ?_
        refine .nil (cj ?_)
        refine .cond rfl (fun hc3 => ?_) (fun hc3 => ?_)
        · refine .plain rfl ?_
          refine .q rfl rfl rfl (val_move rfl) ?_
          refine .q rfl rfl rfl (val_move rfl) ?_
          refine .q rfl rfl rfl (val_move rfl) ?_
          refine .q rfl rfl rfl (val_move rfl) ?_
          refine .qs rfl rfl rfl H6 (ld_w rfl ag_42 (.own .here) rfl) ?_
          refine .callx rfl rfl rfl en57 (.cons rfl (.cons rfl (.cons rfl .nil))) (hoists_spec c hm b { x with v := v } _ hq (hf2 _) _ ok.s hil2 _) H6 (.cons (.there (.there (.there .here))) (.cons (.there .here) .nil)) (.own (.there .here) (.ro .here (.ro (.there .here) (.ro (.there (.there .here)) .nil)))) (fun h9 w17 C17 H17 => ⟨fun _ => trivial, ?_⟩)
          refine .callx rfl rfl rfl en56 (.cons rfl (.cons rfl (.cons rfl .nil))) (sees_spec c b x _ hq (hf3 _ _) v h9.A h9.cap _ _ (by first | omega | (simp only [List.length_append, List.length_map, List.length_singleton]; omega))) H17 (.cons (.there (.there (.there (.there .here)))) (.cons (.there (.there (.there (.there .here)))) .nil)) (.own .here (.ro (.there (.there .here)) (.own (.there (.there .here)) .nil))) (fun va w18 C18 H18 => ⟨fun _ => trivial, ?_⟩)
          refine .nil (cj ?_)
          refine .seq ?_
          refine .plain rfl ?_
          refine .q rfl rfl rfl (val_move rfl) ?_
          refine .q rfl rfl rfl (val_move rfl) ?_
          refine .qs rfl rfl rfl H18 (ld_w rfl ag_42 (.own (.there (.there (.there (.there (.there .here)))))) rfl) ?_
          refine .q rfl rfl rfl (val_mk (.cons rfl (.cons rfl .nil)) (mk_60_0_5 _ _ _ _ _ _ _ _ _ _ _ _)) ?_
          refine .lit rfl rfl rfl Tryz.underlying57 (.cons rfl .nil) (bs_60_1_0 _ _ _ _ _ _ _ _ _ _ _ _ _ _ _ _ _ _) H18 (fun w19 b19 H19 => ⟨fun _ => trivial, ?_⟩)
          first | (refine .callx rfl rfl rfl en56 (.cons rfl (.cons rfl (.cons rfl .nil))) (sees1_spec c b x _ hq (hf3 _ _) va _ ⟨2, 0, 0, 0, ⟨0, 0, false⟩, _⟩ _ (by first | omega | (simp only [List.length_append, List.length_map, List.length_singleton]; omega))) H19 (.cons (.there .here) (.cons (.there .here) .nil)) (.own .here (.ro (.there (.there .here)) (.own (.there (.there (.there .here))) .nil))) (fun vb w20 C20 H20 => ⟨fun _ => trivial, ?_⟩)) | (refine .callx rfl rfl rfl en56 (.cons rfl (.cons rfl (.cons rfl .nil))) (sees1_spec c b x _ hq (hf2 _) v _ ⟨2, 0, 0, 0, ⟨0, 0, false⟩, _⟩ _ (by first | omega | (simp only [List.length_append, List.length_map, List.length_singleton]; omega))) H19 (.cons (.there .here) (.cons (.there .here) .nil)) (.own .here (.ro (.there (.there .here)) (.own (.there (.there (.there .here))) .nil))) (fun vb w20 C20 H20 => ⟨fun _ => trivial, ?_⟩))
          refine .nil (cj ?_)
          refine .seq ?_
          refine .seq ?_
          refine .plain rfl ?_
          refine .q rfl rfl rfl (val_move rfl) ?_
          refine .q rfl rfl rfl (val_eql rfl rfl rfl) ?_
          refine .nil (cj ?_)
          refine .cond rfl (fun hc4 => ?_) (fun hc4 => ?_)
          · refine .plain rfl ?_
            refine .q rfl rfl rfl (val_move rfl) ?_
            refine .q rfl rfl rfl (val_move rfl) ?_
            refine .q rfl rfl rfl (val_mk (.cons rfl .nil) (mk_60_0 _)) ?_
            refine .lit rfl rfl rfl Tryz.underlying57 (.cons rfl .nil) (bs_60_1_0 _ _ _ _ _ _ _ _ _ _ _ _ _ _ _ _ _ _) H20 (fun w21 b21 H21 => ⟨fun _ => trivial, ?_⟩)
            first | (refine .callx rfl rfl rfl en56 (.cons rfl (.cons rfl (.cons rfl .nil))) (sees1_spec c b x _ hq (hf3 _ _) vb _ (sg 3 0) _ (by first | omega | (simp only [List.length_append, List.length_map, List.length_singleton]; omega))) H21 (.cons (.there .here) (.cons (.there .here) .nil)) (.own .here (.ro (.there (.there .here)) (.own (.there (.there (.there (.there .here)))) .nil))) (fun vc w22 C22 H22 => ⟨fun _ => trivial, ?_⟩)) | (refine .callx rfl rfl rfl en56 (.cons rfl (.cons rfl (.cons rfl .nil))) (sees1_spec c b x _ hq (hf2 _) vb _ (sg 3 0) _ (by first | omega | (simp only [List.length_append, List.length_map, List.length_singleton]; omega))) H21 (.cons (.there .here) (.cons (.there .here) .nil)) (.own .here (.ro (.there (.there .here)) (.own (.there (.there (.there (.there .here)))) .nil))) (fun vc w22 C22 H22 => ⟨fun _ => trivial, ?_⟩))
            refine .nil (cj ?_)
            refine .plain rfl ?_
            refine .q rfl rfl rfl (val_move rfl) ?_
            refine .q rfl rfl rfl (val_move rfl) ?_
            refine .q rfl rfl rfl (val_nilCheck rfl) ?_
            refine .q rfl rfl rfl (val_fieldAddr rfl fa_111_2) ?_
            refine .qs rfl rfl rfl H22 (ld_b rfl ob_109 (.own .here) rfl) ?_
            refine .q rfl rfl rfl (val_move rfl) ?_
            refine .q rfl rfl rfl (val_ix el_109 hA rfl rfl rfl hil) ?_
            refine .qs rfl rfl rfl H22 (ld_el rfl ob_30 .base hA (.ro (.there (.there .here))) encN_len (by first | assumption | rfl) rfl) ?_
            first | (refine .callx rfl rfl rfl en58 (.cons rfl .nil) (Spec.nthR (hf3 _ _) tellA_spec) H22 .nil (.own (.there (.there (.there (.there (.there (.there .here)))))) .nil) (fun bt w23 C23 H23 => ⟨fun _ => trivial, ?_⟩)) | (refine .callx rfl rfl rfl en58 (.cons rfl .nil) (Spec.nthR (hf2 _) tellA_spec) H22 .nil (.own (.there (.there (.there (.there (.there (.there .here)))))) .nil) (fun bt w23 C23 H23 => ⟨fun _ => trivial, ?_⟩))
            refine .append rfl rfl rfl (ap_70) rfl rfl H23 (.there (.there (.there (.there (.there (.there (.there (.there (.there .here))))))))) (Has.srcBlk (.own .here) H23) rfl (by simp [Value.oneCell']) (by simp only [maxLen]; omega) (by omega) (fun v24 w24 H24 => ⟨fun _ => trivial, ?_⟩)
            refine .q rfl rfl rfl (val_assign rfl) ?_
            refine .nil (cj ?_)
            refine .plain rfl ?_
            refine .q rfl rfl rfl (val_add rfl rfl (z := ((i + 1 : Nat) : Int)) (w64_of (by dsimp only; omega))) ?_
            refine .q rfl rfl rfl (val_move rfl) ?_
            refine .nil ?_
            intro act0 hact0; change Exists _
            refine ⟨⟨i + 1, _, _⟩, Pick.kn (by repeat (first | exact Pick.nil | refine Pick.cons rfl ?_)) hact0, ⟨by first | (dsimp only; rw [sm_a hs hc2, ← rsE_set _ hq]; exact H24.sub (.cons (.there (.there .here)) (.cons (.there (.there (.there (.there (.there (.there .here)))))) (.cons (.there (.there (.there (.there (.there (.there .here)))))) (.cons (.there (.there .here)) (.cons .here .nil)))))) | (have hk : (tickO q.r q.g).m.kind = 3 ∨ (tickO q.r q.g).m.kind = 4 := (by first | exact .inl (by simpa using hs40) | exact .inr (by simpa using hc3)); dsimp only; rw [sm_b hs hc2 hc4, hoT_y hk, ← te_snoc, ← rsE_set _ hq]; rw [List.set_set] at H24; exact H24.sub (.cons (.there (.there .here)) (.cons (.there (.there (.there (.there (.there (.there .here)))))) (.cons (.there (.there (.there (.there (.there (.there .here)))))) (.cons (.there (.there .here)) (.cons .here .nil)))))) | (have hk : ¬ ((tickO q.r q.g).m.kind = 3 ∨ (tickO q.r q.g).m.kind = 4) := (by simp at hs40 hc3; omega); dsimp only; rw [sm_b hs hc2 hc4, hoT_n hk]; dsimp only; rw [List.map_nil, List.append_nil, ← te_snoc, ← rsE_set _ hq]; exact H24.sub (.cons (.there (.there .here)) (.cons (.there (.there (.there (.there (.there (.there .here)))))) (.cons (.there (.there (.there (.there (.there (.there .here)))))) (.cons (.there (.there .here)) (.cons .here .nil)))))) | (have hk : (tickO q.r q.g).m.kind = 3 ∨ (tickO q.r q.g).m.kind = 4 := (by first | exact .inl (by simpa using hs40) | exact .inr (by simpa using hc3)); dsimp only; rw [sm_c hs hc2 hc4, hoT_y hk, ← te_snoc, ← rsE_set _ hq]; rw [List.set_set] at H24; exact H24.sub (.cons (.there (.there .here)) (.cons (.there (.there (.there (.there (.there (.there .here)))))) (.cons (.there (.there (.there (.there (.there (.there .here)))))) (.cons (.there (.there .here)) (.cons .here .nil)))))) | (have hk : ¬ ((tickO q.r q.g).m.kind = 3 ∨ (tickO q.r q.g).m.kind = 4) := (by simp at hs40 hc3; omega); dsimp only; rw [sm_c hs hc2 hc4, hoT_n hk]; dsimp only; rw [List.map_nil, List.append_nil, ← te_snoc, ← rsE_set _ hq]; exact H24.sub (.cons (.there (.there .here)) (.cons (.there (.there (.there (.there (.there (.there .here)))))) (.cons (.there (.there (.there (.there (.there (.there .here)))))) (.cons (.there (.there .here)) (.cons .here .nil)))))), hil⟩, (show x.br.length - (i + 1) < x.br.length - i by omega)⟩
          · refine .skip (cj ?_)
            refine .plain rfl ?_
            refine .q rfl rfl rfl (val_move rfl) ?_
            refine .q rfl rfl rfl (val_move rfl) ?_
            refine .q rfl rfl rfl (val_nilCheck rfl) ?_
            refine .q rfl rfl rfl (val_fieldAddr rfl fa_111_2) ?_
            refine .qs rfl rfl rfl H20 (ld_b rfl ob_109 (.own .here) rfl) ?_
            refine .q rfl rfl rfl (val_move rfl) ?_
            refine .q rfl rfl rfl (val_ix el_109 hA rfl rfl rfl hil) ?_
            refine .qs rfl rfl rfl H20 (ld_el rfl ob_30 .base hA (.ro (.there (.there .here))) encN_len (by first | assumption | rfl) rfl) ?_
            first | (refine .callx rfl rfl rfl en58 (.cons rfl .nil) (Spec.nthR (hf3 _ _) tellA_spec) H20 .nil (.own (.there (.there (.there (.there (.there .here))))) .nil) (fun bt w25 C25 H25 => ⟨fun _ => trivial, ?_⟩)) | (refine .callx rfl rfl rfl en58 (.cons rfl .nil) (Spec.nthR (hf2 _) tellA_spec) H20 .nil (.own (.there (.there (.there (.there (.there .here))))) .nil) (fun bt w25 C25 H25 => ⟨fun _ => trivial, ?_⟩))
            refine .append rfl rfl rfl (ap_70) rfl rfl H25 (.there (.there (.there (.there (.there (.there (.there (.there .here)))))))) (Has.srcBlk (.own .here) H25) rfl (by simp [Value.oneCell']) (by simp only [maxLen]; omega) (by omega) (fun v26 w26 H26 => ⟨fun _ => trivial, ?_⟩)
            refine .q rfl rfl rfl (val_assign rfl) ?_
            refine .nil (cj ?_)
            refine .plain rfl ?_
            refine .q rfl rfl rfl (val_add rfl rfl (z := ((i + 1 : Nat) : Int)) (w64_of (by dsimp only; omega))) ?_
            refine .q rfl rfl rfl (val_move rfl) ?_
            refine .nil ?_
            intro act0 hact0; change Exists _
            refine ⟨⟨i + 1, _, _⟩, Pick.kn (by repeat (first | exact Pick.nil | refine Pick.cons rfl ?_)) hact0, ⟨by first | (dsimp only; rw [sm_a hs hc2, ← rsE_set _ hq]; exact H26.sub (.cons (.there (.there .here)) (.cons (.there (.there (.there (.there (.there .here))))) (.cons (.there (.there (.there (.there (.there .here))))) (.cons (.there (.there .here)) (.cons .here .nil)))))) | (have hk : (tickO q.r q.g).m.kind = 3 ∨ (tickO q.r q.g).m.kind = 4 := (by first | exact .inl (by simpa using hs40) | exact .inr (by simpa using hc3)); dsimp only; rw [sm_b hs hc2 hc4, hoT_y hk, ← te_snoc, ← rsE_set _ hq]; rw [List.set_set] at H26; exact H26.sub (.cons (.there (.there .here)) (.cons (.there (.there (.there (.there (.there .here))))) (.cons (.there (.there (.there (.there (.there .here))))) (.cons (.there (.there .here)) (.cons .here .nil)))))) | (have hk : ¬ ((tickO q.r q.g).m.kind = 3 ∨ (tickO q.r q.g).m.kind = 4) := (by simp at hs40 hc3; omega); dsimp only; rw [sm_b hs hc2 hc4, hoT_n hk]; dsimp only; rw [List.map_nil, List.append_nil, ← te_snoc, ← rsE_set _ hq]; exact H26.sub (.cons (.there (.there .here)) (.cons (.there (.there (.there (.there (.there .here))))) (.cons (.there (.there (.there (.there (.there .here))))) (.cons (.there (.there .here)) (.cons .here .nil)))))) | (have hk : (tickO q.r q.g).m.kind = 3 ∨ (tickO q.r q.g).m.kind = 4 := (by first | exact .inl (by simpa using hs40) | exact .inr (by simpa using hc3)); dsimp only; rw [sm_c hs hc2 hc4, hoT_y hk, ← te_snoc, ← rsE_set _ hq]; rw [List.set_set] at H26; exact H26.sub (.cons (.there (.there .here)) (.cons (.there (.there (.there (.there (.there .here))))) (.cons (.there (.there (.there (.there (.there .here))))) (.cons (.there (.there .here)) (.cons .here .nil)))))) | (have hk : ¬ ((tickO q.r q.g).m.kind = 3 ∨ (tickO q.r q.g).m.kind = 4) := (by simp at hs40 hc3; omega); dsimp only; rw [sm_c hs hc2 hc4, hoT_n hk]; dsimp only; rw [List.map_nil, List.append_nil, ← te_snoc, ← rsE_set _ hq]; exact H26.sub (.cons (.there (.there .here)) (.cons (.there (.there (.there (.there (.there .here))))) (.cons (.there (.there (.there (.there (.there .here))))) (.cons (.there (.there .here)) (.cons .here .nil)))))), hil⟩, (show x.br.length - (i + 1) < x.br.length - i by omega)⟩
        · refine .skip (cj ?_)
          refine .seq ?_
          refine .plain rfl ?_
          refine .q rfl rfl rfl (val_move rfl) ?_
          refine .q rfl rfl rfl (val_move rfl) ?_
          refine .qs rfl rfl rfl H6 (ld_w rfl ag_42 (.own .here) rfl) ?_
          refine .q rfl rfl rfl (val_mk (.cons rfl (.cons rfl .nil)) (mk_60_0_5 _ _ _ _ _ _ _ _ _ _ _ _)) ?_
          refine .lit rfl rfl rfl Tryz.underlying57 (.cons rfl .nil) (bs_60_1_0 _ _ _ _ _ _ _ _ _ _ _ _ _ _ _ _ _ _) H6 (fun w27 b27 H27 => ⟨fun _ => trivial, ?_⟩)
          first | (refine .callx rfl rfl rfl en56 (.cons rfl (.cons rfl (.cons rfl .nil))) (sees1_spec c b x _ hq (hf3 _ _) va _ ⟨2, 0, 0, 0, ⟨0, 0, false⟩, _⟩ _ (by first | omega | (simp only [List.length_append, List.length_map, List.length_singleton]; omega))) H27 (.cons (.there (.there (.there .here))) (.cons (.there (.there (.there (.there .here)))) .nil)) (.own .here (.ro (.there (.there .here)) (.own (.there (.there .here)) .nil))) (fun vb w28 C28 H28 => ⟨fun _ => trivial, ?_⟩)) | (refine .callx rfl rfl rfl en56 (.cons rfl (.cons rfl (.cons rfl .nil))) (sees1_spec c b x _ hq (hf2 _) v _ ⟨2, 0, 0, 0, ⟨0, 0, false⟩, _⟩ _ (by first | omega | (simp only [List.length_append, List.length_map, List.length_singleton]; omega))) H27 (.cons (.there (.there (.there .here))) (.cons (.there (.there (.there (.there .here)))) .nil)) (.own .here (.ro (.there (.there .here)) (.own (.there (.there .here)) .nil))) (fun vb w28 C28 H28 => ⟨fun _ => trivial, ?_⟩))
          refine .nil (cj ?_)
          refine .seq ?_
          refine .seq ?_
          refine .plain rfl ?_
          refine .q rfl rfl rfl (val_move rfl) ?_
          refine .q rfl rfl rfl (val_eql rfl rfl rfl) ?_
          refine .nil (cj ?_)
          refine .cond rfl (fun hc4 => ?_) (fun hc4 => ?_)
          · refine .plain rfl ?_
            refine .q rfl rfl rfl (val_move rfl) ?_
            refine .q rfl rfl rfl (val_move rfl) ?_
            refine .q rfl rfl rfl (val_mk (.cons rfl .nil) (mk_60_0 _)) ?_
            refine .lit rfl rfl rfl Tryz.underlying57 (.cons rfl .nil) (bs_60_1_0 _ _ _ _ _ _ _ _ _ _ _ _ _ _ _ _ _ _) H28 (fun w29 b29 H29 => ⟨fun _ => trivial, ?_⟩)
            first | (refine .callx rfl rfl rfl en56 (.cons rfl (.cons rfl (.cons rfl .nil))) (sees1_spec c b x _ hq (hf3 _ _) vb _ (sg 3 0) _ (by first | omega | (simp only [List.length_append, List.length_map, List.length_singleton]; omega))) H29 (.cons (.there .here) (.cons (.there .here) .nil)) (.own .here (.ro (.there (.there .here)) (.own (.there (.there (.there .here))) .nil))) (fun vc w30 C30 H30 => ⟨fun _ => trivial, ?_⟩)) | (refine .callx rfl rfl rfl en56 (.cons rfl (.cons rfl (.cons rfl .nil))) (sees1_spec c b x _ hq (hf2 _) vb _ (sg 3 0) _ (by first | omega | (simp only [List.length_append, List.length_map, List.length_singleton]; omega))) H29 (.cons (.there .here) (.cons (.there .here) .nil)) (.own .here (.ro (.there (.there .here)) (.own (.there (.there (.there .here))) .nil))) (fun vc w30 C30 H30 => ⟨fun _ => trivial, ?_⟩))
            refine .nil (cj ?_)
            refine .plain rfl ?_
            refine .q rfl rfl rfl (val_move rfl) ?_
            refine .q rfl rfl rfl (val_move rfl) ?_
            refine .q rfl rfl rfl (val_nilCheck rfl) ?_
            refine .q rfl rfl rfl (val_fieldAddr rfl fa_111_2) ?_
            refine .qs rfl rfl rfl H30 (ld_b rfl ob_109 (.own .here) rfl) ?_
            refine .q rfl rfl rfl (val_move rfl) ?_
            refine .q rfl rfl rfl (val_ix el_109 hA rfl rfl rfl hil) ?_
            refine .qs rfl rfl rfl H30 (ld_el rfl ob_30 .base hA (.ro (.there (.there .here))) encN_len (by first | assumption | rfl) rfl) ?_
            first | (refine .callx rfl rfl rfl en58 (.cons rfl .nil) (Spec.nthR (hf3 _ _) tellA_spec) H30 .nil (.own (.there (.there (.there (.there (.there .here))))) .nil) (fun bt w31 C31 H31 => ⟨fun _ => trivial, ?_⟩)) | (refine .callx rfl rfl rfl en58 (.cons rfl .nil) (Spec.nthR (hf2 _) tellA_spec) H30 .nil (.own (.there (.there (.there (.there (.there .here))))) .nil) (fun bt w31 C31 H31 => ⟨fun _ => trivial, ?_⟩))
            refine .append rfl rfl rfl (ap_70) rfl rfl H31 (.there (.there (.there (.there (.there (.there (.there (.there .here)))))))) (Has.srcBlk (.own .here) H31) rfl (by simp [Value.oneCell']) (by simp only [maxLen]; omega) (by omega) (fun v32 w32 H32 => ⟨fun _ => trivial, ?_⟩)
            refine .q rfl rfl rfl (val_assign rfl) ?_
            refine .nil (cj ?_)
            refine .plain rfl ?_
            refine .q rfl rfl rfl (val_add rfl rfl (z := ((i + 1 : Nat) : Int)) (w64_of (by dsimp only; omega))) ?_
            refine .q rfl rfl rfl (val_move rfl) ?_
            refine .nil ?_
            intro act0 hact0; change Exists _
            refine ⟨⟨i + 1, _, _⟩, Pick.kn (by repeat (first | exact Pick.nil | refine Pick.cons rfl ?_)) hact0, ⟨by first | (dsimp only; rw [sm_a hs hc2, ← rsE_set _ hq]; exact H32.sub (.cons (.there (.there .here)) (.cons (.there (.there (.there (.there (.there (.there (.there .here))))))) (.cons (.there (.there (.there (.there (.there (.there .here)))))) (.cons (.there (.there .here)) (.cons .here .nil)))))) | (have hk : (tickO q.r q.g).m.kind = 3 ∨ (tickO q.r q.g).m.kind = 4 := (by first | exact .inl (by simpa using hs40) | exact .inr (by simpa using hc3)); dsimp only; rw [sm_b hs hc2 hc4, hoT_y hk, ← te_snoc, ← rsE_set _ hq]; rw [List.set_set] at H32; exact H32.sub (.cons (.there (.there .here)) (.cons (.there (.there (.there (.there (.there (.there (.there .here))))))) (.cons (.there (.there (.there (.there (.there (.there .here)))))) (.cons (.there (.there .here)) (.cons .here .nil)))))) | (have hk : ¬ ((tickO q.r q.g).m.kind = 3 ∨ (tickO q.r q.g).m.kind = 4) := (by simp at hs40 hc3; omega); dsimp only; rw [sm_b hs hc2 hc4, hoT_n hk]; dsimp only; rw [List.map_nil, List.append_nil, ← te_snoc, ← rsE_set _ hq]; exact H32.sub (.cons (.there (.there .here)) (.cons (.there (.there (.there (.there (.there (.there (.there .here))))))) (.cons (.there (.there (.there (.there (.there (.there .here)))))) (.cons (.there (.there .here)) (.cons .here .nil)))))) | (have hk : (tickO q.r q.g).m.kind = 3 ∨ (tickO q.r q.g).m.kind = 4 := (by first | exact .inl (by simpa using hs40) | exact .inr (by simpa using hc3)); dsimp only; rw [sm_c hs hc2 hc4, hoT_y hk, ← te_snoc, ← rsE_set _ hq]; rw [List.set_set] at H32; exact H32.sub (.cons (.there (.there .here)) (.cons (.there (.there (.there (.there (.there (.there (.there .here))))))) (.cons (.there (.there (.there (.there (.there (.there .here)))))) (.cons (.there (.there .here)) (.cons .here .nil)))))) | (have hk : ¬ ((tickO q.r q.g).m.kind = 3 ∨ (tickO q.r q.g).m.kind = 4) := (by simp at hs40 hc3; omega); dsimp only; rw [sm_c hs hc2 hc4, hoT_n hk]; dsimp only; rw [List.map_nil, List.append_nil, ← te_snoc, ← rsE_set _ hq]; exact H32.sub (.cons (.there (.there .here)) (.cons (.there (.there (.there (.there (.there (.there (.there .here))))))) (.cons (.there (.there (.there (.there (.there (.there .here)))))) (.cons (.there (.there .here)) (.cons .here .nil)))))), hil⟩, (show x.br.length - (i + 1) < x.br.length - i by omega)⟩
          · refine .skip (cj ?_)
            refine .plain rfl ?_
            refine .q rfl rfl rfl (val_move rfl) ?_
            refine .q rfl rfl rfl (val_move rfl) ?_
            refine .q rfl rfl rfl (val_nilCheck rfl) ?_
            refine .q rfl rfl rfl (val_fieldAddr rfl fa_111_2) ?_
            refine .qs rfl rfl rfl H28 (ld_b rfl ob_109 (.own .here) rfl) ?_
            refine .q rfl rfl rfl (val_move rfl) ?_
            refine .q rfl rfl rfl (val_ix el_109 hA rfl rfl rfl hil) ?_
            refine .qs rfl rfl rfl H28 (ld_el rfl ob_30 .base hA (.ro (.there (.there .here))) encN_len (by first | assumption | rfl) rfl) ?_
            first | (refine .callx rfl rfl rfl en58 (.cons rfl .nil) (Spec.nthR (hf3 _ _) tellA_spec) H28 .nil (.own (.there (.there (.there (.there .here)))) .nil) (fun bt w33 C33 H33 => ⟨fun _ => trivial, ?_⟩)) | (refine .callx rfl rfl rfl en58 (.cons rfl .nil) (Spec.nthR (hf2 _) tellA_spec) H28 .nil (.own (.there (.there (.there (.there .here)))) .nil) (fun bt w33 C33 H33 => ⟨fun _ => trivial, ?_⟩))
            refine .append rfl rfl rfl (ap_70) rfl rfl H33 (.there (.there (.there (.there (.there (.there (.there .here))))))) (Has.srcBlk (.own .here) H33) rfl (by simp [Value.oneCell']) (by simp only [maxLen]; omega) (by omega) (fun v34 w34 H34 => ⟨fun _ => trivial, ?_⟩)
            refine .q rfl rfl rfl (val_assign rfl) ?_
            refine .nil (cj ?_)
            refine .plain rfl ?_
            refine .q rfl rfl rfl (val_add rfl rfl (z := ((i + 1 : Nat) : Int)) (w64_of (by dsimp only; omega))) ?_
            refine .q rfl rfl rfl (val_move rfl) ?_
            refine .nil ?_
            intro act0 hact0; change Exists _
            refine ⟨⟨i + 1, _, _⟩, Pick.kn (by repeat (first | exact Pick.nil | refine Pick.cons rfl ?_)) hact0, ⟨by first | (dsimp only; rw [sm_a hs hc2, ← rsE_set _ hq]; exact H34.sub (.cons (.there (.there .here)) (.cons (.there (.there (.there (.there (.there (.there .here)))))) (.cons (.there (.there (.there (.there (.there .here))))) (.cons (.there (.there .here)) (.cons .here .nil)))))) | (have hk : (tickO q.r q.g).m.kind = 3 ∨ (tickO q.r q.g).m.kind = 4 := (by first | exact .inl (by simpa using hs40) | exact .inr (by simpa using hc3)); dsimp only; rw [sm_b hs hc2 hc4, hoT_y hk, ← te_snoc, ← rsE_set _ hq]; rw [List.set_set] at H34; exact H34.sub (.cons (.there (.there .here)) (.cons (.there (.there (.there (.there (.there (.there .here)))))) (.cons (.there (.there (.there (.there (.there .here))))) (.cons (.there (.there .here)) (.cons .here .nil)))))) | (have hk : ¬ ((tickO q.r q.g).m.kind = 3 ∨ (tickO q.r q.g).m.kind = 4) := (by simp at hs40 hc3; omega); dsimp only; rw [sm_b hs hc2 hc4, hoT_n hk]; dsimp only; rw [List.map_nil, List.append_nil, ← te_snoc, ← rsE_set _ hq]; exact H34.sub (.cons (.there (.there .here)) (.cons (.there (.there (.there (.there (.there (.there .here)))))) (.cons (.there (.there (.there (.there (.there .here))))) (.cons (.there (.there .here)) (.cons .here .nil)))))) | (have hk : (tickO q.r q.g).m.kind = 3 ∨ (tickO q.r q.g).m.kind = 4 := (by first | exact .inl (by simpa using hs40) | exact .inr (by simpa using hc3)); dsimp only; rw [sm_c hs hc2 hc4, hoT_y hk, ← te_snoc, ← rsE_set _ hq]; rw [List.set_set] at H34; exact H34.sub (.cons (.there (.there .here)) (.cons (.there (.there (.there (.there (.there (.there .here)))))) (.cons (.there (.there (.there (.there (.there .here))))) (.cons (.there (.there .here)) (.cons .here .nil)))))) | (have hk : ¬ ((tickO q.r q.g).m.kind = 3 ∨ (tickO q.r q.g).m.kind = 4) := (by simp at hs40 hc3; omega); dsimp only; rw [sm_c hs hc2 hc4, hoT_n hk]; dsimp only; rw [List.map_nil, List.append_nil, ← te_snoc, ← rsE_set _ hq]; exact H34.sub (.cons (.there (.there .here)) (.cons (.there (.there (.there (.there (.there (.there .here)))))) (.cons (.there (.there (.there (.there (.there .here))))) (.cons (.there (.there .here)) (.cons .here .nil)))))), hil⟩, (show x.br.length - (i + 1) < x.br.length - i by omega)⟩
  · dsimp only at hi hc1 H2
    have hil : i = x.br.length := by simp only [decide_eq_false_iff_not] at hc1; omega
    refine .exit (cj ?_)
    refine .seq ?_
    refine .plain rfl ?_
    refine .q rfl rfl rfl (val_move rfl) ?_
    refine .q rfl rfl rfl (val_assign rfl) ?_
    refine .nil (cj ?_)
    refine .ret (fret (res1 rfl rfl) ?_)
    rw [hil, hbr] at H2
    exact hRR _ _ ⟨_, ⟨⟨v, o⟩, rfl, rfl, trivial⟩, H2.sub (.cons .here (.cons .here (.cons .here (.cons .here (.cons .here .nil)))))⟩
end Go.Proofs.YtmbibkifbehgnaaGreatDoor
namespace Go.Proofs.YtmbibkifbehgnaaGreatDoor
open Go Sk
set_option linter.unusedVariables false
set_option linter.unusedSimpArgs false
set_option linter.unusedSectionVars false
structure Wm.Ok (c : Cf) (W : Wm) : Prop where
  s : W.s.Ok c
  n : W.s.loads.length = W.rs.length
  g : ∀ q ∈ W.rs, RunO q.g
structure HWm where
  te : Option Te
  W : Wm
/-- a robot's state by its number; none: there is no such robot -/
def robAt (W : Wm) (i : Int) : Option Rg := if i < 0 then none else W.rs[i.toNat]?
def hearWd (c : Cf) (W : Wm) (t : Te) : HWm := match robAt W t.robot with
  | none => ⟨none, W⟩
  | some q => ⟨(hearB c q.r q.g t).tele, ⟨W.rs.set t.robot.toNat ⟨(hearB c q.r q.g t).r, (hearB c q.r q.g t).g⟩, W.s, W.now, W.l ++ (hearL (hearB c q.r q.g t).how (hearB c q.r q.g t).g).map (fillS W.now (t.robot.toNat : Int) (hearB c q.r q.g t).r.pose)⟩⟩
structure DWm where
  e : Int
  W : Wm
theorem robAt_none {W : Wm} {i : Int} (h : robAt W i = none) : i < 0 ∨ (W.rs.length : Int) ≤ i := by
  unfold robAt at h
  split at h
  · exact .inl (by assumption)
  · rw [List.getElem?_eq_none_iff] at h
    right; omega
theorem robAt_some {W : Wm} {i : Int} {q : Rg} (h : robAt W i = some q) : i = (i.toNat : Int) ∧ W.rs[i.toNat]? = some q := by
  unfold robAt at h
  split at h
  · cases h
  · exact ⟨by omega, h⟩
/-! ### RunO stays -/
theorem goB_run {c : Cf} {r : Rb} {g : Option Gg} {t : Te} (hg : RunO g) : RunO (goB c r g t).g := by
  unfold goB
  split
  · exact hg
  · split
    · exact hg
    · split
      · exact hg
      · split
        · rename_i h
          exact fun hk _ => (legal_runs h.2.2.1 hk).1
        · exact hg
theorem stop1B_run {c : Cf} {r : Rb} {g : Gg} {ep : Int} (hg : RunN g) : RunN (stop1B c r g ep).g := by
  unfold stop1B
  split
  · unfold cutG
    split
    · exact hg
    · exact fun _ h => by cases h
  · exact hg
theorem hearB_run {c : Cf} {r : Rb} {g : Option Gg} {t : Te} (hg : RunO g) : RunO (hearB c r g t).g := by
  unfold hearB
  split
  · exact hg
  · split
    · exact goB_run hg
    · split
      · cases g with
        | none => trivial
        | some u => exact stop1B_run hg
      · exact hg
theorem tickO_run {r : Rb} {g : Option Gg} (hg : RunO g) : RunO (tickO r g).g := by
  cases g with
  | none => trivial
  | some u =>
    show RunO (tickB r u).g
    unfold tickB
    split
    · exact hg
    · split
      · exact hg
      · split <;> trivial
theorem Wm.Ok.get {c : Cf} {W : Wm} (h : W.Ok c) {i : Nat} {q : Rg} (hq : W.rs[i]? = some q) : RunO q.g := h.g q (List.mem_of_getElem? hq)
theorem hearWd_ok {c : Cf} {W : Wm} (h : W.Ok c) (t : Te) : (hearWd c W t).W.Ok c ∧ (hearWd c W t).W.rs.length = W.rs.length ∧ (hearWd c W t).W.l.length ≤ W.l.length + 1 := by
  unfold hearWd
  split
  · exact ⟨h, rfl, Nat.le_succ _⟩
  · rename_i q hq
    obtain ⟨h1, h2⟩ := robAt_some hq
    refine ⟨⟨h.s, by simpa using h.n, fun p hp => ?_⟩, by simp, ?_⟩
    · rcases List.mem_or_eq_of_mem_set hp with hp | rfl
      · exact h.g p hp
      · exact hearB_run (h.get h2)
    · simp only [List.length_append, List.length_map]
      have : (hearL (hearB c q.r q.g t).how (hearB c q.r q.g t).g).length ≤ 1 := by
        unfold hearL
        split
        · exact Nat.le_refl _
        · split
          · exact Nat.le_refl _
          · split <;> simp
      omega
theorem tickT_run {c : Cf} {W : Wm} (h : W.Ok c) : ∀ i, ∀ q ∈ (tickT c W i).rs, RunO q.g
  | 0 => h.g
  | i + 1 => by
    have ih := tickT_run h i
    unfold tickT
    split
    · rename_i q hq
      have hr := tickO_run (r := q.r) (ih q (List.mem_of_getElem? hq))
      unfold stepM
      split
      · intro p hp
        rcases List.mem_or_eq_of_mem_set hp with hp | rfl
        · exact ih p hp
        · exact hr
      · intro p hp
        rcases List.mem_or_eq_of_mem_set hp with hp | rfl
        · exact ih p hp
        · exact hr
    · exact ih
theorem tickWd_ok {c : Cf} (hm : MayOk c) {W : Wm} (h : W.Ok c) : (tickWd c W).Ok c ∧ (tickWd c W).rs.length = W.rs.length ∧ (tickWd c W).l.length ≤ W.l.length + 32 := by
  have ok := tickT_ok hm h.s h.n W.rs.length
  have h8 : W.rs.length ≤ 8 := by rw [← h.n]; exact h.s.r
  refine ⟨⟨ok.s, ok.n.trans ok.r.symm, tickT_run h _⟩, ok.r, ?_⟩
  have := ok.l
  show (tickT c W W.rs.length).l.length ≤ _
  omega
/-! ### contracts -/
section
variable {c : Cf} (hm : MayOk c) {b : Nat} {W : Wm}
theorem stm0_ok (hm : MayOk c) : (stm0 c).Ok c := by
  refine ⟨layM_len c _, by simpa [stm0] using hm.rl, ?_⟩
  have key : ∀ i, ∀ l ∈ layM c i, l.length ≤ 8 := by
    intro i
    induction i with
    | zero =>
      intro l hl
      rw [layM, List.mem_replicate] at hl
      rw [hl.2]; exact Nat.zero_le _
    | succ i ih =>
      unfold layM
      split
      · rename_i s hs
        intro l hl
        rcases List.mem_or_eq_of_mem_set hl with hl | rfl
        · exact ih l hl
        · have h1 := (hm.bins.st i s hs).2
          have h2 := hm.num.height
          omega
      · exact ih
  exact key _
theorem newRs_run (c : Cf) : ∀ i, ∀ q ∈ newRs c i, RunO q.g
  | 0 => fun q h => by cases h
  | i + 1 => fun q h => by
    rw [newRs, List.mem_append] at h
    rcases h with h | h
    · exact newRs_run c i q h
    · rw [List.mem_singleton] at h
      subst h
      trivial
theorem wld0_ok (hm : MayOk c) : (wld0 c).Ok c := ⟨stm0_ok hm, by simp [wld0, stm0, newRs_len], newRs_run c _⟩
theorem wnowA_spec : Sk.Spec Tryz.prog 19 #[ptr b] [wldA c b W] [] fun e F' => e = .returned (i64 W.now) ∧ F' = [] := by
  refine Spec.openR fun ⟨x, hx⟩ => ?_
  exact (wnow_spec b x W.now).ro (.ro .here .nil)
theorem sightsA_spec (hl : W.l.length ≤ 1000000) : Sk.Spec Tryz.prog 18 #[ptr b] [wldA c b W] [] fun e F' => ∃ v, e = .returned v ∧ F' = [siA v W.l] ∧ True := by
  refine Spec.openR fun ⟨x, hx⟩ => ?_
  rw [List.append_nil]
  refine Spec.rowIn (v := x.v) (e := 60) (sz := 18) (n := W.l.length) (xs := W.l.flatMap encSi) (by simp) fun A cap hv hcap hn => ?_
  have h := sights_spec b x W.now W.l A cap hv hl hn
  have h2 := Spec.rowR (n := W.l.length) (cap := cap) (e := 60) (sz := 18) h
  rw [← hv] at h2
  exact h2.ro (.ro (.there (.there (.there (.there (.there (.there .here)))))) (.ro .here .nil))
include hm
theorem tickA2_spec (hok : W.Ok c) (hl : W.l.length ≤ 900000) : Sk.Spec Tryz.prog 26 #[ptr b] [] [wldA c b W] fun e F' => ∃ o : Value, e = .returned o ∧ F' = [wldA c b (tickWd c W), teR o (tickTe c W)] ∧ True := by
  refine Spec.openF fun ⟨x, hx⟩ => ?_
  rw [List.append_nil]
  refine ((tick_spec c hm b x x.v W hok.s hok.n hx hl).frame (F := wldE c b W x) (.cons .here (.cons (.there (.there (.there .here))) (.cons (.there (.there (.there .here))) (.cons (.there (.there (.there .here))) .nil)))) (.own .here (.own (.there .here) (.own (.there (.there .here)) .nil)))).conseq ?_
  rintro e F' ⟨F1, ⟨y, rfl, rfl, _⟩, rfl⟩
  refine ⟨_, ⟨y.o, rfl, rfl, trivial⟩, fun X w hX => ⟨X, wldA_in (W := tickWd c W) { x with v := y.v } (by rw [(tickWd_ok hm hok).2.1]; exact hx) ?_, fun _ h => h⟩⟩
  exact Own.perm (.cons .here (.cons (.there (.there (.there (.there .here)))) (.cons (.there (.there (.there (.there .here)))) (.cons (.there (.there (.there (.there .here)))) (.cons .here (.cons .here (.cons .here (.cons .here .nil)))))))) hX
theorem hearA3_spec (hok : W.Ok c) (hl : W.l.length ≤ 900000) (t : Te) : Sk.Spec Tryz.prog 25 #[ptr b, .agg (encT t).toArray] [stepsA] [wldA c b W] fun e F' => ∃ y : SV, e = .returned (teV (hearWd c W t).te y) ∧ F' = [wldA c b (hearWd c W t).W, teA (hearWd c W t).te y] ∧ True := by
  refine Spec.openF fun ⟨x, hx⟩ => ?_
  rw [List.append_nil]
  unfold hearWd
  split
  · rename_i hr
    refine ((hear0_spec' b x W.now t (by rw [hx]; exact robAt_none hr)).keep (R := [stepsA]) (F := wldE c b W x) (.own .here (.own (.there (.there (.there .here))) .nil))).conseq ?_
    rintro e F' ⟨rfl, rfl⟩
    refine ⟨_, ⟨⟨none, 0⟩, rfl, rfl, trivial⟩, fun X w hX => ⟨X, wldA_in x hx ?_, fun _ h => h⟩⟩
    exact Own.perm (.cons (.there .here) (.cons (.there .here) (.cons (.there .here) (.cons (.there .here) (.cons (.there .here) (.cons (.there .here) (.cons (.there .here) (.cons .here .nil)))))))) (Own.consE (g := teA none ⟨none, 0⟩) (.inl ⟨rfl, fun _ h => h⟩) hX)
  · rename_i q hr
    obtain ⟨h1, h2⟩ := robAt_some hr
    obtain ⟨a, ha⟩ := br_get hx h2
    have h := hear1_spec' c hm b x W.now x.v ha (rsE_get ha h2) (hok.get h2) W.l (by omega) t h1
    refine (h.frame (F := wldE c b W x) (.cons .here (.cons (.there (.there (.there (.there (.there .here))))) (.cons (.there (.there (.there (.there .here)))) .nil))) (.own (.there (.there .here)) (.ro .here .nil))).conseq ?_
    rintro e F' ⟨F1, ⟨y, rfl, rfl, _⟩, rfl⟩
    refine ⟨_, ⟨y.x, rfl, rfl, trivial⟩, fun X w hX => ⟨X, wldA_in { x with v := y.v } (by simpa using hx) ?_, fun _ h => h⟩⟩
    rw [rsE_set (s := ⟨(hearB c q.r q.g t).r, (hearB c q.r q.g t).g⟩) ha] at hX
    exact Own.perm (.cons .here (.cons (.there (.there (.there .here))) (.cons (.there (.there (.there .here))) (.cons (.there (.there (.there .here))) (.cons (.there (.there (.there .here))) (.cons (.there .here) (.cons .here (.cons .here .nil)))))))) hX
end
end Go.Proofs.YtmbibkifbehgnaaGreatDoor
namespace Go.Proofs.YtmbibkifbehgnaaGreatDoor
open Go Sk
set_option linter.unusedVariables false
set_option linter.unusedSimpArgs false
section
open Go.Shelf Go.Sort Go.RowKit
def lays189_ren : Go.Shelf.Ren := ⟨fun | 189 => 87 | 125 => 109 | 257 => 108 | 128 => 139 | 129 => 140 | 294 => 130 | 295 => 131 | 296 => 132 | 297 => 133 | 298 => 134 | 299 => 135 | 216 => 136 | 300 => 137 | 301 => 138 | 328 => 151 | 329 => 152 | 330 => 153 | 331 => 154 | 332 => 155 | 215 => 156 | 343 => 160 | n => n, fun | 28 => 27 | 3 => 3 | 46 => 186 | 0 => 0 | 51 => 134 | 53 => 209 | 4 => 4 | 183 => 201 | 182 => 200 | 131 => 205 | 5 => 5 | 9 => 9 | 218 => 215 | 222 => 219 | 228 => 222 | 229 => 176 | n => n, fun | n => n⟩
theorem lays189 : Go.Proofs.Lays.n189 Tryz.prog lays189_ren := {
  mixed := by kernel_rfl
  f125 := Tryz.func109.trans (congrArg some (by kernel_rfl))
  f128 := Tryz.func139.trans (congrArg some (by kernel_rfl))
  f129 := Tryz.func140.trans (congrArg some (by kernel_rfl))
  f189 := Tryz.func87.trans (congrArg some (by kernel_rfl))
  f215 := Tryz.func156.trans (congrArg some (by kernel_rfl))
  f216 := Tryz.func136.trans (congrArg some (by kernel_rfl))
  f257 := Tryz.func108.trans (congrArg some (by kernel_rfl))
  f294 := Tryz.func130.trans (congrArg some (by kernel_rfl))
  f295 := Tryz.func131.trans (congrArg some (by kernel_rfl))
  f296 := Tryz.func132.trans (congrArg some (by kernel_rfl))
  f297 := Tryz.func133.trans (congrArg some (by kernel_rfl))
  f298 := Tryz.func134.trans (congrArg some (by kernel_rfl))
  f299 := Tryz.func135.trans (congrArg some (by kernel_rfl))
  f300 := Tryz.func137.trans (congrArg some (by kernel_rfl))
  f301 := Tryz.func138.trans (congrArg some (by kernel_rfl))
  f328 := Tryz.func151.trans (congrArg some (by kernel_rfl))
  f329 := Tryz.func152.trans (congrArg some (by kernel_rfl))
  f330 := Tryz.func153.trans (congrArg some (by kernel_rfl))
  f331 := Tryz.func154.trans (congrArg some (by kernel_rfl))
  f332 := Tryz.func155.trans (congrArg some (by kernel_rfl))
  f343 := Tryz.func160.trans (congrArg some (by kernel_rfl))
  t0 := Tryz.underlying0
  a0 := Tryz.isAgg0
  z0 := Tryz.sizeOf0
  v0 := Tryz.zeroValue0
  t3 := Tryz.underlying3
  a3 := Tryz.isAgg3
  z3 := Tryz.sizeOf3
  v3 := Tryz.zeroValue3
  t4 := Tryz.underlying4
  a4 := Tryz.isAgg4
  z4 := Tryz.sizeOf4
  v4 := Tryz.zeroValue4
  t5 := Tryz.underlying5
  a5 := Tryz.isAgg5
  z5 := Tryz.sizeOf5
  v5 := Tryz.zeroValue5
  t9 := Tryz.underlying9
  a9 := Tryz.isAgg9
  z9 := Tryz.sizeOf9
  v9 := Tryz.zeroValue9
  t28 := Tryz.underlying27
  a28 := Tryz.isAgg27
  z28 := Tryz.sizeOf27
  v28 := Tryz.zeroValue27
  t46 := Tryz.underlying186
  a46 := Tryz.isAgg186
  z46 := Tryz.sizeOf186
  v46 := Tryz.zeroValue186
  t51 := Tryz.underlying134
  a51 := Tryz.isAgg134
  z51 := Tryz.sizeOf134
  v51 := Tryz.zeroValue134
  t53 := Tryz.underlying209
  a53 := Tryz.isAgg209
  z53 := Tryz.sizeOf209
  v53 := Tryz.zeroValue209
  t131 := Tryz.underlying205
  a131 := Tryz.isAgg205
  z131 := Tryz.sizeOf205
  v131 := Tryz.zeroValue205
  t182 := Tryz.underlying200
  a182 := Tryz.isAgg200
  z182 := Tryz.sizeOf200
  v182 := Tryz.zeroValue200
  t183 := Tryz.underlying201
  a183 := Tryz.isAgg201
  z183 := Tryz.sizeOf201
  v183 := Tryz.zeroValue201
  t218 := Tryz.underlying215
  a218 := Tryz.isAgg215
  z218 := Tryz.sizeOf215
  v218 := Tryz.zeroValue215
  t222 := Tryz.underlying219
  a222 := Tryz.isAgg219
  z222 := Tryz.sizeOf219
  v222 := Tryz.zeroValue219
  t228 := Tryz.underlying222
  a228 := Tryz.isAgg222
  z228 := Tryz.sizeOf222
  v228 := Tryz.zeroValue222
  t229 := Tryz.underlying176
  a229 := Tryz.isAgg176
  z229 := Tryz.sizeOf176
  v229 := Tryz.zeroValue176 }
theorem sortI_calls (blk off cap : Nat) (zs : List Int) (w : World) (hH : Holds (Value.int .i64) w blk off zs.toArray) (hblk : blk < w.heap.size) (hsz : zs.length < 4611686018427387904) :
    Calls Tryz.prog 87 #[.slice (some ⟨blk, off, none⟩) zs.length cap] w fun e w' =>
      e = .returned (.tuple #[]) ∧ ∃ n os, w' = grow (putRow (Value.int .i64) (Sort.ahead w n) blk off (zs.mergeSort fun x y => decide (x ≤ y)).toArray) os := Any.slices_Sort_int lays189 blk off cap zs w hH hblk hsz
theorem sort0_calls (p : Option Addr) (cap : Nat) (w : World) :
    Calls Tryz.prog 87 #[.slice p 0 cap] w fun e w' => e = .returned (.tuple #[]) ∧ w' = w := Any.slices_Sort_int_none lays189 p cap w
abbrev sortZ (l : List Int) : List Int := l.mergeSort fun x y => decide (x ≤ y)
theorem mapI (l : List Int) : l.flatMap encI = l.map (Value.int .i64) := by
  induction l with
  | nil => rfl
  | cons a l ih => rw [List.flatMap_cons, List.map_cons, ← ih]; rfl
theorem sort_spec (v : Value) (l : List Int) (hl : l.length ≤ 1000000) : Sk.Spec Tryz.prog 87 #[v] [] [row v 3 1 l.length (l.flatMap encI)] fun e F' => e = .returned (.tuple #[]) ∧ F' = [row v 3 1 l.length ((sortZ l).flatMap encI)] := by
  intro w X hF hR
  obtain ⟨X1, X2, ⟨hrow, hblk⟩, h2, h3, h4⟩ := hF
  have hX : ∀ k, X k ↔ X1 k := fun k => (h4 k).trans ⟨fun h => h.resolve_right (h2 k), .inl⟩
  have hsl : (sortZ l).length = l.length := List.length_mergeSort ..
  rw [mapI] at hrow
  rcases hrow.2 with ⟨rfl, h0⟩ | ⟨g, cap, cur, rfl, hb, hg, hnc, hcm, hcs, htake⟩
  · have hl0 : l = [] := List.eq_nil_of_length_eq_zero h0
    subst hl0
    refine (sort0_calls none 0 w).mono fun e w' ⟨he, hw⟩ => ⟨_, X, ⟨he, rfl⟩, ?_, ?_, fun k h => .inl h⟩
    · subst hw
      exact ⟨X1, X2, ⟨by rw [mapI, show sortZ [] = [] by simp [sortZ]]; exact hrow, hblk⟩, h2, h3, h4⟩
    · subst hw; exact Ext.refl _ _
  · have hgs := (Array.getElem?_eq_some_iff.1 hg).1
    have hto := holds_of_blockI (ss := l) hg (by rw [Nat.mul_one] at htake; exact htake)
    refine (sortI_calls g 0 cap l w hto hgs (by omega)).mono fun e w' ⟨he, n, os, hw⟩ => ⟨_, X, ⟨he, rfl⟩, ?_, ?_, fun k h => .inl h⟩
    · subst hw
      have := ownsRow_sortedI (w := w) (base := 0) (n := n) (os := os) (ts := sortZ l) hsl (Nat.zero_le _) hg hnc hcm hcs
      exact ⟨X1, X2, ⟨by rw [mapI]; exact this, hblk⟩, h2, h3, h4⟩
    · subst hw
      have hgr := grownBy_sortedI (w := w) (g := g) (n := n) (os := os) (sortZ l).toArray
      refine ⟨hgr.os, hgr.tape, hgr.output, hgr.size, fun k hk hM => hgr.block k hk fun e => hM ?_⟩
      have e : g = k := by simpa [eq_comm] using e
      subst e
      exact (hX g).2 ((hblk g).2 rfl)
end
end Go.Proofs.YtmbibkifbehgnaaGreatDoor
namespace Go.Proofs.YtmbibkifbehgnaaGreatDoor
open Go Sk
set_option linter.unusedVariables false
set_option linter.unusedSimpArgs false
set_option linter.unusedSectionVars false
theorem en87 : Enters Tryz.prog 87 := fun args w => by kernel_rfl
theorem roRow {R R' F fs : List As} {w0 w : World} {M : Nat → Prop} {i n sz : Nat} {v : Value} {e : TypeId} {xs : List Value} (hR : At R (sep fs) R') (H : St w0 w M R F) (hi : fs[i]? = some (row v e sz n xs)) :
    ∃ A cap, v = .slice A n cap ∧ (A = none → n = 0 ∧ cap = 0) ∧ St w0 w M (arr A xs :: R) F := by
  obtain ⟨⟨X, h1, h2, h3⟩, h4⟩ := H
  obtain ⟨Y, hY, hd⟩ := h2 _ hR.mem
  obtain ⟨Z, ⟨hrow, hblk⟩, hs⟩ := Own.mem (List.mem_of_getElem? hi) hY
  have mk : ∀ A cap, v = .slice A n cap → (A = none → n = 0 ∧ cap = 0) → (arr A xs).on Z w → ∃ A cap, v = .slice A n cap ∧ (A = none → n = 0 ∧ cap = 0) ∧ St w0 w M (arr A xs :: R) F := fun A cap hv hn ha =>
    ⟨A, cap, hv, hn, ⟨X, h1, fun r hr => by
      rcases List.mem_cons.1 hr with rfl | hr
      · exact ⟨Z, ha, fun k hk => hd k (hs k hk)⟩
      · exact h2 r hr, h3⟩, h4⟩
  rcases hrow.2 with ⟨rfl, rfl⟩ | ⟨g, cap, cur, rfl, hb, hg, hnc, hcm, hcs, htake⟩
  · exact mk none 0 rfl (fun _ => ⟨rfl, rfl⟩) (.inl ⟨List.eq_nil_of_length_eq_zero (by simpa using hrow.1), fun k hk => by have := (hblk k).1 hk; simp [Value.ownBlock] at this⟩)
  · refine mk (some ⟨g, 0, none⟩) cap rfl (fun h => by cases h) (.inr ⟨g, 0, rfl, fun k => by rw [hblk k]; simp [Value.ownBlock, eq_comm], (Array.getElem?_eq_some_iff.1 hg).1, fun j u hu => ?_⟩)
    have := hrow.cells (g := g) rfl j u hu
    rwa [Sk.add_plain] at this
/-- all bins, sorted -/
def allM (s : Stm) : List Int := s.bins.flatMap id ++ s.loads.filter fun b => b != 0
def binsM (s : Stm) : List Int := sortZ (allM s)
theorem flat8 : ∀ (l : List (List Int)), (∀ x ∈ l, x.length ≤ 8) → (l.flatMap id).length ≤ 8 * l.length
  | [], _ => by simp
  | a :: l, h => by
    have h1 := h a (by simp)
    have h2 := flat8 l fun x hx => h x (by simp [hx])
    rw [List.flatMap_cons, List.length_append, List.length_cons]
    simp only [id]
    omega
structure LB where
  i : Nat
  v : Value
theorem bins_spec (c : Cf) (hm : MayOk c) (b : Nat) (x : SX) (s : Stm) (hok : s.Ok c) (hx : x.bs.map (·.l) = s.bins) :
    Sk.Spec Tryz.prog 54 #[ptr b] (stkE c b s.loads x) [] fun e F' => ∃ v, e = .returned v ∧ F' = [row v 3 1 (binsM s).length ((binsM s).flatMap encI)] ∧ True := by
  obtain ⟨ha, ha2, ha1⟩ := area_le hm.num
  have hbl : x.bs.length = area c := by rw [← hok.b, ← hx, List.length_map]
  have hl8 := hok.r
  have htake : ∀ i, ((s.bins.take i).flatMap id).length ≤ 2048 := fun i => by
    have h1 := flat8 (s.bins.take i) fun l hl => hok.n l (List.mem_of_mem_take hl)
    have h2 := hok.b
    rw [List.length_take] at h1
    omega
  refine Spec.of_code (vs := [_]) (k0 := [(0, _)]) 42 Tryz.func54 rfl Tryz.ntmps54 rfl (.cons .nil) fun w X RR hRR H => ?_
  refine .seq ?_
  refine .plain rfl ?_
  refine .q rfl rfl rfl (val_assign rfl) ?_
  refine .nil (cj ?_)
  refine .seq ?_
  refine .seq ?_
  refine .plain rfl ?_
  refine .q rfl rfl rfl (val_move rfl) ?_
  refine .q rfl rfl rfl (val_ptr_eq_nil Tryz.underlying108 rfl rfl rfl) ?_
  refine .nil (cj ?_)
  refine .cond_f rfl ?_
  refine .skip (cj ?_)
  refine .seq ?_
  refine .plain rfl ?_
  refine .q rfl rfl rfl (val_assign rfl) ?_
  refine .nil (cj ?_)
  refine .seq ?_
  refine .seq ?_
  refine .plain rfl ?_
  refine .q rfl rfl rfl (val_move rfl) ?_
  refine .q rfl rfl rfl (val_nilCheck rfl) ?_
  refine .q rfl rfl rfl (val_fieldAddr rfl fa_163_4) ?_
  refine .qs rfl rfl rfl H (ld_b rfl ob_161 (.ro .here) rfl) ?_
  refine .q rfl rfl rfl (val_len Tryz.underlying161 rfl) ?_
  refine .q rfl rfl rfl (val_move rfl) ?_
  refine .nil (cj ?_)
  refine .block ?_
  have H2 := H.rowNil 3 1
  refine .loop (ι := LB) (fun y => [(0, ptr b), (3, y.v), (13, .slice (some ⟨x.bb, 0, none⟩) (area c) (area c)), (14, i64 ((area c : Nat) : Int)), (15, i64 (y.i : Int))]) (fun y w' => St w w' X (stkE c b s.loads x) [row y.v 3 1 ((s.bins.take y.i).flatMap id).length (((s.bins.take y.i).flatMap id).flatMap encI)] ∧ y.i ≤ area c) (fun y => area c - y.i) ⟨0, .slice none 0 0⟩ (by repeat (first | exact Pick.nil | refine Pick.cons rfl ?_)) ⟨H2, Nat.zero_le _⟩ ?_
  rintro ⟨i, v⟩ w5 ⟨H1, hi⟩
  refine .seq ?_
  refine .plain rfl ?_
  refine .q rfl rfl rfl (val_lss rfl rfl rfl) ?_
  refine .nil (cj ?_)
  refine .seq ?_
  refine .cond rfl (fun hc1 => ?_) (fun hc1 => ?_)
  · dsimp only at hi hc1 H1
    have hil : i < area c := by simpa using hc1
    obtain ⟨bn, hbn⟩ : ∃ bn, x.bs[i]? = some bn := ⟨_, List.getElem?_eq_getElem (by omega)⟩
    obtain ⟨vb, lb⟩ := bn
    obtain ⟨A9, cap9, rfl, hn9, HB⟩ := roRow (.there (.there (.there (.there .here)))) H1 (row_out hbn)
    have hsi : s.bins[i]? = some lb := by rw [← hx, List.getElem?_map, hbn]; rfl
    have hlb : lb.length ≤ 8 := hok.n _ (List.mem_of_getElem? hsi)
    have ht := htake i
    refine .skip (cj ?_)
    refine .seq ?_
    refine .block ?_
    refine .seq ?_
    refine .plain rfl ?_
    refine .q rfl rfl rfl (val_ix el_161 rfl rfl rfl rfl hil) ?_
    refine .qs rfl rfl rfl HB (ld_b rfl ob_27 (.ro (.there (.there (.there (.there .here))))) (ix_map (by first | assumption | rfl))) ?_
    refine .q rfl rfl rfl (val_assign rfl) ?_
    refine .nil (cj ?_)
    refine .plain rfl ?_
    refine .q rfl rfl rfl (val_move rfl) ?_
    refine .q rfl rfl rfl (val_move rfl) ?_
    refine .append rfl rfl rfl (ap_27) rfl rfl HB .here (Has.srcArr (.ro .here) hn9 HB) (flat_len encI_len _) one_encI' (by simp only [maxLen]; omega) (by omega) (fun v3 w3 H3 => ⟨fun _ => trivial, ?_⟩)
    refine .q rfl rfl rfl (val_assign rfl) ?_
    refine .nil (cj ?_)
    refine .plain rfl ?_
    refine .q rfl rfl rfl (val_add rfl rfl (z := ((i + 1 : Nat) : Int)) (w64_of (by first | omega | (dsimp only; omega)))) ?_
    refine .q rfl rfl rfl (val_move rfl) ?_
    refine .nil ?_
    intro act0 hact0; change Exists _
    refine ⟨⟨i + 1, _⟩, Pick.kn (by repeat (first | exact Pick.nil | refine Pick.cons rfl ?_)) hact0, ⟨by rw [take_snoc hsi, List.flatMap_append, List.flatMap_append, List.length_append]; simp only [List.flatMap_cons, List.flatMap_nil, List.append_nil, id]; exact (H3.rest (.ro (.there .here) (.ro (.there (.there .here)) (.ro (.there (.there (.there .here))) (.ro (.there (.there (.there (.there .here)))) (.ro (.there (.there (.there (.there (.there .here))))) (.ro (.there (.there (.there (.there (.there (.there .here)))))) .nil))))))), (show i + 1 ≤ area c by omega)⟩, (show area c - (i + 1) < area c - i by omega)⟩
  · dsimp only at hi hc1 H1
    have hil : i = area c := by simp at hc1; omega
    refine .exit (cj ?_)
    refine .seq ?_
    refine .seq ?_
    refine .plain rfl ?_
    refine .q rfl rfl rfl (val_move rfl) ?_
    refine .q rfl rfl rfl (val_nilCheck rfl) ?_
    refine .q rfl rfl rfl (val_fieldAddr rfl fa_163_5) ?_
    refine .qs rfl rfl rfl H1 (ld_b rfl ob_27 (.ro .here) rfl) ?_
    refine .q rfl rfl rfl (val_len Tryz.underlying27 rfl) ?_
    refine .q rfl rfl rfl (val_move rfl) ?_
    refine .nil (cj ?_)
    refine .block ?_
    refine .loop (ι := LB) (fun y => [(0, ptr b), (3, y.v), (26, .slice (some ⟨x.bl, 0, none⟩) s.loads.length s.loads.length), (27, i64 ((s.loads.length : Nat) : Int)), (28, i64 (y.i : Int))]) (fun y w' => St w w' X (stkE c b s.loads x) [row y.v 3 1 (s.bins.flatMap id ++ (s.loads.take y.i).filter fun b => b != 0).length ((s.bins.flatMap id ++ (s.loads.take y.i).filter fun b => b != 0).flatMap encI)] ∧ y.i ≤ s.loads.length) (fun y => s.loads.length - y.i) ⟨0, v⟩ (by repeat (first | exact Pick.nil | refine Pick.cons rfl ?_)) ⟨by rw [hil, ← hok.b, List.take_length] at H1; rw [List.take_zero, List.filter_nil, List.append_nil]; exact H1.sub (.cons .here .nil), Nat.zero_le _⟩ ?_
    rintro ⟨j, v2⟩ w6 ⟨H4, hj⟩
    refine .seq ?_
    refine .plain rfl ?_
    refine .q rfl rfl rfl (val_lss rfl rfl rfl) ?_
    refine .nil (cj ?_)
    refine .seq ?_
    refine .cond rfl (fun hc2 => ?_) (fun hc2 => ?_)
    · dsimp only at hj hc2 H4
      have hjl : j < s.loads.length := by simpa using hc2
      obtain ⟨z, hz⟩ : ∃ z, s.loads[j]? = some z := ⟨_, List.getElem?_eq_getElem hjl⟩
      have ht := htake s.bins.length
      rw [List.take_length] at ht
      have hf8 : ((s.loads.take j).filter fun b => b != 0).length ≤ 8 := Nat.le_trans (List.length_filter_le _ _) (by rw [List.length_take]; omega)
      have htot : (s.bins.flatMap id ++ (s.loads.take j).filter fun b => b != 0).length ≤ 3000 := by rw [List.length_append]; omega
      refine .skip (cj ?_)
      refine .seq ?_
      refine .block ?_
      refine .seq ?_
      refine .plain rfl ?_
      refine .q rfl rfl rfl (val_ix el_27 rfl rfl rfl rfl hjl) ?_
      refine .qs rfl rfl rfl H4 (ld_b rfl ob_3 (.ro (.there (.there (.there (.there (.there .here)))))) (ix_map (by first | assumption | rfl))) ?_
      refine .q rfl rfl rfl (val_assign rfl) ?_
      refine .nil (cj ?_)
      refine .seq ?_
      refine .plain rfl ?_
      refine .q rfl rfl rfl (val_move rfl) ?_
      refine .q rfl rfl rfl (val_neq rfl rfl rfl) ?_
      refine .nil (cj ?_)
      refine .cond rfl (fun hc3 => ?_) (fun hc3 => ?_)
      · refine .plain rfl ?_
        refine .q rfl rfl rfl (val_move rfl) ?_
        refine .q rfl rfl rfl (val_move rfl) ?_
        refine .lit rfl rfl rfl Tryz.underlying27 (.cons rfl .nil) (bs_3_1_0 _) H4 (fun w5 b5 H5 => ⟨fun _ => trivial, ?_⟩)
        refine .append rfl rfl rfl (ap_27) rfl rfl H5 (.there .here) (Has.srcBlk (.own .here) H5) rfl (by simp [Value.oneCell']) (by simp only [maxLen]; omega) (by omega) (fun v6 w6 H6 => ⟨fun _ => trivial, ?_⟩)
        refine .q rfl rfl rfl (val_assign rfl) ?_
        refine .nil (cj ?_)
        refine .plain rfl ?_
        refine .q rfl rfl rfl (val_add rfl rfl (z := ((j + 1 : Nat) : Int)) (w64_of (by first | omega | (dsimp only; omega)))) ?_
        refine .q rfl rfl rfl (val_move rfl) ?_
        refine .nil ?_
        intro act0 hact0; change Exists _
        refine ⟨⟨j + 1, _⟩, Pick.kn (by repeat (first | exact Pick.nil | refine Pick.cons rfl ?_)) hact0, ⟨by rw [take_snoc hz, List.filter_append, ← List.append_assoc]; first | (rw [List.filter_cons_of_pos (by simpa using hc3), List.filter_nil, List.flatMap_append, List.length_append]; exact H6.sub (.cons .here .nil)) | (rw [List.filter_cons_of_neg (by simpa using hc3), List.filter_nil, List.append_nil]; exact H6.sub (.cons .here .nil)), (show j + 1 ≤ s.loads.length by omega)⟩, (show s.loads.length - (j + 1) < s.loads.length - j by omega)⟩
      · refine .skip (cj ?_)
        refine .plain rfl ?_
        refine .q rfl rfl rfl (val_add rfl rfl (z := ((j + 1 : Nat) : Int)) (w64_of (by first | omega | (dsimp only; omega)))) ?_
        refine .q rfl rfl rfl (val_move rfl) ?_
        refine .nil ?_
        intro act0 hact0; change Exists _
        refine ⟨⟨j + 1, _⟩, Pick.kn (by repeat (first | exact Pick.nil | refine Pick.cons rfl ?_)) hact0, ⟨by rw [take_snoc hz, List.filter_append, ← List.append_assoc]; first | (rw [List.filter_cons_of_pos (by simpa using hc3), List.filter_nil, List.flatMap_append, List.length_append]; exact H4.sub (.cons .here .nil)) | (rw [List.filter_cons_of_neg (by simpa using hc3), List.filter_nil, List.append_nil]; exact H4.sub (.cons .here .nil)), (show j + 1 ≤ s.loads.length by omega)⟩, (show s.loads.length - (j + 1) < s.loads.length - j by omega)⟩
    · dsimp only at hj hc2 H4
      have hjl : j = s.loads.length := by simp at hc2; omega
      rw [hjl, List.take_length] at H4
      have ht := htake s.bins.length
      rw [List.take_length] at ht
      have hf8 : (s.loads.filter fun b => b != 0).length ≤ 8 := Nat.le_trans (List.length_filter_le _ _) hl8
      have htot : (allM s).length ≤ 3000 := by rw [allM, List.length_append]; omega
      refine .exit (cj ?_)
      refine .seq ?_
      refine .plain rfl ?_
      refine .q rfl rfl rfl (val_move rfl) ?_
      refine .call1 rfl rfl rfl en87 (.cons rfl .nil) (sort_spec _ (allM s) (by omega)) H4 (.cons .here .nil) .nil (fun w7 H7 => ⟨fun _ => trivial, ?_⟩)
      refine .nil (cj ?_)
      refine .seq ?_
      refine .plain rfl ?_
      refine .q rfl rfl rfl (val_move rfl) ?_
      refine .q rfl rfl rfl (val_assign rfl) ?_
      refine .nil (cj ?_)
      refine .ret (fret (res1 rfl rfl) ?_)
      have hlen : (binsM s).length = (allM s).length := List.length_mergeSort ..
      refine hRR _ _ ⟨_, ⟨_, rfl, rfl, trivial⟩, ?_⟩
      rw [hlen]
      exact H7.sub (.cons .here .nil)
end Go.Proofs.YtmbibkifbehgnaaGreatDoor
namespace Go.Proofs.YtmbibkifbehgnaaGreatDoor
open Go Sk
set_option linter.unusedVariables false
set_option linter.unusedSimpArgs false
set_option linter.unusedSectionVars false
theorem en54 : Enters Tryz.prog 54 := fun args w => by kernel_rfl
theorem sameI_spec0 (A B : Option Addr) (cap cap' : Nat) (l : List Int) (hl : l.length ≤ 1000000) : Sk.Spec Tryz.prog 28 #[.slice A l.length cap, .slice B l.length cap'] [arr A (l.flatMap encI), arr B (l.flatMap encI)] [] fun e F' => e = .returned (.bool true) ∧ F' = [] := by
  refine Spec.of_code (vs := [_, _]) (k0 := [(0, _), (1, _)]) 26 Tryz.func28 rfl Tryz.ntmps28 rfl (.cons (.cons .nil)) fun w X RR hRR H => ?_
  refine .seq ?_
  refine .plain rfl ?_
  refine .q rfl rfl rfl (val_assign rfl) ?_
  refine .nil (cj ?_)
  refine .seq ?_
  refine .seq ?_
  refine .plain rfl ?_
  refine .q rfl rfl rfl (val_move rfl) ?_
  refine .q rfl rfl rfl (val_len Tryz.underlying27 rfl) ?_
  refine .q rfl rfl rfl (val_move rfl) ?_
  refine .q rfl rfl rfl (val_len Tryz.underlying27 rfl) ?_
  refine .q rfl rfl rfl (val_neq rfl rfl rfl) ?_
  refine .nil (cj ?_)
  refine .cond rfl (fun hc0 => ?_) (fun hc0 => ?_)
  · exfalso; simp at hc0
  · refine .skip (cj ?_)
    refine .seq ?_
    refine .seq ?_
    refine .plain rfl ?_
    refine .q rfl rfl rfl (val_assign rfl) ?_
    refine .nil (cj ?_)
    refine .block ?_
    refine .loop (ι := Nat) (fun i => [(0, .slice A l.length cap), (1, .slice B l.length cap'), (5, i64 (i : Int))]) (fun i w' => St w w' X [arr A (l.flatMap encI), arr B (l.flatMap encI)] [] ∧ i ≤ l.length) (fun i => l.length - i) 0 (by repeat (first | exact Pick.nil | refine Pick.cons rfl ?_)) ⟨H, Nat.zero_le _⟩ ?_
    rintro i w5 ⟨H1, hi⟩
    refine .seq ?_
    refine .seq ?_
    refine .plain rfl ?_
    refine .q rfl rfl rfl (val_move rfl) ?_
    refine .q rfl rfl rfl (val_move rfl) ?_
    refine .q rfl rfl rfl (val_len Tryz.underlying27 rfl) ?_
    refine .q rfl rfl rfl (val_lss rfl rfl rfl) ?_
    refine .nil (cj ?_)
    refine .cond rfl (fun hc1 => ?_) (fun hc1 => ?_)
    · have hil : i < l.length := by simpa using hc1
      obtain ⟨z, hx⟩ : ∃ z, l[i]? = some z := ⟨_, List.getElem?_eq_getElem hil⟩
      obtain ⟨b, o, hA⟩ := Has.base (.ro .here) H1 (nil_of_flat encI_len (by decide) hil)
      obtain ⟨b9, o9, hB⟩ := Has.base (.ro (.there .here)) H1 (nil_of_flat encI_len (by decide) hil)
      refine .skip (cj ?_)
      refine .seq ?_
      refine .block ?_
      refine .seq ?_
      refine .drawS 9 (.cons (0, true) (.cons (1, true) (.cons (2, true) (.cons (3, true) (.cons (4, true) (.cons (5, true) (.cons (6, true) (.cons (7, true) (.cons (8, true) .nil))))))))) mo (by kernel_rfl) H1 (fun _ _ _ _ _ h => h) (fun w2 H2 => ?_)
      refine .p rfl rfl rfl (val_move rfl) ?_
      refine .p rfl rfl rfl (val_move rfl) ?_
      refine .p rfl rfl rfl (val_ix el_27 hA rfl rfl rfl hil) ?_
      refine .ps rfl rfl rfl rfl (ld_el rfl ob_3 .base hA (.ro .here) encI_len (by first | assumption | rfl) rfl) ?_
      refine .p rfl rfl rfl (val_move rfl) ?_
      refine .p rfl rfl rfl (val_move rfl) ?_
      refine .p rfl rfl rfl (val_ix el_27 hB rfl rfl rfl hil) ?_
      refine .ps rfl rfl rfl rfl (ld_el rfl ob_3 .base hB (.ro (.there .here)) encI_len (by first | assumption | rfl) rfl) ?_
      refine .p rfl rfl rfl (val_neq rfl rfl rfl) ?_
      refine .nil (cj ?_)
      refine .cond rfl (fun hc2 => ?_) (fun hc2 => ?_)
      · exfalso; simp at hc2
      · refine .skip (cj ?_)
        refine .plain rfl ?_
        refine .q rfl rfl rfl (val_move rfl) ?_
        refine .q rfl rfl rfl (val_add rfl rfl (z := ((i + 1 : Nat) : Int)) (w64_of (by omega))) ?_
        refine .q rfl rfl rfl (val_assign rfl) ?_
        refine .nil ?_
        intro act0 hact0; change Exists _
        refine ⟨(i + 1), Pick.kn (by repeat (first | exact Pick.nil | refine Pick.cons rfl ?_)) hact0, ⟨H2, hil⟩, (by omega)⟩
    · refine .exit (cj ?_)
      refine .seq ?_
      refine .plain rfl ?_
      refine .q rfl rfl rfl (val_assign rfl) ?_
      refine .nil (cj ?_)
      refine .ret (fret (res1 rfl rfl) ?_)
      refine hRR _ _ ⟨_, ⟨?_, rfl⟩, H1.sub .nil⟩
      rfl
theorem sameI_spec (A B : Option Addr) (cap cap' : Nat) (l : List Int) (hl : l.length ≤ 1000000) : Sk.Spec Tryz.prog 28 #[.slice A l.length cap, .slice B l.length cap'] [row (.slice A l.length cap) 3 1 l.length (l.flatMap encI), row (.slice B l.length cap') 3 1 l.length (l.flatMap encI)] [] fun e F' => e = .returned (.bool true) ∧ F' = [] := by
  have h := sameI_spec0 A B cap cap' l hl
  have h2 := Spec.rowR (n := l.length) (cap := cap) (e := 3) (sz := 1) h
  have h3 : Sk.Spec Tryz.prog 28 #[.slice A l.length cap, .slice B l.length cap'] [arr B (l.flatMap encI), row (.slice A l.length cap) 3 1 l.length (l.flatMap encI)] [] fun e F' => e = .returned (.bool true) ∧ F' = [] := h2.ro (.ro (.there .here) (.ro .here .nil))
  have h4 := Spec.rowR (n := l.length) (cap := cap') (e := 3) (sz := 1) h3
  exact h4.ro (.ro (.there .here) (.ro .here .nil))
theorem wbins_spec (c : Cf) (hm : MayOk c) (b : Nat) (x : WX) (now : Int) (s : Stm) (hok : s.Ok c) : Sk.Spec Tryz.prog 24 #[ptr b] [wb b x now, stkA c x.bs s] [] fun e F' => ∃ v, e = .returned v ∧ F' = [row v 3 1 (binsM s).length ((binsM s).flatMap encI)] ∧ True := by
  have hb : Sk.Spec Tryz.prog 54 #[ptr x.bs] [stkA c x.bs s] [] fun e F' => ∃ v, e = .returned v ∧ F' = [row v 3 1 (binsM s).length ((binsM s).flatMap encI)] ∧ True := by
    refine Spec.openR fun ⟨y, hy⟩ => ?_
    rw [List.append_nil]
    exact bins_spec c hm x.bs y s hok hy
  refine Spec.of_code (vs := [_]) (k0 := [(0, _)]) 10 Tryz.func24 rfl Tryz.ntmps24 rfl (.cons .nil) fun w X RR hRR H => ?_
  refine .seq ?_
  refine .plain rfl ?_
  refine .q rfl rfl rfl (val_assign rfl) ?_
  refine .nil (cj ?_)
  refine .seq ?_
  refine .seq ?_
  refine .plain rfl ?_
  refine .q rfl rfl rfl (val_move rfl) ?_
  refine .q rfl rfl rfl (val_ptr_eq_nil Tryz.underlying53 rfl rfl rfl) ?_
  refine .nil (cj ?_)
  refine .cond_f rfl ?_
  refine .skip (cj ?_)
  refine .seq ?_
  refine .plain rfl ?_
  refine .q rfl rfl rfl (val_move rfl) ?_
  refine .q rfl rfl rfl (val_nilCheck rfl) ?_
  refine .q rfl rfl rfl (val_fieldAddr rfl fa_111_1) ?_
  refine .qs rfl rfl rfl H (ld_b rfl ob_108 (.ro .here) rfl) ?_
  refine .callx rfl rfl rfl en54 (.cons rfl .nil) hb H .nil (.ro (.there .here) .nil) (fun v9 w1 C1 H1 => ⟨fun _ => trivial, ?_⟩)
  refine .q rfl rfl rfl (val_assign rfl) ?_
  refine .nil (cj ?_)
  refine .ret (fret (res1 rfl rfl) ?_)
  refine hRR _ _ ⟨_, ⟨_, rfl, rfl, trivial⟩, H1.sub (.cons .here .nil)⟩
theorem binsA2_spec {c : Cf} (hm : MayOk c) {b : Nat} {W : Wm} (hok : W.Ok c) : Sk.Spec Tryz.prog 24 #[ptr b] [wldA c b W] [] fun e F' => ∃ v, e = .returned v ∧ F' = [row v 3 1 (binsM W.s).length ((binsM W.s).flatMap encI)] ∧ True := by
  refine Spec.openR fun ⟨x, hx⟩ => ?_
  exact (wbins_spec c hm b x W.now W.s hok.s).ro (.ro .here (.ro (.there (.there (.there (.there .here)))) .nil))
theorem wrobot_spec (c : Cf) (b : Nat) (x : WX) (now : Int) {i a : Nat} (hq : x.br[i]? = some a) {fs : List As} {r : Rb} {g : Option Gg} (hf : fs[i]? = some (robA c a r g)) : Sk.Spec Tryz.prog 27 #[ptr b, i64 (i : Int)] [wb b x now, raA x, sep fs] [] fun e F' => e = .returned (.tuple #[.agg (encP r.pose).toArray, i64 r.load, .bool true]) ∧ F' = [] := by
  refine Spec.of_code (vs := [_, _]) (k0 := [(0, _), (1, _)]) 18 Tryz.func27 rfl Tryz.ntmps27 rfl (.cons (.cons .nil)) fun w X RR hRR H => ?_
  refine .seq ?_
  refine .plain rfl ?_
  refine .alloc rfl rfl rfl ze_40 rfl H (fun w1 b1 H1 => ⟨fun _ => trivial, ?_⟩)
  refine .q rfl rfl rfl (val_assign rfl) ?_
  refine .q rfl rfl rfl (val_assign rfl) ?_
  refine .nil (cj ?_)
  refine .seq ?_
  refine .plain rfl ?_
  refine .q rfl rfl rfl (val_move rfl) ?_
  refine .q rfl rfl rfl (val_move rfl) ?_
  refine .call1 rfl rfl rfl en52 (.cons rfl (.cons rfl .nil)) (rob1_spec _ _ _ hq) H1 .nil (.ro .here (.ro (.there .here) .nil)) (fun w2 H2 => ⟨fun _ => trivial, ?_⟩)
  refine .q rfl rfl rfl (val_assign rfl) ?_
  refine .nil (cj ?_)
  refine .seq ?_
  refine .seq ?_
  refine .plain rfl ?_
  refine .q rfl rfl rfl (val_move rfl) ?_
  refine .q rfl rfl rfl (val_ptr_eq_nil Tryz.underlying30 rfl rfl rfl) ?_
  refine .nil (cj ?_)
  refine .cond_f rfl ?_
  refine .skip (cj ?_)
  refine .seq ?_
  refine .plain rfl ?_
  refine .q rfl rfl rfl (val_move rfl) ?_
  refine .call1 rfl rfl rfl en59 (.cons rfl .nil) (Spec.nthR hf poseA_spec) H2 .nil (.ro (.there (.there .here)) .nil) (fun w3 H3 => ⟨fun _ => trivial, ?_⟩)
  refine .q rfl rfl rfl (val_move rfl) ?_
  refine .call1 rfl rfl rfl en60 (.cons rfl .nil) (Spec.nthR hf loadA_spec) H3 .nil (.ro (.there (.there .here)) .nil) (fun w4 H4 => ⟨fun _ => trivial, ?_⟩)
  refine .store rfl rfl rfl rfl rfl sz_40 rfl H4 .here (by repeat constructor) (fun w5 H5 => ⟨fun _ => trivial, ?_⟩)
  refine .q rfl rfl rfl (val_assign rfl) ?_
  refine .q rfl rfl rfl (val_assign rfl) ?_
  refine .nil (cj ?_)
  refine .ret (fret (resctt rfl rfl (lds_w ag_40 (.own .here) rfl H5) rfl rfl) ?_)
  refine hRR _ _ ⟨_, ⟨?_, rfl⟩, H5.sub .nil⟩
  rfl
theorem robotA2_spec {c : Cf} {b : Nat} {W : Wm} {i : Nat} {q : Rg} (h : W.rs[i]? = some q) : Sk.Spec Tryz.prog 27 #[ptr b, i64 (i : Int)] [wldA c b W] [] fun e F' => e = .returned (.tuple #[.agg (encP q.r.pose).toArray, i64 q.r.load, .bool true]) ∧ F' = [] := by
  refine Spec.openR fun ⟨x, hx⟩ => ?_
  obtain ⟨a, ha⟩ := br_get hx h
  exact (wrobot_spec c b x W.now ha (rsE_get ha h)).ro (.ro .here (.ro (.there (.there (.there .here))) (.ro (.there (.there (.there (.there (.there .here))))) .nil)))
end Go.Proofs.YtmbibkifbehgnaaGreatDoor
