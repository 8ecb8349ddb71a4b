/-
  My walks and plain laws, part 6 of 6, joined by a program of my own: V6, V7, V8, V9.
-/
import Derived.Test.YtmbibkifbehgnaaGreatDoorRows
import Derived.ProofKit
import Derived.LaidMore
import Derived.OpenShut
import Derived.Carry
import Derived.Stop.Joined
import Derived.Test.YtmbibkifbehgnaaGreatDoorTie
import Derived.Test.YtmbibkifbehgnaaGreatDoorCards
import Derived.SevenTiedAt
import Derived.Test.YtmbibkifbehgnaaGreatDoorM5
/-! ## V6: Walk of RobotRuns. -/
namespace Go.Proofs.YtmbibkifbehgnaaGreatDoor
open Go Sk
set_option linter.unusedVariables false
set_option linter.unusedSimpArgs false
def te0 : Te := ⟨0, 0, 0, 0, mv0, ps0, 0⟩
structure LQ where
  i : Nat
  y : DX
theorem en9 : Enters Tryz.prog 9 := fun args w => by kernel_rfl
theorem en10 : Enters Tryz.prog 10 := fun args w => by kernel_rfl
theorem en12 : Enters Tryz.prog 12 := fun args w => by kernel_rfl
theorem en13 : Enters Tryz.prog 13 := fun args w => by kernel_rfl
theorem en14 : Enters Tryz.prog 14 := fun args w => by kernel_rfl
theorem en15 : Enters Tryz.prog 15 := fun args w => by kernel_rfl
theorem mk_48_0 (x0_ : Int) : Tryz.prog.built 48 [(0, .int .i64 x0_)] = some (List.toArray [.int .i64 x0_, .int .i64 0, .int .i64 0, .int .i64 0, .int .i64 0, .int .i64 0, .int .i64 0, .int .i64 0, .int .i64 0, .int .i64 0, .int .i64 0, .bool false, .int .i64 0, .int .i64 0, .bool false, .int .i64 0, .int .i64 0, .int .i64 0, .int .i64 0, .bool false, .int .i64 0]) := by kernel_rfl
theorem mk_48_0_1 (x0_ : Int) (x1_ : Int) : Tryz.prog.built 48 [(0, .int .i64 x0_), (1, .int .i64 x1_)] = some (List.toArray [.int .i64 x0_, .int .i64 x1_, .int .i64 0, .int .i64 0, .int .i64 0, .int .i64 0, .int .i64 0, .int .i64 0, .int .i64 0, .int .i64 0, .int .i64 0, .bool false, .int .i64 0, .int .i64 0, .bool false, .int .i64 0, .int .i64 0, .int .i64 0, .int .i64 0, .bool false, .int .i64 0]) := by kernel_rfl
theorem mk_48_2 (x2_0_ : Int) (x2_1_ : Int) (x2_2_ : Int) (x2_3_ : Int) (x2_4_0_ : Int) (x2_4_1_ : Int) (x2_4_2_ : Int) (x2_4_3_0_0_ : Int) (x2_4_3_0_1_ : Int) (x2_4_3_1_ : Bool) (x2_4_4_0_0_ : Int) (x2_4_4_0_1_ : Int) (x2_4_4_1_ : Bool) (x2_4_5_ : Int) (x2_4_6_ : Int) (x2_5_0_0_ : Int) (x2_5_0_1_ : Int) (x2_5_1_ : Bool) (x2_6_ : Int) : Tryz.prog.built 48 [(2, .agg (List.toArray [.int .i64 x2_0_, .int .i64 x2_1_, .int .i64 x2_2_, .int .i64 x2_3_, .int .i64 x2_4_0_, .int .i64 x2_4_1_, .int .i64 x2_4_2_, .int .i64 x2_4_3_0_0_, .int .i64 x2_4_3_0_1_, .bool x2_4_3_1_, .int .i64 x2_4_4_0_0_, .int .i64 x2_4_4_0_1_, .bool x2_4_4_1_, .int .i64 x2_4_5_, .int .i64 x2_4_6_, .int .i64 x2_5_0_0_, .int .i64 x2_5_0_1_, .bool x2_5_1_, .int .i64 x2_6_]))] = some (List.toArray [.int .i64 0, .int .i64 0, .int .i64 x2_0_, .int .i64 x2_1_, .int .i64 x2_2_, .int .i64 x2_3_, .int .i64 x2_4_0_, .int .i64 x2_4_1_, .int .i64 x2_4_2_, .int .i64 x2_4_3_0_0_, .int .i64 x2_4_3_0_1_, .bool x2_4_3_1_, .int .i64 x2_4_4_0_0_, .int .i64 x2_4_4_0_1_, .bool x2_4_4_1_, .int .i64 x2_4_5_, .int .i64 x2_4_6_, .int .i64 x2_5_0_0_, .int .i64 x2_5_0_1_, .bool x2_5_1_, .int .i64 x2_6_]) := by kernel_rfl
theorem robotRuns_spec (c : Cf) (hc : c.Fit) (pA sA : Option Addr) (pc sc : Nat) (picks stops : List Int) (hpl : picks.length ≤ maxLen) (hsl : stops.length ≤ maxLen) :
    Sk.Spec Tryz.prog 3 #[.agg (encCf c).toArray, .slice pA picks.length pc, .slice sA stops.length sc] [cb c, cp c, cr c, cs c, binsA c, arr pA (picks.flatMap encI), arr sA (stops.flatMap encI), stepsA] [] fun e F' => e = .returned (.bool true) ∧ F' = [] := by
  refine Spec.of_code (vs := [_, _, _]) (k0 := [(0, _), (1, _), (2, _)]) 143 Tryz.func3 rfl Tryz.ntmps3 rfl (.cons (.cons (.cons .nil))) fun w X RR hRR H => ?_
  refine .seq ?_
  refine .plain rfl ?_
  refine .box rfl rfl rfl rfl rfl H (fun w1 b1 H1 => ⟨fun _ => trivial, ?_⟩)
  refine .q rfl rfl rfl (val_assign rfl) ?_
  refine .nil (cj ?_)
  refine .seq ?_
  refine .seq ?_
  refine .plain rfl ?_
  refine .qs rfl rfl rfl H1 (ld_w rfl ag_26 (.own .here) rfl) ?_
  refine .callx rfl rfl rfl en9 (.cons rfl .nil) (small_spec _ (by assumption)) H1 .nil (.ro .here (.ro (.there .here) (.ro (.there (.there .here)) (.ro (.there (.there (.there .here))) (.ro (.there (.there (.there (.there .here)))) .nil))))) (fun v14 w2 hv14 H2 => ⟨fun _ => trivial, ?_⟩)
  refine .q rfl rfl rfl (val_not rfl rfl) ?_
  refine .q rfl rfl rfl (val_move rfl) ?_
  refine .case (t := 16) rfl (fun hs16 => ?_) (fun hs16 => ?_)
  · refine .no rfl rfl rfl ?_
    refine .no rfl rfl rfl ?_
    refine .no rfl rfl rfl ?_
    refine .no rfl rfl rfl ?_
    refine .q rfl rfl rfl (val_pick_t rfl rfl) ?_
    refine .nil (cj ?_)
    refine .cond_t rfl ?_
    refine .seq ?_
    refine .plain rfl ?_
    refine .call1 rfl rfl rfl en10 .nil awake18_spec H2 .nil (.ro (.there (.there (.there (.there (.there (.there (.there .here))))))) .nil) (fun w3 H3 => ⟨fun _ => trivial, ?_⟩)
    refine .q rfl rfl rfl (val_assign rfl) ?_
    refine .nil (cj ?_)
    refine .ret (fret (res1 rfl rfl) ?_)
    refine hRR _ _ ⟨_, ⟨?_, rfl⟩, H3.sub .nil⟩
    rfl
  · refine .q rfl rfl rfl (val_fieldAddr rfl fa_26_5) ?_
    refine .qs rfl rfl rfl H2 (ld_b rfl ob_23 (.own .here) rfl) ?_
    refine .q rfl rfl rfl (val_len Tryz.underlying23 rfl) ?_
    refine .q rfl rfl rfl (val_eql rfl rfl rfl) ?_
    refine .q rfl rfl rfl (val_pick_f rfl rfl) ?_
    refine .nil (cj ?_)
    refine .cond rfl (fun hc0 => ?_) (fun hc0 => ?_)
    · refine .seq ?_
      refine .plain rfl ?_
      refine .call1 rfl rfl rfl en10 .nil awake18_spec H2 .nil (.ro (.there (.there (.there (.there (.there (.there (.there .here))))))) .nil) (fun w4 H4 => ⟨fun _ => trivial, ?_⟩)
      refine .q rfl rfl rfl (val_assign rfl) ?_
      refine .nil (cj ?_)
      refine .ret (fret (res1 rfl rfl) ?_)
      refine hRR _ _ ⟨_, ⟨?_, rfl⟩, H4.sub .nil⟩
      rfl
    · have hsm : SmallOk c := hv14 (by simpa using hs16)
      obtain ⟨p0, hp0⟩ : ∃ p, c.robots[0]? = some p := ⟨_, List.getElem?_eq_getElem (by simp at hc0; exact List.length_pos_iff.2 hc0)⟩
      refine .skip (cj ?_)
      refine .seq ?_
      refine .plain rfl ?_
      refine .qs rfl rfl rfl H2 (ld_w rfl ag_26 (.own .here) rfl) ?_
      refine .callx rfl rfl rfl en12 (.cons rfl .nil) (copyConf_spec c hc hsm.may) H2 .nil (.ro .here (.ro (.there .here) (.ro (.there (.there .here)) (.ro (.there (.there (.there .here))) (.ro (.there (.there (.there (.there .here)))) .nil))))) (fun cf w5 hsim H5 => ⟨fun _ => trivial, ?_⟩)
      refine .callx rfl rfl rfl en11 (.cons rfl (.cons rfl .nil)) (robotNewA_spec cf hsim.fit (hsm.may.sim hsim) 0 p0 (by rw [hsim.eq]; exact hp0)) H5 .nil (.own .here (.own (.there .here) (.own (.there (.there .here)) (.own (.there (.there (.there .here))) (.own (.there (.there (.there (.there .here)))) (.ro (.there (.there (.there (.there (.there (.there (.there .here))))))) .nil)))))) (fun br w6 _h11 H6 => ⟨fun _ => trivial, ?_⟩)
      refine .q rfl rfl rfl (val_move rfl) ?_
      refine .q rfl rfl rfl (val_extract rfl rfl) ?_
      refine .q rfl rfl rfl (val_extract rfl rfl) ?_
      refine .q rfl rfl rfl (val_assign rfl) ?_
      refine .q rfl rfl rfl (val_assign rfl) ?_
      refine .nil (cj ?_)
      refine .seq ?_
      refine .plain rfl ?_
      refine .qs rfl rfl rfl H6 (ld_w rfl ag_26 (.own (.there (.there (.there (.there (.there (.there .here))))))) rfl) ?_
      refine .callx rfl rfl rfl en13 (.cons rfl (.cons rfl .nil)) (newW_spec c hc 0 p0 hp0) H6 .nil (.ro (.there (.there .here)) .nil) (fun bw w7 _h13 H7 => ⟨fun _ => trivial, ?_⟩)
      refine .q rfl rfl rfl (val_assign rfl) ?_
      refine .nil (cj ?_)
      refine .seq ?_
      refine .seq ?_
      refine .plain rfl ?_
      refine .q rfl rfl rfl (val_move rfl) ?_
      refine .q rfl rfl rfl (val_neq rfl rfl rfl) ?_
      refine .q rfl rfl rfl (val_move rfl) ?_
      refine .case (t := 33) rfl (fun hs33 => ?_) (fun hs33 => ?_)
      · exfalso; cases hs33
      · refine .q rfl rfl rfl (val_move rfl) ?_
        refine .q rfl rfl rfl (val_ptr_eq_nil Tryz.underlying30 rfl rfl rfl) ?_
        refine .q rfl rfl rfl (val_pick_f rfl rfl) ?_
        refine .nil (cj ?_)
        refine .cond_f rfl ?_
        refine .skip (cj ?_)
        refine .seq ?_
        refine .seq ?_
        refine .plain rfl ?_
        refine .q rfl rfl rfl (val_assign rfl) ?_
        refine .nil (cj ?_)
        refine .block ?_
        have hr0 : Rel c (⟨((0 : Nat) : Int), p0, 0, 0, 0, false, 0⟩ : Rb) none (rw0 ((0 : Nat) : Int) p0) := Rel.new
        refine .loop (ι := LQ) (fun q => [(1, .slice pA picks.length pc), (2, .slice sA stops.length sc), (3, ptr b1), (7, ptr br), (9, ptr bw), (10, i64 (q.i : Int))]) (fun q w' => St w w' X [cb c, cp c, cr c, cs c, binsA c, arr pA (picks.flatMap encI), arr sA (stops.flatMap encI), stepsA] [robA cf br q.y.r q.y.g, wblk bw c q.y.q, blk b1 (encCf c) 26] ∧ Rel c q.y.r q.y.g q.y.q ∧ q.i ≤ 12) (fun q => 12 - q.i) ⟨0, ⟨_, none, _⟩⟩ (by repeat (first | exact Pick.nil | refine Pick.cons rfl ?_)) ⟨H7.sub (.cons (.there .here) (.cons .here (.cons (.there (.there (.there (.there (.there .here))))) .nil))), hr0, Nat.zero_le _⟩ ?_
        rintro q w5 ⟨H8, hrel, hi⟩
        refine .seq ?_
        refine .seq ?_
        refine .plain rfl ?_
        refine .q rfl rfl rfl (val_move rfl) ?_
        refine .q rfl rfl rfl (val_move rfl) ?_
        refine .q rfl rfl rfl (val_len Tryz.underlying27 rfl) ?_
        refine .q rfl rfl rfl (val_lss rfl rfl rfl) ?_
        refine .q rfl rfl rfl (val_move rfl) ?_
        refine .case (t := 41) rfl (fun hs41 => ?_) (fun hs41 => ?_)
        · refine .q rfl rfl rfl (val_move rfl) ?_
          refine .q rfl rfl rfl (val_lss rfl rfl rfl) ?_
          refine .q rfl rfl rfl (val_pick_t rfl rfl) ?_
          refine .nil (cj ?_)
          refine .cond rfl (fun hc2 => ?_) (fun hc2 => ?_)
          · have hil : q.i < picks.length := by have h9 := of_decide_eq_true hs41; omega
            have hi12 := of_decide_eq_true hc2
            obtain ⟨z9, hz9⟩ : ∃ z, picks[q.i]? = some z := ⟨_, List.getElem?_eq_getElem hil⟩
            obtain ⟨b9, o9, hPA⟩ := Has.base (.ro (.there (.there (.there (.there (.there .here)))))) H8 (nil_of_flat encI_len (by decide) hil)
            refine .skip (cj ?_)
            refine .seq ?_
            refine .block ?_
            refine .seq ?_
            refine .drawS 9 (.cons (0, true) (.cons (1, true) (.cons (2, true) (.cons (3, true) (.cons (4, true) (.cons (5, true) (.cons (6, true) (.fork 7 (.cons (8, false) (.cons (9, false) .nil)) 8 (.cons (7, false) (.cons (9, false) .nil)))))))))) mo (by kernel_rfl) H8 (fun _ _ _ _ _ h => h) (fun w9 H9 => ?_)
            refine .ps rfl rfl rfl rfl (ld_w rfl ag_26 (.own (.there (.there .here))) rfl) ?_
            refine .p rfl rfl rfl (val_move rfl) ?_
            refine .p rfl rfl rfl (val_move rfl) ?_
            refine .p rfl rfl rfl (val_move rfl) ?_
            refine .p rfl rfl rfl (val_ix el_27 hPA rfl rfl rfl hil) ?_
            refine .ps rfl rfl rfl rfl (ld_el rfl ob_3 .base hPA (.ro (.there (.there (.there (.there (.there .here)))))) encI_len (by first | assumption | rfl) rfl) ?_
            refine .p rfl rfl rfl (val_move rfl) ?_
            refine .fork ?_ ?_
            · refine .callx rfl rfl rfl en14 (.cons rfl (.cons rfl (.cons rfl (.cons rfl .nil)))) (gos_spec c hc hsm.may.num bw _ _ _) H9 .nil (.ro .here (.own (.there .here) .nil)) (fun t9 w10 ht9 H10 => ⟨fun _ => H10, ?_⟩)
              refine .alloc rfl rfl rfl ze_44 rfl H10 (fun w11 b11 H11 => ⟨fun _ => (H11.sub (.cons (.there .here) (.cons (.there .here) (.cons (.there .here) .nil)))), ?_⟩)
              refine .store rfl rfl rfl rfl rfl sz_44 rfl H11 .here (.here (.cons (.cons (.cons (.cons (.cons (.cons (.cons (.cons (.cons (.cons (.cons (.cons (.cons (.cons (.cons (.cons (.cons (.cons (.cons .nil)))))))))))))))))))) (fun w12 H12 => ⟨fun h => absurd h (by decide), ?_⟩)
              refine .nil (cj ?_)
              refine .seq ?_
              refine .seq ?_
              refine .plain rfl ?_
              refine .q rfl rfl rfl (val_move rfl) ?_
              refine .q rfl rfl rfl (val_move rfl) ?_
              refine .qs rfl rfl rfl H12 (ld_w rfl ag_44 (.own .here) rfl) ?_
              refine .q rfl rfl rfl (val_mk (.cons rfl .nil) (mk_48_2 _ _ _ _ _ _ _ _ _ _ _ _ _ _ _ _ _ _ _)) ?_
              refine .callx rfl rfl rfl en15 (.cons rfl (.cons rfl (.cons rfl .nil))) (do_spec c cf hsim hc hsm.may (hsm.may.sim hsim) br bw _ _ _ (by assumption) ⟨0, 0, t9⟩ (fun _ => ht9)) H12 (.cons (.there .here) (.cons (.there .here) .nil)) (.ro .here (.ro (.there (.there (.there (.there (.there (.there (.there .here))))))) .nil)) (fun y13 w13 hr13 H13 => ⟨fun _ => trivial, ?_⟩)
              refine .q rfl rfl rfl (val_not rfl rfl) ?_
              refine .q rfl rfl rfl (val_move rfl) ?_
              refine .q rfl rfl rfl (val_move rfl) ?_
              refine .q rfl rfl rfl (val_move rfl) ?_
              refine .qs rfl rfl rfl H13 (ld_w rfl ag_44 (.own (.there (.there .here))) rfl) ?_
              refine .q rfl rfl rfl (val_mk (.cons rfl .nil) (mk_48_2 _ _ _ _ _ _ _ _ _ _ _ _ _ _ _ _ _ _ _)) ?_
              refine .callx rfl rfl rfl en15 (.cons rfl (.cons rfl (.cons rfl .nil))) (do_spec c cf hsim hc hsm.may (hsm.may.sim hsim) br bw _ _ _ (by assumption) ⟨0, 0, t9⟩ (fun _ => ht9)) H13 (.cons .here (.cons .here .nil)) (.ro .here (.ro (.there (.there (.there (.there (.there (.there (.there .here))))))) .nil)) (fun y14 w14 hr14 H14 => ⟨fun _ => trivial, ?_⟩)
              refine .q rfl rfl rfl (val_not rfl rfl) ?_
              refine .q rfl rfl rfl (val_pick_f rfl rfl) ?_
              refine .nil (cj ?_)
              refine .cond_f rfl ?_
              refine .skip (cj ?_)
              refine .seq ?_
              refine .seq ?_
              refine .plain rfl ?_
              refine .q rfl rfl rfl (val_move rfl) ?_
              refine .q rfl rfl rfl (val_move rfl) ?_
              refine .q rfl rfl rfl (val_len Tryz.underlying27 rfl) ?_
              refine .q rfl rfl rfl (val_lss rfl rfl rfl) ?_
              refine .q rfl rfl rfl (val_move rfl) ?_
              refine .case (t := 73) rfl (fun hs73 => ?_) (fun hs73 => ?_)
              · refine .q rfl rfl rfl (val_move rfl) ?_
                refine .q rfl rfl rfl (val_move rfl) ?_
                have hjl : q.i < stops.length := by have h9 := of_decide_eq_true hs73; omega
                obtain ⟨z8, hz8⟩ : ∃ z, stops[q.i]? = some z := ⟨_, List.getElem?_eq_getElem hjl⟩
                obtain ⟨b8, o8, hSA⟩ := Has.base (.ro (.there (.there (.there (.there (.there (.there .here))))))) H14 (nil_of_flat encI_len (by decide) hjl)
                refine .q rfl rfl rfl (val_ix el_27 hSA rfl rfl rfl hjl) ?_
                refine .qs rfl rfl rfl H14 (ld_el rfl ob_3 .base hSA (.ro (.there (.there (.there (.there (.there (.there .here))))))) encI_len (by first | assumption | rfl) rfl) ?_
                refine .q rfl rfl rfl (val_rem rfl rfl (by decide) rfl) ?_
                refine .q rfl rfl rfl (val_eql rfl rfl rfl) ?_
                refine .q rfl rfl rfl (val_pick_t rfl rfl) ?_
                refine .nil (cj ?_)
                refine .cond rfl (fun hc4 => ?_) (fun hc4 => ?_)
                · refine .seq ?_
                  refine .plain rfl ?_
                  refine .q rfl rfl rfl (val_move rfl) ?_
                  refine .q rfl rfl rfl (val_move rfl) ?_
                  refine .q rfl rfl rfl (val_move rfl) ?_
                  refine .q rfl rfl rfl (val_move rfl) ?_
                  refine .q rfl rfl rfl (val_ix el_27 hSA rfl rfl rfl hjl) ?_
                  refine .qs rfl rfl rfl H14 (ld_el rfl ob_3 .base hSA (.ro (.there (.there (.there (.there (.there (.there .here))))))) encI_len (by first | assumption | rfl) rfl) ?_
                  obtain ⟨d9, hd9⟩ : ∃ d, w64 (z8.tdiv 3) = d := ⟨_, rfl⟩
                  refine .q rfl rfl rfl (val_quo rfl rfl (by decide) hd9) ?_
                  refine .q rfl rfl rfl (val_mk (.cons rfl (.cons rfl .nil)) (mk_48_0_1 _ _)) ?_
                  refine .callx rfl rfl rfl en15 (.cons rfl (.cons rfl (.cons rfl .nil))) (do_spec c cf hsim hc hsm.may (hsm.may.sim hsim) br bw _ _ _ (by assumption) ⟨3, d9, te0⟩ (fun h => absurd h (show ¬ placeN 3 8 < 3 by decide))) H14 (.cons .here (.cons .here .nil)) (.ro .here (.ro (.there (.there (.there (.there (.there (.there (.there .here))))))) .nil)) (fun y8 w15 hr8 H15 => ⟨fun _ => trivial, ?_⟩)
                  refine .q rfl rfl rfl (val_not rfl rfl) ?_
                  refine .q rfl rfl rfl (val_move rfl) ?_
                  refine .q rfl rfl rfl (val_move rfl) ?_
                  refine .q rfl rfl rfl (val_move rfl) ?_
                  refine .q rfl rfl rfl (val_move rfl) ?_
                  refine .q rfl rfl rfl (val_nilCheck rfl) ?_
                  refine .q rfl rfl rfl (val_fieldAddr rfl fa_50_4) ?_
                  refine .qs rfl rfl rfl H15 (ld_b rfl ob_3 (.own (.there .here)) rfl) ?_
                  obtain ⟨e9, he9⟩ : ∃ e, w64 (y8.q.epoch + 1) = e := ⟨_, rfl⟩
                  refine .q rfl rfl rfl (val_add rfl rfl he9) ?_
                  refine .q rfl rfl rfl (val_mk (.cons rfl (.cons rfl .nil)) (mk_44_0_2 _ _)) ?_
                  refine .q rfl rfl rfl (val_mk (.cons rfl .nil) (mk_48_2 _ _ _ _ _ _ _ _ _ _ _ _ _ _ _ _ _ _ _)) ?_
                  refine .callx rfl rfl rfl en15 (.cons rfl (.cons rfl (.cons rfl .nil))) (do_spec c cf hsim hc hsm.may (hsm.may.sim hsim) br bw _ _ _ (by assumption) ⟨0, 0, ⟨2, 0, e9, 0, mv0, ps0, 0⟩⟩ (fun _ h => absurd h (show ¬ (2 : Int) = 1 by decide))) H15 (.cons .here (.cons .here .nil)) (.ro .here (.ro (.there (.there (.there (.there (.there (.there (.there .here))))))) .nil)) (fun y16 w16 hr16 H16 => ⟨fun _ => trivial, ?_⟩)
                  refine .q rfl rfl rfl (val_not rfl rfl) ?_
                  refine .q rfl rfl rfl (val_pick_f rfl rfl) ?_
                  refine .nil (cj ?_)
                  refine .cond_f rfl ?_
                  refine .skip (cj ?_)
                  refine .seq ?_
                  refine .seq ?_
                  refine .plain rfl ?_
                  refine .q rfl rfl rfl (val_move rfl) ?_
                  refine .q rfl rfl rfl (val_move rfl) ?_
                  refine .q rfl rfl rfl (val_len Tryz.underlying27 rfl) ?_
                  refine .q rfl rfl rfl (val_lss rfl rfl rfl) ?_
                  refine .q rfl rfl rfl (val_move rfl) ?_
                  refine .case (t := 108) rfl (fun hs108 => ?_) (fun hs108 => ?_)
                  · refine .q rfl rfl rfl (val_move rfl) ?_
                    refine .q rfl rfl rfl (val_move rfl) ?_
                    have hjl : q.i < stops.length := by have h9 := of_decide_eq_true hs108; omega
                    obtain ⟨z8, hz8⟩ : ∃ z, stops[q.i]? = some z := ⟨_, List.getElem?_eq_getElem hjl⟩
                    obtain ⟨b8, o8, hSA⟩ := Has.base (.ro (.there (.there (.there (.there (.there (.there .here))))))) H16 (nil_of_flat encI_len (by decide) hjl)
                    refine .q rfl rfl rfl (val_ix el_27 hSA rfl rfl rfl hjl) ?_
                    refine .qs rfl rfl rfl H16 (ld_el rfl ob_3 .base hSA (.ro (.there (.there (.there (.there (.there (.there .here))))))) encI_len (by first | assumption | rfl) rfl) ?_
                    refine .q rfl rfl rfl (val_rem rfl rfl (by decide) rfl) ?_
                    refine .q rfl rfl rfl (val_eql rfl rfl rfl) ?_
                    refine .q rfl rfl rfl (val_pick_t rfl rfl) ?_
                    refine .q rfl rfl rfl (val_move rfl) ?_
                    refine .case (t := 116) rfl (fun hs116 => ?_) (fun hs116 => ?_)
                    · refine .q rfl rfl rfl (val_move rfl) ?_
                      refine .q rfl rfl rfl (val_move rfl) ?_
                      refine .q rfl rfl rfl (val_move rfl) ?_
                      refine .q rfl rfl rfl (val_move rfl) ?_
                      refine .q rfl rfl rfl (val_ix el_27 hSA rfl rfl rfl hjl) ?_
                      refine .qs rfl rfl rfl H16 (ld_el rfl ob_3 .base hSA (.ro (.there (.there (.there (.there (.there (.there .here))))))) encI_len (by first | assumption | rfl) rfl) ?_
                      refine .q rfl rfl rfl (val_mk (.cons rfl (.cons rfl .nil)) (mk_48_0_1 _ _)) ?_
                      refine .callx rfl rfl rfl en15 (.cons rfl (.cons rfl (.cons rfl .nil))) (do_spec c cf hsim hc hsm.may (hsm.may.sim hsim) br bw _ _ _ (by assumption) ⟨6, z8, te0⟩ (fun h => absurd h (show ¬ placeN 6 8 < 3 by decide))) H16 (.cons .here (.cons .here .nil)) (.ro .here (.ro (.there (.there (.there (.there (.there (.there (.there .here))))))) .nil)) (fun y17 w17 hr17 H17 => ⟨fun _ => trivial, ?_⟩)
                      refine .q rfl rfl rfl (val_not rfl rfl) ?_
                      refine .q rfl rfl rfl (val_pick_t rfl rfl) ?_
                      refine .nil (cj ?_)
                      refine .cond_f rfl ?_
                      refine .skip (cj ?_)
                      refine .seq ?_
                      refine .plain rfl ?_
                      refine .q rfl rfl rfl (val_assign rfl) ?_
                      refine .nil (cj ?_)
                      refine .block ?_
                      refine .loop (ι := LQ) (fun x => [(1, .slice pA picks.length pc), (2, .slice sA stops.length sc), (3, ptr b1), (7, ptr br), (9, ptr bw), (10, i64 (q.i : Int)), (12, i64 (x.i : Int))]) (fun x w' => St w w' X [cb c, cp c, cr c, cs c, binsA c, arr pA (picks.flatMap encI), arr sA (stops.flatMap encI), stepsA] [robA cf br x.y.r x.y.g, wblk bw c x.y.q, blk b1 (encCf c) 26] ∧ Rel c x.y.r x.y.g x.y.q ∧ x.i ≤ 400) (fun x => 400 - x.i) ⟨0, _⟩ (by repeat (first | exact Pick.nil | refine Pick.cons rfl ?_)) ⟨H17.sub (.cons .here (.cons .here (.cons (.there .here) .nil))), (by assumption), Nat.zero_le _⟩ ?_
                      rintro x w6 ⟨H18, hr2, hx⟩
                      refine .seq ?_
                      refine .seq ?_
                      refine .plain rfl ?_
                      refine .q rfl rfl rfl (val_move rfl) ?_
                      refine .q rfl rfl rfl (val_lss rfl rfl rfl) ?_
                      refine .q rfl rfl rfl (val_move rfl) ?_
                      refine .case (t := 129) rfl (fun hs129 => ?_) (fun hs129 => ?_)
                      · refine .q rfl rfl rfl (val_move rfl) ?_
                        refine .q rfl rfl rfl (val_nilCheck rfl) ?_
                        refine .q rfl rfl rfl (val_fieldAddr rfl fa_50_6) ?_
                        refine .qs rfl rfl rfl H18 (ld_b rfl ob_4 (.own (.there .here)) rfl) ?_
                        refine .q rfl rfl rfl (val_pick_t rfl rfl) ?_
                        refine .nil (cj ?_)
                        refine .cond rfl (fun hc7 => ?_) (fun hc7 => ?_)
                        · have hk4 := of_decide_eq_true hs129
                          refine .skip (cj ?_)
                          refine .seq ?_
                          refine .block ?_
                          refine .seq ?_
                          refine .plain rfl ?_
                          refine .q rfl rfl rfl (val_move rfl) ?_
                          refine .q rfl rfl rfl (val_move rfl) ?_
                          refine .q rfl rfl rfl (val_mk (.cons rfl .nil) (mk_48_0 _)) ?_
                          refine .callx rfl rfl rfl en15 (.cons rfl (.cons rfl (.cons rfl .nil))) (do_spec c cf hsim hc hsm.may (hsm.may.sim hsim) br bw _ _ _ (by assumption) ⟨3, 0, te0⟩ (fun h => absurd h (show ¬ placeN 3 8 < 3 by decide))) H18 (.cons .here (.cons .here .nil)) (.ro .here (.ro (.there (.there (.there (.there (.there (.there (.there .here))))))) .nil)) (fun y19 w19 hr19 H19 => ⟨fun _ => trivial, ?_⟩)
                          refine .q rfl rfl rfl (val_not rfl rfl) ?_
                          refine .nil (cj ?_)
                          refine .cond_f rfl ?_
                          refine .skip (cj ?_)
                          refine .plain rfl ?_
                          refine .q rfl rfl rfl (val_move rfl) ?_
                          refine .q rfl rfl rfl (val_add rfl rfl (z := ((x.i + 1 : Nat) : Int)) (w64_of (by omega))) ?_
                          refine .q rfl rfl rfl (val_assign rfl) ?_
                          refine .nil ?_
                          intro act0 hact0; change Exists _
                          refine ⟨⟨x.i + 1, _⟩, Pick.kn (by repeat (first | exact Pick.nil | refine Pick.cons rfl ?_)) hact0, ⟨H19.sub (.cons .here (.cons .here (.cons .here .nil))), (by assumption), (by dsimp only; omega)⟩, (by dsimp only; omega)⟩
                        · refine .exit (cj ?_)
                          refine .plain rfl ?_
                          refine .q rfl rfl rfl (val_move rfl) ?_
                          refine .q rfl rfl rfl (val_add rfl rfl (z := ((q.i + 1 : Nat) : Int)) (w64_of (by omega))) ?_
                          refine .q rfl rfl rfl (val_assign rfl) ?_
                          refine .nil ?_
                          intro act0 hact0; change Exists _
                          refine ⟨⟨q.i + 1, _⟩, Pick.kn (by repeat (first | exact Pick.nil | refine Pick.cons rfl ?_)) hact0, ⟨H18.sub (.cons .here (.cons .here (.cons .here .nil))), hr2, (by dsimp only; omega)⟩, (by dsimp only; omega)⟩
                      · refine .no rfl rfl rfl ?_
                        refine .no rfl rfl rfl ?_
                        refine .no rfl rfl rfl ?_
                        refine .no rfl rfl rfl ?_
                        refine .q rfl rfl rfl (val_pick_f rfl rfl) ?_
                        refine .nil (cj ?_)
                        refine .cond_f rfl ?_
                        refine .exit (cj ?_)
                        refine .plain rfl ?_
                        refine .q rfl rfl rfl (val_move rfl) ?_
                        refine .q rfl rfl rfl (val_add rfl rfl (z := ((q.i + 1 : Nat) : Int)) (w64_of (by omega))) ?_
                        refine .q rfl rfl rfl (val_assign rfl) ?_
                        refine .nil ?_
                        intro act0 hact0; change Exists _
                        refine ⟨⟨q.i + 1, _⟩, Pick.kn (by repeat (first | exact Pick.nil | refine Pick.cons rfl ?_)) hact0, ⟨H18.sub (.cons .here (.cons .here (.cons .here .nil))), hr2, (by dsimp only; omega)⟩, (by dsimp only; omega)⟩
                    · refine .no rfl rfl rfl ?_
                      refine .no rfl rfl rfl ?_
                      refine .no rfl rfl rfl ?_
                      refine .no rfl rfl rfl ?_
                      refine .no rfl rfl rfl ?_
                      refine .no rfl rfl rfl ?_
                      refine .no rfl rfl rfl ?_
                      refine .no rfl rfl rfl ?_
                      refine .no rfl rfl rfl ?_
                      refine .q rfl rfl rfl (val_pick_f rfl rfl) ?_
                      refine .nil (cj ?_)
                      refine .cond_f rfl ?_
                      refine .skip (cj ?_)
                      refine .seq ?_
                      refine .plain rfl ?_
                      refine .q rfl rfl rfl (val_assign rfl) ?_
                      refine .nil (cj ?_)
                      refine .block ?_
                      refine .loop (ι := LQ) (fun x => [(1, .slice pA picks.length pc), (2, .slice sA stops.length sc), (3, ptr b1), (7, ptr br), (9, ptr bw), (10, i64 (q.i : Int)), (12, i64 (x.i : Int))]) (fun x w' => St w w' X [cb c, cp c, cr c, cs c, binsA c, arr pA (picks.flatMap encI), arr sA (stops.flatMap encI), stepsA] [robA cf br x.y.r x.y.g, wblk bw c x.y.q, blk b1 (encCf c) 26] ∧ Rel c x.y.r x.y.g x.y.q ∧ x.i ≤ 400) (fun x => 400 - x.i) ⟨0, _⟩ (by repeat (first | exact Pick.nil | refine Pick.cons rfl ?_)) ⟨H16.sub (.cons .here (.cons .here (.cons (.there .here) .nil))), (by assumption), Nat.zero_le _⟩ ?_
                      rintro x w6 ⟨H20, hr2, hx⟩
                      refine .seq ?_
                      refine .seq ?_
                      refine .plain rfl ?_
                      refine .q rfl rfl rfl (val_move rfl) ?_
                      refine .q rfl rfl rfl (val_lss rfl rfl rfl) ?_
                      refine .q rfl rfl rfl (val_move rfl) ?_
                      refine .case (t := 129) rfl (fun hs129 => ?_) (fun hs129 => ?_)
                      · refine .q rfl rfl rfl (val_move rfl) ?_
                        refine .q rfl rfl rfl (val_nilCheck rfl) ?_
                        refine .q rfl rfl rfl (val_fieldAddr rfl fa_50_6) ?_
                        refine .qs rfl rfl rfl H20 (ld_b rfl ob_4 (.own (.there .here)) rfl) ?_
                        refine .q rfl rfl rfl (val_pick_t rfl rfl) ?_
                        refine .nil (cj ?_)
                        refine .cond rfl (fun hc7 => ?_) (fun hc7 => ?_)
                        · have hk4 := of_decide_eq_true hs129
                          refine .skip (cj ?_)
                          refine .seq ?_
                          refine .block ?_
                          refine .seq ?_
                          refine .plain rfl ?_
                          refine .q rfl rfl rfl (val_move rfl) ?_
                          refine .q rfl rfl rfl (val_move rfl) ?_
                          refine .q rfl rfl rfl (val_mk (.cons rfl .nil) (mk_48_0 _)) ?_
                          refine .callx rfl rfl rfl en15 (.cons rfl (.cons rfl (.cons rfl .nil))) (do_spec c cf hsim hc hsm.may (hsm.may.sim hsim) br bw _ _ _ (by assumption) ⟨3, 0, te0⟩ (fun h => absurd h (show ¬ placeN 3 8 < 3 by decide))) H20 (.cons .here (.cons .here .nil)) (.ro .here (.ro (.there (.there (.there (.there (.there (.there (.there .here))))))) .nil)) (fun y21 w21 hr21 H21 => ⟨fun _ => trivial, ?_⟩)
                          refine .q rfl rfl rfl (val_not rfl rfl) ?_
                          refine .nil (cj ?_)
                          refine .cond_f rfl ?_
                          refine .skip (cj ?_)
                          refine .plain rfl ?_
                          refine .q rfl rfl rfl (val_move rfl) ?_
                          refine .q rfl rfl rfl (val_add rfl rfl (z := ((x.i + 1 : Nat) : Int)) (w64_of (by omega))) ?_
                          refine .q rfl rfl rfl (val_assign rfl) ?_
                          refine .nil ?_
                          intro act0 hact0; change Exists _
                          refine ⟨⟨x.i + 1, _⟩, Pick.kn (by repeat (first | exact Pick.nil | refine Pick.cons rfl ?_)) hact0, ⟨H21.sub (.cons .here (.cons .here (.cons .here .nil))), (by assumption), (by dsimp only; omega)⟩, (by dsimp only; omega)⟩
                        · refine .exit (cj ?_)
                          refine .plain rfl ?_
                          refine .q rfl rfl rfl (val_move rfl) ?_
                          refine .q rfl rfl rfl (val_add rfl rfl (z := ((q.i + 1 : Nat) : Int)) (w64_of (by omega))) ?_
                          refine .q rfl rfl rfl (val_assign rfl) ?_
                          refine .nil ?_
                          intro act0 hact0; change Exists _
                          refine ⟨⟨q.i + 1, _⟩, Pick.kn (by repeat (first | exact Pick.nil | refine Pick.cons rfl ?_)) hact0, ⟨H20.sub (.cons .here (.cons .here (.cons .here .nil))), hr2, (by dsimp only; omega)⟩, (by dsimp only; omega)⟩
                      · refine .no rfl rfl rfl ?_
                        refine .no rfl rfl rfl ?_
                        refine .no rfl rfl rfl ?_
                        refine .no rfl rfl rfl ?_
                        refine .q rfl rfl rfl (val_pick_f rfl rfl) ?_
                        refine .nil (cj ?_)
                        refine .cond_f rfl ?_
                        refine .exit (cj ?_)
                        refine .plain rfl ?_
                        refine .q rfl rfl rfl (val_move rfl) ?_
                        refine .q rfl rfl rfl (val_add rfl rfl (z := ((q.i + 1 : Nat) : Int)) (w64_of (by omega))) ?_
                        refine .q rfl rfl rfl (val_assign rfl) ?_
                        refine .nil ?_
                        intro act0 hact0; change Exists _
                        refine ⟨⟨q.i + 1, _⟩, Pick.kn (by repeat (first | exact Pick.nil | refine Pick.cons rfl ?_)) hact0, ⟨H20.sub (.cons .here (.cons .here (.cons .here .nil))), hr2, (by dsimp only; omega)⟩, (by dsimp only; omega)⟩
                  · refine .no rfl rfl rfl ?_
                    refine .no rfl rfl rfl ?_
                    refine .no rfl rfl rfl ?_
                    refine .no rfl rfl rfl ?_
                    refine .no rfl rfl rfl ?_
                    refine .no rfl rfl rfl ?_
                    refine .q rfl rfl rfl (val_pick_f rfl rfl) ?_
                    refine .q rfl rfl rfl (val_move rfl) ?_
                    refine .no rfl rfl rfl ?_
                    refine .no rfl rfl rfl ?_
                    refine .no rfl rfl rfl ?_
                    refine .no rfl rfl rfl ?_
                    refine .no rfl rfl rfl ?_
                    refine .no rfl rfl rfl ?_
                    refine .no rfl rfl rfl ?_
                    refine .no rfl rfl rfl ?_
                    refine .no rfl rfl rfl ?_
                    refine .q rfl rfl rfl (val_pick_f rfl rfl) ?_
                    refine .nil (cj ?_)
                    refine .cond_f rfl ?_
                    refine .skip (cj ?_)
                    refine .seq ?_
                    refine .plain rfl ?_
                    refine .q rfl rfl rfl (val_assign rfl) ?_
                    refine .nil (cj ?_)
                    refine .block ?_
                    refine .loop (ι := LQ) (fun x => [(1, .slice pA picks.length pc), (2, .slice sA stops.length sc), (3, ptr b1), (7, ptr br), (9, ptr bw), (10, i64 (q.i : Int)), (12, i64 (x.i : Int))]) (fun x w' => St w w' X [cb c, cp c, cr c, cs c, binsA c, arr pA (picks.flatMap encI), arr sA (stops.flatMap encI), stepsA] [robA cf br x.y.r x.y.g, wblk bw c x.y.q, blk b1 (encCf c) 26] ∧ Rel c x.y.r x.y.g x.y.q ∧ x.i ≤ 400) (fun x => 400 - x.i) ⟨0, _⟩ (by repeat (first | exact Pick.nil | refine Pick.cons rfl ?_)) ⟨H16.sub (.cons .here (.cons .here (.cons (.there .here) .nil))), (by assumption), Nat.zero_le _⟩ ?_
                    rintro x w6 ⟨H22, hr2, hx⟩
                    refine .seq ?_
                    refine .seq ?_
                    refine .plain rfl ?_
                    refine .q rfl rfl rfl (val_move rfl) ?_
                    refine .q rfl rfl rfl (val_lss rfl rfl rfl) ?_
                    refine .q rfl rfl rfl (val_move rfl) ?_
                    refine .case (t := 129) rfl (fun hs129 => ?_) (fun hs129 => ?_)
                    · refine .q rfl rfl rfl (val_move rfl) ?_
                      refine .q rfl rfl rfl (val_nilCheck rfl) ?_
                      refine .q rfl rfl rfl (val_fieldAddr rfl fa_50_6) ?_
                      refine .qs rfl rfl rfl H22 (ld_b rfl ob_4 (.own (.there .here)) rfl) ?_
                      refine .q rfl rfl rfl (val_pick_t rfl rfl) ?_
                      refine .nil (cj ?_)
                      refine .cond rfl (fun hc7 => ?_) (fun hc7 => ?_)
                      · have hk4 := of_decide_eq_true hs129
                        refine .skip (cj ?_)
                        refine .seq ?_
                        refine .block ?_
                        refine .seq ?_
                        refine .plain rfl ?_
                        refine .q rfl rfl rfl (val_move rfl) ?_
                        refine .q rfl rfl rfl (val_move rfl) ?_
                        refine .q rfl rfl rfl (val_mk (.cons rfl .nil) (mk_48_0 _)) ?_
                        refine .callx rfl rfl rfl en15 (.cons rfl (.cons rfl (.cons rfl .nil))) (do_spec c cf hsim hc hsm.may (hsm.may.sim hsim) br bw _ _ _ (by assumption) ⟨3, 0, te0⟩ (fun h => absurd h (show ¬ placeN 3 8 < 3 by decide))) H22 (.cons .here (.cons .here .nil)) (.ro .here (.ro (.there (.there (.there (.there (.there (.there (.there .here))))))) .nil)) (fun y23 w23 hr23 H23 => ⟨fun _ => trivial, ?_⟩)
                        refine .q rfl rfl rfl (val_not rfl rfl) ?_
                        refine .nil (cj ?_)
                        refine .cond_f rfl ?_
                        refine .skip (cj ?_)
                        refine .plain rfl ?_
                        refine .q rfl rfl rfl (val_move rfl) ?_
                        refine .q rfl rfl rfl (val_add rfl rfl (z := ((x.i + 1 : Nat) : Int)) (w64_of (by omega))) ?_
                        refine .q rfl rfl rfl (val_assign rfl) ?_
                        refine .nil ?_
                        intro act0 hact0; change Exists _
                        refine ⟨⟨x.i + 1, _⟩, Pick.kn (by repeat (first | exact Pick.nil | refine Pick.cons rfl ?_)) hact0, ⟨H23.sub (.cons .here (.cons .here (.cons .here .nil))), (by assumption), (by dsimp only; omega)⟩, (by dsimp only; omega)⟩
                      · refine .exit (cj ?_)
                        refine .plain rfl ?_
                        refine .q rfl rfl rfl (val_move rfl) ?_
                        refine .q rfl rfl rfl (val_add rfl rfl (z := ((q.i + 1 : Nat) : Int)) (w64_of (by omega))) ?_
                        refine .q rfl rfl rfl (val_assign rfl) ?_
                        refine .nil ?_
                        intro act0 hact0; change Exists _
                        refine ⟨⟨q.i + 1, _⟩, Pick.kn (by repeat (first | exact Pick.nil | refine Pick.cons rfl ?_)) hact0, ⟨H22.sub (.cons .here (.cons .here (.cons .here .nil))), hr2, (by dsimp only; omega)⟩, (by dsimp only; omega)⟩
                    · refine .no rfl rfl rfl ?_
                      refine .no rfl rfl rfl ?_
                      refine .no rfl rfl rfl ?_
                      refine .no rfl rfl rfl ?_
                      refine .q rfl rfl rfl (val_pick_f rfl rfl) ?_
                      refine .nil (cj ?_)
                      refine .cond_f rfl ?_
                      refine .exit (cj ?_)
                      refine .plain rfl ?_
                      refine .q rfl rfl rfl (val_move rfl) ?_
                      refine .q rfl rfl rfl (val_add rfl rfl (z := ((q.i + 1 : Nat) : Int)) (w64_of (by omega))) ?_
                      refine .q rfl rfl rfl (val_assign rfl) ?_
                      refine .nil ?_
                      intro act0 hact0; change Exists _
                      refine ⟨⟨q.i + 1, _⟩, Pick.kn (by repeat (first | exact Pick.nil | refine Pick.cons rfl ?_)) hact0, ⟨H22.sub (.cons .here (.cons .here (.cons .here .nil))), hr2, (by dsimp only; omega)⟩, (by dsimp only; omega)⟩
                · refine .skip (cj ?_)
                  refine .seq ?_
                  refine .seq ?_
                  refine .plain rfl ?_
                  refine .q rfl rfl rfl (val_move rfl) ?_
                  refine .q rfl rfl rfl (val_move rfl) ?_
                  refine .q rfl rfl rfl (val_len Tryz.underlying27 rfl) ?_
                  refine .q rfl rfl rfl (val_lss rfl rfl rfl) ?_
                  refine .q rfl rfl rfl (val_move rfl) ?_
                  refine .case (t := 108) rfl (fun hs108 => ?_) (fun hs108 => ?_)
                  · refine .q rfl rfl rfl (val_move rfl) ?_
                    refine .q rfl rfl rfl (val_move rfl) ?_
                    have hjl : q.i < stops.length := by have h9 := of_decide_eq_true hs108; omega
                    obtain ⟨z8, hz8⟩ : ∃ z, stops[q.i]? = some z := ⟨_, List.getElem?_eq_getElem hjl⟩
                    obtain ⟨b8, o8, hSA⟩ := Has.base (.ro (.there (.there (.there (.there (.there (.there .here))))))) H14 (nil_of_flat encI_len (by decide) hjl)
                    refine .q rfl rfl rfl (val_ix el_27 hSA rfl rfl rfl hjl) ?_
                    refine .qs rfl rfl rfl H14 (ld_el rfl ob_3 .base hSA (.ro (.there (.there (.there (.there (.there (.there .here))))))) encI_len (by first | assumption | rfl) rfl) ?_
                    refine .q rfl rfl rfl (val_rem rfl rfl (by decide) rfl) ?_
                    refine .q rfl rfl rfl (val_eql rfl rfl rfl) ?_
                    refine .q rfl rfl rfl (val_pick_t rfl rfl) ?_
                    refine .q rfl rfl rfl (val_move rfl) ?_
                    refine .case (t := 116) rfl (fun hs116 => ?_) (fun hs116 => ?_)
                    · refine .q rfl rfl rfl (val_move rfl) ?_
                      refine .q rfl rfl rfl (val_move rfl) ?_
                      refine .q rfl rfl rfl (val_move rfl) ?_
                      refine .q rfl rfl rfl (val_move rfl) ?_
                      refine .q rfl rfl rfl (val_ix el_27 hSA rfl rfl rfl hjl) ?_
                      refine .qs rfl rfl rfl H14 (ld_el rfl ob_3 .base hSA (.ro (.there (.there (.there (.there (.there (.there .here))))))) encI_len (by first | assumption | rfl) rfl) ?_
                      refine .q rfl rfl rfl (val_mk (.cons rfl (.cons rfl .nil)) (mk_48_0_1 _ _)) ?_
                      refine .callx rfl rfl rfl en15 (.cons rfl (.cons rfl (.cons rfl .nil))) (do_spec c cf hsim hc hsm.may (hsm.may.sim hsim) br bw _ _ _ (by assumption) ⟨6, z8, te0⟩ (fun h => absurd h (show ¬ placeN 6 8 < 3 by decide))) H14 (.cons .here (.cons .here .nil)) (.ro .here (.ro (.there (.there (.there (.there (.there (.there (.there .here))))))) .nil)) (fun y24 w24 hr24 H24 => ⟨fun _ => trivial, ?_⟩)
                      refine .q rfl rfl rfl (val_not rfl rfl) ?_
                      refine .q rfl rfl rfl (val_pick_t rfl rfl) ?_
                      refine .nil (cj ?_)
                      refine .cond_f rfl ?_
                      refine .skip (cj ?_)
                      refine .seq ?_
                      refine .plain rfl ?_
                      refine .q rfl rfl rfl (val_assign rfl) ?_
                      refine .nil (cj ?_)
                      refine .block ?_
                      refine .loop (ι := LQ) (fun x => [(1, .slice pA picks.length pc), (2, .slice sA stops.length sc), (3, ptr b1), (7, ptr br), (9, ptr bw), (10, i64 (q.i : Int)), (12, i64 (x.i : Int))]) (fun x w' => St w w' X [cb c, cp c, cr c, cs c, binsA c, arr pA (picks.flatMap encI), arr sA (stops.flatMap encI), stepsA] [robA cf br x.y.r x.y.g, wblk bw c x.y.q, blk b1 (encCf c) 26] ∧ Rel c x.y.r x.y.g x.y.q ∧ x.i ≤ 400) (fun x => 400 - x.i) ⟨0, _⟩ (by repeat (first | exact Pick.nil | refine Pick.cons rfl ?_)) ⟨H24.sub (.cons .here (.cons .here (.cons (.there .here) .nil))), (by assumption), Nat.zero_le _⟩ ?_
                      rintro x w6 ⟨H25, hr2, hx⟩
                      refine .seq ?_
                      refine .seq ?_
                      refine .plain rfl ?_
                      refine .q rfl rfl rfl (val_move rfl) ?_
                      refine .q rfl rfl rfl (val_lss rfl rfl rfl) ?_
                      refine .q rfl rfl rfl (val_move rfl) ?_
                      refine .case (t := 129) rfl (fun hs129 => ?_) (fun hs129 => ?_)
                      · refine .q rfl rfl rfl (val_move rfl) ?_
                        refine .q rfl rfl rfl (val_nilCheck rfl) ?_
                        refine .q rfl rfl rfl (val_fieldAddr rfl fa_50_6) ?_
                        refine .qs rfl rfl rfl H25 (ld_b rfl ob_4 (.own (.there .here)) rfl) ?_
                        refine .q rfl rfl rfl (val_pick_t rfl rfl) ?_
                        refine .nil (cj ?_)
                        refine .cond rfl (fun hc7 => ?_) (fun hc7 => ?_)
                        · have hk4 := of_decide_eq_true hs129
                          refine .skip (cj ?_)
                          refine .seq ?_
                          refine .block ?_
                          refine .seq ?_
                          refine .plain rfl ?_
                          refine .q rfl rfl rfl (val_move rfl) ?_
                          refine .q rfl rfl rfl (val_move rfl) ?_
                          refine .q rfl rfl rfl (val_mk (.cons rfl .nil) (mk_48_0 _)) ?_
                          refine .callx rfl rfl rfl en15 (.cons rfl (.cons rfl (.cons rfl .nil))) (do_spec c cf hsim hc hsm.may (hsm.may.sim hsim) br bw _ _ _ (by assumption) ⟨3, 0, te0⟩ (fun h => absurd h (show ¬ placeN 3 8 < 3 by decide))) H25 (.cons .here (.cons .here .nil)) (.ro .here (.ro (.there (.there (.there (.there (.there (.there (.there .here))))))) .nil)) (fun y26 w26 hr26 H26 => ⟨fun _ => trivial, ?_⟩)
                          refine .q rfl rfl rfl (val_not rfl rfl) ?_
                          refine .nil (cj ?_)
                          refine .cond_f rfl ?_
                          refine .skip (cj ?_)
                          refine .plain rfl ?_
                          refine .q rfl rfl rfl (val_move rfl) ?_
                          refine .q rfl rfl rfl (val_add rfl rfl (z := ((x.i + 1 : Nat) : Int)) (w64_of (by omega))) ?_
                          refine .q rfl rfl rfl (val_assign rfl) ?_
                          refine .nil ?_
                          intro act0 hact0; change Exists _
                          refine ⟨⟨x.i + 1, _⟩, Pick.kn (by repeat (first | exact Pick.nil | refine Pick.cons rfl ?_)) hact0, ⟨H26.sub (.cons .here (.cons .here (.cons .here .nil))), (by assumption), (by dsimp only; omega)⟩, (by dsimp only; omega)⟩
                        · refine .exit (cj ?_)
                          refine .plain rfl ?_
                          refine .q rfl rfl rfl (val_move rfl) ?_
                          refine .q rfl rfl rfl (val_add rfl rfl (z := ((q.i + 1 : Nat) : Int)) (w64_of (by omega))) ?_
                          refine .q rfl rfl rfl (val_assign rfl) ?_
                          refine .nil ?_
                          intro act0 hact0; change Exists _
                          refine ⟨⟨q.i + 1, _⟩, Pick.kn (by repeat (first | exact Pick.nil | refine Pick.cons rfl ?_)) hact0, ⟨H25.sub (.cons .here (.cons .here (.cons .here .nil))), hr2, (by dsimp only; omega)⟩, (by dsimp only; omega)⟩
                      · refine .no rfl rfl rfl ?_
                        refine .no rfl rfl rfl ?_
                        refine .no rfl rfl rfl ?_
                        refine .no rfl rfl rfl ?_
                        refine .q rfl rfl rfl (val_pick_f rfl rfl) ?_
                        refine .nil (cj ?_)
                        refine .cond_f rfl ?_
                        refine .exit (cj ?_)
                        refine .plain rfl ?_
                        refine .q rfl rfl rfl (val_move rfl) ?_
                        refine .q rfl rfl rfl (val_add rfl rfl (z := ((q.i + 1 : Nat) : Int)) (w64_of (by omega))) ?_
                        refine .q rfl rfl rfl (val_assign rfl) ?_
                        refine .nil ?_
                        intro act0 hact0; change Exists _
                        refine ⟨⟨q.i + 1, _⟩, Pick.kn (by repeat (first | exact Pick.nil | refine Pick.cons rfl ?_)) hact0, ⟨H25.sub (.cons .here (.cons .here (.cons .here .nil))), hr2, (by dsimp only; omega)⟩, (by dsimp only; omega)⟩
                    · refine .no rfl rfl rfl ?_
                      refine .no rfl rfl rfl ?_
                      refine .no rfl rfl rfl ?_
                      refine .no rfl rfl rfl ?_
                      refine .no rfl rfl rfl ?_
                      refine .no rfl rfl rfl ?_
                      refine .no rfl rfl rfl ?_
                      refine .no rfl rfl rfl ?_
                      refine .no rfl rfl rfl ?_
                      refine .q rfl rfl rfl (val_pick_f rfl rfl) ?_
                      refine .nil (cj ?_)
                      refine .cond_f rfl ?_
                      refine .skip (cj ?_)
                      refine .seq ?_
                      refine .plain rfl ?_
                      refine .q rfl rfl rfl (val_assign rfl) ?_
                      refine .nil (cj ?_)
                      refine .block ?_
                      refine .loop (ι := LQ) (fun x => [(1, .slice pA picks.length pc), (2, .slice sA stops.length sc), (3, ptr b1), (7, ptr br), (9, ptr bw), (10, i64 (q.i : Int)), (12, i64 (x.i : Int))]) (fun x w' => St w w' X [cb c, cp c, cr c, cs c, binsA c, arr pA (picks.flatMap encI), arr sA (stops.flatMap encI), stepsA] [robA cf br x.y.r x.y.g, wblk bw c x.y.q, blk b1 (encCf c) 26] ∧ Rel c x.y.r x.y.g x.y.q ∧ x.i ≤ 400) (fun x => 400 - x.i) ⟨0, _⟩ (by repeat (first | exact Pick.nil | refine Pick.cons rfl ?_)) ⟨H14.sub (.cons .here (.cons .here (.cons (.there .here) .nil))), (by assumption), Nat.zero_le _⟩ ?_
                      rintro x w6 ⟨H27, hr2, hx⟩
                      refine .seq ?_
                      refine .seq ?_
                      refine .plain rfl ?_
                      refine .q rfl rfl rfl (val_move rfl) ?_
                      refine .q rfl rfl rfl (val_lss rfl rfl rfl) ?_
                      refine .q rfl rfl rfl (val_move rfl) ?_
                      refine .case (t := 129) rfl (fun hs129 => ?_) (fun hs129 => ?_)
                      · refine .q rfl rfl rfl (val_move rfl) ?_
                        refine .q rfl rfl rfl (val_nilCheck rfl) ?_
                        refine .q rfl rfl rfl (val_fieldAddr rfl fa_50_6) ?_
                        refine .qs rfl rfl rfl H27 (ld_b rfl ob_4 (.own (.there .here)) rfl) ?_
                        refine .q rfl rfl rfl (val_pick_t rfl rfl) ?_
                        refine .nil (cj ?_)
                        refine .cond rfl (fun hc7 => ?_) (fun hc7 => ?_)
                        · have hk4 := of_decide_eq_true hs129
                          refine .skip (cj ?_)
                          refine .seq ?_
                          refine .block ?_
                          refine .seq ?_
                          refine .plain rfl ?_
                          refine .q rfl rfl rfl (val_move rfl) ?_
                          refine .q rfl rfl rfl (val_move rfl) ?_
                          refine .q rfl rfl rfl (val_mk (.cons rfl .nil) (mk_48_0 _)) ?_
                          refine .callx rfl rfl rfl en15 (.cons rfl (.cons rfl (.cons rfl .nil))) (do_spec c cf hsim hc hsm.may (hsm.may.sim hsim) br bw _ _ _ (by assumption) ⟨3, 0, te0⟩ (fun h => absurd h (show ¬ placeN 3 8 < 3 by decide))) H27 (.cons .here (.cons .here .nil)) (.ro .here (.ro (.there (.there (.there (.there (.there (.there (.there .here))))))) .nil)) (fun y28 w28 hr28 H28 => ⟨fun _ => trivial, ?_⟩)
                          refine .q rfl rfl rfl (val_not rfl rfl) ?_
                          refine .nil (cj ?_)
                          refine .cond_f rfl ?_
                          refine .skip (cj ?_)
                          refine .plain rfl ?_
                          refine .q rfl rfl rfl (val_move rfl) ?_
                          refine .q rfl rfl rfl (val_add rfl rfl (z := ((x.i + 1 : Nat) : Int)) (w64_of (by omega))) ?_
                          refine .q rfl rfl rfl (val_assign rfl) ?_
                          refine .nil ?_
                          intro act0 hact0; change Exists _
                          refine ⟨⟨x.i + 1, _⟩, Pick.kn (by repeat (first | exact Pick.nil | refine Pick.cons rfl ?_)) hact0, ⟨H28.sub (.cons .here (.cons .here (.cons .here .nil))), (by assumption), (by dsimp only; omega)⟩, (by dsimp only; omega)⟩
                        · refine .exit (cj ?_)
                          refine .plain rfl ?_
                          refine .q rfl rfl rfl (val_move rfl) ?_
                          refine .q rfl rfl rfl (val_add rfl rfl (z := ((q.i + 1 : Nat) : Int)) (w64_of (by omega))) ?_
                          refine .q rfl rfl rfl (val_assign rfl) ?_
                          refine .nil ?_
                          intro act0 hact0; change Exists _
                          refine ⟨⟨q.i + 1, _⟩, Pick.kn (by repeat (first | exact Pick.nil | refine Pick.cons rfl ?_)) hact0, ⟨H27.sub (.cons .here (.cons .here (.cons .here .nil))), hr2, (by dsimp only; omega)⟩, (by dsimp only; omega)⟩
                      · refine .no rfl rfl rfl ?_
                        refine .no rfl rfl rfl ?_
                        refine .no rfl rfl rfl ?_
                        refine .no rfl rfl rfl ?_
                        refine .q rfl rfl rfl (val_pick_f rfl rfl) ?_
                        refine .nil (cj ?_)
                        refine .cond_f rfl ?_
                        refine .exit (cj ?_)
                        refine .plain rfl ?_
                        refine .q rfl rfl rfl (val_move rfl) ?_
                        refine .q rfl rfl rfl (val_add rfl rfl (z := ((q.i + 1 : Nat) : Int)) (w64_of (by omega))) ?_
                        refine .q rfl rfl rfl (val_assign rfl) ?_
                        refine .nil ?_
                        intro act0 hact0; change Exists _
                        refine ⟨⟨q.i + 1, _⟩, Pick.kn (by repeat (first | exact Pick.nil | refine Pick.cons rfl ?_)) hact0, ⟨H27.sub (.cons .here (.cons .here (.cons .here .nil))), hr2, (by dsimp only; omega)⟩, (by dsimp only; omega)⟩
                  · refine .no rfl rfl rfl ?_
                    refine .no rfl rfl rfl ?_
                    refine .no rfl rfl rfl ?_
                    refine .no rfl rfl rfl ?_
                    refine .no rfl rfl rfl ?_
                    refine .no rfl rfl rfl ?_
                    refine .q rfl rfl rfl (val_pick_f rfl rfl) ?_
                    refine .q rfl rfl rfl (val_move rfl) ?_
                    refine .no rfl rfl rfl ?_
                    refine .no rfl rfl rfl ?_
                    refine .no rfl rfl rfl ?_
                    refine .no rfl rfl rfl ?_
                    refine .no rfl rfl rfl ?_
                    refine .no rfl rfl rfl ?_
                    refine .no rfl rfl rfl ?_
                    refine .no rfl rfl rfl ?_
                    refine .no rfl rfl rfl ?_
                    refine .q rfl rfl rfl (val_pick_f rfl rfl) ?_
                    refine .nil (cj ?_)
                    refine .cond_f rfl ?_
                    refine .skip (cj ?_)
                    refine .seq ?_
                    refine .plain rfl ?_
                    refine .q rfl rfl rfl (val_assign rfl) ?_
                    refine .nil (cj ?_)
                    refine .block ?_
                    refine .loop (ι := LQ) (fun x => [(1, .slice pA picks.length pc), (2, .slice sA stops.length sc), (3, ptr b1), (7, ptr br), (9, ptr bw), (10, i64 (q.i : Int)), (12, i64 (x.i : Int))]) (fun x w' => St w w' X [cb c, cp c, cr c, cs c, binsA c, arr pA (picks.flatMap encI), arr sA (stops.flatMap encI), stepsA] [robA cf br x.y.r x.y.g, wblk bw c x.y.q, blk b1 (encCf c) 26] ∧ Rel c x.y.r x.y.g x.y.q ∧ x.i ≤ 400) (fun x => 400 - x.i) ⟨0, _⟩ (by repeat (first | exact Pick.nil | refine Pick.cons rfl ?_)) ⟨H14.sub (.cons .here (.cons .here (.cons (.there .here) .nil))), (by assumption), Nat.zero_le _⟩ ?_
                    rintro x w6 ⟨H29, hr2, hx⟩
                    refine .seq ?_
                    refine .seq ?_
                    refine .plain rfl ?_
                    refine .q rfl rfl rfl (val_move rfl) ?_
                    refine .q rfl rfl rfl (val_lss rfl rfl rfl) ?_
                    refine .q rfl rfl rfl (val_move rfl) ?_
                    refine .case (t := 129) rfl (fun hs129 => ?_) (fun hs129 => ?_)
                    · refine .q rfl rfl rfl (val_move rfl) ?_
                      refine .q rfl rfl rfl (val_nilCheck rfl) ?_
                      refine .q rfl rfl rfl (val_fieldAddr rfl fa_50_6) ?_
                      refine .qs rfl rfl rfl H29 (ld_b rfl ob_4 (.own (.there .here)) rfl) ?_
                      refine .q rfl rfl rfl (val_pick_t rfl rfl) ?_
                      refine .nil (cj ?_)
                      refine .cond rfl (fun hc7 => ?_) (fun hc7 => ?_)
                      · have hk4 := of_decide_eq_true hs129
                        refine .skip (cj ?_)
                        refine .seq ?_
                        refine .block ?_
                        refine .seq ?_
                        refine .plain rfl ?_
                        refine .q rfl rfl rfl (val_move rfl) ?_
                        refine .q rfl rfl rfl (val_move rfl) ?_
                        refine .q rfl rfl rfl (val_mk (.cons rfl .nil) (mk_48_0 _)) ?_
                        refine .callx rfl rfl rfl en15 (.cons rfl (.cons rfl (.cons rfl .nil))) (do_spec c cf hsim hc hsm.may (hsm.may.sim hsim) br bw _ _ _ (by assumption) ⟨3, 0, te0⟩ (fun h => absurd h (show ¬ placeN 3 8 < 3 by decide))) H29 (.cons .here (.cons .here .nil)) (.ro .here (.ro (.there (.there (.there (.there (.there (.there (.there .here))))))) .nil)) (fun y30 w30 hr30 H30 => ⟨fun _ => trivial, ?_⟩)
                        refine .q rfl rfl rfl (val_not rfl rfl) ?_
                        refine .nil (cj ?_)
                        refine .cond_f rfl ?_
                        refine .skip (cj ?_)
                        refine .plain rfl ?_
                        refine .q rfl rfl rfl (val_move rfl) ?_
                        refine .q rfl rfl rfl (val_add rfl rfl (z := ((x.i + 1 : Nat) : Int)) (w64_of (by omega))) ?_
                        refine .q rfl rfl rfl (val_assign rfl) ?_
                        refine .nil ?_
                        intro act0 hact0; change Exists _
                        refine ⟨⟨x.i + 1, _⟩, Pick.kn (by repeat (first | exact Pick.nil | refine Pick.cons rfl ?_)) hact0, ⟨H30.sub (.cons .here (.cons .here (.cons .here .nil))), (by assumption), (by dsimp only; omega)⟩, (by dsimp only; omega)⟩
                      · refine .exit (cj ?_)
                        refine .plain rfl ?_
                        refine .q rfl rfl rfl (val_move rfl) ?_
                        refine .q rfl rfl rfl (val_add rfl rfl (z := ((q.i + 1 : Nat) : Int)) (w64_of (by omega))) ?_
                        refine .q rfl rfl rfl (val_assign rfl) ?_
                        refine .nil ?_
                        intro act0 hact0; change Exists _
                        refine ⟨⟨q.i + 1, _⟩, Pick.kn (by repeat (first | exact Pick.nil | refine Pick.cons rfl ?_)) hact0, ⟨H29.sub (.cons .here (.cons .here (.cons .here .nil))), hr2, (by dsimp only; omega)⟩, (by dsimp only; omega)⟩
                    · refine .no rfl rfl rfl ?_
                      refine .no rfl rfl rfl ?_
                      refine .no rfl rfl rfl ?_
                      refine .no rfl rfl rfl ?_
                      refine .q rfl rfl rfl (val_pick_f rfl rfl) ?_
                      refine .nil (cj ?_)
                      refine .cond_f rfl ?_
                      refine .exit (cj ?_)
                      refine .plain rfl ?_
                      refine .q rfl rfl rfl (val_move rfl) ?_
                      refine .q rfl rfl rfl (val_add rfl rfl (z := ((q.i + 1 : Nat) : Int)) (w64_of (by omega))) ?_
                      refine .q rfl rfl rfl (val_assign rfl) ?_
                      refine .nil ?_
                      intro act0 hact0; change Exists _
                      refine ⟨⟨q.i + 1, _⟩, Pick.kn (by repeat (first | exact Pick.nil | refine Pick.cons rfl ?_)) hact0, ⟨H29.sub (.cons .here (.cons .here (.cons .here .nil))), hr2, (by dsimp only; omega)⟩, (by dsimp only; omega)⟩
              · refine .no rfl rfl rfl ?_
                refine .no rfl rfl rfl ?_
                refine .no rfl rfl rfl ?_
                refine .no rfl rfl rfl ?_
                refine .no rfl rfl rfl ?_
                refine .no rfl rfl rfl ?_
                refine .q rfl rfl rfl (val_pick_f rfl rfl) ?_
                refine .nil (cj ?_)
                refine .cond_f rfl ?_
                refine .skip (cj ?_)
                refine .seq ?_
                refine .seq ?_
                refine .plain rfl ?_
                refine .q rfl rfl rfl (val_move rfl) ?_
                refine .q rfl rfl rfl (val_move rfl) ?_
                refine .q rfl rfl rfl (val_len Tryz.underlying27 rfl) ?_
                refine .q rfl rfl rfl (val_lss rfl rfl rfl) ?_
                refine .q rfl rfl rfl (val_move rfl) ?_
                refine .case (t := 108) rfl (fun hs108 => ?_) (fun hs108 => ?_)
                · refine .q rfl rfl rfl (val_move rfl) ?_
                  refine .q rfl rfl rfl (val_move rfl) ?_
                  have hjl : q.i < stops.length := by have h9 := of_decide_eq_true hs108; omega
                  obtain ⟨z8, hz8⟩ : ∃ z, stops[q.i]? = some z := ⟨_, List.getElem?_eq_getElem hjl⟩
                  obtain ⟨b8, o8, hSA⟩ := Has.base (.ro (.there (.there (.there (.there (.there (.there .here))))))) H14 (nil_of_flat encI_len (by decide) hjl)
                  refine .q rfl rfl rfl (val_ix el_27 hSA rfl rfl rfl hjl) ?_
                  refine .qs rfl rfl rfl H14 (ld_el rfl ob_3 .base hSA (.ro (.there (.there (.there (.there (.there (.there .here))))))) encI_len (by first | assumption | rfl) rfl) ?_
                  refine .q rfl rfl rfl (val_rem rfl rfl (by decide) rfl) ?_
                  refine .q rfl rfl rfl (val_eql rfl rfl rfl) ?_
                  refine .q rfl rfl rfl (val_pick_t rfl rfl) ?_
                  refine .q rfl rfl rfl (val_move rfl) ?_
                  refine .case (t := 116) rfl (fun hs116 => ?_) (fun hs116 => ?_)
                  · refine .q rfl rfl rfl (val_move rfl) ?_
                    refine .q rfl rfl rfl (val_move rfl) ?_
                    refine .q rfl rfl rfl (val_move rfl) ?_
                    refine .q rfl rfl rfl (val_move rfl) ?_
                    refine .q rfl rfl rfl (val_ix el_27 hSA rfl rfl rfl hjl) ?_
                    refine .qs rfl rfl rfl H14 (ld_el rfl ob_3 .base hSA (.ro (.there (.there (.there (.there (.there (.there .here))))))) encI_len (by first | assumption | rfl) rfl) ?_
                    refine .q rfl rfl rfl (val_mk (.cons rfl (.cons rfl .nil)) (mk_48_0_1 _ _)) ?_
                    refine .callx rfl rfl rfl en15 (.cons rfl (.cons rfl (.cons rfl .nil))) (do_spec c cf hsim hc hsm.may (hsm.may.sim hsim) br bw _ _ _ (by assumption) ⟨6, z8, te0⟩ (fun h => absurd h (show ¬ placeN 6 8 < 3 by decide))) H14 (.cons .here (.cons .here .nil)) (.ro .here (.ro (.there (.there (.there (.there (.there (.there (.there .here))))))) .nil)) (fun y31 w31 hr31 H31 => ⟨fun _ => trivial, ?_⟩)
                    refine .q rfl rfl rfl (val_not rfl rfl) ?_
                    refine .q rfl rfl rfl (val_pick_t rfl rfl) ?_
                    refine .nil (cj ?_)
                    refine .cond_f rfl ?_
                    refine .skip (cj ?_)
                    refine .seq ?_
                    refine .plain rfl ?_
                    refine .q rfl rfl rfl (val_assign rfl) ?_
                    refine .nil (cj ?_)
                    refine .block ?_
                    refine .loop (ι := LQ) (fun x => [(1, .slice pA picks.length pc), (2, .slice sA stops.length sc), (3, ptr b1), (7, ptr br), (9, ptr bw), (10, i64 (q.i : Int)), (12, i64 (x.i : Int))]) (fun x w' => St w w' X [cb c, cp c, cr c, cs c, binsA c, arr pA (picks.flatMap encI), arr sA (stops.flatMap encI), stepsA] [robA cf br x.y.r x.y.g, wblk bw c x.y.q, blk b1 (encCf c) 26] ∧ Rel c x.y.r x.y.g x.y.q ∧ x.i ≤ 400) (fun x => 400 - x.i) ⟨0, _⟩ (by repeat (first | exact Pick.nil | refine Pick.cons rfl ?_)) ⟨H31.sub (.cons .here (.cons .here (.cons (.there .here) .nil))), (by assumption), Nat.zero_le _⟩ ?_
                    rintro x w6 ⟨H32, hr2, hx⟩
                    refine .seq ?_
                    refine .seq ?_
                    refine .plain rfl ?_
                    refine .q rfl rfl rfl (val_move rfl) ?_
                    refine .q rfl rfl rfl (val_lss rfl rfl rfl) ?_
                    refine .q rfl rfl rfl (val_move rfl) ?_
                    refine .case (t := 129) rfl (fun hs129 => ?_) (fun hs129 => ?_)
                    · refine .q rfl rfl rfl (val_move rfl) ?_
                      refine .q rfl rfl rfl (val_nilCheck rfl) ?_
                      refine .q rfl rfl rfl (val_fieldAddr rfl fa_50_6) ?_
                      refine .qs rfl rfl rfl H32 (ld_b rfl ob_4 (.own (.there .here)) rfl) ?_
                      refine .q rfl rfl rfl (val_pick_t rfl rfl) ?_
                      refine .nil (cj ?_)
                      refine .cond rfl (fun hc7 => ?_) (fun hc7 => ?_)
                      · have hk4 := of_decide_eq_true hs129
                        refine .skip (cj ?_)
                        refine .seq ?_
                        refine .block ?_
                        refine .seq ?_
                        refine .plain rfl ?_
                        refine .q rfl rfl rfl (val_move rfl) ?_
                        refine .q rfl rfl rfl (val_move rfl) ?_
                        refine .q rfl rfl rfl (val_mk (.cons rfl .nil) (mk_48_0 _)) ?_
                        refine .callx rfl rfl rfl en15 (.cons rfl (.cons rfl (.cons rfl .nil))) (do_spec c cf hsim hc hsm.may (hsm.may.sim hsim) br bw _ _ _ (by assumption) ⟨3, 0, te0⟩ (fun h => absurd h (show ¬ placeN 3 8 < 3 by decide))) H32 (.cons .here (.cons .here .nil)) (.ro .here (.ro (.there (.there (.there (.there (.there (.there (.there .here))))))) .nil)) (fun y33 w33 hr33 H33 => ⟨fun _ => trivial, ?_⟩)
                        refine .q rfl rfl rfl (val_not rfl rfl) ?_
                        refine .nil (cj ?_)
                        refine .cond_f rfl ?_
                        refine .skip (cj ?_)
                        refine .plain rfl ?_
                        refine .q rfl rfl rfl (val_move rfl) ?_
                        refine .q rfl rfl rfl (val_add rfl rfl (z := ((x.i + 1 : Nat) : Int)) (w64_of (by omega))) ?_
                        refine .q rfl rfl rfl (val_assign rfl) ?_
                        refine .nil ?_
                        intro act0 hact0; change Exists _
                        refine ⟨⟨x.i + 1, _⟩, Pick.kn (by repeat (first | exact Pick.nil | refine Pick.cons rfl ?_)) hact0, ⟨H33.sub (.cons .here (.cons .here (.cons .here .nil))), (by assumption), (by dsimp only; omega)⟩, (by dsimp only; omega)⟩
                      · refine .exit (cj ?_)
                        refine .plain rfl ?_
                        refine .q rfl rfl rfl (val_move rfl) ?_
                        refine .q rfl rfl rfl (val_add rfl rfl (z := ((q.i + 1 : Nat) : Int)) (w64_of (by omega))) ?_
                        refine .q rfl rfl rfl (val_assign rfl) ?_
                        refine .nil ?_
                        intro act0 hact0; change Exists _
                        refine ⟨⟨q.i + 1, _⟩, Pick.kn (by repeat (first | exact Pick.nil | refine Pick.cons rfl ?_)) hact0, ⟨H32.sub (.cons .here (.cons .here (.cons .here .nil))), hr2, (by dsimp only; omega)⟩, (by dsimp only; omega)⟩
                    · refine .no rfl rfl rfl ?_
                      refine .no rfl rfl rfl ?_
                      refine .no rfl rfl rfl ?_
                      refine .no rfl rfl rfl ?_
                      refine .q rfl rfl rfl (val_pick_f rfl rfl) ?_
                      refine .nil (cj ?_)
                      refine .cond_f rfl ?_
                      refine .exit (cj ?_)
                      refine .plain rfl ?_
                      refine .q rfl rfl rfl (val_move rfl) ?_
                      refine .q rfl rfl rfl (val_add rfl rfl (z := ((q.i + 1 : Nat) : Int)) (w64_of (by omega))) ?_
                      refine .q rfl rfl rfl (val_assign rfl) ?_
                      refine .nil ?_
                      intro act0 hact0; change Exists _
                      refine ⟨⟨q.i + 1, _⟩, Pick.kn (by repeat (first | exact Pick.nil | refine Pick.cons rfl ?_)) hact0, ⟨H32.sub (.cons .here (.cons .here (.cons .here .nil))), hr2, (by dsimp only; omega)⟩, (by dsimp only; omega)⟩
                  · refine .no rfl rfl rfl ?_
                    refine .no rfl rfl rfl ?_
                    refine .no rfl rfl rfl ?_
                    refine .no rfl rfl rfl ?_
                    refine .no rfl rfl rfl ?_
                    refine .no rfl rfl rfl ?_
                    refine .no rfl rfl rfl ?_
                    refine .no rfl rfl rfl ?_
                    refine .no rfl rfl rfl ?_
                    refine .q rfl rfl rfl (val_pick_f rfl rfl) ?_
                    refine .nil (cj ?_)
                    refine .cond_f rfl ?_
                    refine .skip (cj ?_)
                    refine .seq ?_
                    refine .plain rfl ?_
                    refine .q rfl rfl rfl (val_assign rfl) ?_
                    refine .nil (cj ?_)
                    refine .block ?_
                    refine .loop (ι := LQ) (fun x => [(1, .slice pA picks.length pc), (2, .slice sA stops.length sc), (3, ptr b1), (7, ptr br), (9, ptr bw), (10, i64 (q.i : Int)), (12, i64 (x.i : Int))]) (fun x w' => St w w' X [cb c, cp c, cr c, cs c, binsA c, arr pA (picks.flatMap encI), arr sA (stops.flatMap encI), stepsA] [robA cf br x.y.r x.y.g, wblk bw c x.y.q, blk b1 (encCf c) 26] ∧ Rel c x.y.r x.y.g x.y.q ∧ x.i ≤ 400) (fun x => 400 - x.i) ⟨0, _⟩ (by repeat (first | exact Pick.nil | refine Pick.cons rfl ?_)) ⟨H14.sub (.cons .here (.cons .here (.cons (.there .here) .nil))), (by assumption), Nat.zero_le _⟩ ?_
                    rintro x w6 ⟨H34, hr2, hx⟩
                    refine .seq ?_
                    refine .seq ?_
                    refine .plain rfl ?_
                    refine .q rfl rfl rfl (val_move rfl) ?_
                    refine .q rfl rfl rfl (val_lss rfl rfl rfl) ?_
                    refine .q rfl rfl rfl (val_move rfl) ?_
                    refine .case (t := 129) rfl (fun hs129 => ?_) (fun hs129 => ?_)
                    · refine .q rfl rfl rfl (val_move rfl) ?_
                      refine .q rfl rfl rfl (val_nilCheck rfl) ?_
                      refine .q rfl rfl rfl (val_fieldAddr rfl fa_50_6) ?_
                      refine .qs rfl rfl rfl H34 (ld_b rfl ob_4 (.own (.there .here)) rfl) ?_
                      refine .q rfl rfl rfl (val_pick_t rfl rfl) ?_
                      refine .nil (cj ?_)
                      refine .cond rfl (fun hc7 => ?_) (fun hc7 => ?_)
                      · have hk4 := of_decide_eq_true hs129
                        refine .skip (cj ?_)
                        refine .seq ?_
                        refine .block ?_
                        refine .seq ?_
                        refine .plain rfl ?_
                        refine .q rfl rfl rfl (val_move rfl) ?_
                        refine .q rfl rfl rfl (val_move rfl) ?_
                        refine .q rfl rfl rfl (val_mk (.cons rfl .nil) (mk_48_0 _)) ?_
                        refine .callx rfl rfl rfl en15 (.cons rfl (.cons rfl (.cons rfl .nil))) (do_spec c cf hsim hc hsm.may (hsm.may.sim hsim) br bw _ _ _ (by assumption) ⟨3, 0, te0⟩ (fun h => absurd h (show ¬ placeN 3 8 < 3 by decide))) H34 (.cons .here (.cons .here .nil)) (.ro .here (.ro (.there (.there (.there (.there (.there (.there (.there .here))))))) .nil)) (fun y35 w35 hr35 H35 => ⟨fun _ => trivial, ?_⟩)
                        refine .q rfl rfl rfl (val_not rfl rfl) ?_
                        refine .nil (cj ?_)
                        refine .cond_f rfl ?_
                        refine .skip (cj ?_)
                        refine .plain rfl ?_
                        refine .q rfl rfl rfl (val_move rfl) ?_
                        refine .q rfl rfl rfl (val_add rfl rfl (z := ((x.i + 1 : Nat) : Int)) (w64_of (by omega))) ?_
                        refine .q rfl rfl rfl (val_assign rfl) ?_
                        refine .nil ?_
                        intro act0 hact0; change Exists _
                        refine ⟨⟨x.i + 1, _⟩, Pick.kn (by repeat (first | exact Pick.nil | refine Pick.cons rfl ?_)) hact0, ⟨H35.sub (.cons .here (.cons .here (.cons .here .nil))), (by assumption), (by dsimp only; omega)⟩, (by dsimp only; omega)⟩
                      · refine .exit (cj ?_)
                        refine .plain rfl ?_
                        refine .q rfl rfl rfl (val_move rfl) ?_
                        refine .q rfl rfl rfl (val_add rfl rfl (z := ((q.i + 1 : Nat) : Int)) (w64_of (by omega))) ?_
                        refine .q rfl rfl rfl (val_assign rfl) ?_
                        refine .nil ?_
                        intro act0 hact0; change Exists _
                        refine ⟨⟨q.i + 1, _⟩, Pick.kn (by repeat (first | exact Pick.nil | refine Pick.cons rfl ?_)) hact0, ⟨H34.sub (.cons .here (.cons .here (.cons .here .nil))), hr2, (by dsimp only; omega)⟩, (by dsimp only; omega)⟩
                    · refine .no rfl rfl rfl ?_
                      refine .no rfl rfl rfl ?_
                      refine .no rfl rfl rfl ?_
                      refine .no rfl rfl rfl ?_
                      refine .q rfl rfl rfl (val_pick_f rfl rfl) ?_
                      refine .nil (cj ?_)
                      refine .cond_f rfl ?_
                      refine .exit (cj ?_)
                      refine .plain rfl ?_
                      refine .q rfl rfl rfl (val_move rfl) ?_
                      refine .q rfl rfl rfl (val_add rfl rfl (z := ((q.i + 1 : Nat) : Int)) (w64_of (by omega))) ?_
                      refine .q rfl rfl rfl (val_assign rfl) ?_
                      refine .nil ?_
                      intro act0 hact0; change Exists _
                      refine ⟨⟨q.i + 1, _⟩, Pick.kn (by repeat (first | exact Pick.nil | refine Pick.cons rfl ?_)) hact0, ⟨H34.sub (.cons .here (.cons .here (.cons .here .nil))), hr2, (by dsimp only; omega)⟩, (by dsimp only; omega)⟩
                · refine .no rfl rfl rfl ?_
                  refine .no rfl rfl rfl ?_
                  refine .no rfl rfl rfl ?_
                  refine .no rfl rfl rfl ?_
                  refine .no rfl rfl rfl ?_
                  refine .no rfl rfl rfl ?_
                  refine .q rfl rfl rfl (val_pick_f rfl rfl) ?_
                  refine .q rfl rfl rfl (val_move rfl) ?_
                  refine .no rfl rfl rfl ?_
                  refine .no rfl rfl rfl ?_
                  refine .no rfl rfl rfl ?_
                  refine .no rfl rfl rfl ?_
                  refine .no rfl rfl rfl ?_
                  refine .no rfl rfl rfl ?_
                  refine .no rfl rfl rfl ?_
                  refine .no rfl rfl rfl ?_
                  refine .no rfl rfl rfl ?_
                  refine .q rfl rfl rfl (val_pick_f rfl rfl) ?_
                  refine .nil (cj ?_)
                  refine .cond_f rfl ?_
                  refine .skip (cj ?_)
                  refine .seq ?_
                  refine .plain rfl ?_
                  refine .q rfl rfl rfl (val_assign rfl) ?_
                  refine .nil (cj ?_)
                  refine .block ?_
                  refine .loop (ι := LQ) (fun x => [(1, .slice pA picks.length pc), (2, .slice sA stops.length sc), (3, ptr b1), (7, ptr br), (9, ptr bw), (10, i64 (q.i : Int)), (12, i64 (x.i : Int))]) (fun x w' => St w w' X [cb c, cp c, cr c, cs c, binsA c, arr pA (picks.flatMap encI), arr sA (stops.flatMap encI), stepsA] [robA cf br x.y.r x.y.g, wblk bw c x.y.q, blk b1 (encCf c) 26] ∧ Rel c x.y.r x.y.g x.y.q ∧ x.i ≤ 400) (fun x => 400 - x.i) ⟨0, _⟩ (by repeat (first | exact Pick.nil | refine Pick.cons rfl ?_)) ⟨H14.sub (.cons .here (.cons .here (.cons (.there .here) .nil))), (by assumption), Nat.zero_le _⟩ ?_
                  rintro x w6 ⟨H36, hr2, hx⟩
                  refine .seq ?_
                  refine .seq ?_
                  refine .plain rfl ?_
                  refine .q rfl rfl rfl (val_move rfl) ?_
                  refine .q rfl rfl rfl (val_lss rfl rfl rfl) ?_
                  refine .q rfl rfl rfl (val_move rfl) ?_
                  refine .case (t := 129) rfl (fun hs129 => ?_) (fun hs129 => ?_)
                  · refine .q rfl rfl rfl (val_move rfl) ?_
                    refine .q rfl rfl rfl (val_nilCheck rfl) ?_
                    refine .q rfl rfl rfl (val_fieldAddr rfl fa_50_6) ?_
                    refine .qs rfl rfl rfl H36 (ld_b rfl ob_4 (.own (.there .here)) rfl) ?_
                    refine .q rfl rfl rfl (val_pick_t rfl rfl) ?_
                    refine .nil (cj ?_)
                    refine .cond rfl (fun hc7 => ?_) (fun hc7 => ?_)
                    · have hk4 := of_decide_eq_true hs129
                      refine .skip (cj ?_)
                      refine .seq ?_
                      refine .block ?_
                      refine .seq ?_
                      refine .plain rfl ?_
                      refine .q rfl rfl rfl (val_move rfl) ?_
                      refine .q rfl rfl rfl (val_move rfl) ?_
                      refine .q rfl rfl rfl (val_mk (.cons rfl .nil) (mk_48_0 _)) ?_
                      refine .callx rfl rfl rfl en15 (.cons rfl (.cons rfl (.cons rfl .nil))) (do_spec c cf hsim hc hsm.may (hsm.may.sim hsim) br bw _ _ _ (by assumption) ⟨3, 0, te0⟩ (fun h => absurd h (show ¬ placeN 3 8 < 3 by decide))) H36 (.cons .here (.cons .here .nil)) (.ro .here (.ro (.there (.there (.there (.there (.there (.there (.there .here))))))) .nil)) (fun y37 w37 hr37 H37 => ⟨fun _ => trivial, ?_⟩)
                      refine .q rfl rfl rfl (val_not rfl rfl) ?_
                      refine .nil (cj ?_)
                      refine .cond_f rfl ?_
                      refine .skip (cj ?_)
                      refine .plain rfl ?_
                      refine .q rfl rfl rfl (val_move rfl) ?_
                      refine .q rfl rfl rfl (val_add rfl rfl (z := ((x.i + 1 : Nat) : Int)) (w64_of (by omega))) ?_
                      refine .q rfl rfl rfl (val_assign rfl) ?_
                      refine .nil ?_
                      intro act0 hact0; change Exists _
                      refine ⟨⟨x.i + 1, _⟩, Pick.kn (by repeat (first | exact Pick.nil | refine Pick.cons rfl ?_)) hact0, ⟨H37.sub (.cons .here (.cons .here (.cons .here .nil))), (by assumption), (by dsimp only; omega)⟩, (by dsimp only; omega)⟩
                    · refine .exit (cj ?_)
                      refine .plain rfl ?_
                      refine .q rfl rfl rfl (val_move rfl) ?_
                      refine .q rfl rfl rfl (val_add rfl rfl (z := ((q.i + 1 : Nat) : Int)) (w64_of (by omega))) ?_
                      refine .q rfl rfl rfl (val_assign rfl) ?_
                      refine .nil ?_
                      intro act0 hact0; change Exists _
                      refine ⟨⟨q.i + 1, _⟩, Pick.kn (by repeat (first | exact Pick.nil | refine Pick.cons rfl ?_)) hact0, ⟨H36.sub (.cons .here (.cons .here (.cons .here .nil))), hr2, (by dsimp only; omega)⟩, (by dsimp only; omega)⟩
                  · refine .no rfl rfl rfl ?_
                    refine .no rfl rfl rfl ?_
                    refine .no rfl rfl rfl ?_
                    refine .no rfl rfl rfl ?_
                    refine .q rfl rfl rfl (val_pick_f rfl rfl) ?_
                    refine .nil (cj ?_)
                    refine .cond_f rfl ?_
                    refine .exit (cj ?_)
                    refine .plain rfl ?_
                    refine .q rfl rfl rfl (val_move rfl) ?_
                    refine .q rfl rfl rfl (val_add rfl rfl (z := ((q.i + 1 : Nat) : Int)) (w64_of (by omega))) ?_
                    refine .q rfl rfl rfl (val_assign rfl) ?_
                    refine .nil ?_
                    intro act0 hact0; change Exists _
                    refine ⟨⟨q.i + 1, _⟩, Pick.kn (by repeat (first | exact Pick.nil | refine Pick.cons rfl ?_)) hact0, ⟨H36.sub (.cons .here (.cons .here (.cons .here .nil))), hr2, (by dsimp only; omega)⟩, (by dsimp only; omega)⟩
            · refine .alloc rfl rfl rfl ze_44 rfl H9 (fun w38 b38 H38 => ⟨fun _ => (H38.sub (.cons (.there .here) (.cons (.there .here) (.cons (.there .here) .nil)))), ?_⟩)
              refine .callx rfl rfl rfl en14 (.cons rfl (.cons rfl (.cons rfl (.cons rfl .nil)))) (gos_spec c hc hsm.may.num bw _ _ _) H38 .nil (.ro .here (.own (.there (.there .here)) .nil)) (fun t9 w39 ht9 H39 => ⟨fun _ => (H39.sub (.cons (.there .here) (.cons (.there .here) (.cons (.there .here) .nil)))), ?_⟩)
              refine .store rfl rfl rfl rfl rfl sz_44 rfl H39 .here (.here (.cons (.cons (.cons (.cons (.cons (.cons (.cons (.cons (.cons (.cons (.cons (.cons (.cons (.cons (.cons (.cons (.cons (.cons (.cons .nil)))))))))))))))))))) (fun w40 H40 => ⟨fun h => absurd h (by decide), ?_⟩)
              refine .nil (cj ?_)
              refine .seq ?_
              refine .seq ?_
              refine .plain rfl ?_
              refine .q rfl rfl rfl (val_move rfl) ?_
              refine .q rfl rfl rfl (val_move rfl) ?_
              refine .qs rfl rfl rfl H40 (ld_w rfl ag_44 (.own .here) rfl) ?_
              refine .q rfl rfl rfl (val_mk (.cons rfl .nil) (mk_48_2 _ _ _ _ _ _ _ _ _ _ _ _ _ _ _ _ _ _ _)) ?_
              refine .callx rfl rfl rfl en15 (.cons rfl (.cons rfl (.cons rfl .nil))) (do_spec c cf hsim hc hsm.may (hsm.may.sim hsim) br bw _ _ _ (by assumption) ⟨0, 0, t9⟩ (fun _ => ht9)) H40 (.cons (.there .here) (.cons (.there .here) .nil)) (.ro .here (.ro (.there (.there (.there (.there (.there (.there (.there .here))))))) .nil)) (fun y41 w41 hr41 H41 => ⟨fun _ => trivial, ?_⟩)
              refine .q rfl rfl rfl (val_not rfl rfl) ?_
              refine .q rfl rfl rfl (val_move rfl) ?_
              refine .q rfl rfl rfl (val_move rfl) ?_
              refine .q rfl rfl rfl (val_move rfl) ?_
              refine .qs rfl rfl rfl H41 (ld_w rfl ag_44 (.own (.there (.there .here))) rfl) ?_
              refine .q rfl rfl rfl (val_mk (.cons rfl .nil) (mk_48_2 _ _ _ _ _ _ _ _ _ _ _ _ _ _ _ _ _ _ _)) ?_
              refine .callx rfl rfl rfl en15 (.cons rfl (.cons rfl (.cons rfl .nil))) (do_spec c cf hsim hc hsm.may (hsm.may.sim hsim) br bw _ _ _ (by assumption) ⟨0, 0, t9⟩ (fun _ => ht9)) H41 (.cons .here (.cons .here .nil)) (.ro .here (.ro (.there (.there (.there (.there (.there (.there (.there .here))))))) .nil)) (fun y42 w42 hr42 H42 => ⟨fun _ => trivial, ?_⟩)
              refine .q rfl rfl rfl (val_not rfl rfl) ?_
              refine .q rfl rfl rfl (val_pick_f rfl rfl) ?_
              refine .nil (cj ?_)
              refine .cond_f rfl ?_
              refine .skip (cj ?_)
              refine .seq ?_
              refine .seq ?_
              refine .plain rfl ?_
              refine .q rfl rfl rfl (val_move rfl) ?_
              refine .q rfl rfl rfl (val_move rfl) ?_
              refine .q rfl rfl rfl (val_len Tryz.underlying27 rfl) ?_
              refine .q rfl rfl rfl (val_lss rfl rfl rfl) ?_
              refine .q rfl rfl rfl (val_move rfl) ?_
              refine .case (t := 73) rfl (fun hs73 => ?_) (fun hs73 => ?_)
              · refine .q rfl rfl rfl (val_move rfl) ?_
                refine .q rfl rfl rfl (val_move rfl) ?_
                have hjl : q.i < stops.length := by have h9 := of_decide_eq_true hs73; omega
                obtain ⟨z8, hz8⟩ : ∃ z, stops[q.i]? = some z := ⟨_, List.getElem?_eq_getElem hjl⟩
                obtain ⟨b8, o8, hSA⟩ := Has.base (.ro (.there (.there (.there (.there (.there (.there .here))))))) H42 (nil_of_flat encI_len (by decide) hjl)
                refine .q rfl rfl rfl (val_ix el_27 hSA rfl rfl rfl hjl) ?_
                refine .qs rfl rfl rfl H42 (ld_el rfl ob_3 .base hSA (.ro (.there (.there (.there (.there (.there (.there .here))))))) encI_len (by first | assumption | rfl) rfl) ?_
                refine .q rfl rfl rfl (val_rem rfl rfl (by decide) rfl) ?_
                refine .q rfl rfl rfl (val_eql rfl rfl rfl) ?_
                refine .q rfl rfl rfl (val_pick_t rfl rfl) ?_
                refine .nil (cj ?_)
                refine .cond rfl (fun hc4 => ?_) (fun hc4 => ?_)
                · refine .seq ?_
                  refine .plain rfl ?_
                  refine .q rfl rfl rfl (val_move rfl) ?_
                  refine .q rfl rfl rfl (val_move rfl) ?_
                  refine .q rfl rfl rfl (val_move rfl) ?_
                  refine .q rfl rfl rfl (val_move rfl) ?_
                  refine .q rfl rfl rfl (val_ix el_27 hSA rfl rfl rfl hjl) ?_
                  refine .qs rfl rfl rfl H42 (ld_el rfl ob_3 .base hSA (.ro (.there (.there (.there (.there (.there (.there .here))))))) encI_len (by first | assumption | rfl) rfl) ?_
                  obtain ⟨d9, hd9⟩ : ∃ d, w64 (z8.tdiv 3) = d := ⟨_, rfl⟩
                  refine .q rfl rfl rfl (val_quo rfl rfl (by decide) hd9) ?_
                  refine .q rfl rfl rfl (val_mk (.cons rfl (.cons rfl .nil)) (mk_48_0_1 _ _)) ?_
                  refine .callx rfl rfl rfl en15 (.cons rfl (.cons rfl (.cons rfl .nil))) (do_spec c cf hsim hc hsm.may (hsm.may.sim hsim) br bw _ _ _ (by assumption) ⟨3, d9, te0⟩ (fun h => absurd h (show ¬ placeN 3 8 < 3 by decide))) H42 (.cons .here (.cons .here .nil)) (.ro .here (.ro (.there (.there (.there (.there (.there (.there (.there .here))))))) .nil)) (fun y8 w43 hr8 H43 => ⟨fun _ => trivial, ?_⟩)
                  refine .q rfl rfl rfl (val_not rfl rfl) ?_
                  refine .q rfl rfl rfl (val_move rfl) ?_
                  refine .q rfl rfl rfl (val_move rfl) ?_
                  refine .q rfl rfl rfl (val_move rfl) ?_
                  refine .q rfl rfl rfl (val_move rfl) ?_
                  refine .q rfl rfl rfl (val_nilCheck rfl) ?_
                  refine .q rfl rfl rfl (val_fieldAddr rfl fa_50_4) ?_
                  refine .qs rfl rfl rfl H43 (ld_b rfl ob_3 (.own (.there .here)) rfl) ?_
                  obtain ⟨e9, he9⟩ : ∃ e, w64 (y8.q.epoch + 1) = e := ⟨_, rfl⟩
                  refine .q rfl rfl rfl (val_add rfl rfl he9) ?_
                  refine .q rfl rfl rfl (val_mk (.cons rfl (.cons rfl .nil)) (mk_44_0_2 _ _)) ?_
                  refine .q rfl rfl rfl (val_mk (.cons rfl .nil) (mk_48_2 _ _ _ _ _ _ _ _ _ _ _ _ _ _ _ _ _ _ _)) ?_
                  refine .callx rfl rfl rfl en15 (.cons rfl (.cons rfl (.cons rfl .nil))) (do_spec c cf hsim hc hsm.may (hsm.may.sim hsim) br bw _ _ _ (by assumption) ⟨0, 0, ⟨2, 0, e9, 0, mv0, ps0, 0⟩⟩ (fun _ h => absurd h (show ¬ (2 : Int) = 1 by decide))) H43 (.cons .here (.cons .here .nil)) (.ro .here (.ro (.there (.there (.there (.there (.there (.there (.there .here))))))) .nil)) (fun y44 w44 hr44 H44 => ⟨fun _ => trivial, ?_⟩)
                  refine .q rfl rfl rfl (val_not rfl rfl) ?_
                  refine .q rfl rfl rfl (val_pick_f rfl rfl) ?_
                  refine .nil (cj ?_)
                  refine .cond_f rfl ?_
                  refine .skip (cj ?_)
                  refine .seq ?_
                  refine .seq ?_
                  refine .plain rfl ?_
                  refine .q rfl rfl rfl (val_move rfl) ?_
                  refine .q rfl rfl rfl (val_move rfl) ?_
                  refine .q rfl rfl rfl (val_len Tryz.underlying27 rfl) ?_
                  refine .q rfl rfl rfl (val_lss rfl rfl rfl) ?_
                  refine .q rfl rfl rfl (val_move rfl) ?_
                  refine .case (t := 108) rfl (fun hs108 => ?_) (fun hs108 => ?_)
                  · refine .q rfl rfl rfl (val_move rfl) ?_
                    refine .q rfl rfl rfl (val_move rfl) ?_
                    have hjl : q.i < stops.length := by have h9 := of_decide_eq_true hs108; omega
                    obtain ⟨z8, hz8⟩ : ∃ z, stops[q.i]? = some z := ⟨_, List.getElem?_eq_getElem hjl⟩
                    obtain ⟨b8, o8, hSA⟩ := Has.base (.ro (.there (.there (.there (.there (.there (.there .here))))))) H44 (nil_of_flat encI_len (by decide) hjl)
                    refine .q rfl rfl rfl (val_ix el_27 hSA rfl rfl rfl hjl) ?_
                    refine .qs rfl rfl rfl H44 (ld_el rfl ob_3 .base hSA (.ro (.there (.there (.there (.there (.there (.there .here))))))) encI_len (by first | assumption | rfl) rfl) ?_
                    refine .q rfl rfl rfl (val_rem rfl rfl (by decide) rfl) ?_
                    refine .q rfl rfl rfl (val_eql rfl rfl rfl) ?_
                    refine .q rfl rfl rfl (val_pick_t rfl rfl) ?_
                    refine .q rfl rfl rfl (val_move rfl) ?_
                    refine .case (t := 116) rfl (fun hs116 => ?_) (fun hs116 => ?_)
                    · refine .q rfl rfl rfl (val_move rfl) ?_
                      refine .q rfl rfl rfl (val_move rfl) ?_
                      refine .q rfl rfl rfl (val_move rfl) ?_
                      refine .q rfl rfl rfl (val_move rfl) ?_
                      refine .q rfl rfl rfl (val_ix el_27 hSA rfl rfl rfl hjl) ?_
                      refine .qs rfl rfl rfl H44 (ld_el rfl ob_3 .base hSA (.ro (.there (.there (.there (.there (.there (.there .here))))))) encI_len (by first | assumption | rfl) rfl) ?_
                      refine .q rfl rfl rfl (val_mk (.cons rfl (.cons rfl .nil)) (mk_48_0_1 _ _)) ?_
                      refine .callx rfl rfl rfl en15 (.cons rfl (.cons rfl (.cons rfl .nil))) (do_spec c cf hsim hc hsm.may (hsm.may.sim hsim) br bw _ _ _ (by assumption) ⟨6, z8, te0⟩ (fun h => absurd h (show ¬ placeN 6 8 < 3 by decide))) H44 (.cons .here (.cons .here .nil)) (.ro .here (.ro (.there (.there (.there (.there (.there (.there (.there .here))))))) .nil)) (fun y45 w45 hr45 H45 => ⟨fun _ => trivial, ?_⟩)
                      refine .q rfl rfl rfl (val_not rfl rfl) ?_
                      refine .q rfl rfl rfl (val_pick_t rfl rfl) ?_
                      refine .nil (cj ?_)
                      refine .cond_f rfl ?_
                      refine .skip (cj ?_)
                      refine .seq ?_
                      refine .plain rfl ?_
                      refine .q rfl rfl rfl (val_assign rfl) ?_
                      refine .nil (cj ?_)
                      refine .block ?_
                      refine .loop (ι := LQ) (fun x => [(1, .slice pA picks.length pc), (2, .slice sA stops.length sc), (3, ptr b1), (7, ptr br), (9, ptr bw), (10, i64 (q.i : Int)), (12, i64 (x.i : Int))]) (fun x w' => St w w' X [cb c, cp c, cr c, cs c, binsA c, arr pA (picks.flatMap encI), arr sA (stops.flatMap encI), stepsA] [robA cf br x.y.r x.y.g, wblk bw c x.y.q, blk b1 (encCf c) 26] ∧ Rel c x.y.r x.y.g x.y.q ∧ x.i ≤ 400) (fun x => 400 - x.i) ⟨0, _⟩ (by repeat (first | exact Pick.nil | refine Pick.cons rfl ?_)) ⟨H45.sub (.cons .here (.cons .here (.cons (.there .here) .nil))), (by assumption), Nat.zero_le _⟩ ?_
                      rintro x w6 ⟨H46, hr2, hx⟩
                      refine .seq ?_
                      refine .seq ?_
                      refine .plain rfl ?_
                      refine .q rfl rfl rfl (val_move rfl) ?_
                      refine .q rfl rfl rfl (val_lss rfl rfl rfl) ?_
                      refine .q rfl rfl rfl (val_move rfl) ?_
                      refine .case (t := 129) rfl (fun hs129 => ?_) (fun hs129 => ?_)
                      · refine .q rfl rfl rfl (val_move rfl) ?_
                        refine .q rfl rfl rfl (val_nilCheck rfl) ?_
                        refine .q rfl rfl rfl (val_fieldAddr rfl fa_50_6) ?_
                        refine .qs rfl rfl rfl H46 (ld_b rfl ob_4 (.own (.there .here)) rfl) ?_
                        refine .q rfl rfl rfl (val_pick_t rfl rfl) ?_
                        refine .nil (cj ?_)
                        refine .cond rfl (fun hc7 => ?_) (fun hc7 => ?_)
                        · have hk4 := of_decide_eq_true hs129
                          refine .skip (cj ?_)
                          refine .seq ?_
                          refine .block ?_
                          refine .seq ?_
                          refine .plain rfl ?_
                          refine .q rfl rfl rfl (val_move rfl) ?_
                          refine .q rfl rfl rfl (val_move rfl) ?_
                          refine .q rfl rfl rfl (val_mk (.cons rfl .nil) (mk_48_0 _)) ?_
                          refine .callx rfl rfl rfl en15 (.cons rfl (.cons rfl (.cons rfl .nil))) (do_spec c cf hsim hc hsm.may (hsm.may.sim hsim) br bw _ _ _ (by assumption) ⟨3, 0, te0⟩ (fun h => absurd h (show ¬ placeN 3 8 < 3 by decide))) H46 (.cons .here (.cons .here .nil)) (.ro .here (.ro (.there (.there (.there (.there (.there (.there (.there .here))))))) .nil)) (fun y47 w47 hr47 H47 => ⟨fun _ => trivial, ?_⟩)
                          refine .q rfl rfl rfl (val_not rfl rfl) ?_
                          refine .nil (cj ?_)
                          refine .cond_f rfl ?_
                          refine .skip (cj ?_)
                          refine .plain rfl ?_
                          refine .q rfl rfl rfl (val_move rfl) ?_
                          refine .q rfl rfl rfl (val_add rfl rfl (z := ((x.i + 1 : Nat) : Int)) (w64_of (by omega))) ?_
                          refine .q rfl rfl rfl (val_assign rfl) ?_
                          refine .nil ?_
                          intro act0 hact0; change Exists _
                          refine ⟨⟨x.i + 1, _⟩, Pick.kn (by repeat (first | exact Pick.nil | refine Pick.cons rfl ?_)) hact0, ⟨H47.sub (.cons .here (.cons .here (.cons .here .nil))), (by assumption), (by dsimp only; omega)⟩, (by dsimp only; omega)⟩
                        · refine .exit (cj ?_)
                          refine .plain rfl ?_
                          refine .q rfl rfl rfl (val_move rfl) ?_
                          refine .q rfl rfl rfl (val_add rfl rfl (z := ((q.i + 1 : Nat) : Int)) (w64_of (by omega))) ?_
                          refine .q rfl rfl rfl (val_assign rfl) ?_
                          refine .nil ?_
                          intro act0 hact0; change Exists _
                          refine ⟨⟨q.i + 1, _⟩, Pick.kn (by repeat (first | exact Pick.nil | refine Pick.cons rfl ?_)) hact0, ⟨H46.sub (.cons .here (.cons .here (.cons .here .nil))), hr2, (by dsimp only; omega)⟩, (by dsimp only; omega)⟩
                      · refine .no rfl rfl rfl ?_
                        refine .no rfl rfl rfl ?_
                        refine .no rfl rfl rfl ?_
                        refine .no rfl rfl rfl ?_
                        refine .q rfl rfl rfl (val_pick_f rfl rfl) ?_
                        refine .nil (cj ?_)
                        refine .cond_f rfl ?_
                        refine .exit (cj ?_)
                        refine .plain rfl ?_
                        refine .q rfl rfl rfl (val_move rfl) ?_
                        refine .q rfl rfl rfl (val_add rfl rfl (z := ((q.i + 1 : Nat) : Int)) (w64_of (by omega))) ?_
                        refine .q rfl rfl rfl (val_assign rfl) ?_
                        refine .nil ?_
                        intro act0 hact0; change Exists _
                        refine ⟨⟨q.i + 1, _⟩, Pick.kn (by repeat (first | exact Pick.nil | refine Pick.cons rfl ?_)) hact0, ⟨H46.sub (.cons .here (.cons .here (.cons .here .nil))), hr2, (by dsimp only; omega)⟩, (by dsimp only; omega)⟩
                    · refine .no rfl rfl rfl ?_
                      refine .no rfl rfl rfl ?_
                      refine .no rfl rfl rfl ?_
                      refine .no rfl rfl rfl ?_
                      refine .no rfl rfl rfl ?_
                      refine .no rfl rfl rfl ?_
                      refine .no rfl rfl rfl ?_
                      refine .no rfl rfl rfl ?_
                      refine .no rfl rfl rfl ?_
                      refine .q rfl rfl rfl (val_pick_f rfl rfl) ?_
                      refine .nil (cj ?_)
                      refine .cond_f rfl ?_
                      refine .skip (cj ?_)
                      refine .seq ?_
                      refine .plain rfl ?_
                      refine .q rfl rfl rfl (val_assign rfl) ?_
                      refine .nil (cj ?_)
                      refine .block ?_
                      refine .loop (ι := LQ) (fun x => [(1, .slice pA picks.length pc), (2, .slice sA stops.length sc), (3, ptr b1), (7, ptr br), (9, ptr bw), (10, i64 (q.i : Int)), (12, i64 (x.i : Int))]) (fun x w' => St w w' X [cb c, cp c, cr c, cs c, binsA c, arr pA (picks.flatMap encI), arr sA (stops.flatMap encI), stepsA] [robA cf br x.y.r x.y.g, wblk bw c x.y.q, blk b1 (encCf c) 26] ∧ Rel c x.y.r x.y.g x.y.q ∧ x.i ≤ 400) (fun x => 400 - x.i) ⟨0, _⟩ (by repeat (first | exact Pick.nil | refine Pick.cons rfl ?_)) ⟨H44.sub (.cons .here (.cons .here (.cons (.there .here) .nil))), (by assumption), Nat.zero_le _⟩ ?_
                      rintro x w6 ⟨H48, hr2, hx⟩
                      refine .seq ?_
                      refine .seq ?_
                      refine .plain rfl ?_
                      refine .q rfl rfl rfl (val_move rfl) ?_
                      refine .q rfl rfl rfl (val_lss rfl rfl rfl) ?_
                      refine .q rfl rfl rfl (val_move rfl) ?_
                      refine .case (t := 129) rfl (fun hs129 => ?_) (fun hs129 => ?_)
                      · refine .q rfl rfl rfl (val_move rfl) ?_
                        refine .q rfl rfl rfl (val_nilCheck rfl) ?_
                        refine .q rfl rfl rfl (val_fieldAddr rfl fa_50_6) ?_
                        refine .qs rfl rfl rfl H48 (ld_b rfl ob_4 (.own (.there .here)) rfl) ?_
                        refine .q rfl rfl rfl (val_pick_t rfl rfl) ?_
                        refine .nil (cj ?_)
                        refine .cond rfl (fun hc7 => ?_) (fun hc7 => ?_)
                        · have hk4 := of_decide_eq_true hs129
                          refine .skip (cj ?_)
                          refine .seq ?_
                          refine .block ?_
                          refine .seq ?_
                          refine .plain rfl ?_
                          refine .q rfl rfl rfl (val_move rfl) ?_
                          refine .q rfl rfl rfl (val_move rfl) ?_
                          refine .q rfl rfl rfl (val_mk (.cons rfl .nil) (mk_48_0 _)) ?_
                          refine .callx rfl rfl rfl en15 (.cons rfl (.cons rfl (.cons rfl .nil))) (do_spec c cf hsim hc hsm.may (hsm.may.sim hsim) br bw _ _ _ (by assumption) ⟨3, 0, te0⟩ (fun h => absurd h (show ¬ placeN 3 8 < 3 by decide))) H48 (.cons .here (.cons .here .nil)) (.ro .here (.ro (.there (.there (.there (.there (.there (.there (.there .here))))))) .nil)) (fun y49 w49 hr49 H49 => ⟨fun _ => trivial, ?_⟩)
                          refine .q rfl rfl rfl (val_not rfl rfl) ?_
                          refine .nil (cj ?_)
                          refine .cond_f rfl ?_
                          refine .skip (cj ?_)
                          refine .plain rfl ?_
                          refine .q rfl rfl rfl (val_move rfl) ?_
                          refine .q rfl rfl rfl (val_add rfl rfl (z := ((x.i + 1 : Nat) : Int)) (w64_of (by omega))) ?_
                          refine .q rfl rfl rfl (val_assign rfl) ?_
                          refine .nil ?_
                          intro act0 hact0; change Exists _
                          refine ⟨⟨x.i + 1, _⟩, Pick.kn (by repeat (first | exact Pick.nil | refine Pick.cons rfl ?_)) hact0, ⟨H49.sub (.cons .here (.cons .here (.cons .here .nil))), (by assumption), (by dsimp only; omega)⟩, (by dsimp only; omega)⟩
                        · refine .exit (cj ?_)
                          refine .plain rfl ?_
                          refine .q rfl rfl rfl (val_move rfl) ?_
                          refine .q rfl rfl rfl (val_add rfl rfl (z := ((q.i + 1 : Nat) : Int)) (w64_of (by omega))) ?_
                          refine .q rfl rfl rfl (val_assign rfl) ?_
                          refine .nil ?_
                          intro act0 hact0; change Exists _
                          refine ⟨⟨q.i + 1, _⟩, Pick.kn (by repeat (first | exact Pick.nil | refine Pick.cons rfl ?_)) hact0, ⟨H48.sub (.cons .here (.cons .here (.cons .here .nil))), hr2, (by dsimp only; omega)⟩, (by dsimp only; omega)⟩
                      · refine .no rfl rfl rfl ?_
                        refine .no rfl rfl rfl ?_
                        refine .no rfl rfl rfl ?_
                        refine .no rfl rfl rfl ?_
                        refine .q rfl rfl rfl (val_pick_f rfl rfl) ?_
                        refine .nil (cj ?_)
                        refine .cond_f rfl ?_
                        refine .exit (cj ?_)
                        refine .plain rfl ?_
                        refine .q rfl rfl rfl (val_move rfl) ?_
                        refine .q rfl rfl rfl (val_add rfl rfl (z := ((q.i + 1 : Nat) : Int)) (w64_of (by omega))) ?_
                        refine .q rfl rfl rfl (val_assign rfl) ?_
                        refine .nil ?_
                        intro act0 hact0; change Exists _
                        refine ⟨⟨q.i + 1, _⟩, Pick.kn (by repeat (first | exact Pick.nil | refine Pick.cons rfl ?_)) hact0, ⟨H48.sub (.cons .here (.cons .here (.cons .here .nil))), hr2, (by dsimp only; omega)⟩, (by dsimp only; omega)⟩
                  · refine .no rfl rfl rfl ?_
                    refine .no rfl rfl rfl ?_
                    refine .no rfl rfl rfl ?_
                    refine .no rfl rfl rfl ?_
                    refine .no rfl rfl rfl ?_
                    refine .no rfl rfl rfl ?_
                    refine .q rfl rfl rfl (val_pick_f rfl rfl) ?_
                    refine .q rfl rfl rfl (val_move rfl) ?_
                    refine .no rfl rfl rfl ?_
                    refine .no rfl rfl rfl ?_
                    refine .no rfl rfl rfl ?_
                    refine .no rfl rfl rfl ?_
                    refine .no rfl rfl rfl ?_
                    refine .no rfl rfl rfl ?_
                    refine .no rfl rfl rfl ?_
                    refine .no rfl rfl rfl ?_
                    refine .no rfl rfl rfl ?_
                    refine .q rfl rfl rfl (val_pick_f rfl rfl) ?_
                    refine .nil (cj ?_)
                    refine .cond_f rfl ?_
                    refine .skip (cj ?_)
                    refine .seq ?_
                    refine .plain rfl ?_
                    refine .q rfl rfl rfl (val_assign rfl) ?_
                    refine .nil (cj ?_)
                    refine .block ?_
                    refine .loop (ι := LQ) (fun x => [(1, .slice pA picks.length pc), (2, .slice sA stops.length sc), (3, ptr b1), (7, ptr br), (9, ptr bw), (10, i64 (q.i : Int)), (12, i64 (x.i : Int))]) (fun x w' => St w w' X [cb c, cp c, cr c, cs c, binsA c, arr pA (picks.flatMap encI), arr sA (stops.flatMap encI), stepsA] [robA cf br x.y.r x.y.g, wblk bw c x.y.q, blk b1 (encCf c) 26] ∧ Rel c x.y.r x.y.g x.y.q ∧ x.i ≤ 400) (fun x => 400 - x.i) ⟨0, _⟩ (by repeat (first | exact Pick.nil | refine Pick.cons rfl ?_)) ⟨H44.sub (.cons .here (.cons .here (.cons (.there .here) .nil))), (by assumption), Nat.zero_le _⟩ ?_
                    rintro x w6 ⟨H50, hr2, hx⟩
                    refine .seq ?_
                    refine .seq ?_
                    refine .plain rfl ?_
                    refine .q rfl rfl rfl (val_move rfl) ?_
                    refine .q rfl rfl rfl (val_lss rfl rfl rfl) ?_
                    refine .q rfl rfl rfl (val_move rfl) ?_
                    refine .case (t := 129) rfl (fun hs129 => ?_) (fun hs129 => ?_)
                    · refine .q rfl rfl rfl (val_move rfl) ?_
                      refine .q rfl rfl rfl (val_nilCheck rfl) ?_
                      refine .q rfl rfl rfl (val_fieldAddr rfl fa_50_6) ?_
                      refine .qs rfl rfl rfl H50 (ld_b rfl ob_4 (.own (.there .here)) rfl) ?_
                      refine .q rfl rfl rfl (val_pick_t rfl rfl) ?_
                      refine .nil (cj ?_)
                      refine .cond rfl (fun hc7 => ?_) (fun hc7 => ?_)
                      · have hk4 := of_decide_eq_true hs129
                        refine .skip (cj ?_)
                        refine .seq ?_
                        refine .block ?_
                        refine .seq ?_
                        refine .plain rfl ?_
                        refine .q rfl rfl rfl (val_move rfl) ?_
                        refine .q rfl rfl rfl (val_move rfl) ?_
                        refine .q rfl rfl rfl (val_mk (.cons rfl .nil) (mk_48_0 _)) ?_
                        refine .callx rfl rfl rfl en15 (.cons rfl (.cons rfl (.cons rfl .nil))) (do_spec c cf hsim hc hsm.may (hsm.may.sim hsim) br bw _ _ _ (by assumption) ⟨3, 0, te0⟩ (fun h => absurd h (show ¬ placeN 3 8 < 3 by decide))) H50 (.cons .here (.cons .here .nil)) (.ro .here (.ro (.there (.there (.there (.there (.there (.there (.there .here))))))) .nil)) (fun y51 w51 hr51 H51 => ⟨fun _ => trivial, ?_⟩)
                        refine .q rfl rfl rfl (val_not rfl rfl) ?_
                        refine .nil (cj ?_)
                        refine .cond_f rfl ?_
                        refine .skip (cj ?_)
                        refine .plain rfl ?_
                        refine .q rfl rfl rfl (val_move rfl) ?_
                        refine .q rfl rfl rfl (val_add rfl rfl (z := ((x.i + 1 : Nat) : Int)) (w64_of (by omega))) ?_
                        refine .q rfl rfl rfl (val_assign rfl) ?_
                        refine .nil ?_
                        intro act0 hact0; change Exists _
                        refine ⟨⟨x.i + 1, _⟩, Pick.kn (by repeat (first | exact Pick.nil | refine Pick.cons rfl ?_)) hact0, ⟨H51.sub (.cons .here (.cons .here (.cons .here .nil))), (by assumption), (by dsimp only; omega)⟩, (by dsimp only; omega)⟩
                      · refine .exit (cj ?_)
                        refine .plain rfl ?_
                        refine .q rfl rfl rfl (val_move rfl) ?_
                        refine .q rfl rfl rfl (val_add rfl rfl (z := ((q.i + 1 : Nat) : Int)) (w64_of (by omega))) ?_
                        refine .q rfl rfl rfl (val_assign rfl) ?_
                        refine .nil ?_
                        intro act0 hact0; change Exists _
                        refine ⟨⟨q.i + 1, _⟩, Pick.kn (by repeat (first | exact Pick.nil | refine Pick.cons rfl ?_)) hact0, ⟨H50.sub (.cons .here (.cons .here (.cons .here .nil))), hr2, (by dsimp only; omega)⟩, (by dsimp only; omega)⟩
                    · refine .no rfl rfl rfl ?_
                      refine .no rfl rfl rfl ?_
                      refine .no rfl rfl rfl ?_
                      refine .no rfl rfl rfl ?_
                      refine .q rfl rfl rfl (val_pick_f rfl rfl) ?_
                      refine .nil (cj ?_)
                      refine .cond_f rfl ?_
                      refine .exit (cj ?_)
                      refine .plain rfl ?_
                      refine .q rfl rfl rfl (val_move rfl) ?_
                      refine .q rfl rfl rfl (val_add rfl rfl (z := ((q.i + 1 : Nat) : Int)) (w64_of (by omega))) ?_
                      refine .q rfl rfl rfl (val_assign rfl) ?_
                      refine .nil ?_
                      intro act0 hact0; change Exists _
                      refine ⟨⟨q.i + 1, _⟩, Pick.kn (by repeat (first | exact Pick.nil | refine Pick.cons rfl ?_)) hact0, ⟨H50.sub (.cons .here (.cons .here (.cons .here .nil))), hr2, (by dsimp only; omega)⟩, (by dsimp only; omega)⟩
                · refine .skip (cj ?_)
                  refine .seq ?_
                  refine .seq ?_
                  refine .plain rfl ?_
                  refine .q rfl rfl rfl (val_move rfl) ?_
                  refine .q rfl rfl rfl (val_move rfl) ?_
                  refine .q rfl rfl rfl (val_len Tryz.underlying27 rfl) ?_
                  refine .q rfl rfl rfl (val_lss rfl rfl rfl) ?_
                  refine .q rfl rfl rfl (val_move rfl) ?_
                  refine .case (t := 108) rfl (fun hs108 => ?_) (fun hs108 => ?_)
                  · refine .q rfl rfl rfl (val_move rfl) ?_
                    refine .q rfl rfl rfl (val_move rfl) ?_
                    have hjl : q.i < stops.length := by have h9 := of_decide_eq_true hs108; omega
                    obtain ⟨z8, hz8⟩ : ∃ z, stops[q.i]? = some z := ⟨_, List.getElem?_eq_getElem hjl⟩
                    obtain ⟨b8, o8, hSA⟩ := Has.base (.ro (.there (.there (.there (.there (.there (.there .here))))))) H42 (nil_of_flat encI_len (by decide) hjl)
                    refine .q rfl rfl rfl (val_ix el_27 hSA rfl rfl rfl hjl) ?_
                    refine .qs rfl rfl rfl H42 (ld_el rfl ob_3 .base hSA (.ro (.there (.there (.there (.there (.there (.there .here))))))) encI_len (by first | assumption | rfl) rfl) ?_
                    refine .q rfl rfl rfl (val_rem rfl rfl (by decide) rfl) ?_
                    refine .q rfl rfl rfl (val_eql rfl rfl rfl) ?_
                    refine .q rfl rfl rfl (val_pick_t rfl rfl) ?_
                    refine .q rfl rfl rfl (val_move rfl) ?_
                    refine .case (t := 116) rfl (fun hs116 => ?_) (fun hs116 => ?_)
                    · refine .q rfl rfl rfl (val_move rfl) ?_
                      refine .q rfl rfl rfl (val_move rfl) ?_
                      refine .q rfl rfl rfl (val_move rfl) ?_
                      refine .q rfl rfl rfl (val_move rfl) ?_
                      refine .q rfl rfl rfl (val_ix el_27 hSA rfl rfl rfl hjl) ?_
                      refine .qs rfl rfl rfl H42 (ld_el rfl ob_3 .base hSA (.ro (.there (.there (.there (.there (.there (.there .here))))))) encI_len (by first | assumption | rfl) rfl) ?_
                      refine .q rfl rfl rfl (val_mk (.cons rfl (.cons rfl .nil)) (mk_48_0_1 _ _)) ?_
                      refine .callx rfl rfl rfl en15 (.cons rfl (.cons rfl (.cons rfl .nil))) (do_spec c cf hsim hc hsm.may (hsm.may.sim hsim) br bw _ _ _ (by assumption) ⟨6, z8, te0⟩ (fun h => absurd h (show ¬ placeN 6 8 < 3 by decide))) H42 (.cons .here (.cons .here .nil)) (.ro .here (.ro (.there (.there (.there (.there (.there (.there (.there .here))))))) .nil)) (fun y52 w52 hr52 H52 => ⟨fun _ => trivial, ?_⟩)
                      refine .q rfl rfl rfl (val_not rfl rfl) ?_
                      refine .q rfl rfl rfl (val_pick_t rfl rfl) ?_
                      refine .nil (cj ?_)
                      refine .cond_f rfl ?_
                      refine .skip (cj ?_)
                      refine .seq ?_
                      refine .plain rfl ?_
                      refine .q rfl rfl rfl (val_assign rfl) ?_
                      refine .nil (cj ?_)
                      refine .block ?_
                      refine .loop (ι := LQ) (fun x => [(1, .slice pA picks.length pc), (2, .slice sA stops.length sc), (3, ptr b1), (7, ptr br), (9, ptr bw), (10, i64 (q.i : Int)), (12, i64 (x.i : Int))]) (fun x w' => St w w' X [cb c, cp c, cr c, cs c, binsA c, arr pA (picks.flatMap encI), arr sA (stops.flatMap encI), stepsA] [robA cf br x.y.r x.y.g, wblk bw c x.y.q, blk b1 (encCf c) 26] ∧ Rel c x.y.r x.y.g x.y.q ∧ x.i ≤ 400) (fun x => 400 - x.i) ⟨0, _⟩ (by repeat (first | exact Pick.nil | refine Pick.cons rfl ?_)) ⟨H52.sub (.cons .here (.cons .here (.cons (.there .here) .nil))), (by assumption), Nat.zero_le _⟩ ?_
                      rintro x w6 ⟨H53, hr2, hx⟩
                      refine .seq ?_
                      refine .seq ?_
                      refine .plain rfl ?_
                      refine .q rfl rfl rfl (val_move rfl) ?_
                      refine .q rfl rfl rfl (val_lss rfl rfl rfl) ?_
                      refine .q rfl rfl rfl (val_move rfl) ?_
                      refine .case (t := 129) rfl (fun hs129 => ?_) (fun hs129 => ?_)
                      · refine .q rfl rfl rfl (val_move rfl) ?_
                        refine .q rfl rfl rfl (val_nilCheck rfl) ?_
                        refine .q rfl rfl rfl (val_fieldAddr rfl fa_50_6) ?_
                        refine .qs rfl rfl rfl H53 (ld_b rfl ob_4 (.own (.there .here)) rfl) ?_
                        refine .q rfl rfl rfl (val_pick_t rfl rfl) ?_
                        refine .nil (cj ?_)
                        refine .cond rfl (fun hc7 => ?_) (fun hc7 => ?_)
                        · have hk4 := of_decide_eq_true hs129
                          refine .skip (cj ?_)
                          refine .seq ?_
                          refine .block ?_
                          refine .seq ?_
                          refine .plain rfl ?_
                          refine .q rfl rfl rfl (val_move rfl) ?_
                          refine .q rfl rfl rfl (val_move rfl) ?_
                          refine .q rfl rfl rfl (val_mk (.cons rfl .nil) (mk_48_0 _)) ?_
                          refine .callx rfl rfl rfl en15 (.cons rfl (.cons rfl (.cons rfl .nil))) (do_spec c cf hsim hc hsm.may (hsm.may.sim hsim) br bw _ _ _ (by assumption) ⟨3, 0, te0⟩ (fun h => absurd h (show ¬ placeN 3 8 < 3 by decide))) H53 (.cons .here (.cons .here .nil)) (.ro .here (.ro (.there (.there (.there (.there (.there (.there (.there .here))))))) .nil)) (fun y54 w54 hr54 H54 => ⟨fun _ => trivial, ?_⟩)
                          refine .q rfl rfl rfl (val_not rfl rfl) ?_
                          refine .nil (cj ?_)
                          refine .cond_f rfl ?_
                          refine .skip (cj ?_)
                          refine .plain rfl ?_
                          refine .q rfl rfl rfl (val_move rfl) ?_
                          refine .q rfl rfl rfl (val_add rfl rfl (z := ((x.i + 1 : Nat) : Int)) (w64_of (by omega))) ?_
                          refine .q rfl rfl rfl (val_assign rfl) ?_
                          refine .nil ?_
                          intro act0 hact0; change Exists _
                          refine ⟨⟨x.i + 1, _⟩, Pick.kn (by repeat (first | exact Pick.nil | refine Pick.cons rfl ?_)) hact0, ⟨H54.sub (.cons .here (.cons .here (.cons .here .nil))), (by assumption), (by dsimp only; omega)⟩, (by dsimp only; omega)⟩
                        · refine .exit (cj ?_)
                          refine .plain rfl ?_
                          refine .q rfl rfl rfl (val_move rfl) ?_
                          refine .q rfl rfl rfl (val_add rfl rfl (z := ((q.i + 1 : Nat) : Int)) (w64_of (by omega))) ?_
                          refine .q rfl rfl rfl (val_assign rfl) ?_
                          refine .nil ?_
                          intro act0 hact0; change Exists _
                          refine ⟨⟨q.i + 1, _⟩, Pick.kn (by repeat (first | exact Pick.nil | refine Pick.cons rfl ?_)) hact0, ⟨H53.sub (.cons .here (.cons .here (.cons .here .nil))), hr2, (by dsimp only; omega)⟩, (by dsimp only; omega)⟩
                      · refine .no rfl rfl rfl ?_
                        refine .no rfl rfl rfl ?_
                        refine .no rfl rfl rfl ?_
                        refine .no rfl rfl rfl ?_
                        refine .q rfl rfl rfl (val_pick_f rfl rfl) ?_
                        refine .nil (cj ?_)
                        refine .cond_f rfl ?_
                        refine .exit (cj ?_)
                        refine .plain rfl ?_
                        refine .q rfl rfl rfl (val_move rfl) ?_
                        refine .q rfl rfl rfl (val_add rfl rfl (z := ((q.i + 1 : Nat) : Int)) (w64_of (by omega))) ?_
                        refine .q rfl rfl rfl (val_assign rfl) ?_
                        refine .nil ?_
                        intro act0 hact0; change Exists _
                        refine ⟨⟨q.i + 1, _⟩, Pick.kn (by repeat (first | exact Pick.nil | refine Pick.cons rfl ?_)) hact0, ⟨H53.sub (.cons .here (.cons .here (.cons .here .nil))), hr2, (by dsimp only; omega)⟩, (by dsimp only; omega)⟩
                    · refine .no rfl rfl rfl ?_
                      refine .no rfl rfl rfl ?_
                      refine .no rfl rfl rfl ?_
                      refine .no rfl rfl rfl ?_
                      refine .no rfl rfl rfl ?_
                      refine .no rfl rfl rfl ?_
                      refine .no rfl rfl rfl ?_
                      refine .no rfl rfl rfl ?_
                      refine .no rfl rfl rfl ?_
                      refine .q rfl rfl rfl (val_pick_f rfl rfl) ?_
                      refine .nil (cj ?_)
                      refine .cond_f rfl ?_
                      refine .skip (cj ?_)
                      refine .seq ?_
                      refine .plain rfl ?_
                      refine .q rfl rfl rfl (val_assign rfl) ?_
                      refine .nil (cj ?_)
                      refine .block ?_
                      refine .loop (ι := LQ) (fun x => [(1, .slice pA picks.length pc), (2, .slice sA stops.length sc), (3, ptr b1), (7, ptr br), (9, ptr bw), (10, i64 (q.i : Int)), (12, i64 (x.i : Int))]) (fun x w' => St w w' X [cb c, cp c, cr c, cs c, binsA c, arr pA (picks.flatMap encI), arr sA (stops.flatMap encI), stepsA] [robA cf br x.y.r x.y.g, wblk bw c x.y.q, blk b1 (encCf c) 26] ∧ Rel c x.y.r x.y.g x.y.q ∧ x.i ≤ 400) (fun x => 400 - x.i) ⟨0, _⟩ (by repeat (first | exact Pick.nil | refine Pick.cons rfl ?_)) ⟨H42.sub (.cons .here (.cons .here (.cons (.there .here) .nil))), (by assumption), Nat.zero_le _⟩ ?_
                      rintro x w6 ⟨H55, hr2, hx⟩
                      refine .seq ?_
                      refine .seq ?_
                      refine .plain rfl ?_
                      refine .q rfl rfl rfl (val_move rfl) ?_
                      refine .q rfl rfl rfl (val_lss rfl rfl rfl) ?_
                      refine .q rfl rfl rfl (val_move rfl) ?_
                      refine .case (t := 129) rfl (fun hs129 => ?_) (fun hs129 => ?_)
                      · refine .q rfl rfl rfl (val_move rfl) ?_
                        refine .q rfl rfl rfl (val_nilCheck rfl) ?_
                        refine .q rfl rfl rfl (val_fieldAddr rfl fa_50_6) ?_
                        refine .qs rfl rfl rfl H55 (ld_b rfl ob_4 (.own (.there .here)) rfl) ?_
                        refine .q rfl rfl rfl (val_pick_t rfl rfl) ?_
                        refine .nil (cj ?_)
                        refine .cond rfl (fun hc7 => ?_) (fun hc7 => ?_)
                        · have hk4 := of_decide_eq_true hs129
                          refine .skip (cj ?_)
                          refine .seq ?_
                          refine .block ?_
                          refine .seq ?_
                          refine .plain rfl ?_
                          refine .q rfl rfl rfl (val_move rfl) ?_
                          refine .q rfl rfl rfl (val_move rfl) ?_
                          refine .q rfl rfl rfl (val_mk (.cons rfl .nil) (mk_48_0 _)) ?_
                          refine .callx rfl rfl rfl en15 (.cons rfl (.cons rfl (.cons rfl .nil))) (do_spec c cf hsim hc hsm.may (hsm.may.sim hsim) br bw _ _ _ (by assumption) ⟨3, 0, te0⟩ (fun h => absurd h (show ¬ placeN 3 8 < 3 by decide))) H55 (.cons .here (.cons .here .nil)) (.ro .here (.ro (.there (.there (.there (.there (.there (.there (.there .here))))))) .nil)) (fun y56 w56 hr56 H56 => ⟨fun _ => trivial, ?_⟩)
                          refine .q rfl rfl rfl (val_not rfl rfl) ?_
                          refine .nil (cj ?_)
                          refine .cond_f rfl ?_
                          refine .skip (cj ?_)
                          refine .plain rfl ?_
                          refine .q rfl rfl rfl (val_move rfl) ?_
                          refine .q rfl rfl rfl (val_add rfl rfl (z := ((x.i + 1 : Nat) : Int)) (w64_of (by omega))) ?_
                          refine .q rfl rfl rfl (val_assign rfl) ?_
                          refine .nil ?_
                          intro act0 hact0; change Exists _
                          refine ⟨⟨x.i + 1, _⟩, Pick.kn (by repeat (first | exact Pick.nil | refine Pick.cons rfl ?_)) hact0, ⟨H56.sub (.cons .here (.cons .here (.cons .here .nil))), (by assumption), (by dsimp only; omega)⟩, (by dsimp only; omega)⟩
                        · refine .exit (cj ?_)
                          refine .plain rfl ?_
                          refine .q rfl rfl rfl (val_move rfl) ?_
                          refine .q rfl rfl rfl (val_add rfl rfl (z := ((q.i + 1 : Nat) : Int)) (w64_of (by omega))) ?_
                          refine .q rfl rfl rfl (val_assign rfl) ?_
                          refine .nil ?_
                          intro act0 hact0; change Exists _
                          refine ⟨⟨q.i + 1, _⟩, Pick.kn (by repeat (first | exact Pick.nil | refine Pick.cons rfl ?_)) hact0, ⟨H55.sub (.cons .here (.cons .here (.cons .here .nil))), hr2, (by dsimp only; omega)⟩, (by dsimp only; omega)⟩
                      · refine .no rfl rfl rfl ?_
                        refine .no rfl rfl rfl ?_
                        refine .no rfl rfl rfl ?_
                        refine .no rfl rfl rfl ?_
                        refine .q rfl rfl rfl (val_pick_f rfl rfl) ?_
                        refine .nil (cj ?_)
                        refine .cond_f rfl ?_
                        refine .exit (cj ?_)
                        refine .plain rfl ?_
                        refine .q rfl rfl rfl (val_move rfl) ?_
                        refine .q rfl rfl rfl (val_add rfl rfl (z := ((q.i + 1 : Nat) : Int)) (w64_of (by omega))) ?_
                        refine .q rfl rfl rfl (val_assign rfl) ?_
                        refine .nil ?_
                        intro act0 hact0; change Exists _
                        refine ⟨⟨q.i + 1, _⟩, Pick.kn (by repeat (first | exact Pick.nil | refine Pick.cons rfl ?_)) hact0, ⟨H55.sub (.cons .here (.cons .here (.cons .here .nil))), hr2, (by dsimp only; omega)⟩, (by dsimp only; omega)⟩
                  · refine .no rfl rfl rfl ?_
                    refine .no rfl rfl rfl ?_
                    refine .no rfl rfl rfl ?_
                    refine .no rfl rfl rfl ?_
                    refine .no rfl rfl rfl ?_
                    refine .no rfl rfl rfl ?_
                    refine .q rfl rfl rfl (val_pick_f rfl rfl) ?_
                    refine .q rfl rfl rfl (val_move rfl) ?_
                    refine .no rfl rfl rfl ?_
                    refine .no rfl rfl rfl ?_
                    refine .no rfl rfl rfl ?_
                    refine .no rfl rfl rfl ?_
                    refine .no rfl rfl rfl ?_
                    refine .no rfl rfl rfl ?_
                    refine .no rfl rfl rfl ?_
                    refine .no rfl rfl rfl ?_
                    refine .no rfl rfl rfl ?_
                    refine .q rfl rfl rfl (val_pick_f rfl rfl) ?_
                    refine .nil (cj ?_)
                    refine .cond_f rfl ?_
                    refine .skip (cj ?_)
                    refine .seq ?_
                    refine .plain rfl ?_
                    refine .q rfl rfl rfl (val_assign rfl) ?_
                    refine .nil (cj ?_)
                    refine .block ?_
                    refine .loop (ι := LQ) (fun x => [(1, .slice pA picks.length pc), (2, .slice sA stops.length sc), (3, ptr b1), (7, ptr br), (9, ptr bw), (10, i64 (q.i : Int)), (12, i64 (x.i : Int))]) (fun x w' => St w w' X [cb c, cp c, cr c, cs c, binsA c, arr pA (picks.flatMap encI), arr sA (stops.flatMap encI), stepsA] [robA cf br x.y.r x.y.g, wblk bw c x.y.q, blk b1 (encCf c) 26] ∧ Rel c x.y.r x.y.g x.y.q ∧ x.i ≤ 400) (fun x => 400 - x.i) ⟨0, _⟩ (by repeat (first | exact Pick.nil | refine Pick.cons rfl ?_)) ⟨H42.sub (.cons .here (.cons .here (.cons (.there .here) .nil))), (by assumption), Nat.zero_le _⟩ ?_
                    rintro x w6 ⟨H57, hr2, hx⟩
                    refine .seq ?_
                    refine .seq ?_
                    refine .plain rfl ?_
                    refine .q rfl rfl rfl (val_move rfl) ?_
                    refine .q rfl rfl rfl (val_lss rfl rfl rfl) ?_
                    refine .q rfl rfl rfl (val_move rfl) ?_
                    refine .case (t := 129) rfl (fun hs129 => ?_) (fun hs129 => ?_)
                    · refine .q rfl rfl rfl (val_move rfl) ?_
                      refine .q rfl rfl rfl (val_nilCheck rfl) ?_
                      refine .q rfl rfl rfl (val_fieldAddr rfl fa_50_6) ?_
                      refine .qs rfl rfl rfl H57 (ld_b rfl ob_4 (.own (.there .here)) rfl) ?_
                      refine .q rfl rfl rfl (val_pick_t rfl rfl) ?_
                      refine .nil (cj ?_)
                      refine .cond rfl (fun hc7 => ?_) (fun hc7 => ?_)
                      · have hk4 := of_decide_eq_true hs129
                        refine .skip (cj ?_)
                        refine .seq ?_
                        refine .block ?_
                        refine .seq ?_
                        refine .plain rfl ?_
                        refine .q rfl rfl rfl (val_move rfl) ?_
                        refine .q rfl rfl rfl (val_move rfl) ?_
                        refine .q rfl rfl rfl (val_mk (.cons rfl .nil) (mk_48_0 _)) ?_
                        refine .callx rfl rfl rfl en15 (.cons rfl (.cons rfl (.cons rfl .nil))) (do_spec c cf hsim hc hsm.may (hsm.may.sim hsim) br bw _ _ _ (by assumption) ⟨3, 0, te0⟩ (fun h => absurd h (show ¬ placeN 3 8 < 3 by decide))) H57 (.cons .here (.cons .here .nil)) (.ro .here (.ro (.there (.there (.there (.there (.there (.there (.there .here))))))) .nil)) (fun y58 w58 hr58 H58 => ⟨fun _ => trivial, ?_⟩)
                        refine .q rfl rfl rfl (val_not rfl rfl) ?_
                        refine .nil (cj ?_)
                        refine .cond_f rfl ?_
                        refine .skip (cj ?_)
                        refine .plain rfl ?_
                        refine .q rfl rfl rfl (val_move rfl) ?_
                        refine .q rfl rfl rfl (val_add rfl rfl (z := ((x.i + 1 : Nat) : Int)) (w64_of (by omega))) ?_
                        refine .q rfl rfl rfl (val_assign rfl) ?_
                        refine .nil ?_
                        intro act0 hact0; change Exists _
                        refine ⟨⟨x.i + 1, _⟩, Pick.kn (by repeat (first | exact Pick.nil | refine Pick.cons rfl ?_)) hact0, ⟨H58.sub (.cons .here (.cons .here (.cons .here .nil))), (by assumption), (by dsimp only; omega)⟩, (by dsimp only; omega)⟩
                      · refine .exit (cj ?_)
                        refine .plain rfl ?_
                        refine .q rfl rfl rfl (val_move rfl) ?_
                        refine .q rfl rfl rfl (val_add rfl rfl (z := ((q.i + 1 : Nat) : Int)) (w64_of (by omega))) ?_
                        refine .q rfl rfl rfl (val_assign rfl) ?_
                        refine .nil ?_
                        intro act0 hact0; change Exists _
                        refine ⟨⟨q.i + 1, _⟩, Pick.kn (by repeat (first | exact Pick.nil | refine Pick.cons rfl ?_)) hact0, ⟨H57.sub (.cons .here (.cons .here (.cons .here .nil))), hr2, (by dsimp only; omega)⟩, (by dsimp only; omega)⟩
                    · refine .no rfl rfl rfl ?_
                      refine .no rfl rfl rfl ?_
                      refine .no rfl rfl rfl ?_
                      refine .no rfl rfl rfl ?_
                      refine .q rfl rfl rfl (val_pick_f rfl rfl) ?_
                      refine .nil (cj ?_)
                      refine .cond_f rfl ?_
                      refine .exit (cj ?_)
                      refine .plain rfl ?_
                      refine .q rfl rfl rfl (val_move rfl) ?_
                      refine .q rfl rfl rfl (val_add rfl rfl (z := ((q.i + 1 : Nat) : Int)) (w64_of (by omega))) ?_
                      refine .q rfl rfl rfl (val_assign rfl) ?_
                      refine .nil ?_
                      intro act0 hact0; change Exists _
                      refine ⟨⟨q.i + 1, _⟩, Pick.kn (by repeat (first | exact Pick.nil | refine Pick.cons rfl ?_)) hact0, ⟨H57.sub (.cons .here (.cons .here (.cons .here .nil))), hr2, (by dsimp only; omega)⟩, (by dsimp only; omega)⟩
              · refine .no rfl rfl rfl ?_
                refine .no rfl rfl rfl ?_
                refine .no rfl rfl rfl ?_
                refine .no rfl rfl rfl ?_
                refine .no rfl rfl rfl ?_
                refine .no rfl rfl rfl ?_
                refine .q rfl rfl rfl (val_pick_f rfl rfl) ?_
                refine .nil (cj ?_)
                refine .cond_f rfl ?_
                refine .skip (cj ?_)
                refine .seq ?_
                refine .seq ?_
                refine .plain rfl ?_
                refine .q rfl rfl rfl (val_move rfl) ?_
                refine .q rfl rfl rfl (val_move rfl) ?_
                refine .q rfl rfl rfl (val_len Tryz.underlying27 rfl) ?_
                refine .q rfl rfl rfl (val_lss rfl rfl rfl) ?_
                refine .q rfl rfl rfl (val_move rfl) ?_
                refine .case (t := 108) rfl (fun hs108 => ?_) (fun hs108 => ?_)
                · refine .q rfl rfl rfl (val_move rfl) ?_
                  refine .q rfl rfl rfl (val_move rfl) ?_
                  have hjl : q.i < stops.length := by have h9 := of_decide_eq_true hs108; omega
                  obtain ⟨z8, hz8⟩ : ∃ z, stops[q.i]? = some z := ⟨_, List.getElem?_eq_getElem hjl⟩
                  obtain ⟨b8, o8, hSA⟩ := Has.base (.ro (.there (.there (.there (.there (.there (.there .here))))))) H42 (nil_of_flat encI_len (by decide) hjl)
                  refine .q rfl rfl rfl (val_ix el_27 hSA rfl rfl rfl hjl) ?_
                  refine .qs rfl rfl rfl H42 (ld_el rfl ob_3 .base hSA (.ro (.there (.there (.there (.there (.there (.there .here))))))) encI_len (by first | assumption | rfl) rfl) ?_
                  refine .q rfl rfl rfl (val_rem rfl rfl (by decide) rfl) ?_
                  refine .q rfl rfl rfl (val_eql rfl rfl rfl) ?_
                  refine .q rfl rfl rfl (val_pick_t rfl rfl) ?_
                  refine .q rfl rfl rfl (val_move rfl) ?_
                  refine .case (t := 116) rfl (fun hs116 => ?_) (fun hs116 => ?_)
                  · refine .q rfl rfl rfl (val_move rfl) ?_
                    refine .q rfl rfl rfl (val_move rfl) ?_
                    refine .q rfl rfl rfl (val_move rfl) ?_
                    refine .q rfl rfl rfl (val_move rfl) ?_
                    refine .q rfl rfl rfl (val_ix el_27 hSA rfl rfl rfl hjl) ?_
                    refine .qs rfl rfl rfl H42 (ld_el rfl ob_3 .base hSA (.ro (.there (.there (.there (.there (.there (.there .here))))))) encI_len (by first | assumption | rfl) rfl) ?_
                    refine .q rfl rfl rfl (val_mk (.cons rfl (.cons rfl .nil)) (mk_48_0_1 _ _)) ?_
                    refine .callx rfl rfl rfl en15 (.cons rfl (.cons rfl (.cons rfl .nil))) (do_spec c cf hsim hc hsm.may (hsm.may.sim hsim) br bw _ _ _ (by assumption) ⟨6, z8, te0⟩ (fun h => absurd h (show ¬ placeN 6 8 < 3 by decide))) H42 (.cons .here (.cons .here .nil)) (.ro .here (.ro (.there (.there (.there (.there (.there (.there (.there .here))))))) .nil)) (fun y59 w59 hr59 H59 => ⟨fun _ => trivial, ?_⟩)
                    refine .q rfl rfl rfl (val_not rfl rfl) ?_
                    refine .q rfl rfl rfl (val_pick_t rfl rfl) ?_
                    refine .nil (cj ?_)
                    refine .cond_f rfl ?_
                    refine .skip (cj ?_)
                    refine .seq ?_
                    refine .plain rfl ?_
                    refine .q rfl rfl rfl (val_assign rfl) ?_
                    refine .nil (cj ?_)
                    refine .block ?_
                    refine .loop (ι := LQ) (fun x => [(1, .slice pA picks.length pc), (2, .slice sA stops.length sc), (3, ptr b1), (7, ptr br), (9, ptr bw), (10, i64 (q.i : Int)), (12, i64 (x.i : Int))]) (fun x w' => St w w' X [cb c, cp c, cr c, cs c, binsA c, arr pA (picks.flatMap encI), arr sA (stops.flatMap encI), stepsA] [robA cf br x.y.r x.y.g, wblk bw c x.y.q, blk b1 (encCf c) 26] ∧ Rel c x.y.r x.y.g x.y.q ∧ x.i ≤ 400) (fun x => 400 - x.i) ⟨0, _⟩ (by repeat (first | exact Pick.nil | refine Pick.cons rfl ?_)) ⟨H59.sub (.cons .here (.cons .here (.cons (.there .here) .nil))), (by assumption), Nat.zero_le _⟩ ?_
                    rintro x w6 ⟨H60, hr2, hx⟩
                    refine .seq ?_
                    refine .seq ?_
                    refine .plain rfl ?_
                    refine .q rfl rfl rfl (val_move rfl) ?_
                    refine .q rfl rfl rfl (val_lss rfl rfl rfl) ?_
                    refine .q rfl rfl rfl (val_move rfl) ?_
                    refine .case (t := 129) rfl (fun hs129 => ?_) (fun hs129 => ?_)
                    · refine .q rfl rfl rfl (val_move rfl) ?_
                      refine .q rfl rfl rfl (val_nilCheck rfl) ?_
                      refine .q rfl rfl rfl (val_fieldAddr rfl fa_50_6) ?_
                      refine .qs rfl rfl rfl H60 (ld_b rfl ob_4 (.own (.there .here)) rfl) ?_
                      refine .q rfl rfl rfl (val_pick_t rfl rfl) ?_
                      refine .nil (cj ?_)
                      refine .cond rfl (fun hc7 => ?_) (fun hc7 => ?_)
                      · have hk4 := of_decide_eq_true hs129
                        refine .skip (cj ?_)
                        refine .seq ?_
                        refine .block ?_
                        refine .seq ?_
                        refine .plain rfl ?_
                        refine .q rfl rfl rfl (val_move rfl) ?_
                        refine .q rfl rfl rfl (val_move rfl) ?_
                        refine .q rfl rfl rfl (val_mk (.cons rfl .nil) (mk_48_0 _)) ?_
                        refine .callx rfl rfl rfl en15 (.cons rfl (.cons rfl (.cons rfl .nil))) (do_spec c cf hsim hc hsm.may (hsm.may.sim hsim) br bw _ _ _ (by assumption) ⟨3, 0, te0⟩ (fun h => absurd h (show ¬ placeN 3 8 < 3 by decide))) H60 (.cons .here (.cons .here .nil)) (.ro .here (.ro (.there (.there (.there (.there (.there (.there (.there .here))))))) .nil)) (fun y61 w61 hr61 H61 => ⟨fun _ => trivial, ?_⟩)
                        refine .q rfl rfl rfl (val_not rfl rfl) ?_
                        refine .nil (cj ?_)
                        refine .cond_f rfl ?_
                        refine .skip (cj ?_)
                        refine .plain rfl ?_
                        refine .q rfl rfl rfl (val_move rfl) ?_
                        refine .q rfl rfl rfl (val_add rfl rfl (z := ((x.i + 1 : Nat) : Int)) (w64_of (by omega))) ?_
                        refine .q rfl rfl rfl (val_assign rfl) ?_
                        refine .nil ?_
                        intro act0 hact0; change Exists _
                        refine ⟨⟨x.i + 1, _⟩, Pick.kn (by repeat (first | exact Pick.nil | refine Pick.cons rfl ?_)) hact0, ⟨H61.sub (.cons .here (.cons .here (.cons .here .nil))), (by assumption), (by dsimp only; omega)⟩, (by dsimp only; omega)⟩
                      · refine .exit (cj ?_)
                        refine .plain rfl ?_
                        refine .q rfl rfl rfl (val_move rfl) ?_
                        refine .q rfl rfl rfl (val_add rfl rfl (z := ((q.i + 1 : Nat) : Int)) (w64_of (by omega))) ?_
                        refine .q rfl rfl rfl (val_assign rfl) ?_
                        refine .nil ?_
                        intro act0 hact0; change Exists _
                        refine ⟨⟨q.i + 1, _⟩, Pick.kn (by repeat (first | exact Pick.nil | refine Pick.cons rfl ?_)) hact0, ⟨H60.sub (.cons .here (.cons .here (.cons .here .nil))), hr2, (by dsimp only; omega)⟩, (by dsimp only; omega)⟩
                    · refine .no rfl rfl rfl ?_
                      refine .no rfl rfl rfl ?_
                      refine .no rfl rfl rfl ?_
                      refine .no rfl rfl rfl ?_
                      refine .q rfl rfl rfl (val_pick_f rfl rfl) ?_
                      refine .nil (cj ?_)
                      refine .cond_f rfl ?_
                      refine .exit (cj ?_)
                      refine .plain rfl ?_
                      refine .q rfl rfl rfl (val_move rfl) ?_
                      refine .q rfl rfl rfl (val_add rfl rfl (z := ((q.i + 1 : Nat) : Int)) (w64_of (by omega))) ?_
                      refine .q rfl rfl rfl (val_assign rfl) ?_
                      refine .nil ?_
                      intro act0 hact0; change Exists _
                      refine ⟨⟨q.i + 1, _⟩, Pick.kn (by repeat (first | exact Pick.nil | refine Pick.cons rfl ?_)) hact0, ⟨H60.sub (.cons .here (.cons .here (.cons .here .nil))), hr2, (by dsimp only; omega)⟩, (by dsimp only; omega)⟩
                  · refine .no rfl rfl rfl ?_
                    refine .no rfl rfl rfl ?_
                    refine .no rfl rfl rfl ?_
                    refine .no rfl rfl rfl ?_
                    refine .no rfl rfl rfl ?_
                    refine .no rfl rfl rfl ?_
                    refine .no rfl rfl rfl ?_
                    refine .no rfl rfl rfl ?_
                    refine .no rfl rfl rfl ?_
                    refine .q rfl rfl rfl (val_pick_f rfl rfl) ?_
                    refine .nil (cj ?_)
                    refine .cond_f rfl ?_
                    refine .skip (cj ?_)
                    refine .seq ?_
                    refine .plain rfl ?_
                    refine .q rfl rfl rfl (val_assign rfl) ?_
                    refine .nil (cj ?_)
                    refine .block ?_
                    refine .loop (ι := LQ) (fun x => [(1, .slice pA picks.length pc), (2, .slice sA stops.length sc), (3, ptr b1), (7, ptr br), (9, ptr bw), (10, i64 (q.i : Int)), (12, i64 (x.i : Int))]) (fun x w' => St w w' X [cb c, cp c, cr c, cs c, binsA c, arr pA (picks.flatMap encI), arr sA (stops.flatMap encI), stepsA] [robA cf br x.y.r x.y.g, wblk bw c x.y.q, blk b1 (encCf c) 26] ∧ Rel c x.y.r x.y.g x.y.q ∧ x.i ≤ 400) (fun x => 400 - x.i) ⟨0, _⟩ (by repeat (first | exact Pick.nil | refine Pick.cons rfl ?_)) ⟨H42.sub (.cons .here (.cons .here (.cons (.there .here) .nil))), (by assumption), Nat.zero_le _⟩ ?_
                    rintro x w6 ⟨H62, hr2, hx⟩
                    refine .seq ?_
                    refine .seq ?_
                    refine .plain rfl ?_
                    refine .q rfl rfl rfl (val_move rfl) ?_
                    refine .q rfl rfl rfl (val_lss rfl rfl rfl) ?_
                    refine .q rfl rfl rfl (val_move rfl) ?_
                    refine .case (t := 129) rfl (fun hs129 => ?_) (fun hs129 => ?_)
                    · refine .q rfl rfl rfl (val_move rfl) ?_
                      refine .q rfl rfl rfl (val_nilCheck rfl) ?_
                      refine .q rfl rfl rfl (val_fieldAddr rfl fa_50_6) ?_
                      refine .qs rfl rfl rfl H62 (ld_b rfl ob_4 (.own (.there .here)) rfl) ?_
                      refine .q rfl rfl rfl (val_pick_t rfl rfl) ?_
                      refine .nil (cj ?_)
                      refine .cond rfl (fun hc7 => ?_) (fun hc7 => ?_)
                      · have hk4 := of_decide_eq_true hs129
                        refine .skip (cj ?_)
                        refine .seq ?_
                        refine .block ?_
                        refine .seq ?_
                        refine .plain rfl ?_
                        refine .q rfl rfl rfl (val_move rfl) ?_
                        refine .q rfl rfl rfl (val_move rfl) ?_
                        refine .q rfl rfl rfl (val_mk (.cons rfl .nil) (mk_48_0 _)) ?_
                        refine .callx rfl rfl rfl en15 (.cons rfl (.cons rfl (.cons rfl .nil))) (do_spec c cf hsim hc hsm.may (hsm.may.sim hsim) br bw _ _ _ (by assumption) ⟨3, 0, te0⟩ (fun h => absurd h (show ¬ placeN 3 8 < 3 by decide))) H62 (.cons .here (.cons .here .nil)) (.ro .here (.ro (.there (.there (.there (.there (.there (.there (.there .here))))))) .nil)) (fun y63 w63 hr63 H63 => ⟨fun _ => trivial, ?_⟩)
                        refine .q rfl rfl rfl (val_not rfl rfl) ?_
                        refine .nil (cj ?_)
                        refine .cond_f rfl ?_
                        refine .skip (cj ?_)
                        refine .plain rfl ?_
                        refine .q rfl rfl rfl (val_move rfl) ?_
                        refine .q rfl rfl rfl (val_add rfl rfl (z := ((x.i + 1 : Nat) : Int)) (w64_of (by omega))) ?_
                        refine .q rfl rfl rfl (val_assign rfl) ?_
                        refine .nil ?_
                        intro act0 hact0; change Exists _
                        refine ⟨⟨x.i + 1, _⟩, Pick.kn (by repeat (first | exact Pick.nil | refine Pick.cons rfl ?_)) hact0, ⟨H63.sub (.cons .here (.cons .here (.cons .here .nil))), (by assumption), (by dsimp only; omega)⟩, (by dsimp only; omega)⟩
                      · refine .exit (cj ?_)
                        refine .plain rfl ?_
                        refine .q rfl rfl rfl (val_move rfl) ?_
                        refine .q rfl rfl rfl (val_add rfl rfl (z := ((q.i + 1 : Nat) : Int)) (w64_of (by omega))) ?_
                        refine .q rfl rfl rfl (val_assign rfl) ?_
                        refine .nil ?_
                        intro act0 hact0; change Exists _
                        refine ⟨⟨q.i + 1, _⟩, Pick.kn (by repeat (first | exact Pick.nil | refine Pick.cons rfl ?_)) hact0, ⟨H62.sub (.cons .here (.cons .here (.cons .here .nil))), hr2, (by dsimp only; omega)⟩, (by dsimp only; omega)⟩
                    · refine .no rfl rfl rfl ?_
                      refine .no rfl rfl rfl ?_
                      refine .no rfl rfl rfl ?_
                      refine .no rfl rfl rfl ?_
                      refine .q rfl rfl rfl (val_pick_f rfl rfl) ?_
                      refine .nil (cj ?_)
                      refine .cond_f rfl ?_
                      refine .exit (cj ?_)
                      refine .plain rfl ?_
                      refine .q rfl rfl rfl (val_move rfl) ?_
                      refine .q rfl rfl rfl (val_add rfl rfl (z := ((q.i + 1 : Nat) : Int)) (w64_of (by omega))) ?_
                      refine .q rfl rfl rfl (val_assign rfl) ?_
                      refine .nil ?_
                      intro act0 hact0; change Exists _
                      refine ⟨⟨q.i + 1, _⟩, Pick.kn (by repeat (first | exact Pick.nil | refine Pick.cons rfl ?_)) hact0, ⟨H62.sub (.cons .here (.cons .here (.cons .here .nil))), hr2, (by dsimp only; omega)⟩, (by dsimp only; omega)⟩
                · refine .no rfl rfl rfl ?_
                  refine .no rfl rfl rfl ?_
                  refine .no rfl rfl rfl ?_
                  refine .no rfl rfl rfl ?_
                  refine .no rfl rfl rfl ?_
                  refine .no rfl rfl rfl ?_
                  refine .q rfl rfl rfl (val_pick_f rfl rfl) ?_
                  refine .q rfl rfl rfl (val_move rfl) ?_
                  refine .no rfl rfl rfl ?_
                  refine .no rfl rfl rfl ?_
                  refine .no rfl rfl rfl ?_
                  refine .no rfl rfl rfl ?_
                  refine .no rfl rfl rfl ?_
                  refine .no rfl rfl rfl ?_
                  refine .no rfl rfl rfl ?_
                  refine .no rfl rfl rfl ?_
                  refine .no rfl rfl rfl ?_
                  refine .q rfl rfl rfl (val_pick_f rfl rfl) ?_
                  refine .nil (cj ?_)
                  refine .cond_f rfl ?_
                  refine .skip (cj ?_)
                  refine .seq ?_
                  refine .plain rfl ?_
                  refine .q rfl rfl rfl (val_assign rfl) ?_
                  refine .nil (cj ?_)
                  refine .block ?_
                  refine .loop (ι := LQ) (fun x => [(1, .slice pA picks.length pc), (2, .slice sA stops.length sc), (3, ptr b1), (7, ptr br), (9, ptr bw), (10, i64 (q.i : Int)), (12, i64 (x.i : Int))]) (fun x w' => St w w' X [cb c, cp c, cr c, cs c, binsA c, arr pA (picks.flatMap encI), arr sA (stops.flatMap encI), stepsA] [robA cf br x.y.r x.y.g, wblk bw c x.y.q, blk b1 (encCf c) 26] ∧ Rel c x.y.r x.y.g x.y.q ∧ x.i ≤ 400) (fun x => 400 - x.i) ⟨0, _⟩ (by repeat (first | exact Pick.nil | refine Pick.cons rfl ?_)) ⟨H42.sub (.cons .here (.cons .here (.cons (.there .here) .nil))), (by assumption), Nat.zero_le _⟩ ?_
                  rintro x w6 ⟨H64, hr2, hx⟩
                  refine .seq ?_
                  refine .seq ?_
                  refine .plain rfl ?_
                  refine .q rfl rfl rfl (val_move rfl) ?_
                  refine .q rfl rfl rfl (val_lss rfl rfl rfl) ?_
                  refine .q rfl rfl rfl (val_move rfl) ?_
                  refine .case (t := 129) rfl (fun hs129 => ?_) (fun hs129 => ?_)
                  · refine .q rfl rfl rfl (val_move rfl) ?_
                    refine .q rfl rfl rfl (val_nilCheck rfl) ?_
                    refine .q rfl rfl rfl (val_fieldAddr rfl fa_50_6) ?_
                    refine .qs rfl rfl rfl H64 (ld_b rfl ob_4 (.own (.there .here)) rfl) ?_
                    refine .q rfl rfl rfl (val_pick_t rfl rfl) ?_
                    refine .nil (cj ?_)
                    refine .cond rfl (fun hc7 => ?_) (fun hc7 => ?_)
                    · have hk4 := of_decide_eq_true hs129
                      refine .skip (cj ?_)
                      refine .seq ?_
                      refine .block ?_
                      refine .seq ?_
                      refine .plain rfl ?_
                      refine .q rfl rfl rfl (val_move rfl) ?_
                      refine .q rfl rfl rfl (val_move rfl) ?_
                      refine .q rfl rfl rfl (val_mk (.cons rfl .nil) (mk_48_0 _)) ?_
                      refine .callx rfl rfl rfl en15 (.cons rfl (.cons rfl (.cons rfl .nil))) (do_spec c cf hsim hc hsm.may (hsm.may.sim hsim) br bw _ _ _ (by assumption) ⟨3, 0, te0⟩ (fun h => absurd h (show ¬ placeN 3 8 < 3 by decide))) H64 (.cons .here (.cons .here .nil)) (.ro .here (.ro (.there (.there (.there (.there (.there (.there (.there .here))))))) .nil)) (fun y65 w65 hr65 H65 => ⟨fun _ => trivial, ?_⟩)
                      refine .q rfl rfl rfl (val_not rfl rfl) ?_
                      refine .nil (cj ?_)
                      refine .cond_f rfl ?_
                      refine .skip (cj ?_)
                      refine .plain rfl ?_
                      refine .q rfl rfl rfl (val_move rfl) ?_
                      refine .q rfl rfl rfl (val_add rfl rfl (z := ((x.i + 1 : Nat) : Int)) (w64_of (by omega))) ?_
                      refine .q rfl rfl rfl (val_assign rfl) ?_
                      refine .nil ?_
                      intro act0 hact0; change Exists _
                      refine ⟨⟨x.i + 1, _⟩, Pick.kn (by repeat (first | exact Pick.nil | refine Pick.cons rfl ?_)) hact0, ⟨H65.sub (.cons .here (.cons .here (.cons .here .nil))), (by assumption), (by dsimp only; omega)⟩, (by dsimp only; omega)⟩
                    · refine .exit (cj ?_)
                      refine .plain rfl ?_
                      refine .q rfl rfl rfl (val_move rfl) ?_
                      refine .q rfl rfl rfl (val_add rfl rfl (z := ((q.i + 1 : Nat) : Int)) (w64_of (by omega))) ?_
                      refine .q rfl rfl rfl (val_assign rfl) ?_
                      refine .nil ?_
                      intro act0 hact0; change Exists _
                      refine ⟨⟨q.i + 1, _⟩, Pick.kn (by repeat (first | exact Pick.nil | refine Pick.cons rfl ?_)) hact0, ⟨H64.sub (.cons .here (.cons .here (.cons .here .nil))), hr2, (by dsimp only; omega)⟩, (by dsimp only; omega)⟩
                  · refine .no rfl rfl rfl ?_
                    refine .no rfl rfl rfl ?_
                    refine .no rfl rfl rfl ?_
                    refine .no rfl rfl rfl ?_
                    refine .q rfl rfl rfl (val_pick_f rfl rfl) ?_
                    refine .nil (cj ?_)
                    refine .cond_f rfl ?_
                    refine .exit (cj ?_)
                    refine .plain rfl ?_
                    refine .q rfl rfl rfl (val_move rfl) ?_
                    refine .q rfl rfl rfl (val_add rfl rfl (z := ((q.i + 1 : Nat) : Int)) (w64_of (by omega))) ?_
                    refine .q rfl rfl rfl (val_assign rfl) ?_
                    refine .nil ?_
                    intro act0 hact0; change Exists _
                    refine ⟨⟨q.i + 1, _⟩, Pick.kn (by repeat (first | exact Pick.nil | refine Pick.cons rfl ?_)) hact0, ⟨H64.sub (.cons .here (.cons .here (.cons .here .nil))), hr2, (by dsimp only; omega)⟩, (by dsimp only; omega)⟩
          · refine .exit (cj ?_)
            refine .seq ?_
            refine .plain rfl ?_
            refine .call1 rfl rfl rfl en10 .nil awake18_spec H8 .nil (.ro (.there (.there (.there (.there (.there (.there (.there .here))))))) .nil) (fun w66 H66 => ⟨fun _ => trivial, ?_⟩)
            refine .q rfl rfl rfl (val_assign rfl) ?_
            refine .nil (cj ?_)
            refine .ret (fret (res1 rfl rfl) ?_)
            refine hRR _ _ ⟨_, ⟨?_, rfl⟩, H66.sub .nil⟩
            rfl
        · refine .no rfl rfl rfl ?_
          refine .no rfl rfl rfl ?_
          refine .q rfl rfl rfl (val_pick_f rfl rfl) ?_
          refine .nil (cj ?_)
          refine .cond_f rfl ?_
          refine .exit (cj ?_)
          refine .seq ?_
          refine .plain rfl ?_
          refine .call1 rfl rfl rfl en10 .nil awake18_spec H8 .nil (.ro (.there (.there (.there (.there (.there (.there (.there .here))))))) .nil) (fun w67 H67 => ⟨fun _ => trivial, ?_⟩)
          refine .q rfl rfl rfl (val_assign rfl) ?_
          refine .nil (cj ?_)
          refine .ret (fret (res1 rfl rfl) ?_)
          refine hRR _ _ ⟨_, ⟨?_, rfl⟩, H67.sub .nil⟩
          rfl
end Go.Proofs.YtmbibkifbehgnaaGreatDoor
/-! ## V7: What the reading of a law's arguments gives the walks: a config, a list of integers, the table of steps. -/
namespace Go.Proofs.YtmbibkifbehgnaaGreatDoor
open Go Sk Go.ChangeShapes Go.WideShapes Go.ChangeAt Go.RowKit
set_option linter.unusedVariables false
set_option linter.unusedSimpArgs false
section
variable {H : Type} {enc : TypeId × Value → H} {P : Program} {w : World}
theorem cells_get {a : Addr} {n : Nat} {l : List Value} (h : w.cells? 0 a n = some l) : l.length = n ∧ ∀ i, i < n → w.cell? (a.add i) = l[i]? := by
  unfold World.cells? at h
  rw [if_pos (Nat.zero_le _)] at h
  exact ⟨by simpa using mapM_some_length h, fun i hi => mapM_some_get h i i (by simp [hi])⟩
theorem list_of {α : Type} {Q : Nat → α → Prop} : ∀ (n : Nat), (∀ i, i < n → ∃ a, Q i a) → ∃ l : List α, l.length = n ∧ ∀ i a, l[i]? = some a → Q i a
  | 0, _ => ⟨[], rfl, fun i a h => by cases h⟩
  | n + 1, h => by
    obtain ⟨l, hl, hq⟩ := list_of n fun i hi => h i (by omega)
    obtain ⟨a, ha⟩ := h n (by omega)
    refine ⟨l ++ [a], by simp [hl], fun i b hb => ?_⟩
    by_cases hi : i < n
    · rw [List.getElem?_append_left (by omega)] at hb
      exact hq i b hb
    · rw [List.getElem?_append_right (by omega)] at hb
      have hi2 : i - l.length = 0 := by
        have h2 := (List.getElem?_eq_some_iff.1 hb).1
        simp at h2
        omega
      rw [hi2] at hb
      obtain rfl : a = b := by simpa using hb
      have : i = n := by omega
      subst this
      exact ha
/-- A list that is read, of elements that are told by α. -/
theorem list_dec {α : Type} {enc1 : α → List Value} {sz : Nat} {C : α → Prop} (hl : ∀ x, (enc1 x).length = sz) (hz : 0 < sz) {t e : TypeId} (ht : P.underlying t = some (.slice e)) (hc : P.cellsOf e = sz)
    (hdec : ∀ n cs x, DataW.trod enc P w 0 (fun _ => true) true n e cs = some x → ∃ a, cs = enc1 a ∧ C a) {fuel : Nat} {cs : List Value} {x : DataW H × List MemPlace} (h : DataW.trod enc P w 0 (fun _ => true) true fuel t cs = some x) :
    ∃ (A : Option Addr) (cap : Nat) (l : List α), cs = [.slice A l.length cap] ∧ l.length ≤ maxLen ∧ (A = none → l.length = 0 ∧ cap = 0) ∧ (∃ Y, (arr A (l.flatMap enc1)).on Y w) ∧ ∀ x ∈ l, C x := by
  rcases DataW.trod_slice ht h with ⟨rfl, _⟩ | ⟨a, len, cap, elems, rest, n, _, rfl, _, _, hlc, hcm, hlen, hel, _, _⟩
  · exact ⟨none, 0, [], rfl, Nat.zero_le _, fun _ => ⟨rfl, rfl⟩, ⟨fun _ => False, .inl ⟨rfl, fun _ h => h⟩⟩, fun _ h => by cases h⟩
  · rw [hc] at hel
    have key : ∀ i, i < len → ∃ y, w.cells? 0 (a.add (i * sz)) sz = some (enc1 y) ∧ C y := fun i hi => by
      have h1 := hel i hi
      rw [List.getElem?_eq_getElem (by omega : i < elems.length), Option.bind_eq_some_iff] at h1
      obtain ⟨cs', h2, h3⟩ := h1
      obtain ⟨y, rfl, hy⟩ := hdec _ _ _ h3
      exact ⟨y, h2, hy⟩
    obtain ⟨l, hll, hq⟩ := list_of len key
    refine ⟨some a, cap, l, by rw [hll], by omega, fun h => (by cases h), ?_, fun y hy => ?_⟩
    · by_cases h0 : len = 0
      · have : l = [] := List.eq_nil_of_length_eq_zero (by omega)
        subst this
        exact ⟨fun _ => False, .inl ⟨rfl, fun _ h => h⟩⟩
      · have cell : ∀ i y, l[i]? = some y → ∀ c, c < sz → w.cell? ((a.add (i * sz)).add c) = (enc1 y)[c]? := fun i y hy c hc => (cells_get (hq i y hy).1).2 c hc
        have hsp : a.spot = none ∧ a.block < w.heap.size := by
          have h1 := cell 0 (l[0]'(by omega)) (List.getElem?_eq_getElem (by omega)) 0 hz
          rw [List.getElem?_eq_getElem (by rw [hl]; exact hz)] at h1
          have e : (a.add (0 * sz)).add 0 = a := by simp [Addr.add]
          rw [e] at h1
          unfold World.cell? at h1
          split at h1
          · rename_i hh
            refine ⟨?_, (Array.getElem?_eq_some_iff.1 hh).1⟩
            cases hs : a.spot with
            | none => rfl
            | some _ => simp [hs] at h1
          · cases h1
        obtain ⟨b, o, s⟩ := a
        obtain rfl : s = none := hsp.1
        refine ⟨fun k => k = b, .inr ⟨b, o, rfl, fun _ => Iff.rfl, hsp.2, fun j u hj => ?_⟩⟩
        have hlt : j < l.length * sz := by rw [← flat_len hl]; exact (List.getElem?_eq_some_iff.1 hj).1
        have hi : j / sz < l.length := Nat.div_lt_of_lt_mul (by rw [Nat.mul_comm]; exact hlt)
        have hc1 : j % sz < sz := Nat.mod_lt _ hz
        have hj2 : j = j / sz * sz + j % sz := by rw [Nat.mul_comm]; exact (Nat.div_add_mod j sz).symm
        have h1 := cell (j / sz) _ (List.getElem?_eq_getElem hi) (j % sz) hc1
        rw [Sk.add_plain, Sk.add_plain, Nat.add_assoc, ← hj2] at h1
        rw [hj2, flat_get hl l _ _ _ (List.getElem?_eq_getElem hi) hc1] at hj
        rw [h1, hj]
    · obtain ⟨i, hi, rfl⟩ := List.mem_iff_getElem.1 hy
      exact (hq i _ (List.getElem?_eq_getElem hi)).2
end
section
variable {H : Type} {enc : TypeId × Value → H} {w : World} {n : Nat} {cs : List Value} {x : DataW H × List MemPlace}
theorem c3 : Tryz.prog.cellsOf 3 = 1 := by kernel_rfl
theorem c38 : Tryz.prog.cellsOf 38 = 2 := by kernel_rfl
theorem c40 : Tryz.prog.cellsOf 40 = 3 := by kernel_rfl
theorem c114 : Tryz.prog.cellsOf 114 = 3 := by kernel_rfl
theorem c26 : Tryz.prog.cellsOf 26 = 16 := by kernel_rfl
theorem c4 : Tryz.prog.cellsOf 4 = 1 := by kernel_rfl
theorem c22 : Tryz.prog.cellsOf 22 = 1 := by kernel_rfl
theorem c23 : Tryz.prog.cellsOf 23 = 1 := by kernel_rfl
theorem c24 : Tryz.prog.cellsOf 24 = 1 := by kernel_rfl
theorem c27 : Tryz.prog.cellsOf 27 = 1 := by kernel_rfl
theorem i_dec (h : DataW.trod enc Tryz.prog w 0 (fun _ => true) true n 3 cs = some x) : ∃ z, cs = [i64 z] := by
  obtain ⟨z, h1, _⟩ := DataW.trod_int Tryz.underlying3 h
  exact ⟨z, h1⟩
theorem b_dec (h : DataW.trod enc Tryz.prog w 0 (fun _ => true) true n 4 cs = some x) : ∃ z, cs = [.bool z] := by
  obtain ⟨z, h1, _⟩ := DataW.trod_bool Tryz.underlying4 h
  exact ⟨z, h1⟩
/-- one field of a struct -/
theorem fld {t : TypeId} {fs : Array Field} {m : Nat} (ht : Tryz.prog.underlying t = some (.struct fs)) (h : DataW.trod enc Tryz.prog w 0 (fun _ => true) true n t cs = some x) (i : Nat) (f : Field) (hf : fs[i]? = some f) (hm : Tryz.prog.cellsOf f.type = m) :
    ∃ n' y, DataW.trod enc Tryz.prog w 0 (fun _ => true) true n' f.type ((cs.drop f.offset).take m) = some y := by
  obtain ⟨xs, n', _, _, _, hl, he⟩ := DataW.trod_struct ht h
  have := he i f hf
  rw [hm, List.getElem?_eq_getElem (by rw [hl]; exact (Array.getElem?_eq_some_iff.1 hf).1)] at this
  exact ⟨n', _, this⟩
theorem len_of {t : TypeId} {fs : Array Field} {m : Nat} (ht : Tryz.prog.underlying t = some (.struct fs)) (hm : Tryz.prog.cellsOf t = m) (h : DataW.trod enc Tryz.prog w 0 (fun _ => true) true n t cs = some x) : cs.length = m := by
  obtain ⟨_, _, _, _, h1, _⟩ := DataW.trod_struct ht h
  rw [h1, hm]
theorem cl_dec (h : DataW.trod enc Tryz.prog w 0 (fun _ => true) true n 38 cs = some x) : ∃ c : Cl, cs = encC c ∧ True := by
  have hl := len_of Tryz.underlying38 c38 h
  match cs, hl with
  | [a, b], _ =>
    obtain ⟨_, _, h0⟩ := fld Tryz.underlying38 h 0 _ rfl c3
    obtain ⟨_, _, h1⟩ := fld Tryz.underlying38 h 1 _ rfl c3
    obtain ⟨z0, e0⟩ := i_dec h0
    obtain ⟨z1, e1⟩ := i_dec h1
    simp at e0 e1
    subst e0 e1
    exact ⟨⟨z0, z1⟩, rfl, trivial⟩
theorem ps_dec (h : DataW.trod enc Tryz.prog w 0 (fun _ => true) true n 40 cs = some x) : ∃ c : Ps, cs = encP c ∧ True := by
  have hl := len_of Tryz.underlying40 c40 h
  match cs, hl with
  | [a, b, d], _ =>
    obtain ⟨_, _, h0⟩ := fld Tryz.underlying40 h 0 _ rfl c38
    obtain ⟨_, _, h1⟩ := fld Tryz.underlying40 h 1 _ rfl c4
    obtain ⟨z0, e0, _⟩ := cl_dec h0
    obtain ⟨z1, e1⟩ := b_dec h1
    simp at e0 e1
    obtain ⟨rfl, rfl⟩ := e0
    subst e1
    exact ⟨⟨z0.x, z0.y, z1⟩, rfl, trivial⟩
theorem is_dec (h : DataW.trod enc Tryz.prog w 0 (fun _ => true) true n 27 cs = some x) :
    ∃ (A : Option Addr) (cap : Nat) (l : List Int), cs = [.slice A l.length cap] ∧ l.length ≤ maxLen ∧ (A = none → l.length = 0 ∧ cap = 0) ∧ (∃ Y, (arr A (l.flatMap encI)).on Y w) ∧ ∀ x ∈ l, True :=
  list_dec (enc1 := encI) (fun _ => rfl) (by decide) Tryz.underlying27 c3 (fun n cs x h => by
    obtain ⟨z, e⟩ := i_dec h
    exact ⟨z, e, trivial⟩) h
/-- what is known of a stack that was read -/
def SkOk (w : World) (s : Sk1) : Prop := s.bins.length ≤ maxLen ∧ (s.A = none → s.bins.length = 0 ∧ s.cap = 0) ∧ ∃ Y, (arr s.A (s.bins.flatMap encI)).on Y w
theorem sk_dec (h : DataW.trod enc Tryz.prog w 0 (fun _ => true) true n 114 cs = some x) : ∃ c : Sk1, cs = encS c ∧ SkOk w c := by
  have hl := len_of Tryz.underlying114 c114 h
  match cs, hl with
  | [a, b, d], _ =>
    obtain ⟨_, _, h0⟩ := fld Tryz.underlying114 h 0 _ rfl c38
    obtain ⟨_, _, h1⟩ := fld Tryz.underlying114 h 1 _ rfl c27
    obtain ⟨z0, e0, _⟩ := cl_dec h0
    obtain ⟨A, cap, l, e1, k1, k2, k3, _⟩ := is_dec h1
    simp at e0 e1
    obtain ⟨rfl, rfl⟩ := e0
    subst e1
    exact ⟨⟨z0.x, z0.y, A, cap, l⟩, rfl, k1, k2, k3⟩
end
section
variable {H : Type} {enc : TypeId × Value → H} {w : World} {n : Nat} {x : DataW H × List MemPlace}
/-- A config that is read. -/
theorem cf_dec {us : List Value} (h : DataW.trod enc Tryz.prog w 0 (fun _ => true) true n 26 us = some x) : ∃ c : Cf, us = encCf c ∧ c.Fit ∧ Ro [cb c, cp c, cr c, cs c, binsA c] (fun _ => False) w := by
  have hl := len_of Tryz.underlying26 c26 h
  match us, hl with
  | [a0, a1, a2, a3, a4, a5, a6, a7, a8, a9, a10, a11, a12, a13, a14, a15], _ =>
    obtain ⟨_, _, h0⟩ := fld Tryz.underlying26 h 0 _ rfl c3
    obtain ⟨_, _, h1⟩ := fld Tryz.underlying26 h 1 _ rfl c3
    obtain ⟨_, _, h2⟩ := fld Tryz.underlying26 h 2 _ rfl c3
    obtain ⟨_, _, h3⟩ := fld Tryz.underlying26 h 3 _ rfl c22
    obtain ⟨_, _, h4⟩ := fld Tryz.underlying26 h 4 _ rfl c22
    obtain ⟨_, _, h5⟩ := fld Tryz.underlying26 h 5 _ rfl c23
    obtain ⟨_, _, h6⟩ := fld Tryz.underlying26 h 6 _ rfl c24
    obtain ⟨_, _, h7⟩ := fld Tryz.underlying26 h 7 _ rfl c3
    obtain ⟨_, _, h8⟩ := fld Tryz.underlying26 h 8 _ rfl c3
    obtain ⟨_, _, h9⟩ := fld Tryz.underlying26 h 9 _ rfl c3
    obtain ⟨_, _, h10⟩ := fld Tryz.underlying26 h 10 _ rfl c3
    obtain ⟨_, _, h11⟩ := fld Tryz.underlying26 h 11 _ rfl c3
    obtain ⟨_, _, h12⟩ := fld Tryz.underlying26 h 12 _ rfl c3
    obtain ⟨_, _, h13⟩ := fld Tryz.underlying26 h 13 _ rfl c3
    obtain ⟨_, _, h14⟩ := fld Tryz.underlying26 h 14 _ rfl c3
    obtain ⟨_, _, h15⟩ := fld Tryz.underlying26 h 15 _ rfl c4
    obtain ⟨z0, e0⟩ := i_dec h0
    obtain ⟨z1, e1⟩ := i_dec h1
    obtain ⟨z2, e2⟩ := i_dec h2
    obtain ⟨z7, e7⟩ := i_dec h7
    obtain ⟨z8, e8⟩ := i_dec h8
    obtain ⟨z9, e9⟩ := i_dec h9
    obtain ⟨z10, e10⟩ := i_dec h10
    obtain ⟨z11, e11⟩ := i_dec h11
    obtain ⟨z12, e12⟩ := i_dec h12
    obtain ⟨z13, e13⟩ := i_dec h13
    obtain ⟨z14, e14⟩ := i_dec h14
    obtain ⟨z15, e15⟩ := b_dec h15
    obtain ⟨bA, bc, bl, e3, bm, bn, ⟨Yb, hYb⟩, _⟩ := list_dec (enc1 := encC) encC_len (by decide) Tryz.underlying22 c38 (fun n cs x h => cl_dec h) h3
    obtain ⟨pA, pc, pl, e4, pm, pn, ⟨Yp, hYp⟩, _⟩ := list_dec (enc1 := encC) encC_len (by decide) Tryz.underlying22 c38 (fun n cs x h => cl_dec h) h4
    obtain ⟨rA, rc, rl, e5, rm, rn, ⟨Yr, hYr⟩, _⟩ := list_dec (enc1 := encP) encP_len (by decide) Tryz.underlying23 c40 (fun n cs x h => ps_dec h) h5
    obtain ⟨sA, sc, sl, e6, sm, sn, ⟨Ys, hYs⟩, hsk⟩ := list_dec (enc1 := encS) encS_len (by decide) Tryz.underlying24 c114 (fun n cs x h => sk_dec h) h6
    simp at e0 e1 e2 e3 e4 e5 e6 e7 e8 e9 e10 e11 e12 e13 e14 e15
    subst e0 e1 e2 e3 e4 e5 e6 e7 e8 e9 e10 e11 e12 e13 e14 e15
    refine ⟨⟨z0, z1, z2, bA, bc, bl, pA, pc, pl, rA, rc, rl, sA, sc, sl, z7, z8, z9, z10, z11, z12, z13, z14, z15⟩, rfl, ⟨bm, pm, rm, sm, fun s hs => (hsk s hs).1, bn, pn, rn, sn⟩, ?_⟩
    intro r hr
    simp only [List.mem_cons, List.not_mem_nil, or_false] at hr
    rcases hr with rfl | rfl | rfl | rfl | rfl
    · exact ⟨_, hYb, fun _ _ h => h⟩
    · exact ⟨_, hYp, fun _ _ h => h⟩
    · exact ⟨_, hYr, fun _ _ h => h⟩
    · exact ⟨_, hYs, fun _ _ h => h⟩
    · refine ⟨fun k => k < w.heap.size, ⟨fun s hs => ?_, fun k h => h⟩, fun _ _ h => h⟩
      obtain ⟨_, h2, Y, hY⟩ := hsk s hs
      exact ⟨Y, hY, (arr s.A _).lt Y w hY, h2⟩
end
abbrev laidS {H : Type} : List (String × DataW H) := [("skep/grid.steps", Rows.laid_skep_grid_steps)]
/-- The door's own heap meets the condition. -/
theorem door_met (os : Os) (args : Array Value) : laidMetH Tryz.prog laidS ((World.doorLaid Tryz.prog 400 os).forCall (fun _ _ => 0) ⟨#[], args, []⟩).memory :=
  laidMetH_of_parts3 (fuel := 8) (laidMet_of_run' 8 (by kernel_rfl) (by kernel_rfl)) (by kernel_rfl) (by kernel_rfl)
/-- The table of steps, as it was laid. -/
theorem steps_of_laid {W : World} (h : laidMetH Tryz.prog laidS W) : ∃ Y, stepsA.on Y W := by
  rw [MakeChecks.laidMetH_plain _ _ _ (by kernel_rfl)] at h
  obtain ⟨ps, ⟨g0, t0, cs0, f0, p0, q0, hg0, ht0, hv0, hd0, _, _⟩, _, _⟩ := h
  obtain rfl := Option.some.inj ((show Tryz.prog.globalNamed "skep/grid.steps" = some 0 by kernel_rfl).symm.trans hg0)
  obtain rfl := Option.some.inj ((show (Tryz.prog.globals[0]?).map (·.type) = some 214 by kernel_rfl).symm.trans ht0)
  obtain ⟨xs, m, _, ex, hcl, hn, hel⟩ := DataW.trod_array Tryz.underlying214 hd0
  have hlen : cs0.toList.length = 8 := by rw [hcl]; kernel_rfl
  have ex2 : (xs.map (·.1)) = [.agg [.lit (.int .i64 0), .lit (.int .i64 (-1))], .agg [.lit (.int .i64 1), .lit (.int .i64 0)], .agg [.lit (.int .i64 0), .lit (.int .i64 1)], .agg [.lit (.int .i64 (-1)), .lit (.int .i64 0)]] := (DataW.agg.inj (Prod.mk.inj ex).1).symm
  clear ex
  match xs, hn, ex2, hel with
  | [x0, x1, x2, x3], _, ex2, hel =>
    simp only [List.map_cons, List.map_nil, List.cons.injEq, and_true] at ex2
    obtain ⟨e0, e1, e2, e3⟩ := ex2
    obtain ⟨l, hl⟩ : ∃ l, cs0.toList = l := ⟨_, rfl⟩
    have one : ∀ i (y : DataW Unit × List MemPlace) (a b : Int), i < 4 → [x0, x1, x2, x3][i]? = some y → y.1 = .agg [.lit (.int .i64 a), .lit (.int .i64 b)] → (l.drop (i * 2)).take 2 = [i64 a, i64 b] := by
      intro i y a b hi hy hab
      have h1 := hel i hi
      rw [c38, hy, hl] at h1
      obtain ⟨ys, n', _, ey, hyl, hyn, hye⟩ := DataW.trod_struct Tryz.underlying38 h1
      have f0 := hye 0 _ rfl
      have f1 := hye 1 _ rfl
      rw [ey] at hab
      have hab : ys.map (·.1) = [.lit (.int .i64 a), .lit (.int .i64 b)] := DataW.agg.inj hab
      clear ey
      match ys, hyn, hab, f0, f1 with
      | [y0, y1], _, hab, f0, f1 =>
        simp only [List.map_cons, List.map_nil, List.cons.injEq, and_true] at hab
        have g0 : DataW.trod (fun _ => ()) Tryz.prog W 0 (fun _ => true) false n' 3 (List.take (Tryz.prog.cellsOf 3) (List.drop 0 (List.take 2 (List.drop (i * 2) l)))) = some y0 := f0
        have g1 : DataW.trod (fun _ => ()) Tryz.prog W 0 (fun _ => true) false n' 3 (List.take (Tryz.prog.cellsOf 3) (List.drop 1 (List.take 2 (List.drop (i * 2) l)))) = some y1 := f1
        rw [c3] at g0 g1
        clear f0 f1
        obtain ⟨z0, k0, k1, _⟩ := DataW.trod_int Tryz.underlying3 g0
        obtain ⟨z1, k2, k3, _⟩ := DataW.trod_int Tryz.underlying3 g1
        rw [k1, k3] at hab
        simp only [DataW.lit.injEq, Lit.int.injEq, true_and] at hab
        rw [hab.1] at k0
        rw [hab.2] at k2
        rw [c38] at hyl
        generalize (l.drop (i * 2)).take 2 = q at k0 k2 hyl ⊢
        match q, hyl with
        | [q0, q1], _ =>
          simp at k0 k2
          rw [k0, k2]
    have a0 := one 0 x0 _ _ (by decide) rfl e0
    have a1 := one 1 x1 _ _ (by decide) rfl e1
    have a2 := one 2 x2 _ _ (by decide) rfl e2
    have a3 := one 3 x3 _ _ (by decide) rfl e3
    have hl8 : l = stepsL.flatMap encC := by
      rw [hl] at hlen
      match l, hlen with
      | [b0, b1, b2, b3, b4, b5, b6, b7], _ =>
        simp at a0 a1 a2 a3
        obtain ⟨rfl, rfl⟩ := a0
        obtain ⟨rfl, rfl⟩ := a1
        obtain ⟨rfl, rfl⟩ := a2
        obtain ⟨rfl, rfl⟩ := a3
        rfl
    have hb : 0 < W.heap.size := by
      have h1 := World.var?_cell hg0 hv0 0
      have h2 : cs0[0]? = some (i64 0) := by
        have : cs0.toList[0]? = some (i64 0) := by rw [hl, hl8]; rfl
        simpa using this
      rw [h2] at h1
      unfold World.cell? at h1
      split at h1
      · rename_i hh
        exact (Array.getElem?_eq_some_iff.1 hh).1
      · cases h1
    refine ⟨fun k => k = 0, .inr ⟨0, 0, rfl, fun _ => Iff.rfl, hb, fun j u hj => ?_⟩⟩
    rw [World.var?_cell hg0 hv0 (0 + j), Nat.zero_add]
    rw [← hl8, ← hl] at hj
    simpa using hj
end Go.Proofs.YtmbibkifbehgnaaGreatDoor
/-! ## V8: The end of a law that leaves its arguments as they are; RobotRuns, proved. -/
namespace Go.Proofs.YtmbibkifbehgnaaGreatDoor
open Go Sk Go.ChangeShapes Go.WideShapes Go.ChangeAt Go.RowKit
set_option linter.unusedVariables false
set_option linter.unusedSimpArgs false
section
variable {H : Type} {enc : TypeId × Value → H} {P : Program} {W W' : World}
theorem trodAll_stays (hl : laidOutB P = true) (hb : Below W.heap.size W W') : ∀ {ts : List TypeId} {vs : List Value} {ds : List (DataW H)} {ps : List MemPlace}, (ts.all fun t => P.readableRec t && decide (t < P.types.size)) = true →
    DataW.TrodAll enc P W 0 (fun _ => true) true ts vs ds ps → (∀ p ∈ ps, p.block < W.heap.size) → DataW.TrodAll enc P W' 0 (fun b => decide (b < W.heap.size)) true ts vs ds ps
  | [], vs, ds, ps, _, h, _ => by
    obtain ⟨rfl, rfl, rfl⟩ := trodAll_nil h
    exact h
  | t :: ts, vs, ds, ps, ht, h, hlt => by
    obtain ⟨v, vs1, d, ds1, a, b, rfl, rfl, rfl, h1, h2⟩ := trodAll_cons h
    simp only [List.all_cons, Bool.and_eq_true, decide_eq_true_eq] at ht
    exact ⟨a, b, hb.trod hl ht.1.1 ht.1.2 h1 fun x hx => hlt x (List.mem_append_left _ hx), trodAll_stays hl hb ht.2 h2 fun x hx => hlt x (List.mem_append_right _ hx), rfl⟩
/-- The end of a law that leaves its arguments as they are and writes nothing that was there. -/
theorem law_end {f : Func} {s : ChangeSpec} {args : Array Value} {ds : List (DataW H)} {before : List MemPlace} (hl : laidOutB P = true) (hs : s.vars = []) (hf : f.resultTypes = #[4]) (h4 : P.underlying 4 = some .bool)
    (hret : s.fn H ds = { results := [.lit (.bool true)], args := ds }) (hts : (f.params.toList.all fun t => P.readableRec t && decide (t < P.types.size)) = true)
    (hW : DataW.Whole enc P f.params.toList s.vars false W args.toList ds [] before) (hb : Below W.heap.size W W') : s.post enc P f false true false false W args (.bool true) W' := by
  have hlt := hW.lt
  have hW2 := hW
  obtain ⟨p, q, hA, hV, rfl, _, _⟩ := hW2
  rw [hs] at hV
  obtain rfl : q = [] := hV
  refine ⟨ds, [], _, [], p, [], hW, ?_, ?_, ?_, hb.frame _, fun h => (by cases h)⟩
  · rw [hf, List.append_nil, hret]
    exact trodAll_mk1 (shut_bool h4 _)
  · rw [List.append_nil, hret]
    exact trodAll_stays hl hb hts hA fun x hx => hlt x (List.mem_append_left _ hx)
  · rw [List.append_nil, hret, hs]
    exact (rfl : ([] : List MemPlace) = [])
theorem Ext.below {w w' : World} (h : Ext (fun _ => False) w w') : Below w.heap.size w w' := ⟨h.os, h.tape, h.output, h.size, fun k hk => h.block k hk fun h => h⟩
/-- A slice as an argument. -/
theorem slice_arg {t e : TypeId} {r : Reach} {base : Nat} {v : Value} {A : Option Addr} {n c : Nat} (ht : P.underlying t = some (.slice e)) (hv : Value.okWide P W r base t v) (h : v.cells.toList = [.slice A n c]) : v = .slice A n c := by
  cases v <;> simp [Value.okWide, ht, Cell.okWide, Cell.ok] at hv <;> simpa [Value.cells] using h
theorem struct_arg {t : TypeId} {fs : Array Field} {r : Reach} {base : Nat} {v : Value} {l : List Value} (ht : P.underlying t = some (.struct fs)) (hv : Value.okWide P W r base t v) (h : v.cells.toList = l) : v = .agg l.toArray := by
  simp only [Value.okWide, ht] at hv
  obtain ⟨cs, rfl, _⟩ := hv
  subst h
  simp [Value.cells]
theorem int_arg {t : TypeId} {k k' : IntKind} {r : Reach} {base : Nat} {v : Value} {z : Int} (ht : P.underlying t = some (.int k)) (hv : Value.okWide P W r base t v) (h : v.cells.toList = [.int k' z]) : v = .int k' z := by
  cases v <;> simp [Value.okWide, ht, Cell.okWide, Cell.ok] at hv <;> simpa [Value.cells] using h
end
abbrev zeroCf : Value := .agg #[i64 0, i64 0, i64 0, .slice none 0 0, .slice none 0 0, .slice none 0 0, .slice none 0 0, i64 0, i64 0, i64 0, i64 0, i64 0, i64 0, i64 0, i64 0, .bool false]
theorem own : ownKnob Tryz.prog.godebug = none := by kernel_rfl
theorem laidOut : laidOutB Tryz.prog = true := by kernel_rfl
set_option maxRecDepth 100000 in
theorem robotRuns_lifted (os : Os) (started : os.Started) (H : Type) (enc : TypeId × Value → H) :
    ReturnsInHanded {} Tryz.checked os 3 .any (fun w args => (Rows.robotRunsSpec.pre enc Tryz.prog Tryz.f3 [] false w args ∧ laidMetH Tryz.prog laidS w) ∧ sizedMet enc Tryz.prog Tryz.f3 (OpenSpec.ofChange Rows.robotRunsSpec) false w args)
      (Rows.robotRunsSpec.post enc Tryz.prog Tryz.f3 false true false false) := by
  refine returnsInHanded_of_change_and (C := Tryz.checked) (X := fun w _ => laidMetH Tryz.prog laidS w) (fun _ _ _ hh h => h.of_heap hh) own started (by kernel_rfl) Tryz.func3
    (ChangeSpec.witness_shaped (enc := enc) (C := Tryz.checked) (os := os) (X := fun w _ => laidMetH Tryz.prog laidS w) false (World.doorLaid Tryz.prog 400 os) #[zeroCf, .slice none 0 0, .slice none 0 0] 8 rfl (World.shaped_of_RefB (by kernel_rfl) (by kernel_rfl)) (by kernel_rfl) (by kernel_rfl) (by kernel_rfl) (door_met os _)) ?_
  intro W base args ds gs before hval0 hW _ _ hL _
  have hval : ∀ (j : Nat) t v, Tryz.f3.params[j]? = some t → args[j]? = some v → Value.okWide Tryz.prog W .any base t v := hval0
  have hW' := hW
  obtain ⟨p, q, hA0, hV, rfl, hfz, hnd⟩ := hW
  have hA : DataW.TrodAll enc Tryz.prog W 0 (fun _ => true) true Tryz.f3.params.toList args.toList ds p := hA0
  rw [Tryz.params3] at hA hval
  obtain ⟨v0, v1, v2, d0, d1, d2, p0, p1, p2, rfl, rfl, rfl, ⟨n0, h0⟩, ⟨n1, h1⟩, ⟨n2, h2⟩⟩ := trodAll_three hA
  obtain ⟨rfl, rfl⟩ := trodVars_none hV
  obtain ⟨c, e0, hc, hro⟩ := cf_dec h0
  obtain ⟨A1, c1, l1, e1, m1, _, ⟨Y1, y1⟩, _⟩ := is_dec h1
  obtain ⟨A2, c2, l2, e2, m2, _, ⟨Y2, y2⟩, _⟩ := is_dec h2
  obtain rfl := struct_arg Tryz.underlying26 (hval 0 26 v0 rfl rfl) e0
  obtain rfl := slice_arg Tryz.underlying27 (hval 1 27 v1 rfl rfl) e1
  obtain rfl := slice_arg Tryz.underlying27 (hval 2 27 v2 rfl rfl) e2
  obtain ⟨Ys, ys⟩ := steps_of_laid hL
  clear hA0 hval0
  refine (robotRuns_spec c hc A1 A2 c1 c2 l1 l2 m1 m2 W (fun _ => False) (fun _ h => h) ?_).mono fun e W' ⟨F', X', ⟨he, _⟩, _, hext, _⟩ => ?_
  · intro r hr
    simp only [List.mem_cons, List.not_mem_nil, or_false] at hr
    rcases hr with rfl | rfl | rfl | rfl | rfl | rfl | rfl | rfl
    · exact hro _ (by simp)
    · exact hro _ (by simp)
    · exact hro _ (by simp)
    · exact hro _ (by simp)
    · exact hro _ (by simp)
    · exact ⟨_, y1, fun _ _ h => h⟩
    · exact ⟨_, y2, fun _ _ h => h⟩
    · exact ⟨_, ys, fun _ _ h => h⟩
  · subst he
    exact ⟨_, rfl, law_end laidOut rfl (by kernel_rfl) Tryz.underlying4 rfl (by kernel_rfl) hW' (Ext.below hext)⟩
theorem robotRuns_holds : Rows.RobotRunsSaid :=
  OpenClaim.holds_of_wide 3 Tryz.f3 rfl rfl rfl rfl rfl rfl rfl ⟨rfl, rfl, rfl, rfl, rfl⟩ rfl rfl rfl rfl rfl (by kernel_rfl) Tryz.func3 (by kernel_rfl)
    (of_decide_eq_true (by kernel_rfl)) (by unfold Func.isWrapper; first | (rw [if_pos (by decide +kernel)]; kernel_rfl) | (rw [if_neg (by decide +kernel)]; exact ⟨rfl, rfl⟩))
    (fun os started H enc _ => robotRuns_lifted os started H enc)
end Go.Proofs.YtmbibkifbehgnaaGreatDoor
/-! ## V9: THE CARD of RobotRuns. -/
namespace Go.Proofs.YtmbibkifbehgnaaGreatDoor
open Go
theorem robotRuns_card : Rows.RobotRunsCardSaid :=
  Claim7.holds_tied_plain_at .later [] [.data] true (true, "945a9372eb6062a7c0ad54044477438b604fb5e841eea4e5b48e3c95564060f6") false
    robotRuns_holds (fun _ h => by cases h) (by kernel_rfl) (fun _ h => by cases h) robotRuns_row_tie rfl ⟨rfl, rfl⟩ (by kernel_rfl) rfl
    (fun f fn hf hfn => by
      obtain rfl : f = 3 := Option.some.inj ((show Tryz.prog.funcNamed "skep/skeplaw18.RobotRuns" = some 3 by kernel_rfl).symm.trans hf) |>.symm
      obtain rfl : fn = Tryz.f3 := (Option.some.inj (Tryz.func3.symm.trans hfn)).symm
      exact ⟨by kernel_rfl, fun j t ht => by
        rw [Tryz.params3] at ht
        have hm : t ∈ [26, 27, 27] := by simpa using Array.mem_of_getElem? ht
        have hall : ([26, 27, 27].all fun u => !Tryz.prog.wantsStandIn u) = true := by kernel_rfl
        exact (show Tryz.prog.wantsStandIn t = false by simpa using List.all_eq_true.1 hall t hm)⟩)
    (by kernel_rfl)
#print axioms robotRuns_card
end Go.Proofs.YtmbibkifbehgnaaGreatDoor
