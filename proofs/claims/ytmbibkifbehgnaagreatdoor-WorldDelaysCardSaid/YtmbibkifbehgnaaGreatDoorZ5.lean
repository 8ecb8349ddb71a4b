/-
  My walks and plain laws, part 5 of 5, joined by a program of my own: D7, D8, D9, D10, D11, D12, D13, V5, D14, D15, D16, D17, V7, D18.
-/
import Derived.Test.YtmbibkifbehgnaaGreatDoorRows
import Derived.ProofKit
import Derived.LaidMore
import Derived.OpenShut
import Derived.Carry
import Derived.Stop.Joined
import Derived.Test.YtmbibkifbehgnaaGreatDoorTie
import Derived.Test.YtmbibkifbehgnaaGreatDoorCards
import Derived.SevenTiedAt
import Derived.Test.YtmbibkifbehgnaaGreatDoorZ4
namespace Go.Proofs.YtmbibkifbehgnaaGreatDoor
open Go Sk
set_option linter.unusedVariables false
set_option linter.unusedSimpArgs false
set_option linter.unusedSectionVars false
theorem fa_60_1 (b o : Nat) (w : World) : (Instr.fieldAt 60 (.pointer (some ⟨b, o, none⟩)) 1).run Tryz.prog w = .ok (.pointer (some ⟨b, o + 1, none⟩)) w := by kernel_rfl
theorem fa_60_2 (b o : Nat) (w : World) : (Instr.fieldAt 60 (.pointer (some ⟨b, o, none⟩)) 2).run Tryz.prog w = .ok (.pointer (some ⟨b, o + 2, none⟩)) w := by kernel_rfl
theorem fa_60_4 (b o : Nat) (w : World) : (Instr.fieldAt 60 (.pointer (some ⟨b, o, none⟩)) 4).run Tryz.prog w = .ok (.pointer (some ⟨b, o + 4, none⟩)) w := by kernel_rfl
theorem ag_60  : aggB Tryz.prog 60 18 = true := by kernel_rfl
theorem bs_60_1_0 (x0_0_ : Int) (x0_1_ : Int) (x0_2_ : Int) (x0_3_ : Int) (x0_4_0_0_ : Int) (x0_4_0_1_ : Int) (x0_4_1_ : Bool) (x0_5_0_ : Int) (x0_5_1_ : Int) (x0_5_2_ : Int) (x0_5_3_0_0_ : Int) (x0_5_3_0_1_ : Int) (x0_5_3_1_ : Bool) (x0_5_4_0_0_ : Int) (x0_5_4_0_1_ : Int) (x0_5_4_1_ : Bool) (x0_5_5_ : Int) (x0_5_6_ : Int) : Tryz.prog.builtSlice 60 1 [(0, .agg (List.toArray [.int .i64 x0_0_, .int .i64 x0_1_, .int .i64 x0_2_, .int .i64 x0_3_, .int .i64 x0_4_0_0_, .int .i64 x0_4_0_1_, .bool x0_4_1_, .int .i64 x0_5_0_, .int .i64 x0_5_1_, .int .i64 x0_5_2_, .int .i64 x0_5_3_0_0_, .int .i64 x0_5_3_0_1_, .bool x0_5_3_1_, .int .i64 x0_5_4_0_0_, .int .i64 x0_5_4_0_1_, .bool x0_5_4_1_, .int .i64 x0_5_5_, .int .i64 x0_5_6_]))] = some (List.toArray [.int .i64 x0_0_, .int .i64 x0_1_, .int .i64 x0_2_, .int .i64 x0_3_, .int .i64 x0_4_0_0_, .int .i64 x0_4_0_1_, .bool x0_4_1_, .int .i64 x0_5_0_, .int .i64 x0_5_1_, .int .i64 x0_5_2_, .int .i64 x0_5_3_0_0_, .int .i64 x0_5_3_0_1_, .bool x0_5_3_1_, .int .i64 x0_5_4_0_0_, .int .i64 x0_5_4_0_1_, .bool x0_5_4_1_, .int .i64 x0_5_5_, .int .i64 x0_5_6_]) := by kernel_rfl
theorem el_57  : elB Tryz.prog 57 18 = true := by kernel_rfl
theorem sz_57  : (Tryz.prog.info? 57).map (·.size) = some 1 := by kernel_rfl
theorem sz_60  : (Tryz.prog.info? 60).map (·.size) = some 18 := by kernel_rfl
/-- a sight, as a robot's -/
abbrev fillS (now i : Int) (p : Ps) (s : Si) : Si := ⟨s.kind, now, i, s.bin, p, s.mv⟩
theorem si_snoc (v : Value) (L : List Si) (y : Si) : row v 60 18 (L.length + 1) (L.flatMap encSi ++ encSi y) = siA v (L ++ [y]) := by simp [siA]
theorem Sk.Spec.blkRF {P : Program} {f : FuncId} {args : Array Value} {b : Nat} {cs : List Value} {e : TypeId} {Rc F : List As} {Post : Ending → List As → Prop} (h : Sk.Spec P f args (arr (some ⟨b, 0, none⟩) cs :: Rc) F Post) : Sk.Spec P f args (blk b cs e :: Rc) F Post := by
  intro w X hF hR
  refine h w X hF fun r hr => ?_
  rcases List.mem_cons.1 hr with rfl | hr
  · obtain ⟨Y, hY, hd⟩ := hR _ List.mem_cons_self
    exact ⟨Y, blk_arr hY, hd⟩
  · exact hR r (List.mem_cons_of_mem _ hr)
structure KV where
  k : Nat
  v : Value
section
variable (c : Cf) (b : Nat) (x : WX) (now : Int)
theorem sees_spec {i a : Nat} (hq : x.br[i]? = some a) {fs : List As} {r : Rb} {g : Option Gg} (hf : fs[i]? = some (robA c a r g)) (v : Value) (A : Option Addr) (cap : Nat) (l S : List Si) (hS : S.length + l.length ≤ 1000000) :
    Sk.Spec Tryz.prog 56 #[ptr b, i64 (i : Int), .slice A l.length cap] [arr A (l.flatMap encSi), raA x, sep fs] [wbv b x now v, siA v S] fun e F' => ∃ v', e = .returned (.tuple #[]) ∧ F' = [wbv b x now v', siA v' (S ++ l.map (fillS now (i : Int) r.pose))] ∧ True := by
  have hi := lt_of_some hq
  refine Spec.of_code (vs := [_, _, _]) (k0 := [(0, _), (1, _), (2, _)]) 41 Tryz.func56 rfl Tryz.ntmps56 rfl (.cons (.cons (.cons .nil))) fun w X RR hRR H => ?_
  obtain ⟨b9, o9, hA⟩ := Has.base (.ro (.there .here)) H (nil_of_flat encN_len (by decide) hi)
  refine .seq ?_
  refine .plain rfl ?_
  refine .q rfl rfl rfl (val_move rfl) ?_
  refine .q rfl rfl rfl (val_len Tryz.underlying57 rfl) ?_
  refine .q rfl rfl rfl (val_move rfl) ?_
  refine .nil (cj ?_)
  refine .block ?_
  refine .loop (ι := KV) (fun y => [(0, ptr b), (1, i64 (i : Int)), (8, .slice A l.length cap), (9, i64 ((l.length : Nat) : Int)), (10, i64 (y.k : Int))]) (fun y w' => St w w' X [arr A (l.flatMap encSi), raA x, sep fs] [wbv b x now y.v, siA y.v (S ++ (l.take y.k).map (fillS now (i : Int) r.pose))] ∧ y.k ≤ l.length) (fun y => l.length - y.k) ⟨0, v⟩ (by repeat (first | exact Pick.nil | refine Pick.cons rfl ?_)) ⟨by rw [List.take_zero, List.map_nil, List.append_nil]; exact H, Nat.zero_le _⟩ ?_
  rintro y w5 ⟨H1, hk⟩
  refine .seq ?_
  refine .plain rfl ?_
  refine .q rfl rfl rfl (val_lss rfl rfl rfl) ?_
  refine .nil (cj ?_)
  refine .seq ?_
  refine .cond rfl (fun hc0 => ?_) (fun hc0 => ?_)
  · have hkl : y.k < l.length := by simp only [decide_eq_true_eq] at hc0; omega
    obtain ⟨s, hx⟩ : ∃ s, l[y.k]? = some s := ⟨_, List.getElem?_eq_getElem hkl⟩
    obtain ⟨b8, o8, hB⟩ := Has.base (.ro .here) H1 (nil_of_flat encSi_len (by decide) hkl)
    have hlen : (S ++ (l.take y.k).map (fillS now (i : Int) r.pose)).length ≤ 1000000 := by rw [List.length_append, List.length_map, List.length_take]; omega
    refine .skip (cj ?_)
    refine .seq ?_
    refine .block ?_
    refine .seq ?_
    refine .plain rfl ?_
    refine .q rfl rfl rfl (val_ix el_57 hB rfl rfl rfl hkl) ?_
    refine .qs rfl rfl rfl H1 (ld_ela rfl ag_60 .base hB (.ro .here) encSi_len (by first | assumption | rfl)) ?_
    refine .alloc rfl rfl rfl ze_60 rfl H1 (fun w2 b2 H2 => ⟨fun _ => trivial, ?_⟩)
    refine .store rfl rfl rfl rfl rfl sz_60 rfl H2 .here (by repeat constructor) (fun w3 H3 => ⟨fun _ => trivial, ?_⟩)
    refine .nil (cj ?_)
    refine .seq ?_
    refine .drawS2 19 (.cons (0, true) (.cons (1, true) (.cons (2, true) (.cons (3, true) (.cons (4, true) (.cons (5, true) (.cons (6, true) (.cons (7, true) (.cons (8, true) (.cons (9, true) (.cons (10, true) (.cons (11, true) (.cons (13, true) (.cons (12, false) (.cons (14, false) (.cons (15, true) (.cons (16, false) (.cons (17, true) (.cons (18, false) .nil))))))))))))))))))) mo (by kernel_rfl) H3 (.cons (.there .here) .nil) (fun _ _ _ _ _ h => h) (fun w4 H4 => ?_)
    refine .p rfl rfl rfl (val_move rfl) ?_
    refine .p rfl rfl rfl (val_nilCheck rfl) ?_
    refine .p rfl rfl rfl (val_fieldAddr rfl fa_111_3) ?_
    refine .ps rfl rfl rfl rfl (ld_b rfl ob_3 (.own .here) rfl) ?_
    refine .p rfl rfl rfl (val_move rfl) ?_
    refine .p rfl rfl rfl (val_move rfl) ?_
    refine .p rfl rfl rfl (val_nilCheck rfl) ?_
    refine .p rfl rfl rfl (val_fieldAddr rfl fa_111_2) ?_
    refine .ps rfl rfl rfl rfl (ld_b rfl ob_109 (.own .here) rfl) ?_
    refine .p rfl rfl rfl (val_move rfl) ?_
    refine .p rfl rfl rfl (val_ix el_109 hA rfl rfl rfl hi) ?_
    refine .ps rfl rfl rfl rfl (ld_el rfl ob_30 .base hA (.ro (.there .here)) encN_len (by first | assumption | rfl) rfl) ?_
    refine .p rfl rfl rfl (val_fieldAddr rfl fa_60_1) ?_
    refine .call1 rfl rfl rfl en59 (.cons rfl .nil) (Spec.nthR hf poseA_spec) H4 .nil (.ro (.there (.there .here)) .nil) (fun w5 H5 => ⟨fun _ => (H5.sub (.cons (.there .here) .nil)), ?_⟩)
    refine .store rfl rfl rfl rfl rfl sz_3 rfl H5 .here (by repeat constructor) (fun w6 H6 => ⟨fun _ => (H6.sub (.cons (.there .here) .nil)), ?_⟩)
    refine .p rfl rfl rfl (val_fieldAddr rfl fa_60_2) ?_
    refine .store rfl rfl rfl rfl rfl sz_3 rfl H6 .here (by repeat constructor) (fun w7 H7 => ⟨fun _ => (H7.sub (.cons (.there .here) .nil)), ?_⟩)
    refine .p rfl rfl rfl (val_fieldAddr rfl fa_60_4) ?_
    refine .store rfl rfl rfl rfl rfl sz_40 rfl H7 .here (by repeat constructor) (fun w8 H8 => ⟨fun _ => (H8.sub (.cons (.there .here) .nil)), ?_⟩)
    refine .nil (cj ?_)
    refine .drawS2 8 (.cons (0, true) (.cons (1, true) (.cons (2, true) (.cons (3, true) (.cons (4, true) (.cons (5, true) (.cons (6, false) (.cons (7, false) (.cons (8, true) (.cons (9, true) (.cons (10, false) .nil))))))))))) mo (by kernel_rfl) H8 (.cons (.there .here) (.cons .here .nil)) (fun _ _ _ _ _ h => h) (fun w9 H9 => ?_)
    refine .p rfl rfl rfl (val_move rfl) ?_
    refine .p rfl rfl rfl (val_move rfl) ?_
    refine .p rfl rfl rfl (val_nilCheck rfl) ?_
    refine .p rfl rfl rfl (val_fieldAddr rfl fa_111_4) ?_
    refine .ps rfl rfl rfl rfl (ld_b rfl ob_57 (.own .here) rfl) ?_
    refine .ps rfl rfl rfl rfl (ld_w rfl ag_60 (.own (.there .here)) rfl) ?_
    refine .lit rfl rfl rfl Tryz.underlying57 (.cons rfl .nil) (bs_60_1_0 _ _ _ _ _ _ _ _ _ _ _ _ _ _ _ _ _ _) H9 (fun w10 b10 H10 => ⟨fun _ => (H10.sub (.cons (.there (.there .here)) (.cons (.there .here) .nil))), ?_⟩)
    refine .append rfl rfl rfl (ap_57) rfl rfl H10 (.there (.there (.there .here))) (Has.srcBlk (.own .here) H10) rfl (by simp [Value.oneCell']) (by simp only [maxLen]; omega) (by omega) (fun v11 w11 H11 => ⟨fun _ => (H11.sub (.cons (.there (.there (.there .here))) (.cons (.there (.there .here)) .nil))), ?_⟩)
    obtain ⟨A9, cap9, rfl⟩ := St.rowVal H11 .here
    refine .p rfl rfl rfl (val_nilCheck rfl) ?_
    refine .p rfl rfl rfl (val_fieldAddr rfl fa_111_4) ?_
    refine .store rfl rfl rfl rfl rfl sz_57 rfl H11 (.there (.there (.there .here))) (by repeat constructor) (fun w12 H12 => ⟨fun h => absurd h (by decide), ?_⟩)
    refine .nil (cj ?_)
    refine .plain rfl ?_
    refine .q rfl rfl rfl (val_add rfl rfl (z := ((y.k + 1 : Nat) : Int)) (w64_of (by omega))) ?_
    refine .q rfl rfl rfl (val_move rfl) ?_
    refine .nil ?_
    intro act0 hact0; change Exists _
    refine ⟨⟨y.k + 1, .slice A9 _ cap9⟩, Pick.kn (by repeat (first | exact Pick.nil | refine Pick.cons rfl ?_)) hact0, ⟨by rw [take_snoc hx, List.map_append, ← List.append_assoc, List.map_cons, List.map_nil, ← si_snoc]; exact H12.sub (.cons .here (.cons .here .nil)), hkl⟩, (show l.length - (y.k + 1) < l.length - y.k by omega)⟩
  · have hkl : y.k = l.length := by simp only [decide_eq_false_iff_not] at hc0; omega
    refine .exit (fend (res0 rfl) ?_)
    rw [hkl, List.take_length] at H1
    refine hRR _ _ ⟨_, ⟨_, rfl, rfl, trivial⟩, H1⟩
/-- a block of one sight -/
theorem sees1_spec {i a : Nat} (hq : x.br[i]? = some a) {fs : List As} {r : Rb} {g : Option Gg} (hf : fs[i]? = some (robA c a r g)) (v : Value) (bl : Nat) (s : Si) (S : List Si) (hS : S.length + 1 ≤ 1000000) :
    Sk.Spec Tryz.prog 56 #[ptr b, i64 (i : Int), .slice (some ⟨bl, 0, none⟩) 1 1] [blk bl (encSi s) 60, raA x, sep fs] [wbv b x now v, siA v S] fun e F' => ∃ v', e = .returned (.tuple #[]) ∧ F' = [wbv b x now v', siA v' (S ++ [fillS now (i : Int) r.pose s])] ∧ True := by
  have h := sees_spec c b x now hq hf v (some ⟨bl, 0, none⟩) 1 [s] S hS
  refine Spec.blkRF ?_
  simpa using h
end
end Go.Proofs.YtmbibkifbehgnaaGreatDoor
namespace Go.Proofs.YtmbibkifbehgnaaGreatDoor
open Go Sk
set_option linter.unusedVariables false
set_option linter.unusedSimpArgs false
set_option linter.unusedSectionVars false
theorem en53 : Enters Tryz.prog 53 := fun args w => by kernel_rfl
theorem ap_109  : apB Tryz.prog 109 30 1 8 = true := by kernel_rfl
theorem bs_30_1_0 (x0_ : Option Addr) : Tryz.prog.builtSlice 30 1 [(0, .pointer x0_)] = some (List.toArray [.pointer x0_]) := by kernel_rfl
theorem mk_111_0_1 (x0_ : Option Addr) (x1_ : Option Addr) : Tryz.prog.built 111 [(0, .pointer x0_), (1, .pointer x1_)] = some (List.toArray [.pointer x0_, .pointer x1_, .slice none 0 0, .int .i64 0, .slice none 0 0]) := by kernel_rfl
theorem sz_109  : (Tryz.prog.info? 109).map (·.size) = some 1 := by kernel_rfl
/-- the first i robots, new -/
def newRs (c : Cf) : Nat → List Rg
  | 0 => []
  | i + 1 => newRs c i ++ [⟨⟨(i : Int), c.robots.getD i ⟨0, 0, false⟩, 0, 0, 0, false, 0⟩, none⟩]
theorem newRs_len (c : Cf) : ∀ i, (newRs c i).length = i
  | 0 => rfl
  | i + 1 => by rw [newRs, List.length_append, newRs_len c i]; rfl
def wld0 (c : Cf) : Wm := ⟨newRs c c.robots.length, stm0 c, 0, []⟩
theorem flat_snoc {α : Type} {enc : α → List Value} {l : List α} {x : α} : (l ++ [x]).flatMap enc = l.flatMap enc ++ enc x := by simp
structure NW where
  i : Nat
  br : List Nat
  v : Value
theorem worldNew_spec (c : Cf) (hc : c.Fit) (hm : MayOk c) : Sk.Spec Tryz.prog 23 #[.agg (encCf c).toArray] [cb c, cp c, cr c, cs c, binsA c, stepsA] [] fun e F' => ∃ b : Nat, e = .returned (.tuple #[ptr b, i64 0]) ∧ F' = [wldA c b (wld0 c)] ∧ True := by
  have hrl := hm.rl
  refine Spec.of_code (vs := [_]) (k0 := [(0, _)]) 56 Tryz.func23 rfl Tryz.ntmps23 rfl (.cons .nil) fun w X RR hRR H => ?_
  refine .seq ?_
  refine .plain rfl ?_
  refine .box rfl rfl rfl rfl rfl H (fun w1 b1 H1 => ⟨fun _ => trivial, ?_⟩)
  refine .q rfl rfl rfl (val_assign rfl) ?_
  refine .q rfl rfl rfl (val_assign rfl) ?_
  refine .nil (cj ?_)
  refine .seq ?_
  refine .plain rfl ?_
  refine .qs rfl rfl rfl H1 (ld_w rfl ag_26 (.own .here) rfl) ?_
  refine .callx rfl rfl rfl en36 (.cons rfl .nil) (gnew_spec c hc hm) H1 .nil (.ro .here (.ro (.there .here) (.ro (.there (.there .here)) (.ro (.there (.there (.there .here))) (.ro (.there (.there (.there (.there .here)))) (.ro (.there (.there (.there (.there (.there .here))))) .nil)))))) (fun x2 w2 C2 H2 => ⟨fun _ => trivial, ?_⟩)
  refine .q rfl rfl rfl (val_move rfl) ?_
  refine .q rfl rfl rfl (val_extract rfl rfl) ?_
  refine .q rfl rfl rfl (val_extract rfl rfl) ?_
  refine .q rfl rfl rfl (val_assign rfl) ?_
  refine .q rfl rfl rfl (val_assign rfl) ?_
  refine .nil (cj ?_)
  refine .seq ?_
  refine .seq ?_
  refine .plain rfl ?_
  refine .q rfl rfl rfl (val_move rfl) ?_
  refine .q rfl rfl rfl (val_neq rfl rfl rfl) ?_
  refine .nil (cj ?_)
  refine .cond rfl (fun hc0 => ?_) (fun hc0 => ?_)
  · exfalso; simp at hc0
  · refine .skip (cj ?_)
    refine .seq ?_
    refine .plain rfl ?_
    refine .qs rfl rfl rfl H2 (ld_w rfl ag_26 (.own (.there (.there .here))) rfl) ?_
    refine .callx rfl rfl rfl en53 (.cons rfl .nil) (stkNew_spec c hc hm) H2 .nil (.ro .here (.ro (.there .here) (.ro (.there (.there .here)) (.ro (.there (.there (.there .here))) (.ro (.there (.there (.there (.there .here)))) (.ro (.there (.there (.there (.there (.there .here))))) .nil)))))) (fun bs3 w3 C3 H3 => ⟨fun _ => trivial, ?_⟩)
    refine .q rfl rfl rfl (val_move rfl) ?_
    refine .q rfl rfl rfl (val_extract rfl rfl) ?_
    refine .q rfl rfl rfl (val_extract rfl rfl) ?_
    refine .q rfl rfl rfl (val_assign rfl) ?_
    refine .q rfl rfl rfl (val_assign rfl) ?_
    refine .nil (cj ?_)
    refine .seq ?_
    refine .plain rfl ?_
    refine .q rfl rfl rfl (val_move rfl) ?_
    refine .q rfl rfl rfl (val_move rfl) ?_
    refine .q rfl rfl rfl (val_mk (.cons rfl (.cons rfl .nil)) (mk_111_0_1 _ _)) ?_
    refine .box rfl rfl rfl rfl rfl H3 (fun w4 b4 H4 => ⟨fun _ => trivial, ?_⟩)
    refine .q rfl rfl rfl (val_assign rfl) ?_
    refine .nil (cj ?_)
    refine .seq ?_
    refine .seq ?_
    refine .plain rfl ?_
    refine .q rfl rfl rfl (val_fieldAddr rfl fa_26_5) ?_
    refine .qs rfl rfl rfl H4 (ld_b rfl ob_23 (.own (.there (.there (.there (.there .here))))) rfl) ?_
    refine .q rfl rfl rfl (val_len Tryz.underlying23 rfl) ?_
    refine .q rfl rfl rfl (val_move rfl) ?_
    refine .nil (cj ?_)
    refine .block ?_
    have H6 := H4.rowNil 30 1
    refine .loop (ι := NW) (fun y => [(1, ptr b1), (8, ptr b4), (31, i64 ((c.robots.length : Nat) : Int)), (32, i64 (y.i : Int))]) (fun y w' => St w w' X [cb c, cp c, cr c, cs c, binsA c, stepsA] [blk b1 (encCf c) 26, blk b4 [ptr x2.bg, ptr bs3, y.v, i64 0, .slice none 0 0] 111, gfix c x2.bg x2.bk, kblk x2.bk (KF c), stkA c bs3 (stm0 c), sep (rsE c y.br (newRs c y.i)), row y.v 30 1 y.br.length (y.br.flatMap encN)] ∧ y.i ≤ c.robots.length ∧ y.br.length = y.i) (fun y => c.robots.length - y.i) ⟨0, [], .slice none 0 0⟩ (by repeat (first | exact Pick.nil | refine Pick.cons rfl ?_)) ⟨(St.sepNil H6).sub (.cons (.there (.there (.there (.there (.there (.there .here)))))) (.cons (.there (.there .here)) (.cons (.there (.there (.there .here))) (.cons (.there (.there (.there .here))) (.cons (.there (.there .here)) (.cons .here (.cons .here .nil))))))), Nat.zero_le _, rfl⟩ ?_
    rintro ⟨yi, br, v⟩ w5 ⟨H5, hi, hql⟩
    refine .seq ?_
    refine .plain rfl ?_
    refine .q rfl rfl rfl (val_lss rfl rfl rfl) ?_
    refine .nil (cj ?_)
    refine .seq ?_
    refine .cond rfl (fun hc1 => ?_) (fun hc1 => ?_)
    · dsimp only at hql hi hc1 H5
      have hil : yi < c.robots.length := by simp only [decide_eq_true_eq] at hc1; omega
      obtain ⟨p, hp⟩ : ∃ p, c.robots[yi]? = some p := ⟨_, List.getElem?_eq_getElem hil⟩
      have hpd : c.robots.getD yi ⟨0, 0, false⟩ = p := by rw [List.getD_eq_getElem?_getD, hp]; rfl
      refine .skip (cj ?_)
      refine .seq ?_
      refine .block ?_
      refine .seq ?_
      refine .plain rfl ?_
      refine .q rfl rfl rfl (val_move rfl) ?_
      refine .q rfl rfl rfl (val_assign rfl) ?_
      refine .nil (cj ?_)
      refine .seq ?_
      refine .plain rfl ?_
      refine .qs rfl rfl rfl H5 (ld_w rfl ag_26 (.own .here) rfl) ?_
      refine .q rfl rfl rfl (val_move rfl) ?_
      refine .callx rfl rfl rfl en11 (.cons rfl (.cons rfl .nil)) (robotNewA_spec c hc hm _ _ hp) H5 .nil (.ro .here (.ro (.there .here) (.ro (.there (.there .here)) (.ro (.there (.there (.there .here))) (.ro (.there (.there (.there (.there .here)))) (.ro (.there (.there (.there (.there (.there .here))))) .nil)))))) (fun br9 w7 C7 H7 => ⟨fun _ => trivial, ?_⟩)
      refine .q rfl rfl rfl (val_move rfl) ?_
      refine .q rfl rfl rfl (val_extract rfl rfl) ?_
      refine .q rfl rfl rfl (val_extract rfl rfl) ?_
      refine .q rfl rfl rfl (val_assign rfl) ?_
      refine .q rfl rfl rfl (val_assign rfl) ?_
      refine .nil (cj ?_)
      refine .seq ?_
      refine .seq ?_
      have hbr9 : True := trivial
      refine .plain rfl ?_
      refine .q rfl rfl rfl (val_move rfl) ?_
      refine .q rfl rfl rfl (val_neq rfl rfl rfl) ?_
      refine .nil (cj ?_)
      refine .cond rfl (fun hc2 => ?_) (fun hc2 => ?_)
      · exfalso; simp at hc2
      · refine .skip (cj ?_)
        refine .plain rfl ?_
        refine .q rfl rfl rfl (val_move rfl) ?_
        refine .q rfl rfl rfl (val_move rfl) ?_
        refine .q rfl rfl rfl (val_nilCheck rfl) ?_
        refine .q rfl rfl rfl (val_fieldAddr rfl fa_111_2) ?_
        refine .qs rfl rfl rfl H7 (ld_b rfl ob_109 (.own (.there (.there .here))) rfl) ?_
        refine .q rfl rfl rfl (val_move rfl) ?_
        refine .lit rfl rfl rfl Tryz.underlying109 (.cons rfl .nil) (bs_30_1_0 _) H7 (fun w8 b8 H8 => ⟨fun _ => trivial, ?_⟩)
        refine .append rfl rfl rfl (ap_109) rfl rfl H8 (.there (.there (.there (.there (.there (.there (.there (.there .here)))))))) (Has.srcBlk (.own .here) H8) rfl (by simp [Value.oneCell']) (by simp only [maxLen]; omega) (by omega) (fun v9 w9 H9 => ⟨fun _ => trivial, ?_⟩)
        obtain ⟨A9, cap9, rfl⟩ := St.rowVal H9 .here
        refine .q rfl rfl rfl (val_nilCheck rfl) ?_
        refine .q rfl rfl rfl (val_fieldAddr rfl fa_111_2) ?_
        refine .store rfl rfl rfl rfl rfl sz_109 rfl H9 (.there (.there (.there (.there .here)))) (by repeat constructor) (fun w10 H10 => ⟨fun _ => trivial, ?_⟩)
        refine .nil (cj ?_)
        refine .plain rfl ?_
        refine .q rfl rfl rfl (val_add rfl rfl (z := ((yi + 1 : Nat) : Int)) (w64_of (by dsimp only; omega))) ?_
        refine .q rfl rfl rfl (val_move rfl) ?_
        refine .nil ?_
        intro act0 hact0; change Exists _
        refine ⟨⟨yi + 1, br ++ [br9], .slice A9 _ cap9⟩, Pick.kn (by repeat (first | exact Pick.nil | refine Pick.cons rfl ?_)) hact0, ⟨by have h9 := St.snoc (H10.sub (.cons (.there (.there (.there .here))) (.cons (.there (.there (.there (.there (.there (.there (.there .here))))))) (.cons (.there (.there (.there .here))) (.cons .here (.cons (.there (.there .here)) (.cons (.there (.there .here)) (.cons (.there (.there .here)) (.cons .here .nil))))))))); rw [flat_snoc, List.length_append, show newRs c (yi + 1) = newRs c yi ++ [⟨⟨(yi : Int), p, 0, 0, 0, false, 0⟩, none⟩] by simp only [newRs, hpd], rsE_snoc (by rw [hql, newRs_len])]; exact h9.sub (.cons (.there .here) (.cons (.there .here) (.cons (.there .here) (.cons (.there .here) (.cons (.there .here) (.cons .here (.cons .here .nil))))))), hil, by rw [List.length_append, hql]; rfl⟩, (show c.robots.length - (yi + 1) < c.robots.length - yi by omega)⟩
    · dsimp only at hql hi hc1 H5
      have hil : yi = c.robots.length := by simp only [decide_eq_false_iff_not] at hc1; omega
      refine .exit (cj ?_)
      refine .seq ?_
      refine .plain rfl ?_
      refine .q rfl rfl rfl (val_move rfl) ?_
      refine .q rfl rfl rfl (val_assign rfl) ?_
      refine .q rfl rfl rfl (val_assign rfl) ?_
      refine .nil (cj ?_)
      refine .ret (fret (res2 rfl rfl rfl) ?_)
      obtain ⟨A8, cap8, rfl, hn8, H8⟩ := St.rowOwn H5 (.there (.there (.there (.there (.there (.there .here))))))
      refine hRR _ _ ⟨_, ⟨_, rfl, rfl, trivial⟩, ?_⟩
      exact ((H8.rowNil 60 18).sub (.cons (.there (.there (.there .here))) (.cons (.there (.there (.there .here))) (.cons (.there (.there (.there .here))) (.cons (.there .here) (.cons (.there (.there .here)) (.cons (.there (.there .here)) (.cons .here .nil)))))))).map fun X h => wldA_in (W := wld0 c) ⟨_, _, _, br, A8, cap8, .slice none 0 0⟩ (by rw [hql, hil]; exact (newRs_len c _).symm) (by rw [List.append_nil]; rw [hil] at h; exact h)
end Go.Proofs.YtmbibkifbehgnaaGreatDoor
namespace Go.Proofs.YtmbibkifbehgnaaGreatDoor
open Go Sk
set_option linter.unusedVariables false
set_option linter.unusedSimpArgs false
set_option linter.unusedSectionVars false
theorem fa_111_0 (b o : Nat) (w : World) : (Instr.fieldAt 111 (.pointer (some ⟨b, o, none⟩)) 0).run Tryz.prog w = .ok (.pointer (some ⟨b, o + 0, none⟩)) w := by kernel_rfl
theorem fa_111_1 (b o : Nat) (w : World) : (Instr.fieldAt 111 (.pointer (some ⟨b, o, none⟩)) 1).run Tryz.prog w = .ok (.pointer (some ⟨b, o + 1, none⟩)) w := by kernel_rfl
theorem en88 : Enters Tryz.prog 88 := fun args w => by kernel_rfl
theorem en89 : Enters Tryz.prog 89 := fun args w => by kernel_rfl
theorem en90 : Enters Tryz.prog 90 := fun args w => by kernel_rfl
theorem mk_60_0 (x0_ : Int) : Tryz.prog.built 60 [(0, .int .i64 x0_)] = some (List.toArray [.int .i64 x0_, .int .i64 0, .int .i64 0, .int .i64 0, .int .i64 0, .int .i64 0, .bool false, .int .i64 0, .int .i64 0, .int .i64 0, .int .i64 0, .int .i64 0, .bool false, .int .i64 0, .int .i64 0, .bool false, .int .i64 0, .int .i64 0]) := by kernel_rfl
theorem mk_60_0_3 (x0_ : Int) (x3_ : Int) : Tryz.prog.built 60 [(0, .int .i64 x0_), (3, .int .i64 x3_)] = some (List.toArray [.int .i64 x0_, .int .i64 0, .int .i64 0, .int .i64 x3_, .int .i64 0, .int .i64 0, .bool false, .int .i64 0, .int .i64 0, .int .i64 0, .int .i64 0, .int .i64 0, .bool false, .int .i64 0, .int .i64 0, .bool false, .int .i64 0, .int .i64 0]) := by kernel_rfl
theorem ob_108  : oneB Tryz.prog 108 = true := by kernel_rfl
theorem val_field {P : Program} {nt : NT} {k : L} {X : Operand} {t : TypeId} {f : Nat} {v u : Value} (hx : ev k X = some v) (hr : ∀ w, (Instr.field t v f).run P w = .ok u w) : Val P nt k (.field t X f) u := fun a ha d ty pos af g w => by
  simp only [execOp, ha.ev hx, Sem.run_bind, hr w, Result.andThen_ok]; rfl
theorem fd_40_0 (x y : Int) (d : Bool) (w : World) : (Instr.field 40 (.agg #[i64 x, i64 y, .bool d]) 0).run Tryz.prog w = .ok (.agg #[i64 x, i64 y]) w := by kernel_rfl
theorem St.ownArr {w0 w : World} {M : Nat → Prop} {R F F' : List As} {b : Nat} {cs : List Value} {T : TypeId} (H : St w0 w M R F) (hat : At F (blk b cs T) F') : St w0 w M R (arr (some ⟨b, 0, none⟩) cs :: F') := H.map fun X h => Own.map1 (fun X w h => blk_arr h) (Own.pick hat h)
theorem fset_same {fs : List As} {i : Nat} {f : As} (h : fs[i]? = some f) : fs.set i f = fs := by
  have hl := lt_of_some h
  have e : fs[i] = f := by
    rw [List.getElem?_eq_getElem hl] at h
    exact Option.some.inj h
  rw [← e]
  exact List.set_getElem_self _
def sg (kind bin : Int) : Si := ⟨kind, 0, 0, bin, ⟨0, 0, false⟩, mv0⟩
structure HoR where
  s : Stm
  r : Rb
  l : List Si
def hoistM (c : Cf) (s : Stm) (i : Nat) (r : Rb) (kind : Int) : HoR :=
  if kind = 3 then
    if (liftM c s i r.pose.x r.pose.y).e ≠ 0 then ⟨(liftM c s i r.pose.x r.pose.y).s, r, [sg 8 0]⟩
    else ⟨(liftM c s i r.pose.x r.pose.y).s, { r with load := (liftM c s i r.pose.x r.pose.y).bin }, [sg 4 (liftM c s i r.pose.x r.pose.y).bin]⟩
  else if (dropM c s i r.pose.x r.pose.y).e ≠ 0 then ⟨(dropM c s i r.pose.x r.pose.y).s, r, [sg 8 0]⟩
  else if isPort c r.pose.x r.pose.y = true then ⟨(dropM c s i r.pose.x r.pose.y).s, { r with load := 0 }, [sg 5 (s.loads.getD i 0), sg 6 (s.loads.getD i 0)]⟩
  else ⟨(dropM c s i r.pose.x r.pose.y).s, { r with load := 0 }, [sg 5 (s.loads.getD i 0)]⟩
section
variable {c : Cf} {s : Stm} {i : Nat} {r : Rb} {kind : Int}
theorem ho_a (h : (kind == 3) = true) (h1 : ((liftM c s i r.pose.x r.pose.y).e != 0) = true) : hoistM c s i r kind = ⟨(liftM c s i r.pose.x r.pose.y).s, r, [sg 8 0]⟩ := by
  unfold hoistM; rw [if_pos (by simpa using h), if_pos (by simpa using h1)]
theorem ho_b (h : (kind == 3) = true) (h1 : ((liftM c s i r.pose.x r.pose.y).e != 0) = false) : hoistM c s i r kind = ⟨(liftM c s i r.pose.x r.pose.y).s, { r with load := (liftM c s i r.pose.x r.pose.y).bin }, [sg 4 (liftM c s i r.pose.x r.pose.y).bin]⟩ := by
  unfold hoistM; rw [if_pos (by simpa using h), if_neg (by simpa using h1)]
theorem ho_c (h : (kind == 3) = false) (h1 : ((dropM c s i r.pose.x r.pose.y).e != 0) = true) : hoistM c s i r kind = ⟨(dropM c s i r.pose.x r.pose.y).s, r, [sg 8 0]⟩ := by
  unfold hoistM; rw [if_neg (by simpa using h), if_pos (by simpa using h1)]
theorem ho_d (h : (kind == 3) = false) (h1 : ((dropM c s i r.pose.x r.pose.y).e != 0) = false) (h2 : decide (0 ≤ portB ⟨c.w, c.h, KF c⟩ r.pose.x r.pose.y) = true) : hoistM c s i r kind = ⟨(dropM c s i r.pose.x r.pose.y).s, { r with load := 0 }, [sg 5 (s.loads.getD i 0), sg 6 (s.loads.getD i 0)]⟩ := by
  unfold hoistM; rw [if_neg (by simpa using h), if_neg (by simpa using h1), if_pos (show isPort c r.pose.x r.pose.y = true from h2)]
theorem ho_e (h : (kind == 3) = false) (h1 : ((dropM c s i r.pose.x r.pose.y).e != 0) = false) (h2 : decide (0 ≤ portB ⟨c.w, c.h, KF c⟩ r.pose.x r.pose.y) = false) : hoistM c s i r kind = ⟨(dropM c s i r.pose.x r.pose.y).s, { r with load := 0 }, [sg 5 (s.loads.getD i 0)]⟩ := by
  unfold hoistM; rw [if_neg (by simpa using h), if_neg (by simpa using h1), if_neg]
  unfold isPort
  simp [h2]
end
theorem hoists_spec (c : Cf) (hm : MayOk c) (b : Nat) (x : WX) (now : Int) {i a : Nat} (hq : x.br[i]? = some a) {fs : List As} {r : Rb} {g : Option Gg} (hf : fs[i]? = some (robA c a r g)) (s : Stm) (hok : s.Ok c) (hil : i < s.loads.length) (m : Mv) :
    Sk.Spec Tryz.prog 57 #[ptr b, i64 (i : Int), .agg (encM m).toArray] [wb b x now, gfix c x.bg x.bk, kblk x.bk (KF c), raA x] [stkA c x.bs s, sep fs] fun e F' => ∃ v : SV, e = .returned (.slice v.A (hoistM c s i r m.kind).l.length v.cap) ∧
      F' = [arr v.A ((hoistM c s i r m.kind).l.flatMap encSi), stkA c x.bs (hoistM c s i r m.kind).s, sep (fs.set i (robA c a (hoistM c s i r m.kind).r g))] ∧ True := by
  have hi := lt_of_some hq
  have hz := getD_get hil 0
  have hq' : ∀ f : As, (fs.set i f)[i]? = some f := fun f => by simp [lt_of_some hf]
  refine Spec.of_code (vs := [_, _, _]) (k0 := [(0, _), (1, _), (2, _)]) 91 Tryz.func57 rfl Tryz.ntmps57 rfl (.cons (.cons (.cons .nil))) fun w X RR hRR H => ?_
  obtain ⟨b9, o9, hA⟩ := Has.base (.ro (.there (.there (.there .here)))) H (nil_of_flat encN_len (by decide) hi)
  refine .seq ?_
  refine .plain rfl ?_
  refine .box rfl rfl rfl rfl rfl H (fun w1 b1 H1 => ⟨fun _ => trivial, ?_⟩)
  refine .q rfl rfl rfl (val_assign rfl) ?_
  refine .nil (cj ?_)
  refine .seq ?_
  refine .plain rfl ?_
  refine .q rfl rfl rfl (val_move rfl) ?_
  refine .q rfl rfl rfl (val_nilCheck rfl) ?_
  refine .q rfl rfl rfl (val_fieldAddr rfl fa_111_2) ?_
  refine .qs rfl rfl rfl H1 (ld_b rfl ob_109 (.ro .here) rfl) ?_
  refine .q rfl rfl rfl (val_move rfl) ?_
  refine .q rfl rfl rfl (val_ix el_109 hA rfl rfl rfl hi) ?_
  refine .qs rfl rfl rfl H1 (ld_el rfl ob_30 .base hA (.ro (.there (.there (.there .here)))) encN_len (by first | assumption | rfl) rfl) ?_
  refine .call1 rfl rfl rfl en59 (.cons rfl .nil) (Spec.nthR hf poseA_spec) H1 .nil (.own (.there (.there .here)) .nil) (fun w2 H2 => ⟨fun _ => trivial, ?_⟩)
  refine .q rfl rfl rfl (val_field rfl (fd_40_0 _ _ _)) ?_
  refine .alloc rfl rfl rfl ze_38 rfl H2 (fun w3 b3 H3 => ⟨fun _ => trivial, ?_⟩)
  refine .store rfl rfl rfl rfl rfl sz_38 rfl H3 .here (by repeat constructor) (fun w4 H4 => ⟨fun _ => trivial, ?_⟩)
  refine .nil (cj ?_)
  refine .seq ?_
  refine .plain rfl ?_
  refine .q rfl rfl rfl (val_mk (.cons rfl .nil) (mk_60_0 _)) ?_
  refine .lit rfl rfl rfl Tryz.underlying57 (.cons rfl .nil) (bs_60_1_0 _ _ _ _ _ _ _ _ _ _ _ _ _ _ _ _ _ _) H4 (fun w5 b5 H5 => ⟨fun _ => trivial, ?_⟩)
  refine .q rfl rfl rfl (val_assign rfl) ?_
  refine .nil (cj ?_)
  refine .seq ?_
  refine .seq ?_
  refine .plain rfl ?_
  refine .q rfl rfl rfl (val_fieldAddr rfl fa_42_0) ?_
  refine .qs rfl rfl rfl H5 (ld_b rfl ob_3 (.own (.there (.there .here))) rfl) ?_
  refine .q rfl rfl rfl (val_eql rfl rfl rfl) ?_
  refine .nil (cj ?_)
  refine .cond rfl (fun hc0 => ?_) (fun hc0 => ?_)
  · refine .seq ?_
    refine .drawS2 12 (.cons (0, true) (.cons (1, true) (.cons (2, true) (.cons (3, true) (.cons (4, true) (.cons (5, true) (.cons (6, false) (.cons (7, true) (.cons (8, true) (.cons (9, true) (.cons (10, true) (.cons (11, true) .nil)))))))))))) mo (by kernel_rfl) H5 (.cons (.there .here) .nil) (fun _ _ _ _ _ h => h) (fun w6 H6 => ?_)
    refine .p rfl rfl rfl (val_move rfl) ?_
    refine .p rfl rfl rfl (val_nilCheck rfl) ?_
    refine .p rfl rfl rfl (val_fieldAddr rfl fa_111_1) ?_
    refine .ps rfl rfl rfl rfl (ld_b rfl ob_108 (.ro .here) rfl) ?_
    refine .p rfl rfl rfl (val_move rfl) ?_
    refine .ps rfl rfl rfl rfl (ld_w rfl ag_38 (.own .here) rfl) ?_
    refine .call1 rfl rfl rfl en88 (.cons rfl (.cons rfl (.cons rfl .nil))) (liftA_spec hm hok hil _ _) H6 (.cons (.there (.there (.there .here))) .nil) .nil (fun w7 H7 => ⟨fun _ => (H7.sub (.cons (.there (.there .here)) .nil)), ?_⟩)
    refine .p rfl rfl rfl (val_move rfl) ?_
    refine .p rfl rfl rfl (val_extract rfl rfl) ?_
    refine .p rfl rfl rfl (val_extract rfl rfl) ?_
    refine .p rfl rfl rfl (val_assign rfl) ?_
    refine .p rfl rfl rfl (val_assign rfl) ?_
    refine .nil (cj ?_)
    refine .seq ?_
    refine .seq ?_
    refine .plain rfl ?_
    refine .q rfl rfl rfl (val_move rfl) ?_
    refine .q rfl rfl rfl (val_neq rfl rfl rfl) ?_
    refine .nil (cj ?_)
    refine .cond rfl (fun hc1 => ?_) (fun hc1 => ?_)
    · refine .seq ?_
      refine .plain rfl ?_
      refine .q rfl rfl rfl (val_move rfl) ?_
      refine .q rfl rfl rfl (val_assign rfl) ?_
      refine .nil (cj ?_)
      refine .ret (fret (res1 rfl rfl) ?_)
      first | (rw [ho_a hc0 hc1, fset_same hf] at hRR; exact hRR _ _ ⟨_, ⟨⟨some ⟨_, 0, none⟩, 1⟩, rfl, rfl, trivial⟩, (St.ownArr H7 (.there .here)).sub (.cons .here (.cons .here (.cons (.there (.there .here)) .nil)))⟩) | (rw [ho_b hc0 hc1] at hRR; exact hRR _ _ ⟨_, ⟨⟨some ⟨_, 0, none⟩, 1⟩, rfl, rfl, trivial⟩, (St.ownArr H7 .here).sub .nil⟩) | (rw [ho_c hc0 hc2, fset_same hf] at hRR; exact hRR _ _ ⟨_, ⟨⟨some ⟨_, 0, none⟩, 1⟩, rfl, rfl, trivial⟩, (St.ownArr H7 (.there .here)).sub (.cons .here (.cons .here (.cons (.there (.there .here)) .nil)))⟩) | (rw [ho_d hc0 hc2 hc3] at hRR; exact hRR _ _ ⟨_, ⟨⟨A8, cap8⟩, rfl, rfl, trivial⟩, H7.sub .nil⟩) | (rw [ho_e hc0 hc2 hc3] at hRR; exact hRR _ _ ⟨_, ⟨⟨some ⟨_, 0, none⟩, 1⟩, rfl, rfl, trivial⟩, (St.ownArr H7 .here).sub .nil⟩)
    · refine .skip (cj ?_)
      refine .seq ?_
      refine .plain rfl ?_
      refine .q rfl rfl rfl (val_move rfl) ?_
      refine .q rfl rfl rfl (val_nilCheck rfl) ?_
      refine .q rfl rfl rfl (val_fieldAddr rfl fa_111_2) ?_
      refine .qs rfl rfl rfl H7 (ld_b rfl ob_109 (.ro .here) rfl) ?_
      refine .q rfl rfl rfl (val_move rfl) ?_
      refine .q rfl rfl rfl (val_ix el_109 hA rfl rfl rfl hi) ?_
      refine .qs rfl rfl rfl H7 (ld_el rfl ob_30 .base hA (.ro (.there (.there (.there .here)))) encN_len (by first | assumption | rfl) rfl) ?_
      refine .q rfl rfl rfl (val_move rfl) ?_
      refine .call1 rfl rfl rfl en45 (.cons rfl (.cons rfl .nil)) (Spec.nth1 hf (carryA_spec _)) H7 (.cons (.there (.there (.there (.there .here)))) .nil) .nil (fun w8 H8 => ⟨fun _ => trivial, ?_⟩)
      refine .nil (cj ?_)
      refine .seq ?_
      refine .plain rfl ?_
      refine .q rfl rfl rfl (val_move rfl) ?_
      refine .q rfl rfl rfl (val_mk (.cons rfl (.cons rfl .nil)) (mk_60_0_3 _ _)) ?_
      refine .lit rfl rfl rfl Tryz.underlying57 (.cons rfl .nil) (bs_60_1_0 _ _ _ _ _ _ _ _ _ _ _ _ _ _ _ _ _ _) H8 (fun w9 b9 H9 => ⟨fun _ => trivial, ?_⟩)
      refine .q rfl rfl rfl (val_assign rfl) ?_
      refine .nil (cj ?_)
      refine .ret (fret (res1 rfl rfl) ?_)
      first | (rw [ho_a hc0 hc1, fset_same hf] at hRR; exact hRR _ _ ⟨_, ⟨⟨some ⟨_, 0, none⟩, 1⟩, rfl, rfl, trivial⟩, (St.ownArr H9 (.there (.there (.there .here)))).sub (.cons .here (.cons (.there (.there .here)) (.cons (.there .here) .nil)))⟩) | (rw [ho_b hc0 hc1] at hRR; exact hRR _ _ ⟨_, ⟨⟨some ⟨_, 0, none⟩, 1⟩, rfl, rfl, trivial⟩, (St.ownArr H9 .here).sub (.cons .here (.cons (.there .here) (.cons .here .nil)))⟩) | (rw [ho_c hc0 hc2, fset_same hf] at hRR; exact hRR _ _ ⟨_, ⟨⟨some ⟨_, 0, none⟩, 1⟩, rfl, rfl, trivial⟩, (St.ownArr H9 (.there (.there (.there .here)))).sub (.cons .here (.cons (.there (.there .here)) (.cons (.there .here) .nil)))⟩) | (rw [ho_d hc0 hc2 hc3] at hRR; exact hRR _ _ ⟨_, ⟨⟨A8, cap8⟩, rfl, rfl, trivial⟩, H9.sub .nil⟩) | (rw [ho_e hc0 hc2 hc3] at hRR; exact hRR _ _ ⟨_, ⟨⟨some ⟨_, 0, none⟩, 1⟩, rfl, rfl, trivial⟩, (St.ownArr H9 .here).sub .nil⟩)
  · refine .skip (cj ?_)
    refine .seq ?_
    refine .plain rfl ?_
    refine .q rfl rfl rfl (val_move rfl) ?_
    refine .q rfl rfl rfl (val_nilCheck rfl) ?_
    refine .q rfl rfl rfl (val_fieldAddr rfl fa_111_1) ?_
    refine .qs rfl rfl rfl H5 (ld_b rfl ob_108 (.ro .here) rfl) ?_
    refine .q rfl rfl rfl (val_move rfl) ?_
    refine .call1 rfl rfl rfl en89 (.cons rfl (.cons rfl .nil)) (sloadA_spec hz hok) H5 .nil (.own (.there (.there (.there .here))) .nil) (fun w10 H10 => ⟨fun _ => trivial, ?_⟩)
    refine .q rfl rfl rfl (val_assign rfl) ?_
    refine .nil (cj ?_)
    refine .seq ?_
    refine .seq ?_
    refine .drawS2 8 (.cons (0, true) (.cons (1, true) (.cons (2, true) (.cons (3, true) (.cons (4, true) (.cons (5, true) (.cons (6, false) (.cons (7, true) .nil)))))))) mo (by kernel_rfl) H10 (.cons (.there .here) .nil) (fun _ _ _ _ _ h => h) (fun w11 H11 => ?_)
    refine .p rfl rfl rfl (val_move rfl) ?_
    refine .p rfl rfl rfl (val_nilCheck rfl) ?_
    refine .p rfl rfl rfl (val_fieldAddr rfl fa_111_1) ?_
    refine .ps rfl rfl rfl rfl (ld_b rfl ob_108 (.ro .here) rfl) ?_
    refine .p rfl rfl rfl (val_move rfl) ?_
    refine .ps rfl rfl rfl rfl (ld_w rfl ag_38 (.own .here) rfl) ?_
    refine .call1 rfl rfl rfl en90 (.cons rfl (.cons rfl (.cons rfl .nil))) (dropA_spec hm hok hil _ _) H11 (.cons (.there (.there (.there .here))) .nil) .nil (fun w12 H12 => ⟨fun _ => (H12.sub (.cons (.there (.there .here)) .nil)), ?_⟩)
    refine .p rfl rfl rfl (val_neq rfl rfl rfl) ?_
    refine .nil (cj ?_)
    refine .cond rfl (fun hc2 => ?_) (fun hc2 => ?_)
    · refine .seq ?_
      refine .plain rfl ?_
      refine .q rfl rfl rfl (val_move rfl) ?_
      refine .q rfl rfl rfl (val_assign rfl) ?_
      refine .nil (cj ?_)
      refine .ret (fret (res1 rfl rfl) ?_)
      first | (rw [ho_a hc0 hc1, fset_same hf] at hRR; exact hRR _ _ ⟨_, ⟨⟨some ⟨_, 0, none⟩, 1⟩, rfl, rfl, trivial⟩, (St.ownArr H12 (.there .here)).sub (.cons .here (.cons .here (.cons (.there (.there .here)) .nil)))⟩) | (rw [ho_b hc0 hc1] at hRR; exact hRR _ _ ⟨_, ⟨⟨some ⟨_, 0, none⟩, 1⟩, rfl, rfl, trivial⟩, (St.ownArr H12 .here).sub .nil⟩) | (rw [ho_c hc0 hc2, fset_same hf] at hRR; exact hRR _ _ ⟨_, ⟨⟨some ⟨_, 0, none⟩, 1⟩, rfl, rfl, trivial⟩, (St.ownArr H12 (.there .here)).sub (.cons .here (.cons .here (.cons (.there (.there .here)) .nil)))⟩) | (rw [ho_d hc0 hc2 hc3] at hRR; exact hRR _ _ ⟨_, ⟨⟨A8, cap8⟩, rfl, rfl, trivial⟩, H12.sub .nil⟩) | (rw [ho_e hc0 hc2 hc3] at hRR; exact hRR _ _ ⟨_, ⟨⟨some ⟨_, 0, none⟩, 1⟩, rfl, rfl, trivial⟩, (St.ownArr H12 .here).sub .nil⟩)
    · refine .skip (cj ?_)
      refine .seq ?_
      refine .plain rfl ?_
      refine .q rfl rfl rfl (val_move rfl) ?_
      refine .q rfl rfl rfl (val_nilCheck rfl) ?_
      refine .q rfl rfl rfl (val_fieldAddr rfl fa_111_2) ?_
      refine .qs rfl rfl rfl H12 (ld_b rfl ob_109 (.ro .here) rfl) ?_
      refine .q rfl rfl rfl (val_move rfl) ?_
      refine .q rfl rfl rfl (val_ix el_109 hA rfl rfl rfl (by omega)) ?_
      refine .qs rfl rfl rfl H12 (ld_el rfl ob_30 .base hA (.ro (.there (.there (.there .here)))) encN_len (by first | assumption | rfl) rfl) ?_
      refine .call1 rfl rfl rfl en45 (.cons rfl (.cons rfl .nil)) (Spec.nth1 hf (carryA_spec _)) H12 (.cons (.there (.there (.there (.there .here)))) .nil) .nil (fun w13 H13 => ⟨fun _ => trivial, ?_⟩)
      refine .nil (cj ?_)
      refine .seq ?_
      refine .plain rfl ?_
      refine .q rfl rfl rfl (val_move rfl) ?_
      refine .q rfl rfl rfl (val_mk (.cons rfl (.cons rfl .nil)) (mk_60_0_3 _ _)) ?_
      refine .lit rfl rfl rfl Tryz.underlying57 (.cons rfl .nil) (bs_60_1_0 _ _ _ _ _ _ _ _ _ _ _ _ _ _ _ _ _ _) H13 (fun w14 b14 H14 => ⟨fun _ => trivial, ?_⟩)
      refine .q rfl rfl rfl (val_assign rfl) ?_
      refine .nil (cj ?_)
      refine .seq ?_
      refine .seq ?_
      refine .drawS 7 (.cons (0, true) (.cons (1, true) (.cons (2, true) (.cons (3, true) (.cons (4, true) (.cons (5, false) (.cons (6, true) .nil))))))) mo (by kernel_rfl) H14 (fun _ _ _ _ _ h => h) (fun w15 H15 => ?_)
      refine .p rfl rfl rfl (val_move rfl) ?_
      refine .p rfl rfl rfl (val_nilCheck rfl) ?_
      refine .p rfl rfl rfl (val_fieldAddr rfl fa_111_0) ?_
      refine .ps rfl rfl rfl rfl (ld_b rfl ob_84 (.ro .here) rfl) ?_
      refine .ps rfl rfl rfl rfl (ld_w rfl ag_38 (.own (.there (.there (.there (.there .here))))) rfl) ?_
      refine .call1 rfl rfl rfl en91 (.cons rfl (.cons rfl .nil)) (portK_spec c hm _ _ _ _) H15 .nil (.ro (.there .here) (.ro (.there (.there .here)) .nil)) (fun w16 H16 => ⟨fun _ => H16, ?_⟩)
      refine .p rfl rfl rfl (val_geq rfl rfl rfl) ?_
      refine .nil (cj ?_)
      refine .cond rfl (fun hc3 => ?_) (fun hc3 => ?_)
      · have HR := H16.blkRow (n := 1) (cap := 1) (sz := 18) .here rfl (Nat.le_refl _) (by decide)
        refine .plain rfl ?_
        refine .q rfl rfl rfl (val_move rfl) ?_
        refine .q rfl rfl rfl (val_move rfl) ?_
        refine .q rfl rfl rfl (val_mk (.cons rfl (.cons rfl .nil)) (mk_60_0_3 _ _)) ?_
        refine .lit rfl rfl rfl Tryz.underlying57 (.cons rfl .nil) (bs_60_1_0 _ _ _ _ _ _ _ _ _ _ _ _ _ _ _ _ _ _) HR (fun w17 b17 H17 => ⟨fun _ => trivial, ?_⟩)
        refine .append rfl rfl rfl (ap_57) rfl rfl H17 (.there .here) (Has.srcBlk (.own .here) H17) rfl (by simp [Value.oneCell']) (by decide) (by decide) (fun v18 w18 H18 => ⟨fun _ => trivial, ?_⟩)
        obtain ⟨A8, cap8, rfl, hn8, H19⟩ := St.rowOwn H18 .here
        refine .q rfl rfl rfl (val_assign rfl) ?_
        refine .nil (cj ?_)
        refine .seq ?_
        refine .plain rfl ?_
        refine .q rfl rfl rfl (val_move rfl) ?_
        refine .q rfl rfl rfl (val_assign rfl) ?_
        refine .nil (cj ?_)
        refine .ret (fret (res1 rfl rfl) ?_)
        first | (rw [ho_a hc0 hc1, fset_same hf] at hRR; exact hRR _ _ ⟨_, ⟨⟨some ⟨_, 0, none⟩, 1⟩, rfl, rfl, trivial⟩, (St.ownArr H19 (.there (.there (.there (.there .here))))).sub (.cons .here (.cons (.there (.there (.there .here))) (.cons (.there (.there .here)) .nil)))⟩) | (rw [ho_b hc0 hc1] at hRR; exact hRR _ _ ⟨_, ⟨⟨some ⟨_, 0, none⟩, 1⟩, rfl, rfl, trivial⟩, (St.ownArr H19 .here).sub .nil⟩) | (rw [ho_c hc0 hc2, fset_same hf] at hRR; exact hRR _ _ ⟨_, ⟨⟨some ⟨_, 0, none⟩, 1⟩, rfl, rfl, trivial⟩, (St.ownArr H19 (.there (.there (.there (.there .here))))).sub (.cons .here (.cons (.there (.there (.there .here))) (.cons (.there (.there .here)) .nil)))⟩) | (rw [ho_d hc0 hc2 hc3] at hRR; exact hRR _ _ ⟨_, ⟨⟨A8, cap8⟩, rfl, rfl, trivial⟩, H19.sub (.cons .here (.cons (.there (.there .here)) (.cons (.there .here) .nil)))⟩) | (rw [ho_e hc0 hc2 hc3] at hRR; exact hRR _ _ ⟨_, ⟨⟨some ⟨_, 0, none⟩, 1⟩, rfl, rfl, trivial⟩, (St.ownArr H19 .here).sub (.cons .here (.cons (.there (.there (.there .here))) (.cons (.there (.there .here)) .nil)))⟩)
      · refine .skip (cj ?_)
        refine .seq ?_
        refine .plain rfl ?_
        refine .q rfl rfl rfl (val_move rfl) ?_
        refine .q rfl rfl rfl (val_assign rfl) ?_
        refine .nil (cj ?_)
        refine .ret (fret (res1 rfl rfl) ?_)
        first | (rw [ho_a hc0 hc1, fset_same hf] at hRR; exact hRR _ _ ⟨_, ⟨⟨some ⟨_, 0, none⟩, 1⟩, rfl, rfl, trivial⟩, (St.ownArr H16 (.there (.there (.there .here)))).sub (.cons .here (.cons (.there (.there .here)) (.cons (.there .here) .nil)))⟩) | (rw [ho_b hc0 hc1] at hRR; exact hRR _ _ ⟨_, ⟨⟨some ⟨_, 0, none⟩, 1⟩, rfl, rfl, trivial⟩, (St.ownArr H16 .here).sub .nil⟩) | (rw [ho_c hc0 hc2, fset_same hf] at hRR; exact hRR _ _ ⟨_, ⟨⟨some ⟨_, 0, none⟩, 1⟩, rfl, rfl, trivial⟩, (St.ownArr H16 (.there (.there (.there .here)))).sub (.cons .here (.cons (.there (.there .here)) (.cons (.there .here) .nil)))⟩) | (rw [ho_d hc0 hc2 hc3] at hRR; exact hRR _ _ ⟨_, ⟨⟨A8, cap8⟩, rfl, rfl, trivial⟩, H16.sub .nil⟩) | (rw [ho_e hc0 hc2 hc3] at hRR; exact hRR _ _ ⟨_, ⟨⟨some ⟨_, 0, none⟩, 1⟩, rfl, rfl, trivial⟩, (St.ownArr H16 .here).sub (.cons .here (.cons (.there .here) (.cons .here .nil)))⟩)
end Go.Proofs.YtmbibkifbehgnaaGreatDoor
namespace Go.Proofs.YtmbibkifbehgnaaGreatDoor
open Go Sk
set_option linter.unusedVariables false
set_option linter.unusedSimpArgs false
set_option linter.unusedSectionVars false
theorem en56 : Enters Tryz.prog 56 := fun args w => by kernel_rfl
theorem mk_60_0_5 (x0_ : Int) (x5_0_ : Int) (x5_1_ : Int) (x5_2_ : Int) (x5_3_0_0_ : Int) (x5_3_0_1_ : Int) (x5_3_1_ : Bool) (x5_4_0_0_ : Int) (x5_4_0_1_ : Int) (x5_4_1_ : Bool) (x5_5_ : Int) (x5_6_ : Int) : Tryz.prog.built 60 [(0, .int .i64 x0_), (5, .agg (List.toArray [.int .i64 x5_0_, .int .i64 x5_1_, .int .i64 x5_2_, .int .i64 x5_3_0_0_, .int .i64 x5_3_0_1_, .bool x5_3_1_, .int .i64 x5_4_0_0_, .int .i64 x5_4_0_1_, .bool x5_4_1_, .int .i64 x5_5_, .int .i64 x5_6_]))] = some (List.toArray [.int .i64 x0_, .int .i64 0, .int .i64 0, .int .i64 0, .int .i64 0, .int .i64 0, .bool false, .int .i64 x5_0_, .int .i64 x5_1_, .int .i64 x5_2_, .int .i64 x5_3_0_0_, .int .i64 x5_3_0_1_, .bool x5_3_1_, .int .i64 x5_4_0_0_, .int .i64 x5_4_0_1_, .bool x5_4_1_, .int .i64 x5_5_, .int .i64 x5_6_]) := by kernel_rfl
/-- what is seen when a robot has heard -/
def hearL (how : Int) (g : Option Gg) : List Si := if how = 1 then [⟨1, 0, 0, 0, ⟨0, 0, false⟩, nowM g⟩] else if how = 2 then [sg 7 0] else if how = 3 then [sg 3 0] else []
section
variable {how : Int} {g : Option Gg}
theorem hl_a (h : (how == 1) = true) : hearL how g = [⟨1, 0, 0, 0, ⟨0, 0, false⟩, nowM g⟩] := by unfold hearL; rw [if_pos (by simpa using h)]
theorem hl_b (h : (how == 1) = false) (h2 : (how == 2) = true) : hearL how g = [sg 7 0] := by unfold hearL; rw [if_neg (by simpa using h), if_pos (by simpa using h2)]
theorem hl_c (h : (how == 1) = false) (h2 : (how == 2) = false) (h3 : (how == 3) = true) : hearL how g = [sg 3 0] := by unfold hearL; rw [if_neg (by simpa using h), if_neg (by simpa using h2), if_pos (by simpa using h3)]
theorem hl_d (h : (how == 1) = false) (h2 : (how == 2) = false) (h3 : (how == 3) = false) : hearL how g = [] := by unfold hearL; rw [if_neg (by simpa using h), if_neg (by simpa using h2), if_neg (by simpa using h3)]
end
structure HW where
  x : SV
  v : Value
section
variable (c : Cf) (hm : MayOk c) (b : Nat) (x : WX) (now : Int)
theorem hear0_spec' (t : Te) (ht : t.robot < 0 ∨ (x.br.length : Int) ≤ t.robot) : Sk.Spec Tryz.prog 25 #[ptr b, .agg (encT t).toArray] [wb b x now, raA x] [] fun e F' => e = .returned (.slice none 0 0) ∧ F' = [] := by
  refine Spec.of_code (vs := [_, _]) (k0 := [(0, _), (1, _)]) 54 Tryz.func25 rfl Tryz.ntmps25 rfl (.cons (.cons .nil)) fun w X RR hRR H => ?_
  refine .seq ?_
  refine .plain rfl ?_
  refine .box rfl rfl rfl rfl rfl H (fun w1 b1 H1 => ⟨fun _ => trivial, ?_⟩)
  refine .q rfl rfl rfl (val_assign rfl) ?_
  refine .nil (cj ?_)
  refine .seq ?_
  refine .plain rfl ?_
  refine .q rfl rfl rfl (val_move rfl) ?_
  refine .q rfl rfl rfl (val_fieldAddr rfl fa_44_1) ?_
  refine .qs rfl rfl rfl H1 (ld_b rfl ob_3 (.own .here) rfl) ?_
  refine .call1 rfl rfl rfl en52 (.cons rfl (.cons rfl .nil)) (rob0_spec _ _ _ ht) H1 .nil (.ro .here (.ro (.there .here) .nil)) (fun w2 H2 => ⟨fun _ => trivial, ?_⟩)
  refine .q rfl rfl rfl (val_assign rfl) ?_
  refine .nil (cj ?_)
  refine .seq ?_
  refine .seq ?_
  refine .plain rfl ?_
  refine .q rfl rfl rfl (val_move rfl) ?_
  refine .q rfl rfl rfl (val_ptr_eq_nil Tryz.underlying30 rfl rfl rfl) ?_
  refine .nil (cj ?_)
  refine .cond_t rfl ?_
  refine .seq ?_
  refine .plain rfl ?_
  refine .q rfl rfl rfl (val_assign rfl) ?_
  refine .nil (cj ?_)
  refine .ret (fret (res1 rfl rfl) ?_)
  refine hRR _ _ ⟨_, ⟨?_, rfl⟩, H2.sub .nil⟩
  rfl
include hm
theorem hear1_spec' (v : Value) {i a : Nat} (hq : x.br[i]? = some a) {fs : List As} {r : Rb} {g : Option Gg} (hf : fs[i]? = some (robA c a r g)) (hg : RunO g) (S : List Si) (hS : S.length + 1 ≤ 1000000) (t : Te) (ht : t.robot = (i : Int)) :
    Sk.Spec Tryz.prog 25 #[ptr b, .agg (encT t).toArray] [raA x, stepsA] [wbv b x now v, siA v S, sep fs] fun e F' => ∃ y : HW, e = .returned (teV (hearB c r g t).tele y.x) ∧
      F' = [wbv b x now y.v, siA y.v (S ++ (hearL (hearB c r g t).how (hearB c r g t).g).map (fillS now (i : Int) (hearB c r g t).r.pose)), sep (fs.set i (robA c a (hearB c r g t).r (hearB c r g t).g)), teA (hearB c r g t).tele y.x] ∧ True := by
  obtain ⟨kd, ro, ep, nu, mv, ps, lo⟩ := t
  dsimp only at ht
  subst ht
  have hi := lt_of_some hq
  have hf2 : ∀ f : As, (fs.set i f)[i]? = some f := fun f => by simp [lt_of_some hf]
  refine Spec.of_code (vs := [_, _]) (k0 := [(0, _), (1, _)]) 54 Tryz.func25 rfl Tryz.ntmps25 rfl (.cons (.cons .nil)) fun w X RR hRR H => ?_
  refine .seq ?_
  refine .plain rfl ?_
  refine .box rfl rfl rfl rfl rfl H (fun w1 b1 H1 => ⟨fun _ => trivial, ?_⟩)
  refine .q rfl rfl rfl (val_assign rfl) ?_
  refine .nil (cj ?_)
  refine .seq ?_
  refine .plain rfl ?_
  refine .q rfl rfl rfl (val_move rfl) ?_
  refine .q rfl rfl rfl (val_fieldAddr rfl fa_44_1) ?_
  refine .qs rfl rfl rfl H1 (ld_b rfl ob_3 (.own .here) rfl) ?_
  refine .call1 rfl rfl rfl en52 (.cons rfl (.cons rfl .nil)) (rob1_spec b { x with v := v } now hq) H1 .nil (.own (.there .here) (.ro .here .nil)) (fun w2 H2 => ⟨fun _ => trivial, ?_⟩)
  refine .q rfl rfl rfl (val_assign rfl) ?_
  refine .nil (cj ?_)
  refine .seq ?_
  refine .seq ?_
  refine .plain rfl ?_
  refine .q rfl rfl rfl (val_move rfl) ?_
  refine .q rfl rfl rfl (val_ptr_eq_nil Tryz.underlying30 rfl rfl rfl) ?_
  refine .nil (cj ?_)
  refine .cond_f rfl ?_
  refine .skip (cj ?_)
  refine .seq ?_
  refine .plain rfl ?_
  refine .q rfl rfl rfl (val_move rfl) ?_
  refine .qs rfl rfl rfl H2 (ld_w rfl ag_44 (.own .here) rfl) ?_
  refine .callx rfl rfl rfl en34 (.cons rfl (.cons rfl .nil)) (Spec.nthx hf (hearA2_spec hm hg _)) H2 (.cons (.there (.there (.there .here))) .nil) (.ro (.there .here) .nil) (fun y4 w3 C3 H3 => ⟨fun _ => trivial, ?_⟩)
  refine .q rfl rfl rfl (val_move rfl) ?_
  refine .q rfl rfl rfl (val_extract rfl rfl) ?_
  refine .q rfl rfl rfl (val_extract rfl rfl) ?_
  refine .q rfl rfl rfl (val_assign rfl) ?_
  refine .q rfl rfl rfl (val_assign rfl) ?_
  refine .nil (cj ?_)
  refine .seq ?_
  refine .seq ?_
  refine .plain rfl ?_
  refine .q rfl rfl rfl (val_move rfl) ?_
  refine .nil (cj ?_)
  refine .block ?_
  refine .seq ?_
  refine .plain rfl ?_
  refine .q rfl rfl rfl (val_eql rfl rfl rfl) ?_
  refine .q rfl rfl rfl (val_assign rfl) ?_
  refine .nil (cj ?_)
  refine .cond rfl (fun hc1 => ?_) (fun hc1 => ?_)
  · refine .seq ?_
    refine .plain rfl ?_
    refine .q rfl rfl rfl (val_move rfl) ?_
    refine .call1 rfl rfl rfl en55 (.cons rfl .nil) (Spec.nthR (hf2 _) nowA_spec) H3 .nil (.own .here .nil) (fun w4 H4 => ⟨fun _ => trivial, ?_⟩)
    refine .q rfl rfl rfl (val_move rfl) ?_
    refine .q rfl rfl rfl (val_extract rfl rfl) ?_
    refine .q rfl rfl rfl (val_extract rfl rfl) ?_
    refine .alloc rfl rfl rfl ze_42 rfl H4 (fun w5 b5 H5 => ⟨fun _ => trivial, ?_⟩)
    refine .store rfl rfl rfl rfl rfl sz_42 rfl H5 .here (by repeat constructor) (fun w6 H6 => ⟨fun _ => trivial, ?_⟩)
    refine .q rfl rfl rfl (val_assign rfl) ?_
    refine .nil (cj ?_)
    refine .plain rfl ?_
    refine .q rfl rfl rfl (val_move rfl) ?_
    refine .q rfl rfl rfl (val_fieldAddr rfl fa_44_1) ?_
    refine .qs rfl rfl rfl H6 (ld_b rfl ob_3 (.own (.there (.there (.there .here)))) rfl) ?_
    refine .qs rfl rfl rfl H6 (ld_w rfl ag_42 (.own .here) rfl) ?_
    refine .q rfl rfl rfl (val_mk (.cons rfl (.cons rfl .nil)) (mk_60_0_5 _ _ _ _ _ _ _ _ _ _ _ _)) ?_
    refine .lit rfl rfl rfl Tryz.underlying57 (.cons rfl .nil) (bs_60_1_0 _ _ _ _ _ _ _ _ _ _ _ _ _ _ _ _ _ _) H6 (fun w7 b7 H7 => ⟨fun _ => trivial, ?_⟩)
    refine .callx rfl rfl rfl en56 (.cons rfl (.cons rfl (.cons rfl .nil))) (sees1_spec c b x now hq (hf2 _) v _ ⟨1, 0, 0, 0, ⟨0, 0, false⟩, _⟩ S hS) H7 (.cons (.there (.there (.there (.there (.there .here))))) (.cons (.there (.there (.there (.there (.there .here))))) .nil)) (.own .here (.ro .here (.own (.there (.there .here)) .nil))) (fun v9 w8 C8 H8 => ⟨fun _ => trivial, ?_⟩)
    refine .nil (cj ?_)
    refine .seq ?_
    refine .plain rfl ?_
    refine .q rfl rfl rfl (val_move rfl) ?_
    refine .q rfl rfl rfl (val_assign rfl) ?_
    refine .nil (cj ?_)
    refine .ret (fret (res1 rfl rfl) ?_)
    first | (rw [hl_a hc1] at hRR; exact hRR _ _ ⟨_, ⟨⟨y4, v9⟩, rfl, rfl, trivial⟩, H8.sub (.cons .here (.cons .here (.cons (.there (.there .here)) (.cons (.there (.there .here)) .nil))))⟩) | (rw [hl_b hc1 hc2] at hRR; exact hRR _ _ ⟨_, ⟨⟨y4, v9⟩, rfl, rfl, trivial⟩, H8.sub (.cons .here (.cons .here (.cons (.there (.there .here)) (.cons (.there (.there .here)) .nil))))⟩) | (rw [hl_c hc1 hc2 hc3] at hRR; exact hRR _ _ ⟨_, ⟨⟨y4, v9⟩, rfl, rfl, trivial⟩, H8.sub (.cons .here (.cons .here (.cons (.there (.there .here)) (.cons (.there (.there .here)) .nil))))⟩) | (rw [hl_d hc1 hc2 hc3, List.map_nil, List.append_nil] at hRR; exact hRR _ _ ⟨_, ⟨⟨y4, v⟩, rfl, rfl, trivial⟩, H8.sub (.cons .here (.cons .here (.cons (.there (.there .here)) (.cons (.there (.there .here)) .nil))))⟩)
  · refine .seq ?_
    refine .plain rfl ?_
    refine .q rfl rfl rfl (val_eql rfl rfl rfl) ?_
    refine .q rfl rfl rfl (val_assign rfl) ?_
    refine .nil (cj ?_)
    refine .cond rfl (fun hc2 => ?_) (fun hc2 => ?_)
    · refine .plain rfl ?_
      refine .q rfl rfl rfl (val_move rfl) ?_
      refine .q rfl rfl rfl (val_fieldAddr rfl fa_44_1) ?_
      refine .qs rfl rfl rfl H3 (ld_b rfl ob_3 (.own (.there (.there .here))) rfl) ?_
      refine .q rfl rfl rfl (val_mk (.cons rfl .nil) (mk_60_0 _)) ?_
      refine .lit rfl rfl rfl Tryz.underlying57 (.cons rfl .nil) (bs_60_1_0 _ _ _ _ _ _ _ _ _ _ _ _ _ _ _ _ _ _) H3 (fun w9 b9 H9 => ⟨fun _ => trivial, ?_⟩)
      refine .callx rfl rfl rfl en56 (.cons rfl (.cons rfl (.cons rfl .nil))) (sees1_spec c b x now hq (hf2 _) v _ (sg 7 0) S hS) H9 (.cons (.there (.there (.there (.there .here)))) (.cons (.there (.there (.there (.there .here)))) .nil)) (.own .here (.ro .here (.own (.there .here) .nil))) (fun v9 w10 C10 H10 => ⟨fun _ => trivial, ?_⟩)
      refine .nil (cj ?_)
      refine .seq ?_
      refine .plain rfl ?_
      refine .q rfl rfl rfl (val_move rfl) ?_
      refine .q rfl rfl rfl (val_assign rfl) ?_
      refine .nil (cj ?_)
      refine .ret (fret (res1 rfl rfl) ?_)
      first | (rw [hl_a hc1] at hRR; exact hRR _ _ ⟨_, ⟨⟨y4, v9⟩, rfl, rfl, trivial⟩, H10.sub (.cons .here (.cons .here (.cons (.there .here) (.cons (.there .here) .nil))))⟩) | (rw [hl_b hc1 hc2] at hRR; exact hRR _ _ ⟨_, ⟨⟨y4, v9⟩, rfl, rfl, trivial⟩, H10.sub (.cons .here (.cons .here (.cons (.there .here) (.cons (.there .here) .nil))))⟩) | (rw [hl_c hc1 hc2 hc3] at hRR; exact hRR _ _ ⟨_, ⟨⟨y4, v9⟩, rfl, rfl, trivial⟩, H10.sub (.cons .here (.cons .here (.cons (.there .here) (.cons (.there .here) .nil))))⟩) | (rw [hl_d hc1 hc2 hc3, List.map_nil, List.append_nil] at hRR; exact hRR _ _ ⟨_, ⟨⟨y4, v⟩, rfl, rfl, trivial⟩, H10.sub (.cons .here (.cons .here (.cons (.there .here) (.cons (.there .here) .nil))))⟩)
    · refine .seq ?_
      refine .plain rfl ?_
      refine .q rfl rfl rfl (val_eql rfl rfl rfl) ?_
      refine .q rfl rfl rfl (val_assign rfl) ?_
      refine .nil (cj ?_)
      refine .cond rfl (fun hc3 => ?_) (fun hc3 => ?_)
      · refine .plain rfl ?_
        refine .q rfl rfl rfl (val_move rfl) ?_
        refine .q rfl rfl rfl (val_fieldAddr rfl fa_44_1) ?_
        refine .qs rfl rfl rfl H3 (ld_b rfl ob_3 (.own (.there (.there .here))) rfl) ?_
        refine .q rfl rfl rfl (val_mk (.cons rfl .nil) (mk_60_0 _)) ?_
        refine .lit rfl rfl rfl Tryz.underlying57 (.cons rfl .nil) (bs_60_1_0 _ _ _ _ _ _ _ _ _ _ _ _ _ _ _ _ _ _) H3 (fun w11 b11 H11 => ⟨fun _ => trivial, ?_⟩)
        refine .callx rfl rfl rfl en56 (.cons rfl (.cons rfl (.cons rfl .nil))) (sees1_spec c b x now hq (hf2 _) v _ (sg 3 0) S hS) H11 (.cons (.there (.there (.there (.there .here)))) (.cons (.there (.there (.there (.there .here)))) .nil)) (.own .here (.ro .here (.own (.there .here) .nil))) (fun v9 w12 C12 H12 => ⟨fun _ => trivial, ?_⟩)
        refine .nil (cj ?_)
        refine .seq ?_
        refine .plain rfl ?_
        refine .q rfl rfl rfl (val_move rfl) ?_
        refine .q rfl rfl rfl (val_assign rfl) ?_
        refine .nil (cj ?_)
        refine .ret (fret (res1 rfl rfl) ?_)
        first | (rw [hl_a hc1] at hRR; exact hRR _ _ ⟨_, ⟨⟨y4, v9⟩, rfl, rfl, trivial⟩, H12.sub (.cons .here (.cons .here (.cons (.there .here) (.cons (.there .here) .nil))))⟩) | (rw [hl_b hc1 hc2] at hRR; exact hRR _ _ ⟨_, ⟨⟨y4, v9⟩, rfl, rfl, trivial⟩, H12.sub (.cons .here (.cons .here (.cons (.there .here) (.cons (.there .here) .nil))))⟩) | (rw [hl_c hc1 hc2 hc3] at hRR; exact hRR _ _ ⟨_, ⟨⟨y4, v9⟩, rfl, rfl, trivial⟩, H12.sub (.cons .here (.cons .here (.cons (.there .here) (.cons (.there .here) .nil))))⟩) | (rw [hl_d hc1 hc2 hc3, List.map_nil, List.append_nil] at hRR; exact hRR _ _ ⟨_, ⟨⟨y4, v⟩, rfl, rfl, trivial⟩, H12.sub (.cons .here (.cons .here (.cons (.there .here) (.cons (.there .here) .nil))))⟩)
      · refine .skip (cj ?_)
        refine .seq ?_
        refine .plain rfl ?_
        refine .q rfl rfl rfl (val_move rfl) ?_
        refine .q rfl rfl rfl (val_assign rfl) ?_
        refine .nil (cj ?_)
        refine .ret (fret (res1 rfl rfl) ?_)
        first | (rw [hl_a hc1] at hRR; exact hRR _ _ ⟨_, ⟨⟨y4, v9⟩, rfl, rfl, trivial⟩, H3.sub (.cons (.there (.there (.there .here))) (.cons (.there (.there (.there .here))) (.cons .here (.cons .here .nil))))⟩) | (rw [hl_b hc1 hc2] at hRR; exact hRR _ _ ⟨_, ⟨⟨y4, v9⟩, rfl, rfl, trivial⟩, H3.sub (.cons (.there (.there (.there .here))) (.cons (.there (.there (.there .here))) (.cons .here (.cons .here .nil))))⟩) | (rw [hl_c hc1 hc2 hc3] at hRR; exact hRR _ _ ⟨_, ⟨⟨y4, v9⟩, rfl, rfl, trivial⟩, H3.sub (.cons (.there (.there (.there .here))) (.cons (.there (.there (.there .here))) (.cons .here (.cons .here .nil))))⟩) | (rw [hl_d hc1 hc2 hc3, List.map_nil, List.append_nil] at hRR; exact hRR _ _ ⟨_, ⟨⟨y4, v⟩, rfl, rfl, trivial⟩, H3.sub (.cons (.there (.there (.there .here))) (.cons (.there (.there (.there .here))) (.cons .here (.cons .here .nil))))⟩)
end
end Go.Proofs.YtmbibkifbehgnaaGreatDoor
namespace Go.Proofs.YtmbibkifbehgnaaGreatDoor
open Go Sk
set_option linter.unusedVariables false
set_option linter.unusedSimpArgs false
set_option linter.unusedSectionVars false
theorem en57 : Enters Tryz.prog 57 := fun args w => by kernel_rfl
theorem ap_70  : apB Tryz.prog 70 44 19 152 = true := by kernel_rfl
/-- a tick under way -/
structure TkM where
  rs : List Rg
  s : Stm
  l : List Si
  te : List Te
/-- a Lift or Drop that is done, or nothing -/
def hoT (c : Cf) (s : Stm) (i : Nat) (t : TR) : HoR := if t.m.kind = 3 ∨ t.m.kind = 4 then hoistM c s i t.r t.m.kind else ⟨s, t.r, []⟩
def stepM (c : Cf) (now : Int) (i : Nat) (T : TkM) (q : Rg) : TkM :=
  if (tickO q.r q.g).how = 0 then ⟨T.rs.set i ⟨(tickO q.r q.g).r, (tickO q.r q.g).g⟩, T.s, T.l, T.te⟩
  else ⟨T.rs.set i ⟨(hoT c T.s i (tickO q.r q.g)).r, (tickO q.r q.g).g⟩, (hoT c T.s i (tickO q.r q.g)).s,
    T.l ++ (hoT c T.s i (tickO q.r q.g)).l.map (fillS now (i : Int) (hoT c T.s i (tickO q.r q.g)).r.pose) ++ [fillS now (i : Int) (hoT c T.s i (tickO q.r q.g)).r.pose ⟨2, 0, 0, 0, ⟨0, 0, false⟩, (tickO q.r q.g).m⟩] ++
      (if (tickO q.r q.g).how = 2 then [fillS now (i : Int) (hoT c T.s i (tickO q.r q.g)).r.pose (sg 3 0)] else []), T.te ++ [tellB (hoT c T.s i (tickO q.r q.g)).r]⟩
def tickT (c : Cf) (W : Wm) : Nat → TkM
  | 0 => ⟨W.rs, W.s, W.l, []⟩
  | i + 1 => match (tickT c W i).rs[i]? with
    | some q => stepM c (w64 (W.now + 1)) i (tickT c W i) q
    | none => tickT c W i
def tickWd (c : Cf) (W : Wm) : Wm := ⟨(tickT c W W.rs.length).rs, (tickT c W W.rs.length).s, w64 (W.now + 1), (tickT c W W.rs.length).l⟩
def tickTe (c : Cf) (W : Wm) : List Te := (tickT c W W.rs.length).te
/-! ### what holds of a tick under way -/
theorem liftM_ok {c : Cf} {s : Stm} (hok : s.Ok c) (i : Nat) (px py : Int) : (liftM c s i px py).s.Ok c ∧ (liftM c s i px py).s.loads.length = s.loads.length := by
  unfold liftM
  split
  · exact ⟨hok, rfl⟩
  · split
    · exact ⟨hok, rfl⟩
    · split
      · exact ⟨hok, rfl⟩
      · refine ⟨⟨by simpa using hok.b, by simpa using hok.r, fun l hl => ?_⟩, by simp⟩
        rcases List.mem_or_eq_of_mem_set hl with h | h
        · exact hok.n l h
        · subst h
          rw [List.length_take]
          by_cases hn : numI c ⟨px, py⟩ < s.bins.length
          · have := hok.n _ (List.mem_of_getElem? (getD_get hn []))
            omega
          · rw [List.getD_eq_getElem?_getD, List.getElem?_eq_none (by omega)]
            simp
theorem room_le {c : Cf} (hm : MayOk c) (px py : Int) : roomI c px py ≤ 8 := by
  have := hm.num.height
  unfold roomI
  split
  · omega
  · split <;> omega
theorem dropM_ok {c : Cf} (hm : MayOk c) {s : Stm} (hok : s.Ok c) (i : Nat) (px py : Int) : (dropM c s i px py).s.Ok c ∧ (dropM c s i px py).s.loads.length = s.loads.length := by
  unfold dropM
  split
  · exact ⟨hok, rfl⟩
  · split
    · exact ⟨hok, rfl⟩
    · split
      · exact ⟨hok, rfl⟩
      · rename_i hr
        refine ⟨⟨by simpa using hok.b, by simpa using hok.r, fun l hl => ?_⟩, by simp⟩
        rcases List.mem_or_eq_of_mem_set hl with h | h
        · exact hok.n l h
        · subst h
          have := room_le hm px py
          rw [List.length_append, List.length_singleton]
          omega
theorem hoistM_ok {c : Cf} (hm : MayOk c) {s : Stm} (hok : s.Ok c) (i : Nat) (r : Rb) (kind : Int) : (hoistM c s i r kind).s.Ok c ∧ (hoistM c s i r kind).s.loads.length = s.loads.length ∧ (hoistM c s i r kind).l.length ≤ 2 := by
  have h1 := liftM_ok hok i r.pose.x r.pose.y
  have h2 := dropM_ok hm hok i r.pose.x r.pose.y
  unfold hoistM
  split
  · split <;> exact ⟨h1.1, h1.2, by simp⟩
  · split
    · exact ⟨h2.1, h2.2, by simp⟩
    · split <;> exact ⟨h2.1, h2.2, by simp⟩
theorem hoT_ok {c : Cf} (hm : MayOk c) {s : Stm} (hok : s.Ok c) (i : Nat) (t : TR) : (hoT c s i t).s.Ok c ∧ (hoT c s i t).s.loads.length = s.loads.length ∧ (hoT c s i t).l.length ≤ 2 := by
  unfold hoT
  split
  · exact hoistM_ok hm hok i _ _
  · exact ⟨hok, rfl, Nat.zero_le _⟩
structure TkOk (c : Cf) (W : Wm) (i : Nat) (T : TkM) : Prop where
  s : T.s.Ok c
  n : T.s.loads.length = W.rs.length
  r : T.rs.length = W.rs.length
  l : T.l.length ≤ W.l.length + 4 * i
  t : T.te.length ≤ i
theorem tickT_ok {c : Cf} (hm : MayOk c) {W : Wm} (hok : W.s.Ok c) (hn : W.s.loads.length = W.rs.length) : ∀ i, TkOk c W i (tickT c W i)
  | 0 => ⟨hok, hn, rfl, Nat.le_refl _, Nat.zero_le _⟩
  | i + 1 => by
    have ih := tickT_ok hm hok hn i
    have i4 := ih.l
    have i5 := ih.t
    unfold tickT
    split
    · rename_i q hq
      unfold stepM
      split
      · exact ⟨ih.s, ih.n, by simpa using ih.r, by simp only; omega, by simp only; omega⟩
      · obtain ⟨a1, a2, a3⟩ := hoT_ok hm ih.s i (tickO q.r q.g)
        refine ⟨a1, a2.trans ih.n, by simpa using ih.r, ?_, ?_⟩
        · simp only [List.length_append, List.length_map, List.length_singleton]
          split <;> simp <;> omega
        · simp only [List.length_append, List.length_singleton]
          omega
    · exact ⟨ih.s, ih.n, ih.r, by omega, by omega⟩
section
variable {c : Cf} {W : Wm} {i : Nat} {q : Rg}
theorem tk_step (h : (tickT c W i).rs[i]? = some q) : tickT c W (i + 1) = stepM c (w64 (W.now + 1)) i (tickT c W i) q := by
  rw [tickT]
  simp only [h]
theorem sm_a (hs : (tickT c W i).rs[i]? = some q) (h : ((tickO q.r q.g).how == 0) = true) : tickT c W (i + 1) = ⟨(tickT c W i).rs.set i ⟨(tickO q.r q.g).r, (tickO q.r q.g).g⟩, (tickT c W i).s, (tickT c W i).l, (tickT c W i).te⟩ := by
  rw [tk_step hs, stepM, if_pos (by simpa using h)]
theorem hoT_y {s : Stm} {t : TR} (h : t.m.kind = 3 ∨ t.m.kind = 4) : hoT c s i t = hoistM c s i t.r t.m.kind := if_pos h
theorem hoT_n {s : Stm} {t : TR} (h : ¬ (t.m.kind = 3 ∨ t.m.kind = 4)) : hoT c s i t = ⟨s, t.r, []⟩ := if_neg h
theorem sm_b (hs : (tickT c W i).rs[i]? = some q) (h : ((tickO q.r q.g).how == 0) = false) (h2 : ((tickO q.r q.g).how == 2) = true) : tickT c W (i + 1) = ⟨(tickT c W i).rs.set i ⟨(hoT c (tickT c W i).s i (tickO q.r q.g)).r, (tickO q.r q.g).g⟩, (hoT c (tickT c W i).s i (tickO q.r q.g)).s,
    (tickT c W i).l ++ (hoT c (tickT c W i).s i (tickO q.r q.g)).l.map (fillS (w64 (W.now + 1)) (i : Int) (hoT c (tickT c W i).s i (tickO q.r q.g)).r.pose) ++ [fillS (w64 (W.now + 1)) (i : Int) (hoT c (tickT c W i).s i (tickO q.r q.g)).r.pose ⟨2, 0, 0, 0, ⟨0, 0, false⟩, (tickO q.r q.g).m⟩] ++ [fillS (w64 (W.now + 1)) (i : Int) (hoT c (tickT c W i).s i (tickO q.r q.g)).r.pose (sg 3 0)],
    (tickT c W i).te ++ [tellB (hoT c (tickT c W i).s i (tickO q.r q.g)).r]⟩ := by
  rw [tk_step hs, stepM, if_neg (by simpa using h), if_pos (by simpa using h2)]
theorem sm_c (hs : (tickT c W i).rs[i]? = some q) (h : ((tickO q.r q.g).how == 0) = false) (h2 : ((tickO q.r q.g).how == 2) = false) : tickT c W (i + 1) = ⟨(tickT c W i).rs.set i ⟨(hoT c (tickT c W i).s i (tickO q.r q.g)).r, (tickO q.r q.g).g⟩, (hoT c (tickT c W i).s i (tickO q.r q.g)).s,
    (tickT c W i).l ++ (hoT c (tickT c W i).s i (tickO q.r q.g)).l.map (fillS (w64 (W.now + 1)) (i : Int) (hoT c (tickT c W i).s i (tickO q.r q.g)).r.pose) ++ [fillS (w64 (W.now + 1)) (i : Int) (hoT c (tickT c W i).s i (tickO q.r q.g)).r.pose ⟨2, 0, 0, 0, ⟨0, 0, false⟩, (tickO q.r q.g).m⟩],
    (tickT c W i).te ++ [tellB (hoT c (tickT c W i).s i (tickO q.r q.g)).r]⟩ := by
  rw [tk_step hs, stepM, if_neg (by simpa using h), if_neg (by simpa using h2), List.append_nil]
end
abbrev teR (o : Value) (l : List Te) : As := row o 44 19 l.length (l.flatMap encT)
theorem te_snoc (v : Value) (L : List Te) (y : Te) : row v 44 19 (L.length + 1) (L.flatMap encT ++ encT y) = teR v (L ++ [y]) := by simp [teR]
structure TWx where
  i : Nat
  v : Value
  o : Value
structure TVx where
  v : Value
  o : Value
theorem tick_spec (c : Cf) (hm : MayOk c) (b : Nat) (x : WX) (v0 : Value) (W : Wm) (hok : W.s.Ok c) (hnl : W.s.loads.length = W.rs.length) (hbr : x.br.length = W.rs.length) (hl : W.l.length ≤ 900000) :
    Sk.Spec Tryz.prog 26 #[ptr b] [gfix c x.bg x.bk, kblk x.bk (KF c), raA x] [wbv b x W.now v0, stkA c x.bs W.s, sep (rsE c x.br W.rs), siA v0 W.l] fun e F' => ∃ y : TVx, e = .returned y.o ∧
      F' = [wbv b x (w64 (W.now + 1)) y.v, stkA c x.bs (tickWd c W).s, sep (rsE c x.br (tickWd c W).rs), siA y.v (tickWd c W).l, teR y.o (tickTe c W)] ∧ True := by
  have hn8 : x.br.length ≤ 8 := by rw [hbr, ← hnl]; exact hok.r
  refine Spec.of_code (vs := [_]) (k0 := [(0, _)]) 77 Tryz.func26 rfl Tryz.ntmps26 rfl (.cons .nil) fun w X RR hRR H => ?_
  refine .seq ?_
  refine .plain rfl ?_
  refine .q rfl rfl rfl (val_assign rfl) ?_
  refine .nil (cj ?_)
  refine .seq ?_
  refine .seq ?_
  refine .plain rfl ?_
  refine .q rfl rfl rfl (val_move rfl) ?_
  refine .q rfl rfl rfl (val_ptr_eq_nil Tryz.underlying53 rfl rfl rfl) ?_
  refine .nil (cj ?_)
  refine .cond_f rfl ?_
  refine .skip (cj ?_)
  refine .seq ?_
  refine .plain rfl ?_
  refine .q rfl rfl rfl (val_move rfl) ?_
  refine .q rfl rfl rfl (val_nilCheck rfl) ?_
  refine .q rfl rfl rfl (val_fieldAddr rfl fa_111_3) ?_
  refine .qs rfl rfl rfl H (ld_b rfl ob_3 (.own .here) rfl) ?_
  refine .q rfl rfl rfl (val_add rfl rfl (z := w64 (W.now + 1)) rfl) ?_
  refine .q rfl rfl rfl (val_nilCheck rfl) ?_
  refine .q rfl rfl rfl (val_fieldAddr rfl fa_111_3) ?_
  refine .store rfl rfl rfl rfl rfl sz_3 rfl H .here (by repeat constructor) (fun w1 H1 => ⟨fun _ => trivial, ?_⟩)
  refine .nil (cj ?_)
  refine .seq ?_
  refine .plain rfl ?_
  refine .q rfl rfl rfl (val_assign rfl) ?_
  refine .nil (cj ?_)
  refine .seq ?_
  refine .seq ?_
  refine .plain rfl ?_
  refine .q rfl rfl rfl (val_move rfl) ?_
  refine .q rfl rfl rfl (val_nilCheck rfl) ?_
  refine .q rfl rfl rfl (val_fieldAddr rfl fa_111_2) ?_
  refine .qs rfl rfl rfl H1 (ld_b rfl ob_109 (.own .here) rfl) ?_
  refine .q rfl rfl rfl (val_len Tryz.underlying109 rfl) ?_
  refine .q rfl rfl rfl (val_move rfl) ?_
  refine .nil (cj ?_)
  refine .block ?_
  have H3 := H1.rowNil 44 19
  refine .loop (ι := TWx) (fun y => [(0, ptr b), (3, y.o), (20, i64 ((x.br.length : Nat) : Int)), (21, i64 (y.i : Int))]) (fun y w' => St w w' X [gfix c x.bg x.bk, kblk x.bk (KF c), raA x] [wbv b x (w64 (W.now + 1)) y.v, stkA c x.bs (tickT c W y.i).s, sep (rsE c x.br (tickT c W y.i).rs), siA y.v (tickT c W y.i).l, teR y.o (tickT c W y.i).te] ∧ y.i ≤ x.br.length) (fun y => x.br.length - y.i) ⟨0, v0, .slice none 0 0⟩ (by repeat (first | exact Pick.nil | refine Pick.cons rfl ?_)) ⟨H3.sub (.cons (.there .here) (.cons (.there .here) (.cons (.there .here) (.cons (.there .here) (.cons .here .nil))))), Nat.zero_le _⟩ ?_
  rintro ⟨i, v, o⟩ w5 ⟨H2, hi⟩
  refine .seq ?_
  refine .plain rfl ?_
  refine .q rfl rfl rfl (val_lss rfl rfl rfl) ?_
  refine .nil (cj ?_)
  refine .seq ?_
  refine .cond rfl (fun hc1 => ?_) (fun hc1 => ?_)
  · dsimp only at hi hc1 H2
    have hil : i < x.br.length := by simp only [decide_eq_true_eq] at hc1; omega
    have ok := tickT_ok hm hok hnl i
    have hl4 := ok.l
    have ht4 := ok.t
    have hil2 : i < (tickT c W i).s.loads.length := by rw [ok.n, ← hbr]; exact hil
    obtain ⟨a, hq⟩ : ∃ a, x.br[i]? = some a := ⟨_, List.getElem?_eq_getElem hil⟩
    obtain ⟨q, hs⟩ : ∃ q, (tickT c W i).rs[i]? = some q := ⟨_, List.getElem?_eq_getElem (by rw [ok.r, ← hbr]; exact hil)⟩
    have hf := rsE_get (c := c) hq hs
    have hf2 : ∀ f : As, ((rsE c x.br (tickT c W i).rs).set i f)[i]? = some f := fun f => by simp [lt_of_some hf]
    have hf3 : ∀ f g : As, (((rsE c x.br (tickT c W i).rs).set i f).set i g)[i]? = some g := fun f g => by simp [lt_of_some hf]
    have h8 := (hoistM_ok hm ok.s i (tickO q.r q.g).r (tickO q.r q.g).m.kind).2.2
    obtain ⟨b9, o9, hA⟩ := Has.base (.ro (.there (.there .here))) H2 (nil_of_flat encN_len (by decide) hil)
    refine .skip (cj ?_)
    refine .seq ?_
    refine .block ?_
    refine .seq ?_
    refine .plain rfl ?_
    refine .q rfl rfl rfl (val_move rfl) ?_
    refine .q rfl rfl rfl (val_assign rfl) ?_
    refine .nil (cj ?_)
    refine .seq ?_
    refine .plain rfl ?_
    refine .q rfl rfl rfl (val_move rfl) ?_
    refine .q rfl rfl rfl (val_nilCheck rfl) ?_
    refine .q rfl rfl rfl (val_fieldAddr rfl fa_111_2) ?_
    refine .qs rfl rfl rfl H2 (ld_b rfl ob_109 (.own .here) rfl) ?_
    refine .q rfl rfl rfl (val_move rfl) ?_
    refine .q rfl rfl rfl (val_ix el_109 hA rfl rfl rfl hil) ?_
    refine .qs rfl rfl rfl H2 (ld_el rfl ob_30 .base hA (.ro (.there (.there .here))) encN_len (by first | assumption | rfl) rfl) ?_
    refine .call1 rfl rfl rfl en41 (.cons rfl .nil) (Spec.nth1 hf tickA_spec) H2 (.cons (.there (.there .here)) .nil) .nil (fun w4 H4 => ⟨fun _ => trivial, ?_⟩)
    refine .q rfl rfl rfl (val_move rfl) ?_
    refine .q rfl rfl rfl (val_extract rfl rfl) ?_
    refine .q rfl rfl rfl (val_extract rfl rfl) ?_
    refine .alloc rfl rfl rfl ze_42 rfl H4 (fun w5 b5 H5 => ⟨fun _ => trivial, ?_⟩)
    refine .store rfl rfl rfl rfl rfl sz_42 rfl H5 .here (by repeat constructor) (fun w6 H6 => ⟨fun _ => trivial, ?_⟩)
    refine .q rfl rfl rfl (val_assign rfl) ?_
    refine .nil (cj ?_)
    refine .seq ?_
    refine .seq ?_
    refine .plain rfl ?_
    refine .q rfl rfl rfl (val_move rfl) ?_
    refine .q rfl rfl rfl (val_eql rfl rfl rfl) ?_
    refine .nil (cj ?_)
    refine .cond rfl (fun hc2 => ?_) (fun hc2 => ?_)
    · refine .exit (cj ?_)
      refine .plain rfl ?_
      refine .q rfl rfl rfl (val_add rfl rfl (z := ((i + 1 : Nat) : Int)) (w64_of (by dsimp only; omega))) ?_
      refine .q rfl rfl rfl (val_move rfl) ?_
      refine .nil ?_
      intro act0 hact0; change Exists _
      refine ⟨⟨i + 1, _, _⟩, Pick.kn (by repeat (first | exact Pick.nil | refine Pick.cons rfl ?_)) hact0, ⟨by first | (dsimp only; rw [sm_a hs hc2, ← rsE_set _ hq]; exact H6.sub (.cons (.there (.there .here)) (.cons (.there (.there .here)) (.cons (.there .here) (.cons (.there .here) (.cons (.there .here) .nil)))))) | (have hk : (tickO q.r q.g).m.kind = 3 ∨ (tickO q.r q.g).m.kind = 4 := (by first | exact .inl (by simpa using hs40) | exact .inr (by simpa using hc3)); dsimp only; rw [sm_b hs hc2 hc4, hoT_y hk, ← te_snoc, ← rsE_set _ hq]; rw [List.set_set] at H6; exact H6.sub (.cons (.there (.there .here)) (.cons (.there (.there .here)) (.cons (.there .here) (.cons (.there .here) (.cons (.there .here) .nil)))))) | (have hk : ¬ ((tickO q.r q.g).m.kind = 3 ∨ (tickO q.r q.g).m.kind = 4) := (by simp at hs40 hc3; omega); dsimp only; rw [sm_b hs hc2 hc4, hoT_n hk]; dsimp only; rw [List.map_nil, List.append_nil, ← te_snoc, ← rsE_set _ hq]; exact H6.sub (.cons (.there (.there .here)) (.cons (.there (.there .here)) (.cons (.there .here) (.cons (.there .here) (.cons (.there .here) .nil)))))) | (have hk : (tickO q.r q.g).m.kind = 3 ∨ (tickO q.r q.g).m.kind = 4 := (by first | exact .inl (by simpa using hs40) | exact .inr (by simpa using hc3)); dsimp only; rw [sm_c hs hc2 hc4, hoT_y hk, ← te_snoc, ← rsE_set _ hq]; rw [List.set_set] at H6; exact H6.sub (.cons (.there (.there .here)) (.cons (.there (.there .here)) (.cons (.there .here) (.cons (.there .here) (.cons (.there .here) .nil)))))) | (have hk : ¬ ((tickO q.r q.g).m.kind = 3 ∨ (tickO q.r q.g).m.kind = 4) := (by simp at hs40 hc3; omega); dsimp only; rw [sm_c hs hc2 hc4, hoT_n hk]; dsimp only; rw [List.map_nil, List.append_nil, ← te_snoc, ← rsE_set _ hq]; exact H6.sub (.cons (.there (.there .here)) (.cons (.there (.there .here)) (.cons (.there .here) (.cons (.there .here) (.cons (.there .here) .nil)))))), hil⟩, (show x.br.length - (i + 1) < x.br.length - i by omega)⟩
    · refine .skip (cj ?_)
      refine .seq ?_
      refine .seq ?_
      refine .plain rfl ?_
      refine .q rfl rfl rfl (val_fieldAddr rfl fa_42_0) ?_
      refine .qs rfl rfl rfl H6 (ld_b rfl ob_3 (.own .here) rfl) ?_
      refine .q rfl rfl rfl (val_eql rfl rfl rfl) ?_
      refine .q rfl rfl rfl (val_move rfl) ?_
      refine .case (t := 40) rfl (fun hs40 => ?_) (fun hs40 => ?_)
      · refine .no rfl rfl rfl ?_
        refine .no rfl rfl rfl ?_
        refine .no rfl rfl rfl ?_
        refine .q rfl rfl rfl (val_pick_t rfl rfl) ?_
        refine .nil (cj ?_)
        refine .cond_t rfl ?_
        refine .plain rfl ?_
        refine .q rfl rfl rfl (val_move rfl) ?_
        refine .q rfl rfl rfl (val_move rfl) ?_
        refine .q rfl rfl rfl (val_move rfl) ?_
        refine .q rfl rfl rfl (val_move rfl) ?_
        refine .qs rfl rfl rfl H6 (ld_w rfl ag_42 (.own .here) rfl) ?_
        refine .callx rfl rfl rfl en57 (.cons rfl (.cons rfl (.cons rfl .nil))) (hoists_spec c hm b { x with v := v } _ hq (hf2 _) _ ok.s hil2 _) H6 (.cons (.there (.there (.there .here))) (.cons (.there .here) .nil)) (.own (.there .here) (.ro .here (.ro (.there .here) (.ro (.there (.there .here)) .nil)))) (fun h9 w7 C7 H7 => ⟨fun _ => trivial, ?_⟩)
        refine .callx rfl rfl rfl en56 (.cons rfl (.cons rfl (.cons rfl .nil))) (sees_spec c b x _ hq (hf3 _ _) v h9.A h9.cap _ _ (by first | omega | (simp only [List.length_append, List.length_map, List.length_singleton]; omega))) H7 (.cons (.there (.there (.there (.there .here)))) (.cons (.there (.there (.there (.there .here)))) .nil)) (.own .here (.ro (.there (.there .here)) (.own (.there (.there .here)) .nil))) (fun va w8 C8 H8 => ⟨fun _ => trivial, ?_⟩)
        refine .nil (cj ?_)
        refine .seq ?_
        refine .plain rfl ?_
        refine .q rfl rfl rfl (val_move rfl) ?_
        refine .q rfl rfl rfl (val_move rfl) ?_
        refine .qs rfl rfl rfl H8 (ld_w rfl ag_42 (.own (.there (.there (.there (.there (.there .here)))))) rfl) ?_
        refine .q rfl rfl rfl (val_mk (.cons rfl (.cons rfl .nil)) (mk_60_0_5 _ _ _ _ _ _ _ _ _ _ _ _)) ?_
        refine .lit rfl rfl rfl Tryz.underlying57 (.cons rfl .nil) (bs_60_1_0 _ _ _ _ _ _ _ _ _ _ _ _ _ _ _ _ _ _) H8 (fun w9 b9 H9 => ⟨fun _ => trivial, ?_⟩)
        first | (refine .callx rfl rfl rfl en56 (.cons rfl (.cons rfl (.cons rfl .nil))) (sees1_spec c b x _ hq (hf3 _ _) va _ ⟨2, 0, 0, 0, ⟨0, 0, false⟩, _⟩ _ (by first | omega | (simp only [List.length_append, List.length_map, List.length_singleton]; omega))) H9 (.cons (.there .here) (.cons (.there .here) .nil)) (.own .here (.ro (.there (.there .here)) (.own (.there (.there (.there .here))) .nil))) (fun vb w10 C10 H10 => ⟨fun _ => trivial, ?_⟩)) | (refine .callx rfl rfl rfl en56 (.cons rfl (.cons rfl (.cons rfl .nil))) (sees1_spec c b x _ hq (hf2 _) v _ ⟨2, 0, 0, 0, ⟨0, 0, false⟩, _⟩ _ (by first | omega | (simp only [List.length_append, List.length_map, List.length_singleton]; omega))) H9 (.cons (.there .here) (.cons (.there .here) .nil)) (.own .here (.ro (.there (.there .here)) (.own (.there (.there (.there .here))) .nil))) (fun vb w10 C10 H10 => ⟨fun _ => trivial, ?_⟩))
        refine .nil (cj ?_)
        refine .seq ?_
        refine .seq ?_
        refine .plain rfl ?_
        refine .q rfl rfl rfl (val_move rfl) ?_
        refine .q rfl rfl rfl (val_eql rfl rfl rfl) ?_
        refine .nil (cj ?_)
        refine .cond rfl (fun hc4 => ?_) (fun hc4 => ?_)
        · refine .plain rfl ?_
          refine .q rfl rfl rfl (val_move rfl) ?_
          refine .q rfl rfl rfl (val_move rfl) ?_
          refine .q rfl rfl rfl (val_mk (.cons rfl .nil) (mk_60_0 _)) ?_
          refine .lit rfl rfl rfl Tryz.underlying57 (.cons rfl .nil) (bs_60_1_0 _ _ _ _ _ _ _ _ _ _ _ _ _ _ _ _ _ _) H10 (fun w11 b11 H11 => ⟨fun _ => trivial, ?_⟩)
          first | (refine .callx rfl rfl rfl en56 (.cons rfl (.cons rfl (.cons rfl .nil))) (sees1_spec c b x _ hq (hf3 _ _) vb _ (sg 3 0) _ (by first | omega | (simp only [List.length_append, List.length_map, List.length_singleton]; omega))) H11 (.cons (.there .here) (.cons (.there .here) .nil)) (.own .here (.ro (.there (.there .here)) (.own (.there (.there (.there (.there .here)))) .nil))) (fun vc w12 C12 H12 => ⟨fun _ => trivial, ?_⟩)) | (refine .callx rfl rfl rfl en56 (.cons rfl (.cons rfl (.cons rfl .nil))) (sees1_spec c b x _ hq (hf2 _) vb _ (sg 3 0) _ (by first | omega | (simp only [List.length_append, List.length_map, List.length_singleton]; omega))) H11 (.cons (.there .here) (.cons (.there .here) .nil)) (.own .here (.ro (.there (.there .here)) (.own (.there (.there (.there (.there .here)))) .nil))) (fun vc w12 C12 H12 => ⟨fun _ => trivial, ?_⟩))
          refine .nil (cj ?_)
          refine .plain rfl ?_
          refine .q rfl rfl rfl (val_move rfl) ?_
          refine .q rfl rfl rfl (val_move rfl) ?_
          refine .q rfl rfl rfl (val_nilCheck rfl) ?_
          refine .q rfl rfl rfl (val_fieldAddr rfl fa_111_2) ?_
          refine .qs rfl rfl rfl H12 (ld_b rfl ob_109 (.own .here) rfl) ?_
          refine .q rfl rfl rfl (val_move rfl) ?_
          refine .q rfl rfl rfl (val_ix el_109 hA rfl rfl rfl hil) ?_
          refine .qs rfl rfl rfl H12 (ld_el rfl ob_30 .base hA (.ro (.there (.there .here))) encN_len (by first | assumption | rfl) rfl) ?_
          first | (refine .callx rfl rfl rfl en58 (.cons rfl .nil) (Spec.nthR (hf3 _ _) tellA_spec) H12 .nil (.own (.there (.there (.there (.there (.there (.there .here)))))) .nil) (fun bt w13 C13 H13 => ⟨fun _ => trivial, ?_⟩)) | (refine .callx rfl rfl rfl en58 (.cons rfl .nil) (Spec.nthR (hf2 _) tellA_spec) H12 .nil (.own (.there (.there (.there (.there (.there (.there .here)))))) .nil) (fun bt w13 C13 H13 => ⟨fun _ => trivial, ?_⟩))
          refine .append rfl rfl rfl (ap_70) rfl rfl H13 (.there (.there (.there (.there (.there (.there (.there (.there (.there .here))))))))) (Has.srcBlk (.own .here) H13) rfl (by simp [Value.oneCell']) (by simp only [maxLen]; omega) (by omega) (fun v14 w14 H14 => ⟨fun _ => trivial, ?_⟩)
          refine .q rfl rfl rfl (val_assign rfl) ?_
          refine .nil (cj ?_)
          refine .plain rfl ?_
          refine .q rfl rfl rfl (val_add rfl rfl (z := ((i + 1 : Nat) : Int)) (w64_of (by dsimp only; omega))) ?_
          refine .q rfl rfl rfl (val_move rfl) ?_
          refine .nil ?_
          intro act0 hact0; change Exists _
          refine ⟨⟨i + 1, _, _⟩, Pick.kn (by repeat (first | exact Pick.nil | refine Pick.cons rfl ?_)) hact0, ⟨by first | (dsimp only; rw [sm_a hs hc2, ← rsE_set _ hq]; exact H14.sub (.cons (.there (.there .here)) (.cons (.there (.there (.there (.there (.there (.there .here)))))) (.cons (.there (.there (.there (.there (.there (.there .here)))))) (.cons (.there (.there .here)) (.cons .here .nil)))))) | (have hk : (tickO q.r q.g).m.kind = 3 ∨ (tickO q.r q.g).m.kind = 4 := (by first | exact .inl (by simpa using hs40) | exact .inr (by simpa using hc3)); dsimp only; rw [sm_b hs hc2 hc4, hoT_y hk, ← te_snoc, ← rsE_set _ hq]; rw [List.set_set] at H14; exact H14.sub (.cons (.there (.there .here)) (.cons (.there (.there (.there (.there (.there (.there .here)))))) (.cons (.there (.there (.there (.there (.there (.there .here)))))) (.cons (.there (.there .here)) (.cons .here .nil)))))) | (have hk : ¬ ((tickO q.r q.g).m.kind = 3 ∨ (tickO q.r q.g).m.kind = 4) := (by simp at hs40 hc3; omega); dsimp only; rw [sm_b hs hc2 hc4, hoT_n hk]; dsimp only; rw [List.map_nil, List.append_nil, ← te_snoc, ← rsE_set _ hq]; exact H14.sub (.cons (.there (.there .here)) (.cons (.there (.there (.there (.there (.there (.there .here)))))) (.cons (.there (.there (.there (.there (.there (.there .here)))))) (.cons (.there (.there .here)) (.cons .here .nil)))))) | (have hk : (tickO q.r q.g).m.kind = 3 ∨ (tickO q.r q.g).m.kind = 4 := (by first | exact .inl (by simpa using hs40) | exact .inr (by simpa using hc3)); dsimp only; rw [sm_c hs hc2 hc4, hoT_y hk, ← te_snoc, ← rsE_set _ hq]; rw [List.set_set] at H14; exact H14.sub (.cons (.there (.there .here)) (.cons (.there (.there (.there (.there (.there (.there .here)))))) (.cons (.there (.there (.there (.there (.there (.there .here)))))) (.cons (.there (.there .here)) (.cons .here .nil)))))) | (have hk : ¬ ((tickO q.r q.g).m.kind = 3 ∨ (tickO q.r q.g).m.kind = 4) := (by simp at hs40 hc3; omega); dsimp only; rw [sm_c hs hc2 hc4, hoT_n hk]; dsimp only; rw [List.map_nil, List.append_nil, ← te_snoc, ← rsE_set _ hq]; exact H14.sub (.cons (.there (.there .here)) (.cons (.there (.there (.there (.there (.there (.there .here)))))) (.cons (.there (.there (.there (.there (.there (.there .here)))))) (.cons (.there (.there .here)) (.cons .here .nil)))))), hil⟩, (show x.br.length - (i + 1) < x.br.length - i by omega)⟩
        · refine .skip (cj ?_)
          refine .plain rfl ?_
          refine .q rfl rfl rfl (val_move rfl) ?_
          refine .q rfl rfl rfl (val_move rfl) ?_
          refine .q rfl rfl rfl (val_nilCheck rfl) ?_
          refine .q rfl rfl rfl (val_fieldAddr rfl fa_111_2) ?_
          refine .qs rfl rfl rfl H10 (ld_b rfl ob_109 (.own .here) rfl) ?_
          refine .q rfl rfl rfl (val_move rfl) ?_
          refine .q rfl rfl rfl (val_ix el_109 hA rfl rfl rfl hil) ?_
          refine .qs rfl rfl rfl H10 (ld_el rfl ob_30 .base hA (.ro (.there (.there .here))) encN_len (by first | assumption | rfl) rfl) ?_
          first | (refine .callx rfl rfl rfl en58 (.cons rfl .nil) (Spec.nthR (hf3 _ _) tellA_spec) H10 .nil (.own (.there (.there (.there (.there (.there .here))))) .nil) (fun bt w15 C15 H15 => ⟨fun _ => trivial, ?_⟩)) | (refine .callx rfl rfl rfl en58 (.cons rfl .nil) (Spec.nthR (hf2 _) tellA_spec) H10 .nil (.own (.there (.there (.there (.there (.there .here))))) .nil) (fun bt w15 C15 H15 => ⟨fun _ => trivial, ?_⟩))
          refine .append rfl rfl rfl (ap_70) rfl rfl H15 (.there (.there (.there (.there (.there (.there (.there (.there .here)))))))) (Has.srcBlk (.own .here) H15) rfl (by simp [Value.oneCell']) (by simp only [maxLen]; omega) (by omega) (fun v16 w16 H16 => ⟨fun _ => trivial, ?_⟩)
          refine .q rfl rfl rfl (val_assign rfl) ?_
          refine .nil (cj ?_)
          refine .plain rfl ?_
          refine .q rfl rfl rfl (val_add rfl rfl (z := ((i + 1 : Nat) : Int)) (w64_of (by dsimp only; omega))) ?_
          refine .q rfl rfl rfl (val_move rfl) ?_
          refine .nil ?_
          intro act0 hact0; change Exists _
          refine ⟨⟨i + 1, _, _⟩, Pick.kn (by repeat (first | exact Pick.nil | refine Pick.cons rfl ?_)) hact0, ⟨by first | (dsimp only; rw [sm_a hs hc2, ← rsE_set _ hq]; exact H16.sub (.cons (.there (.there .here)) (.cons (.there (.there (.there (.there (.there .here))))) (.cons (.there (.there (.there (.there (.there .here))))) (.cons (.there (.there .here)) (.cons .here .nil)))))) | (have hk : (tickO q.r q.g).m.kind = 3 ∨ (tickO q.r q.g).m.kind = 4 := (by first | exact .inl (by simpa using hs40) | exact .inr (by simpa using hc3)); dsimp only; rw [sm_b hs hc2 hc4, hoT_y hk, ← te_snoc, ← rsE_set _ hq]; rw [List.set_set] at H16; exact H16.sub (.cons (.there (.there .here)) (.cons (.there (.there (.there (.there (.there .here))))) (.cons (.there (.there (.there (.there (.there .here))))) (.cons (.there (.there .here)) (.cons .here .nil)))))) | (have hk : ¬ ((tickO q.r q.g).m.kind = 3 ∨ (tickO q.r q.g).m.kind = 4) := (by simp at hs40 hc3; omega); dsimp only; rw [sm_b hs hc2 hc4, hoT_n hk]; dsimp only; rw [List.map_nil, List.append_nil, ← te_snoc, ← rsE_set _ hq]; exact H16.sub (.cons (.there (.there .here)) (.cons (.there (.there (.there (.there (.there .here))))) (.cons (.there (.there (.there (.there (.there .here))))) (.cons (.there (.there .here)) (.cons .here .nil)))))) | (have hk : (tickO q.r q.g).m.kind = 3 ∨ (tickO q.r q.g).m.kind = 4 := (by first | exact .inl (by simpa using hs40) | exact .inr (by simpa using hc3)); dsimp only; rw [sm_c hs hc2 hc4, hoT_y hk, ← te_snoc, ← rsE_set _ hq]; rw [List.set_set] at H16; exact H16.sub (.cons (.there (.there .here)) (.cons (.there (.there (.there (.there (.there .here))))) (.cons (.there (.there (.there (.there (.there .here))))) (.cons (.there (.there .here)) (.cons .here .nil)))))) | (have hk : ¬ ((tickO q.r q.g).m.kind = 3 ∨ (tickO q.r q.g).m.kind = 4) := (by simp at hs40 hc3; omega); dsimp only; rw [sm_c hs hc2 hc4, hoT_n hk]; dsimp only; rw [List.map_nil, List.append_nil, ← te_snoc, ← rsE_set _ hq]; exact H16.sub (.cons (.there (.there .here)) (.cons (.there (.there (.there (.there (.there .here))))) (.cons (.there (.there (.there (.there (.there .here))))) (.cons (.there (.there .here)) (.cons .here .nil)))))), hil⟩, (show x.br.length - (i + 1) < x.br.length - i by omega)⟩
      · refine .q rfl rfl rfl (val_fieldAddr rfl fa_42_0) ?_
        refine .qs rfl rfl rfl H6 (ld_b rfl ob_3 (.own .here) rfl) ?_
        refine .q rfl rfl rfl (val_eql rfl rfl rfl) ?_
        refine .q rfl rfl rfl (val_pick_f rfl rfl) ?_
        refine .nil (cj ?_)
        refine .cond rfl (fun hc3 => ?_) (fun hc3 => ?_)
        · refine .plain rfl ?_
          refine .q rfl rfl rfl (val_move rfl) ?_
          refine .q rfl rfl rfl (val_move rfl) ?_
          refine .q rfl rfl rfl (val_move rfl) ?_
          refine .q rfl rfl rfl (val_move rfl) ?_
          refine .qs rfl rfl rfl H6 (ld_w rfl ag_42 (.own .here) rfl) ?_
          refine .callx rfl rfl rfl en57 (.cons rfl (.cons rfl (.cons rfl .nil))) (hoists_spec c hm b { x with v := v } _ hq (hf2 _) _ ok.s hil2 _) H6 (.cons (.there (.there (.there .here))) (.cons (.there .here) .nil)) (.own (.there .here) (.ro .here (.ro (.there .here) (.ro (.there (.there .here)) .nil)))) (fun h9 w17 C17 H17 => ⟨fun _ => trivial, ?_⟩)
          refine .callx rfl rfl rfl en56 (.cons rfl (.cons rfl (.cons rfl .nil))) (sees_spec c b x _ hq (hf3 _ _) v h9.A h9.cap _ _ (by first | omega | (simp only [List.length_append, List.length_map, List.length_singleton]; omega))) H17 (.cons (.there (.there (.there (.there .here)))) (.cons (.there (.there (.there (.there .here)))) .nil)) (.own .here (.ro (.there (.there .here)) (.own (.there (.there .here)) .nil))) (fun va w18 C18 H18 => ⟨fun _ => trivial, ?_⟩)
          refine .nil (cj ?_)
          refine .seq ?_
          refine .plain rfl ?_
          refine .q rfl rfl rfl (val_move rfl) ?_
          refine .q rfl rfl rfl (val_move rfl) ?_
          refine .qs rfl rfl rfl H18 (ld_w rfl ag_42 (.own (.there (.there (.there (.there (.there .here)))))) rfl) ?_
          refine .q rfl rfl rfl (val_mk (.cons rfl (.cons rfl .nil)) (mk_60_0_5 _ _ _ _ _ _ _ _ _ _ _ _)) ?_
          refine .lit rfl rfl rfl Tryz.underlying57 (.cons rfl .nil) (bs_60_1_0 _ _ _ _ _ _ _ _ _ _ _ _ _ _ _ _ _ _) H18 (fun w19 b19 H19 => ⟨fun _ => trivial, ?_⟩)
          first | (refine .callx rfl rfl rfl en56 (.cons rfl (.cons rfl (.cons rfl .nil))) (sees1_spec c b x _ hq (hf3 _ _) va _ ⟨2, 0, 0, 0, ⟨0, 0, false⟩, _⟩ _ (by first | omega | (simp only [List.length_append, List.length_map, List.length_singleton]; omega))) H19 (.cons (.there .here) (.cons (.there .here) .nil)) (.own .here (.ro (.there (.there .here)) (.own (.there (.there (.there .here))) .nil))) (fun vb w20 C20 H20 => ⟨fun _ => trivial, ?_⟩)) | (refine .callx rfl rfl rfl en56 (.cons rfl (.cons rfl (.cons rfl .nil))) (sees1_spec c b x _ hq (hf2 _) v _ ⟨2, 0, 0, 0, ⟨0, 0, false⟩, _⟩ _ (by first | omega | (simp only [List.length_append, List.length_map, List.length_singleton]; omega))) H19 (.cons (.there .here) (.cons (.there .here) .nil)) (.own .here (.ro (.there (.there .here)) (.own (.there (.there (.there .here))) .nil))) (fun vb w20 C20 H20 => ⟨fun _ => trivial, ?_⟩))
          refine .nil (cj ?_)
          refine .seq ?_
          refine .seq ?_
          refine .plain rfl ?_
          refine .q rfl rfl rfl (val_move rfl) ?_
          refine .q rfl rfl rfl (val_eql rfl rfl rfl) ?_
          refine .nil (cj ?_)
          refine .cond rfl (fun hc4 => ?_) (fun hc4 => ?_)
          · refine .plain rfl ?_
            refine .q rfl rfl rfl (val_move rfl) ?_
            refine .q rfl rfl rfl (val_move rfl) ?_
            refine .q rfl rfl rfl (val_mk (.cons rfl .nil) (mk_60_0 _)) ?_
            refine .lit rfl rfl rfl Tryz.underlying57 (.cons rfl .nil) (bs_60_1_0 _ _ _ _ _ _ _ _ _ _ _ _ _ _ _ _ _ _) H20 (fun w21 b21 H21 => ⟨fun _ => trivial, ?_⟩)
            first | (refine .callx rfl rfl rfl en56 (.cons rfl (.cons rfl (.cons rfl .nil))) (sees1_spec c b x _ hq (hf3 _ _) vb _ (sg 3 0) _ (by first | omega | (simp only [List.length_append, List.length_map, List.length_singleton]; omega))) H21 (.cons (.there .here) (.cons (.there .here) .nil)) (.own .here (.ro (.there (.there .here)) (.own (.there (.there (.there (.there .here)))) .nil))) (fun vc w22 C22 H22 => ⟨fun _ => trivial, ?_⟩)) | (refine .callx rfl rfl rfl en56 (.cons rfl (.cons rfl (.cons rfl .nil))) (sees1_spec c b x _ hq (hf2 _) vb _ (sg 3 0) _ (by first | omega | (simp only [List.length_append, List.length_map, List.length_singleton]; omega))) H21 (.cons (.there .here) (.cons (.there .here) .nil)) (.own .here (.ro (.there (.there .here)) (.own (.there (.there (.there (.there .here)))) .nil))) (fun vc w22 C22 H22 => ⟨fun _ => trivial, ?_⟩))
            refine .nil (cj ?_)
            refine .plain rfl ?_
            refine .q rfl rfl rfl (val_move rfl) ?_
            refine .q rfl rfl rfl (val_move rfl) ?_
            refine .q rfl rfl rfl (val_nilCheck rfl) ?_
            refine .q rfl rfl rfl (val_fieldAddr rfl fa_111_2) ?_
            refine .qs rfl rfl rfl H22 (ld_b rfl ob_109 (.own .here) rfl) ?_
            refine .q rfl rfl rfl (val_move rfl) ?_
            refine .q rfl rfl rfl (val_ix el_109 hA rfl rfl rfl hil) ?_
            refine .qs rfl rfl rfl H22 (ld_el rfl ob_30 .base hA (.ro (.there (.there .here))) encN_len (by first | assumption | rfl) rfl) ?_
            first | (refine .callx rfl rfl rfl en58 (.cons rfl .nil) (Spec.nthR (hf3 _ _) tellA_spec) H22 .nil (.own (.there (.there (.there (.there (.there (.there .here)))))) .nil) (fun bt w23 C23 H23 => ⟨fun _ => trivial, ?_⟩)) | (refine .callx rfl rfl rfl en58 (.cons rfl .nil) (Spec.nthR (hf2 _) tellA_spec) H22 .nil (.own (.there (.there (.there (.there (.there (.there .here)))))) .nil) (fun bt w23 C23 H23 => ⟨fun _ => trivial, ?_⟩))
            refine .append rfl rfl rfl (ap_70) rfl rfl H23 (.there (.there (.there (.there (.there (.there (.there (.there (.there .here))))))))) (Has.srcBlk (.own .here) H23) rfl (by simp [Value.oneCell']) (by simp only [maxLen]; omega) (by omega) (fun v24 w24 H24 => ⟨fun _ => trivial, ?_⟩)
            refine .q rfl rfl rfl (val_assign rfl) ?_
            refine .nil (cj ?_)
            refine .plain rfl ?_
            refine .q rfl rfl rfl (val_add rfl rfl (z := ((i + 1 : Nat) : Int)) (w64_of (by dsimp only; omega))) ?_
            refine .q rfl rfl rfl (val_move rfl) ?_
            refine .nil ?_
            intro act0 hact0; change Exists _
            refine ⟨⟨i + 1, _, _⟩, Pick.kn (by repeat (first | exact Pick.nil | refine Pick.cons rfl ?_)) hact0, ⟨by first | (dsimp only; rw [sm_a hs hc2, ← rsE_set _ hq]; exact H24.sub (.cons (.there (.there .here)) (.cons (.there (.there (.there (.there (.there (.there .here)))))) (.cons (.there (.there (.there (.there (.there (.there .here)))))) (.cons (.there (.there .here)) (.cons .here .nil)))))) | (have hk : (tickO q.r q.g).m.kind = 3 ∨ (tickO q.r q.g).m.kind = 4 := (by first | exact .inl (by simpa using hs40) | exact .inr (by simpa using hc3)); dsimp only; rw [sm_b hs hc2 hc4, hoT_y hk, ← te_snoc, ← rsE_set _ hq]; rw [List.set_set] at H24; exact H24.sub (.cons (.there (.there .here)) (.cons (.there (.there (.there (.there (.there (.there .here)))))) (.cons (.there (.there (.there (.there (.there (.there .here)))))) (.cons (.there (.there .here)) (.cons .here .nil)))))) | (have hk : ¬ ((tickO q.r q.g).m.kind = 3 ∨ (tickO q.r q.g).m.kind = 4) := (by simp at hs40 hc3; omega); dsimp only; rw [sm_b hs hc2 hc4, hoT_n hk]; dsimp only; rw [List.map_nil, List.append_nil, ← te_snoc, ← rsE_set _ hq]; exact H24.sub (.cons (.there (.there .here)) (.cons (.there (.there (.there (.there (.there (.there .here)))))) (.cons (.there (.there (.there (.there (.there (.there .here)))))) (.cons (.there (.there .here)) (.cons .here .nil)))))) | (have hk : (tickO q.r q.g).m.kind = 3 ∨ (tickO q.r q.g).m.kind = 4 := (by first | exact .inl (by simpa using hs40) | exact .inr (by simpa using hc3)); dsimp only; rw [sm_c hs hc2 hc4, hoT_y hk, ← te_snoc, ← rsE_set _ hq]; rw [List.set_set] at H24; exact H24.sub (.cons (.there (.there .here)) (.cons (.there (.there (.there (.there (.there (.there .here)))))) (.cons (.there (.there (.there (.there (.there (.there .here)))))) (.cons (.there (.there .here)) (.cons .here .nil)))))) | (have hk : ¬ ((tickO q.r q.g).m.kind = 3 ∨ (tickO q.r q.g).m.kind = 4) := (by simp at hs40 hc3; omega); dsimp only; rw [sm_c hs hc2 hc4, hoT_n hk]; dsimp only; rw [List.map_nil, List.append_nil, ← te_snoc, ← rsE_set _ hq]; exact H24.sub (.cons (.there (.there .here)) (.cons (.there (.there (.there (.there (.there (.there .here)))))) (.cons (.there (.there (.there (.there (.there (.there .here)))))) (.cons (.there (.there .here)) (.cons .here .nil)))))), hil⟩, (show x.br.length - (i + 1) < x.br.length - i by omega)⟩
          · refine .skip (cj ?_)
            refine .plain rfl ?_
            refine .q rfl rfl rfl (val_move rfl) ?_
            refine .q rfl rfl rfl (val_move rfl) ?_
            refine .q rfl rfl rfl (val_nilCheck rfl) ?_
            refine .q rfl rfl rfl (val_fieldAddr rfl fa_111_2) ?_
            refine .qs rfl rfl rfl H20 (ld_b rfl ob_109 (.own .here) rfl) ?_
            refine .q rfl rfl rfl (val_move rfl) ?_
            refine .q rfl rfl rfl (val_ix el_109 hA rfl rfl rfl hil) ?_
            refine .qs rfl rfl rfl H20 (ld_el rfl ob_30 .base hA (.ro (.there (.there .here))) encN_len (by first | assumption | rfl) rfl) ?_
            first | (refine .callx rfl rfl rfl en58 (.cons rfl .nil) (Spec.nthR (hf3 _ _) tellA_spec) H20 .nil (.own (.there (.there (.there (.there (.there .here))))) .nil) (fun bt w25 C25 H25 => ⟨fun _ => trivial, ?_⟩)) | (refine .callx rfl rfl rfl en58 (.cons rfl .nil) (Spec.nthR (hf2 _) tellA_spec) H20 .nil (.own (.there (.there (.there (.there (.there .here))))) .nil) (fun bt w25 C25 H25 => ⟨fun _ => trivial, ?_⟩))
            refine .append rfl rfl rfl (ap_70) rfl rfl H25 (.there (.there (.there (.there (.there (.there (.there (.there .here)))))))) (Has.srcBlk (.own .here) H25) rfl (by simp [Value.oneCell']) (by simp only [maxLen]; omega) (by omega) (fun v26 w26 H26 => ⟨fun _ => trivial, ?_⟩)
            refine .q rfl rfl rfl (val_assign rfl) ?_
            refine .nil (cj ?_)
            refine .plain rfl ?_
            refine .q rfl rfl rfl (val_add rfl rfl (z := ((i + 1 : Nat) : Int)) (w64_of (by dsimp only; omega))) ?_
            refine .q rfl rfl rfl (val_move rfl) ?_
            refine .nil ?_
            intro act0 hact0; change Exists _
            refine ⟨⟨i + 1, _, _⟩, Pick.kn (by repeat (first | exact Pick.nil | refine Pick.cons rfl ?_)) hact0, ⟨by first | (dsimp only; rw [sm_a hs hc2, ← rsE_set _ hq]; exact H26.sub (.cons (.there (.there .here)) (.cons (.there (.there (.there (.there (.there .here))))) (.cons (.there (.there (.there (.there (.there .here))))) (.cons (.there (.there .here)) (.cons .here .nil)))))) | (have hk : (tickO q.r q.g).m.kind = 3 ∨ (tickO q.r q.g).m.kind = 4 := (by first | exact .inl (by simpa using hs40) | exact .inr (by simpa using hc3)); dsimp only; rw [sm_b hs hc2 hc4, hoT_y hk, ← te_snoc, ← rsE_set _ hq]; rw [List.set_set] at H26; exact H26.sub (.cons (.there (.there .here)) (.cons (.there (.there (.there (.there (.there .here))))) (.cons (.there (.there (.there (.there (.there .here))))) (.cons (.there (.there .here)) (.cons .here .nil)))))) | (have hk : ¬ ((tickO q.r q.g).m.kind = 3 ∨ (tickO q.r q.g).m.kind = 4) := (by simp at hs40 hc3; omega); dsimp only; rw [sm_b hs hc2 hc4, hoT_n hk]; dsimp only; rw [List.map_nil, List.append_nil, ← te_snoc, ← rsE_set _ hq]; exact H26.sub (.cons (.there (.there .here)) (.cons (.there (.there (.there (.there (.there .here))))) (.cons (.there (.there (.there (.there (.there .here))))) (.cons (.there (.there .here)) (.cons .here .nil)))))) | (have hk : (tickO q.r q.g).m.kind = 3 ∨ (tickO q.r q.g).m.kind = 4 := (by first | exact .inl (by simpa using hs40) | exact .inr (by simpa using hc3)); dsimp only; rw [sm_c hs hc2 hc4, hoT_y hk, ← te_snoc, ← rsE_set _ hq]; rw [List.set_set] at H26; exact H26.sub (.cons (.there (.there .here)) (.cons (.there (.there (.there (.there (.there .here))))) (.cons (.there (.there (.there (.there (.there .here))))) (.cons (.there (.there .here)) (.cons .here .nil)))))) | (have hk : ¬ ((tickO q.r q.g).m.kind = 3 ∨ (tickO q.r q.g).m.kind = 4) := (by simp at hs40 hc3; omega); dsimp only; rw [sm_c hs hc2 hc4, hoT_n hk]; dsimp only; rw [List.map_nil, List.append_nil, ← te_snoc, ← rsE_set _ hq]; exact H26.sub (.cons (.there (.there .here)) (.cons (.there (.there (.there (.there (.there .here))))) (.cons (.there (.there (.there (.there (.there .here))))) (.cons (.there (.there .here)) (.cons .here .nil)))))), hil⟩, (show x.br.length - (i + 1) < x.br.length - i by omega)⟩
        · refine .skip (cj ?_)
          refine .seq ?_
          refine .plain rfl ?_
          refine .q rfl rfl rfl (val_move rfl) ?_
          refine .q rfl rfl rfl (val_move rfl) ?_
          refine .qs rfl rfl rfl H6 (ld_w rfl ag_42 (.own .here) rfl) ?_
          refine .q rfl rfl rfl (val_mk (.cons rfl (.cons rfl .nil)) (mk_60_0_5 _ _ _ _ _ _ _ _ _ _ _ _)) ?_
          refine .lit rfl rfl rfl Tryz.underlying57 (.cons rfl .nil) (bs_60_1_0 _ _ _ _ _ _ _ _ _ _ _ _ _ _ _ _ _ _) H6 (fun w27 b27 H27 => ⟨fun _ => trivial, ?_⟩)
          first | (refine .callx rfl rfl rfl en56 (.cons rfl (.cons rfl (.cons rfl .nil))) (sees1_spec c b x _ hq (hf3 _ _) va _ ⟨2, 0, 0, 0, ⟨0, 0, false⟩, _⟩ _ (by first | omega | (simp only [List.length_append, List.length_map, List.length_singleton]; omega))) H27 (.cons (.there (.there (.there .here))) (.cons (.there (.there (.there (.there .here)))) .nil)) (.own .here (.ro (.there (.there .here)) (.own (.there (.there .here)) .nil))) (fun vb w28 C28 H28 => ⟨fun _ => trivial, ?_⟩)) | (refine .callx rfl rfl rfl en56 (.cons rfl (.cons rfl (.cons rfl .nil))) (sees1_spec c b x _ hq (hf2 _) v _ ⟨2, 0, 0, 0, ⟨0, 0, false⟩, _⟩ _ (by first | omega | (simp only [List.length_append, List.length_map, List.length_singleton]; omega))) H27 (.cons (.there (.there (.there .here))) (.cons (.there (.there (.there (.there .here)))) .nil)) (.own .here (.ro (.there (.there .here)) (.own (.there (.there .here)) .nil))) (fun vb w28 C28 H28 => ⟨fun _ => trivial, ?_⟩))
          refine .nil (cj ?_)
          refine .seq ?_
          refine .seq ?_
          refine .plain rfl ?_
          refine .q rfl rfl rfl (val_move rfl) ?_
          refine .q rfl rfl rfl (val_eql rfl rfl rfl) ?_
          refine .nil (cj ?_)
          refine .cond rfl (fun hc4 => ?_) (fun hc4 => ?_)
          · refine .plain rfl ?_
            refine .q rfl rfl rfl (val_move rfl) ?_
            refine .q rfl rfl rfl (val_move rfl) ?_
            refine .q rfl rfl rfl (val_mk (.cons rfl .nil) (mk_60_0 _)) ?_
            refine .lit rfl rfl rfl Tryz.underlying57 (.cons rfl .nil) (bs_60_1_0 _ _ _ _ _ _ _ _ _ _ _ _ _ _ _ _ _ _) H28 (fun w29 b29 H29 => ⟨fun _ => trivial, ?_⟩)
            first | (refine .callx rfl rfl rfl en56 (.cons rfl (.cons rfl (.cons rfl .nil))) (sees1_spec c b x _ hq (hf3 _ _) vb _ (sg 3 0) _ (by first | omega | (simp only [List.length_append, List.length_map, List.length_singleton]; omega))) H29 (.cons (.there .here) (.cons (.there .here) .nil)) (.own .here (.ro (.there (.there .here)) (.own (.there (.there (.there .here))) .nil))) (fun vc w30 C30 H30 => ⟨fun _ => trivial, ?_⟩)) | (refine .callx rfl rfl rfl en56 (.cons rfl (.cons rfl (.cons rfl .nil))) (sees1_spec c b x _ hq (hf2 _) vb _ (sg 3 0) _ (by first | omega | (simp only [List.length_append, List.length_map, List.length_singleton]; omega))) H29 (.cons (.there .here) (.cons (.there .here) .nil)) (.own .here (.ro (.there (.there .here)) (.own (.there (.there (.there .here))) .nil))) (fun vc w30 C30 H30 => ⟨fun _ => trivial, ?_⟩))
            refine .nil (cj ?_)
            refine .plain rfl ?_
            refine .q rfl rfl rfl (val_move rfl) ?_
            refine .q rfl rfl rfl (val_move rfl) ?_
            refine .q rfl rfl rfl (val_nilCheck rfl) ?_
            refine .q rfl rfl rfl (val_fieldAddr rfl fa_111_2) ?_
            refine .qs rfl rfl rfl H30 (ld_b rfl ob_109 (.own .here) rfl) ?_
            refine .q rfl rfl rfl (val_move rfl) ?_
            refine .q rfl rfl rfl (val_ix el_109 hA rfl rfl rfl hil) ?_
            refine .qs rfl rfl rfl H30 (ld_el rfl ob_30 .base hA (.ro (.there (.there .here))) encN_len (by first | assumption | rfl) rfl) ?_
            first | (refine .callx rfl rfl rfl en58 (.cons rfl .nil) (Spec.nthR (hf3 _ _) tellA_spec) H30 .nil (.own (.there (.there (.there (.there (.there .here))))) .nil) (fun bt w31 C31 H31 => ⟨fun _ => trivial, ?_⟩)) | (refine .callx rfl rfl rfl en58 (.cons rfl .nil) (Spec.nthR (hf2 _) tellA_spec) H30 .nil (.own (.there (.there (.there (.there (.there .here))))) .nil) (fun bt w31 C31 H31 => ⟨fun _ => trivial, ?_⟩))
            refine .append rfl rfl rfl (ap_70) rfl rfl H31 (.there (.there (.there (.there (.there (.there (.there (.there .here)))))))) (Has.srcBlk (.own .here) H31) rfl (by simp [Value.oneCell']) (by simp only [maxLen]; omega) (by omega) (fun v32 w32 H32 => ⟨fun _ => trivial, ?_⟩)
            refine .q rfl rfl rfl (val_assign rfl) ?_
            refine .nil (cj ?_)
            refine .plain rfl ?_
            refine .q rfl rfl rfl (val_add rfl rfl (z := ((i + 1 : Nat) : Int)) (w64_of (by dsimp only; omega))) ?_
            refine .q rfl rfl rfl (val_move rfl) ?_
            refine .nil ?_
            intro act0 hact0; change Exists _
            refine ⟨⟨i + 1, _, _⟩, Pick.kn (by repeat (first | exact Pick.nil | refine Pick.cons rfl ?_)) hact0, ⟨by first | (dsimp only; rw [sm_a hs hc2, ← rsE_set _ hq]; exact H32.sub (.cons (.there (.there .here)) (.cons (.there (.there (.there (.there (.there (.there (.there .here))))))) (.cons (.there (.there (.there (.there (.there (.there .here)))))) (.cons (.there (.there .here)) (.cons .here .nil)))))) | (have hk : (tickO q.r q.g).m.kind = 3 ∨ (tickO q.r q.g).m.kind = 4 := (by first | exact .inl (by simpa using hs40) | exact .inr (by simpa using hc3)); dsimp only; rw [sm_b hs hc2 hc4, hoT_y hk, ← te_snoc, ← rsE_set _ hq]; rw [List.set_set] at H32; exact H32.sub (.cons (.there (.there .here)) (.cons (.there (.there (.there (.there (.there (.there (.there .here))))))) (.cons (.there (.there (.there (.there (.there (.there .here)))))) (.cons (.there (.there .here)) (.cons .here .nil)))))) | (have hk : ¬ ((tickO q.r q.g).m.kind = 3 ∨ (tickO q.r q.g).m.kind = 4) := (by simp at hs40 hc3; omega); dsimp only; rw [sm_b hs hc2 hc4, hoT_n hk]; dsimp only; rw [List.map_nil, List.append_nil, ← te_snoc, ← rsE_set _ hq]; exact H32.sub (.cons (.there (.there .here)) (.cons (.there (.there (.there (.there (.there (.there (.there .here))))))) (.cons (.there (.there (.there (.there (.there (.there .here)))))) (.cons (.there (.there .here)) (.cons .here .nil)))))) | (have hk : (tickO q.r q.g).m.kind = 3 ∨ (tickO q.r q.g).m.kind = 4 := (by first | exact .inl (by simpa using hs40) | exact .inr (by simpa using hc3)); dsimp only; rw [sm_c hs hc2 hc4, hoT_y hk, ← te_snoc, ← rsE_set _ hq]; rw [List.set_set] at H32; exact H32.sub (.cons (.there (.there .here)) (.cons (.there (.there (.there (.there (.there (.there (.there .here))))))) (.cons (.there (.there (.there (.there (.there (.there .here)))))) (.cons (.there (.there .here)) (.cons .here .nil)))))) | (have hk : ¬ ((tickO q.r q.g).m.kind = 3 ∨ (tickO q.r q.g).m.kind = 4) := (by simp at hs40 hc3; omega); dsimp only; rw [sm_c hs hc2 hc4, hoT_n hk]; dsimp only; rw [List.map_nil, List.append_nil, ← te_snoc, ← rsE_set _ hq]; exact H32.sub (.cons (.there (.there .here)) (.cons (.there (.there (.there (.there (.there (.there (.there .here))))))) (.cons (.there (.there (.there (.there (.there (.there .here)))))) (.cons (.there (.there .here)) (.cons .here .nil)))))), hil⟩, (show x.br.length - (i + 1) < x.br.length - i by omega)⟩
          · refine .skip (cj ?_)
            refine .plain rfl ?_
            refine .q rfl rfl rfl (val_move rfl) ?_
            refine .q rfl rfl rfl (val_move rfl) ?_
            refine .q rfl rfl rfl (val_nilCheck rfl) ?_
            refine .q rfl rfl rfl (val_fieldAddr rfl fa_111_2) ?_
            refine .qs rfl rfl rfl H28 (ld_b rfl ob_109 (.own .here) rfl) ?_
            refine .q rfl rfl rfl (val_move rfl) ?_
            refine .q rfl rfl rfl (val_ix el_109 hA rfl rfl rfl hil) ?_
            refine .qs rfl rfl rfl H28 (ld_el rfl ob_30 .base hA (.ro (.there (.there .here))) encN_len (by first | assumption | rfl) rfl) ?_
            first | (refine .callx rfl rfl rfl en58 (.cons rfl .nil) (Spec.nthR (hf3 _ _) tellA_spec) H28 .nil (.own (.there (.there (.there (.there .here)))) .nil) (fun bt w33 C33 H33 => ⟨fun _ => trivial, ?_⟩)) | (refine .callx rfl rfl rfl en58 (.cons rfl .nil) (Spec.nthR (hf2 _) tellA_spec) H28 .nil (.own (.there (.there (.there (.there .here)))) .nil) (fun bt w33 C33 H33 => ⟨fun _ => trivial, ?_⟩))
            refine .append rfl rfl rfl (ap_70) rfl rfl H33 (.there (.there (.there (.there (.there (.there (.there .here))))))) (Has.srcBlk (.own .here) H33) rfl (by simp [Value.oneCell']) (by simp only [maxLen]; omega) (by omega) (fun v34 w34 H34 => ⟨fun _ => trivial, ?_⟩)
            refine .q rfl rfl rfl (val_assign rfl) ?_
            refine .nil (cj ?_)
            refine .plain rfl ?_
            refine .q rfl rfl rfl (val_add rfl rfl (z := ((i + 1 : Nat) : Int)) (w64_of (by dsimp only; omega))) ?_
            refine .q rfl rfl rfl (val_move rfl) ?_
            refine .nil ?_
            intro act0 hact0; change Exists _
            refine ⟨⟨i + 1, _, _⟩, Pick.kn (by repeat (first | exact Pick.nil | refine Pick.cons rfl ?_)) hact0, ⟨by first | (dsimp only; rw [sm_a hs hc2, ← rsE_set _ hq]; exact H34.sub (.cons (.there (.there .here)) (.cons (.there (.there (.there (.there (.there (.there .here)))))) (.cons (.there (.there (.there (.there (.there .here))))) (.cons (.there (.there .here)) (.cons .here .nil)))))) | (have hk : (tickO q.r q.g).m.kind = 3 ∨ (tickO q.r q.g).m.kind = 4 := (by first | exact .inl (by simpa using hs40) | exact .inr (by simpa using hc3)); dsimp only; rw [sm_b hs hc2 hc4, hoT_y hk, ← te_snoc, ← rsE_set _ hq]; rw [List.set_set] at H34; exact H34.sub (.cons (.there (.there .here)) (.cons (.there (.there (.there (.there (.there (.there .here)))))) (.cons (.there (.there (.there (.there (.there .here))))) (.cons (.there (.there .here)) (.cons .here .nil)))))) | (have hk : ¬ ((tickO q.r q.g).m.kind = 3 ∨ (tickO q.r q.g).m.kind = 4) := (by simp at hs40 hc3; omega); dsimp only; rw [sm_b hs hc2 hc4, hoT_n hk]; dsimp only; rw [List.map_nil, List.append_nil, ← te_snoc, ← rsE_set _ hq]; exact H34.sub (.cons (.there (.there .here)) (.cons (.there (.there (.there (.there (.there (.there .here)))))) (.cons (.there (.there (.there (.there (.there .here))))) (.cons (.there (.there .here)) (.cons .here .nil)))))) | (have hk : (tickO q.r q.g).m.kind = 3 ∨ (tickO q.r q.g).m.kind = 4 := (by first | exact .inl (by simpa using hs40) | exact .inr (by simpa using hc3)); dsimp only; rw [sm_c hs hc2 hc4, hoT_y hk, ← te_snoc, ← rsE_set _ hq]; rw [List.set_set] at H34; exact H34.sub (.cons (.there (.there .here)) (.cons (.there (.there (.there (.there (.there (.there .here)))))) (.cons (.there (.there (.there (.there (.there .here))))) (.cons (.there (.there .here)) (.cons .here .nil)))))) | (have hk : ¬ ((tickO q.r q.g).m.kind = 3 ∨ (tickO q.r q.g).m.kind = 4) := (by simp at hs40 hc3; omega); dsimp only; rw [sm_c hs hc2 hc4, hoT_n hk]; dsimp only; rw [List.map_nil, List.append_nil, ← te_snoc, ← rsE_set _ hq]; exact H34.sub (.cons (.there (.there .here)) (.cons (.there (.there (.there (.there (.there (.there .here)))))) (.cons (.there (.there (.there (.there (.there .here))))) (.cons (.there (.there .here)) (.cons .here .nil)))))), hil⟩, (show x.br.length - (i + 1) < x.br.length - i by omega)⟩
  · dsimp only at hi hc1 H2
    have hil : i = x.br.length := by simp only [decide_eq_false_iff_not] at hc1; omega
    refine .exit (cj ?_)
    refine .seq ?_
    refine .plain rfl ?_
    refine .q rfl rfl rfl (val_move rfl) ?_
    refine .q rfl rfl rfl (val_assign rfl) ?_
    refine .nil (cj ?_)
    refine .ret (fret (res1 rfl rfl) ?_)
    rw [hil, hbr] at H2
    exact hRR _ _ ⟨_, ⟨⟨v, o⟩, rfl, rfl, trivial⟩, H2.sub (.cons .here (.cons .here (.cons .here (.cons .here (.cons .here .nil)))))⟩
end Go.Proofs.YtmbibkifbehgnaaGreatDoor
namespace Go.Proofs.YtmbibkifbehgnaaGreatDoor
open Go Sk
set_option linter.unusedVariables false
set_option linter.unusedSimpArgs false
set_option linter.unusedSectionVars false
structure Wm.Ok (c : Cf) (W : Wm) : Prop where
  s : W.s.Ok c
  n : W.s.loads.length = W.rs.length
  g : ∀ q ∈ W.rs, RunO q.g
structure HWm where
  te : Option Te
  W : Wm
/-- a robot's state by its number; none: there is no such robot -/
def robAt (W : Wm) (i : Int) : Option Rg := if i < 0 then none else W.rs[i.toNat]?
def hearWd (c : Cf) (W : Wm) (t : Te) : HWm := match robAt W t.robot with
  | none => ⟨none, W⟩
  | some q => ⟨(hearB c q.r q.g t).tele, ⟨W.rs.set t.robot.toNat ⟨(hearB c q.r q.g t).r, (hearB c q.r q.g t).g⟩, W.s, W.now, W.l ++ (hearL (hearB c q.r q.g t).how (hearB c q.r q.g t).g).map (fillS W.now (t.robot.toNat : Int) (hearB c q.r q.g t).r.pose)⟩⟩
structure DWm where
  e : Int
  W : Wm
def delayWd (W : Wm) (i ticks : Int) : DWm := match robAt W i with
  | none => ⟨1, W⟩
  | some q => if ticks < 1 then ⟨1, W⟩ else ⟨0, ⟨W.rs.set i.toNat ⟨delayO q.r q.g ticks, q.g⟩, W.s, W.now, W.l⟩⟩
theorem robAt_none {W : Wm} {i : Int} (h : robAt W i = none) : i < 0 ∨ (W.rs.length : Int) ≤ i := by
  unfold robAt at h
  split at h
  · exact .inl (by assumption)
  · rw [List.getElem?_eq_none_iff] at h
    right; omega
theorem robAt_some {W : Wm} {i : Int} {q : Rg} (h : robAt W i = some q) : i = (i.toNat : Int) ∧ W.rs[i.toNat]? = some q := by
  unfold robAt at h
  split at h
  · cases h
  · exact ⟨by omega, h⟩
/-! ### RunO stays -/
theorem goB_run {c : Cf} {r : Rb} {g : Option Gg} {t : Te} (hg : RunO g) : RunO (goB c r g t).g := by
  unfold goB
  split
  · exact hg
  · split
    · exact hg
    · split
      · exact hg
      · split
        · rename_i h
          exact fun hk _ => (legal_runs h.2.2.1 hk).1
        · exact hg
theorem stop1B_run {c : Cf} {r : Rb} {g : Gg} {ep : Int} (hg : RunN g) : RunN (stop1B c r g ep).g := by
  unfold stop1B
  split
  · unfold cutG
    split
    · exact hg
    · exact fun _ h => by cases h
  · exact hg
theorem hearB_run {c : Cf} {r : Rb} {g : Option Gg} {t : Te} (hg : RunO g) : RunO (hearB c r g t).g := by
  unfold hearB
  split
  · exact hg
  · split
    · exact goB_run hg
    · split
      · cases g with
        | none => trivial
        | some u => exact stop1B_run hg
      · exact hg
theorem tickO_run {r : Rb} {g : Option Gg} (hg : RunO g) : RunO (tickO r g).g := by
  cases g with
  | none => trivial
  | some u =>
    show RunO (tickB r u).g
    unfold tickB
    split
    · exact hg
    · split
      · exact hg
      · split <;> trivial
theorem Wm.Ok.get {c : Cf} {W : Wm} (h : W.Ok c) {i : Nat} {q : Rg} (hq : W.rs[i]? = some q) : RunO q.g := h.g q (List.mem_of_getElem? hq)
theorem hearWd_ok {c : Cf} {W : Wm} (h : W.Ok c) (t : Te) : (hearWd c W t).W.Ok c ∧ (hearWd c W t).W.rs.length = W.rs.length ∧ (hearWd c W t).W.l.length ≤ W.l.length + 1 := by
  unfold hearWd
  split
  · exact ⟨h, rfl, Nat.le_succ _⟩
  · rename_i q hq
    obtain ⟨h1, h2⟩ := robAt_some hq
    refine ⟨⟨h.s, by simpa using h.n, fun p hp => ?_⟩, by simp, ?_⟩
    · rcases List.mem_or_eq_of_mem_set hp with hp | rfl
      · exact h.g p hp
      · exact hearB_run (h.get h2)
    · simp only [List.length_append, List.length_map]
      have : (hearL (hearB c q.r q.g t).how (hearB c q.r q.g t).g).length ≤ 1 := by
        unfold hearL
        split
        · exact Nat.le_refl _
        · split
          · exact Nat.le_refl _
          · split <;> simp
      omega
theorem delayWd_ok {c : Cf} {W : Wm} (h : W.Ok c) (i ticks : Int) : (delayWd W i ticks).W.Ok c ∧ (delayWd W i ticks).W.rs.length = W.rs.length ∧ (delayWd W i ticks).W.l = W.l := by
  unfold delayWd
  split
  · exact ⟨h, rfl, rfl⟩
  · rename_i q hq
    obtain ⟨h1, h2⟩ := robAt_some hq
    split
    · exact ⟨h, rfl, rfl⟩
    · refine ⟨⟨h.s, by simpa using h.n, fun p hp => ?_⟩, by simp, rfl⟩
      rcases List.mem_or_eq_of_mem_set hp with hp | rfl
      · exact h.g p hp
      · exact h.g q (List.mem_of_getElem? h2)
theorem tickT_run {c : Cf} {W : Wm} (h : W.Ok c) : ∀ i, ∀ q ∈ (tickT c W i).rs, RunO q.g
  | 0 => h.g
  | i + 1 => by
    have ih := tickT_run h i
    unfold tickT
    split
    · rename_i q hq
      have hr := tickO_run (r := q.r) (ih q (List.mem_of_getElem? hq))
      unfold stepM
      split
      · intro p hp
        rcases List.mem_or_eq_of_mem_set hp with hp | rfl
        · exact ih p hp
        · exact hr
      · intro p hp
        rcases List.mem_or_eq_of_mem_set hp with hp | rfl
        · exact ih p hp
        · exact hr
    · exact ih
theorem tickWd_ok {c : Cf} (hm : MayOk c) {W : Wm} (h : W.Ok c) : (tickWd c W).Ok c ∧ (tickWd c W).rs.length = W.rs.length ∧ (tickWd c W).l.length ≤ W.l.length + 32 := by
  have ok := tickT_ok hm h.s h.n W.rs.length
  have h8 : W.rs.length ≤ 8 := by rw [← h.n]; exact h.s.r
  refine ⟨⟨ok.s, ok.n.trans ok.r.symm, tickT_run h _⟩, ok.r, ?_⟩
  have := ok.l
  show (tickT c W W.rs.length).l.length ≤ _
  omega
/-! ### contracts -/
section
variable {c : Cf} (hm : MayOk c) {b : Nat} {W : Wm}
theorem stm0_ok (hm : MayOk c) : (stm0 c).Ok c := by
  refine ⟨layM_len c _, by simpa [stm0] using hm.rl, ?_⟩
  have key : ∀ i, ∀ l ∈ layM c i, l.length ≤ 8 := by
    intro i
    induction i with
    | zero =>
      intro l hl
      rw [layM, List.mem_replicate] at hl
      rw [hl.2]; exact Nat.zero_le _
    | succ i ih =>
      unfold layM
      split
      · rename_i s hs
        intro l hl
        rcases List.mem_or_eq_of_mem_set hl with hl | rfl
        · exact ih l hl
        · have h1 := (hm.bins.st i s hs).2
          have h2 := hm.num.height
          omega
      · exact ih
  exact key _
theorem newRs_run (c : Cf) : ∀ i, ∀ q ∈ newRs c i, RunO q.g
  | 0 => fun q h => by cases h
  | i + 1 => fun q h => by
    rw [newRs, List.mem_append] at h
    rcases h with h | h
    · exact newRs_run c i q h
    · rw [List.mem_singleton] at h
      subst h
      trivial
theorem wld0_ok (hm : MayOk c) : (wld0 c).Ok c := ⟨stm0_ok hm, by simp [wld0, stm0, newRs_len], newRs_run c _⟩
theorem wnowA_spec : Sk.Spec Tryz.prog 19 #[ptr b] [wldA c b W] [] fun e F' => e = .returned (i64 W.now) ∧ F' = [] := by
  refine Spec.openR fun ⟨x, hx⟩ => ?_
  exact (wnow_spec b x W.now).ro (.ro .here .nil)
theorem sightsA_spec (hl : W.l.length ≤ 1000000) : Sk.Spec Tryz.prog 18 #[ptr b] [wldA c b W] [] fun e F' => ∃ v, e = .returned v ∧ F' = [siA v W.l] ∧ True := by
  refine Spec.openR fun ⟨x, hx⟩ => ?_
  rw [List.append_nil]
  refine Spec.rowIn (v := x.v) (e := 60) (sz := 18) (n := W.l.length) (xs := W.l.flatMap encSi) (by simp) fun A cap hv hcap hn => ?_
  have h := sights_spec b x W.now W.l A cap hv hl hn
  have h2 := Spec.rowR (n := W.l.length) (cap := cap) (e := 60) (sz := 18) h
  rw [← hv] at h2
  exact h2.ro (.ro (.there (.there (.there (.there (.there (.there .here)))))) (.ro .here .nil))
theorem delayA2_spec (i ticks : Int) : Sk.Spec Tryz.prog 20 #[ptr b, i64 i, i64 ticks] [] [wldA c b W] fun e F' => e = .returned (i64 (delayWd W i ticks).e) ∧ F' = [wldA c b (delayWd W i ticks).W] := by
  refine Spec.openF fun ⟨x, hx⟩ => ?_
  rw [List.append_nil]
  have fin : ∀ {e0 : Ending}, (Sk.Spec Tryz.prog 20 #[ptr b, i64 i, i64 ticks] [wb b x W.now, raA x] [] fun e F' => e = e0 ∧ F' = []) → Sk.Spec Tryz.prog 20 #[ptr b, i64 i, i64 ticks] [] (wldE c b W x) fun e F' => e = e0 ∧ F' = [wldA c b W] := fun h =>
    (h.keep (.own .here (.own (.there (.there (.there .here))) .nil))).conseq fun e F' ⟨h1, h2⟩ => ⟨_, ⟨h1, rfl⟩, fun X w hX => ⟨X, wldA_in x hx (by rw [List.append_nil]; rw [h2] at hX; exact hX), fun _ h => h⟩⟩
  unfold delayWd
  split
  · rename_i hr
    exact fin (delay3_spec' b x W.now (by rw [hx]; exact robAt_none hr) ticks)
  · rename_i q hr
    obtain ⟨h1, h2⟩ := robAt_some hr
    obtain ⟨a, ha⟩ := br_get hx h2
    generalize i.toNat = k at h1 h2 ha ⊢
    subst h1
    split
    · rename_i ht
      exact fin (delay2_spec' b x W.now ha ticks ht)
    · rename_i ht
      have h := delay1_spec' c b x W.now ha (rsE_get ha h2) ticks (by omega)
      refine (h.frame (F := wldE c b W x) (.cons (.there (.there (.there (.there (.there .here))))) .nil) (.own .here (.own (.there (.there (.there .here))) .nil))).conseq ?_
      rintro e F' ⟨F1, ⟨rfl, rfl⟩, rfl⟩
      refine ⟨_, ⟨rfl, rfl⟩, fun X w hX => ⟨X, wldA_in (W := ⟨W.rs.set k ⟨delayO q.r q.g ticks, q.g⟩, W.s, W.now, W.l⟩) x (by simpa using hx) ?_, fun _ h => h⟩⟩
      rw [rsE_set (s := ⟨delayO q.r q.g ticks, q.g⟩) ha] at hX
      exact Own.perm (.cons (.there .here) (.cons (.there .here) (.cons (.there .here) (.cons (.there .here) (.cons (.there .here) (.cons .here (.cons .here .nil))))))) hX
include hm
theorem tickA2_spec (hok : W.Ok c) (hl : W.l.length ≤ 900000) : Sk.Spec Tryz.prog 26 #[ptr b] [] [wldA c b W] fun e F' => ∃ o : Value, e = .returned o ∧ F' = [wldA c b (tickWd c W), teR o (tickTe c W)] ∧ True := by
  refine Spec.openF fun ⟨x, hx⟩ => ?_
  rw [List.append_nil]
  refine ((tick_spec c hm b x x.v W hok.s hok.n hx hl).frame (F := wldE c b W x) (.cons .here (.cons (.there (.there (.there .here))) (.cons (.there (.there (.there .here))) (.cons (.there (.there (.there .here))) .nil)))) (.own .here (.own (.there .here) (.own (.there (.there .here)) .nil)))).conseq ?_
  rintro e F' ⟨F1, ⟨y, rfl, rfl, _⟩, rfl⟩
  refine ⟨_, ⟨y.o, rfl, rfl, trivial⟩, fun X w hX => ⟨X, wldA_in (W := tickWd c W) { x with v := y.v } (by rw [(tickWd_ok hm hok).2.1]; exact hx) ?_, fun _ h => h⟩⟩
  exact Own.perm (.cons .here (.cons (.there (.there (.there (.there .here)))) (.cons (.there (.there (.there (.there .here)))) (.cons (.there (.there (.there (.there .here)))) (.cons .here (.cons .here (.cons .here (.cons .here .nil)))))))) hX
theorem hearA3_spec (hok : W.Ok c) (hl : W.l.length ≤ 900000) (t : Te) : Sk.Spec Tryz.prog 25 #[ptr b, .agg (encT t).toArray] [stepsA] [wldA c b W] fun e F' => ∃ y : SV, e = .returned (teV (hearWd c W t).te y) ∧ F' = [wldA c b (hearWd c W t).W, teA (hearWd c W t).te y] ∧ True := by
  refine Spec.openF fun ⟨x, hx⟩ => ?_
  rw [List.append_nil]
  unfold hearWd
  split
  · rename_i hr
    refine ((hear0_spec' b x W.now t (by rw [hx]; exact robAt_none hr)).keep (R := [stepsA]) (F := wldE c b W x) (.own .here (.own (.there (.there (.there .here))) .nil))).conseq ?_
    rintro e F' ⟨rfl, rfl⟩
    refine ⟨_, ⟨⟨none, 0⟩, rfl, rfl, trivial⟩, fun X w hX => ⟨X, wldA_in x hx ?_, fun _ h => h⟩⟩
    exact Own.perm (.cons (.there .here) (.cons (.there .here) (.cons (.there .here) (.cons (.there .here) (.cons (.there .here) (.cons (.there .here) (.cons (.there .here) (.cons .here .nil)))))))) (Own.consE (g := teA none ⟨none, 0⟩) (.inl ⟨rfl, fun _ h => h⟩) hX)
  · rename_i q hr
    obtain ⟨h1, h2⟩ := robAt_some hr
    obtain ⟨a, ha⟩ := br_get hx h2
    have h := hear1_spec' c hm b x W.now x.v ha (rsE_get ha h2) (hok.get h2) W.l (by omega) t h1
    refine (h.frame (F := wldE c b W x) (.cons .here (.cons (.there (.there (.there (.there (.there .here))))) (.cons (.there (.there (.there (.there .here)))) .nil))) (.own (.there (.there .here)) (.ro .here .nil))).conseq ?_
    rintro e F' ⟨F1, ⟨y, rfl, rfl, _⟩, rfl⟩
    refine ⟨_, ⟨y.x, rfl, rfl, trivial⟩, fun X w hX => ⟨X, wldA_in { x with v := y.v } (by simpa using hx) ?_, fun _ h => h⟩⟩
    rw [rsE_set (s := ⟨(hearB c q.r q.g t).r, (hearB c q.r q.g t).g⟩) ha] at hX
    exact Own.perm (.cons .here (.cons (.there (.there (.there .here))) (.cons (.there (.there (.there .here))) (.cons (.there (.there (.there .here))) (.cons (.there (.there (.there .here))) (.cons (.there .here) (.cons .here (.cons .here .nil)))))))) hX
end
end Go.Proofs.YtmbibkifbehgnaaGreatDoor
namespace Go.Proofs.YtmbibkifbehgnaaGreatDoor
open Go Sk
set_option linter.unusedVariables false
set_option linter.unusedSimpArgs false
set_option linter.unusedSectionVars false
theorem mk_26_0_1_2_7_8_9_10_11_12_13_14_5_6 (x0_ : Int) (x1_ : Int) (x2_ : Int) (x7_ : Int) (x8_ : Int) (x9_ : Int) (x10_ : Int) (x11_ : Int) (x12_ : Int) (x13_ : Int) (x14_ : Int) (x5_A : Option Addr) (x5_n : Nat) (x5_c : Nat) (x6_A : Option Addr) (x6_n : Nat) (x6_c : Nat) : Tryz.prog.built 26 [(0, .int .i64 x0_), (1, .int .i64 x1_), (2, .int .i64 x2_), (7, .int .i64 x7_), (8, .int .i64 x8_), (9, .int .i64 x9_), (10, .int .i64 x10_), (11, .int .i64 x11_), (12, .int .i64 x12_), (13, .int .i64 x13_), (14, .int .i64 x14_), (5, .slice x5_A x5_n x5_c), (6, .slice x6_A x6_n x6_c)] = some (List.toArray [.int .i64 x0_, .int .i64 x1_, .int .i64 x2_, .slice none 0 0, .slice none 0 0, .slice x5_A x5_n x5_c, .slice x6_A x6_n x6_c, .int .i64 x7_, .int .i64 x8_, .int .i64 x9_, .int .i64 x10_, .int .i64 x11_, .int .i64 x12_, .int .i64 x13_, .int .i64 x14_, .bool false]) := by kernel_rfl
theorem mk_38_0 (x0_ : Int) : Tryz.prog.built 38 [(0, .int .i64 x0_)] = some (List.toArray [.int .i64 x0_, .int .i64 0]) := by kernel_rfl
structure C19 where
  b1 : Nat
  b2 : Nat
  b3 : Nat
abbrev sk19 (x : C19) : Sk1 := ⟨2, 0, some ⟨x.b3, 0, none⟩, 1, [7]⟩
/-- law19's config, of any hoist -/
def cf19 (x : C19) (h : Int) : Cf := ⟨4, 1, 1, none, 0, [], none, 0, [], some ⟨x.b1, 0, none⟩, 1, [ps0], some ⟨x.b2, 0, none⟩, 1, [sk19 x], 1, 1, 1, 1, h, 1, 1, 1, false⟩
theorem cf19_fit (x : C19) (h : Int) : (cf19 x h).Fit := ⟨Nat.zero_le _, Nat.zero_le _, (show 1 ≤ maxLen by decide), (show 1 ≤ maxLen by decide), fun s hs => (by
  rw [show (cf19 x h).stacks = [sk19 x] from rfl, List.mem_singleton] at hs; subst hs; exact (show 1 ≤ maxLen by decide)), fun _ => ⟨rfl, rfl⟩, fun _ => ⟨rfl, rfl⟩, fun h => (by cases h), fun h => (by cases h)⟩
theorem one_get {α : Type} {a b : α} {i : Nat} (h : [a][i]? = some b) : i = 0 ∧ b = a := by
  have hi := lt_of_some h
  simp at hi
  subst hi
  exact ⟨rfl, by simpa using h.symm⟩
section
variable (x : C19) {h : Int} (hh : 1 ≤ h ∧ h ≤ 1000)
include hh
theorem cf19_may : MayOk (cf19 x h) where
  num := ⟨by simp [cf19], by simp [cf19], by simp [cf19], by simp [cf19], by simp [cf19], by simp [cf19], by simp [cf19], hh, by simp [cf19], by simp [cf19], by simp [cf19]⟩
  bl := Nat.zero_le _
  pl := Nat.zero_le _
  rl := (show 1 ≤ 8 by decide)
  blocked := fun i x h => by simp [cf19] at h
  ports := fun i x h => by simp [cf19] at h
  robots := fun i p h => by
    obtain ⟨_, rfl⟩ := one_get h
    rfl
  cells := fun i y hy => by
    have h1 := List.mem_of_getElem? hy
    have e : (cf19 x h).robots.flatMap cellsL = [⟨0, 0⟩, ⟨1, 0⟩] := rfl
    rw [e] at h1 ⊢
    rcases (by simpa using h1 : y = ⟨0, 0⟩ ∨ y = ⟨1, 0⟩) with rfl | rfl <;> decide
  bins := ⟨fun i s h => by
      obtain ⟨_, rfl⟩ := one_get h
      exact ⟨rfl, (by show ((1 : Nat) : Int) ≤ 1; decide)⟩,
    fun i k s t hk h1 h2 => by
      obtain ⟨rfl, _⟩ := one_get h1
      omega, (show 1 ≤ 512 by decide), fun i b hb => by
      obtain ⟨_, rfl⟩ := one_get (a := (7 : Int)) hb
      decide, fun i k a b hk h1 h2 => by
      obtain ⟨rfl, _⟩ := one_get (a := (7 : Int)) h1
      omega⟩
end
section
variable {x : C19} {h : Int} {w0 w : World} {M : Nat → Prop} {R F F1 F2 F3 : List As}
theorem bins19 (H : St w0 w M (arr (some ⟨x.b3, 0, none⟩) [i64 7] :: R) F) : St w0 w M (binsA (cf19 x h) :: R) F := by
  obtain ⟨⟨X, h1, h2, h3⟩, h4⟩ := H
  refine ⟨⟨X, h1, fun r hr => ?_, h3⟩, h4⟩
  rcases List.mem_cons.1 hr with rfl | hr
  · obtain ⟨Y, hY, hd⟩ := h2 _ List.mem_cons_self
    refine ⟨Y, ⟨fun s hs => ?_, fun k hk => (arr (some ⟨x.b3, 0, none⟩) [i64 7]).lt Y w hY k hk⟩, hd⟩
    rw [show (cf19 x h).stacks = [sk19 x] from rfl, List.mem_singleton] at hs
    subst hs
    exact ⟨Y, hY, fun _ h => h, fun h => by cases h⟩
  · exact h2 r (List.mem_cons_of_mem _ hr)
theorem cf19_ro (H : St w0 w M R F) (hat : At F (blk x.b1 (encP ps0) 40) F1) (hat2 : At F1 (blk x.b2 (encS (sk19 x)) 114) F2) (hat3 : At F2 (blk x.b3 [i64 7] 3) F3) :
    St w0 w M (binsA (cf19 x h) :: cs (cf19 x h) :: cp (cf19 x h) :: cb (cf19 x h) :: cr (cf19 x h) :: R) F3 := by
  have H1 : St w0 w M (cr (cf19 x h) :: R) F1 := H.blkArr hat
  have H2 : St w0 w M (cb (cf19 x h) :: cr (cf19 x h) :: R) F1 := ro0 _ arr_none H1
  have H3 : St w0 w M (cp (cf19 x h) :: cb (cf19 x h) :: cr (cf19 x h) :: R) F1 := ro0 _ arr_none H2
  have H4 : St w0 w M (cs (cf19 x h) :: cp (cf19 x h) :: cb (cf19 x h) :: cr (cf19 x h) :: R) F2 := H3.blkArr hat2
  exact bins19 (H4.blkArr hat3)
end
theorem conf19_spec : Sk.Spec Tryz.prog 21 #[] [] [] fun e F' => ∃ x : C19, e = .returned (.agg (encCf (cf19 x 2)).toArray) ∧ F' = [blk x.b1 (encP ps0) 40, blk x.b2 (encS (sk19 x)) 114, blk x.b3 [i64 7] 3] ∧ True := by
  refine Spec.of_code (vs := []) (k0 := []) 8 Tryz.func21 rfl Tryz.ntmps21 rfl .nil fun w X RR hRR H => ?_
  refine .seq ?_
  refine .plain rfl ?_
  refine .alloc rfl rfl rfl ze_26 rfl H (fun w1 b1 H1 => ⟨fun _ => trivial, ?_⟩)
  refine .nil (cj ?_)
  refine .seq ?_
  refine .plain rfl ?_
  refine .q rfl rfl rfl (val_mk .nil mk_40_) ?_
  refine .lit rfl rfl rfl Tryz.underlying23 (.cons rfl .nil) (bs_40_1_0 _ _ _) H1 (fun w2 b2 H2 => ⟨fun _ => trivial, ?_⟩)
  refine .q rfl rfl rfl (val_mk (.cons rfl .nil) (mk_38_0 _)) ?_
  refine .lit rfl rfl rfl Tryz.underlying27 (.cons rfl .nil) (bs_3_1_0 _) H2 (fun w3 b3 H3 => ⟨fun _ => trivial, ?_⟩)
  refine .q rfl rfl rfl (val_mk (.cons rfl (.cons rfl .nil)) (mk_114_0_1 _ _ _ _ _)) ?_
  refine .lit rfl rfl rfl Tryz.underlying24 (.cons rfl .nil) (bs_114_1_0 _ _ _ _ _) H3 (fun w4 b4 H4 => ⟨fun _ => trivial, ?_⟩)
  refine .q rfl rfl rfl (val_mk (.cons rfl (.cons rfl (.cons rfl (.cons rfl (.cons rfl (.cons rfl (.cons rfl (.cons rfl (.cons rfl (.cons rfl (.cons rfl (.cons rfl (.cons rfl .nil))))))))))))) (mk_26_0_1_2_7_8_9_10_11_12_13_14_5_6 _ _ _ _ _ _ _ _ _ _ _ _ _ _ _ _ _)) ?_
  refine .store rfl rfl rfl rfl rfl sz_26 rfl H4 (.there (.there (.there .here))) (by repeat constructor) (fun w5 H5 => ⟨fun _ => trivial, ?_⟩)
  refine .nil (cj ?_)
  refine .ret (fret (resc rfl rfl (lds_w ag_26 (.own .here) rfl H5)) ?_)
  exact hRR _ _ ⟨_, ⟨⟨_, _, _⟩, rfl, rfl, trivial⟩, H5.sub (.cons (.there (.there (.there .here))) (.cons (.there .here) (.cons (.there .here) .nil)))⟩
end Go.Proofs.YtmbibkifbehgnaaGreatDoor
namespace Go.Proofs.YtmbibkifbehgnaaGreatDoor
open Go Sk
set_option linter.unusedVariables false
set_option linter.unusedSimpArgs false
theorem en9 : Enters Tryz.prog 9 := fun args w => by kernel_rfl
theorem en12 : Enters Tryz.prog 12 := fun args w => by kernel_rfl
theorem en13 : Enters Tryz.prog 13 := fun args w => by kernel_rfl
theorem mk_42_0_3_4_6 (x0_ : Int) (x3_0_0_ : Int) (x3_0_1_ : Int) (x3_1_ : Bool) (x4_0_0_ : Int) (x4_0_1_ : Int) (x4_1_ : Bool) (x6_ : Int) : Tryz.prog.built 42 [(0, .int .i64 x0_), (3, .agg (List.toArray [.int .i64 x3_0_0_, .int .i64 x3_0_1_, .bool x3_1_])), (4, .agg (List.toArray [.int .i64 x4_0_0_, .int .i64 x4_0_1_, .bool x4_1_])), (6, .int .i64 x6_)] = some (List.toArray [.int .i64 x0_, .int .i64 0, .int .i64 0, .int .i64 x3_0_0_, .int .i64 x3_0_1_, .bool x3_1_, .int .i64 x4_0_0_, .int .i64 x4_0_1_, .bool x4_1_, .int .i64 0, .int .i64 x6_]) := by kernel_rfl
end Go.Proofs.YtmbibkifbehgnaaGreatDoor
namespace Go.Proofs.YtmbibkifbehgnaaGreatDoor
open Go Sk
set_option linter.unusedVariables false
set_option linter.unusedSimpArgs false
set_option linter.unusedSectionVars false
def ps19 : Ps := ⟨2, 0, false⟩
def ta19 : Te := ⟨1, 0, 0, 1, ⟨1, 1, 2, ⟨0, 0, false⟩, ps19, 0, 2⟩, ⟨0, 0, false⟩, 0⟩
def tb19 : Te := ⟨1, 0, 0, 2, ⟨3, 0, 0, ps19, ps19, 0, 2⟩, ⟨0, 0, false⟩, 0⟩
section
variable (x : C19)
def aw1 : Wm := (hearWd (cf19 x 2) (wld0 (cf19 x 2)) ta19).W
def aw2 : Wm := tickWd (cf19 x 2) (aw1 x)
def aw3 : Wm := tickWd (cf19 x 2) (aw2 x)
def aw4 : Wm := (hearWd (cf19 x 2) (aw3 x) tb19).W
def aw5 : Wm := tickWd (cf19 x 2) (aw4 x)
def aw6 : Wm := tickWd (cf19 x 2) (aw5 x)
theorem aw_te : tickTe (cf19 x 2) (aw5 x) = [⟨3, 0, 0, 2, mv0, ps0, 0⟩] := by kernel_rfl
theorem aw_now : (aw6 x).now = 4 := by kernel_rfl
theorem aw_l : (aw6 x).l = [⟨1, 0, 0, 0, ps0, ⟨1, 1, 2, ⟨0, 0, false⟩, ps19, 0, 2⟩⟩, ⟨2, 2, 0, 0, ps19, ⟨1, 1, 2, ⟨0, 0, false⟩, ps19, 0, 2⟩⟩, ⟨1, 2, 0, 0, ps19, ⟨3, 0, 0, ps19, ps19, 0, 2⟩⟩, ⟨4, 4, 0, 7, ps19, mv0⟩, ⟨2, 4, 0, 0, ps19, ⟨3, 0, 0, ps19, ps19, 0, 2⟩⟩] := by kernel_rfl
theorem may19 : MayOk (cf19 x 2) := cf19_may x (by decide)
theorem aw0_ok : (wld0 (cf19 x 2)).Ok (cf19 x 2) ∧ (wld0 (cf19 x 2)).l.length ≤ 0 := ⟨wld0_ok (may19 x), Nat.le_refl _⟩
theorem aw1_ok : (aw1 x).Ok (cf19 x 2) ∧ (aw1 x).l.length ≤ 1 := by
  have h := hearWd_ok (aw0_ok x).1 ta19
  exact ⟨h.1, Nat.le_trans h.2.2 (by have := (aw0_ok x).2; omega)⟩
theorem aw2_ok : (aw2 x).Ok (cf19 x 2) ∧ (aw2 x).l.length ≤ 100 := by
  have h := tickWd_ok (may19 x) (aw1_ok x).1
  exact ⟨h.1, Nat.le_trans h.2.2 (by have := (aw1_ok x).2; omega)⟩
theorem aw3_ok : (aw3 x).Ok (cf19 x 2) ∧ (aw3 x).l.length ≤ 200 := by
  have h := tickWd_ok (may19 x) (aw2_ok x).1
  exact ⟨h.1, Nat.le_trans h.2.2 (by have := (aw2_ok x).2; omega)⟩
theorem aw4_ok : (aw4 x).Ok (cf19 x 2) ∧ (aw4 x).l.length ≤ 300 := by
  have h := hearWd_ok (aw3_ok x).1 tb19
  exact ⟨h.1, Nat.le_trans h.2.2 (by have := (aw3_ok x).2; omega)⟩
theorem aw5_ok : (aw5 x).Ok (cf19 x 2) ∧ (aw5 x).l.length ≤ 400 := by
  have h := tickWd_ok (may19 x) (aw4_ok x).1
  exact ⟨h.1, Nat.le_trans h.2.2 (by have := (aw4_ok x).2; omega)⟩
theorem aw6_ok : (aw6 x).Ok (cf19 x 2) ∧ (aw6 x).l.length ≤ 500 := by
  have h := tickWd_ok (may19 x) (aw5_ok x).1
  exact ⟨h.1, Nat.le_trans h.2.2 (by have := (aw5_ok x).2; omega)⟩
end
theorem fa_60_0 (b o : Nat) (w : World) : (Instr.fieldAt 60 (.pointer (some ⟨b, o, none⟩)) 0).run Tryz.prog w = .ok (.pointer (some ⟨b, o + 0, none⟩)) w := by kernel_rfl
theorem fa_60_3 (b o : Nat) (w : World) : (Instr.fieldAt 60 (.pointer (some ⟨b, o, none⟩)) 3).run Tryz.prog w = .ok (.pointer (some ⟨b, o + 3, none⟩)) w := by kernel_rfl
theorem en18 : Enters Tryz.prog 18 := fun args w => by kernel_rfl
theorem en19 : Enters Tryz.prog 19 := fun args w => by kernel_rfl
theorem en21 : Enters Tryz.prog 21 := fun args w => by kernel_rfl
theorem en23 : Enters Tryz.prog 23 := fun args w => by kernel_rfl
theorem en25 : Enters Tryz.prog 25 := fun args w => by kernel_rfl
theorem en26 : Enters Tryz.prog 26 := fun args w => by kernel_rfl
theorem mk_42_0_1_2_4_6 (x0_ : Int) (x1_ : Int) (x2_ : Int) (x4_0_0_ : Int) (x4_0_1_ : Int) (x4_1_ : Bool) (x6_ : Int) : Tryz.prog.built 42 [(0, .int .i64 x0_), (1, .int .i64 x1_), (2, .int .i64 x2_), (4, .agg (List.toArray [.int .i64 x4_0_0_, .int .i64 x4_0_1_, .bool x4_1_])), (6, .int .i64 x6_)] = some (List.toArray [.int .i64 x0_, .int .i64 x1_, .int .i64 x2_, .int .i64 0, .int .i64 0, .bool false, .int .i64 x4_0_0_, .int .i64 x4_0_1_, .bool x4_1_, .int .i64 0, .int .i64 x6_]) := by kernel_rfl
theorem mk_44_0_3_4 (x0_ : Int) (x3_ : Int) (x4_0_ : Int) (x4_1_ : Int) (x4_2_ : Int) (x4_3_0_0_ : Int) (x4_3_0_1_ : Int) (x4_3_1_ : Bool) (x4_4_0_0_ : Int) (x4_4_0_1_ : Int) (x4_4_1_ : Bool) (x4_5_ : Int) (x4_6_ : Int) : Tryz.prog.built 44 [(0, .int .i64 x0_), (3, .int .i64 x3_), (4, .agg (List.toArray [.int .i64 x4_0_, .int .i64 x4_1_, .int .i64 x4_2_, .int .i64 x4_3_0_0_, .int .i64 x4_3_0_1_, .bool x4_3_1_, .int .i64 x4_4_0_0_, .int .i64 x4_4_0_1_, .bool x4_4_1_, .int .i64 x4_5_, .int .i64 x4_6_]))] = some (List.toArray [.int .i64 x0_, .int .i64 0, .int .i64 0, .int .i64 x3_, .int .i64 x4_0_, .int .i64 x4_1_, .int .i64 x4_2_, .int .i64 x4_3_0_0_, .int .i64 x4_3_0_1_, .bool x4_3_1_, .int .i64 x4_4_0_0_, .int .i64 x4_4_0_1_, .bool x4_4_1_, .int .i64 x4_5_, .int .i64 x4_6_, .int .i64 0, .int .i64 0, .bool false, .int .i64 0]) := by kernel_rfl
theorem awake19_spec : Sk.Spec Tryz.prog 16 #[] [stepsA] [] fun e F' => e = .returned (.bool true) ∧ F' = [] := by
  refine Spec.of_code (vs := []) (k0 := []) 95 Tryz.func16 rfl Tryz.ntmps16 rfl .nil fun w X RR hRR H => ?_
  refine .seq ?_
  refine .plain rfl ?_
  refine .q rfl rfl rfl (val_assign rfl) ?_
  refine .nil (cj ?_)
  refine .seq ?_
  refine .plain rfl ?_
  refine .callx rfl rfl rfl en21 .nil conf19_spec H .nil .nil (fun x9 w1 C1 H1 => ⟨fun _ => trivial, ?_⟩)
  have HA2 := cf19_ro (h := 2) H1 .here .here .here
  refine .callx rfl rfl rfl en23 (.cons rfl .nil) (worldNew_spec (cf19 x9 2) (cf19_fit x9 2) (may19 x9)) HA2 .nil (.ro (.there (.there (.there .here))) (.ro (.there (.there .here)) (.ro (.there (.there (.there (.there .here)))) (.ro (.there .here) (.ro .here (.ro (.there (.there (.there (.there (.there .here))))) .nil)))))) (fun bw w2 C2 H2 => ⟨fun _ => trivial, ?_⟩)
  refine .q rfl rfl rfl (val_move rfl) ?_
  refine .q rfl rfl rfl (val_extract rfl rfl) ?_
  refine .q rfl rfl rfl (val_extract rfl rfl) ?_
  refine .q rfl rfl rfl (val_assign rfl) ?_
  refine .q rfl rfl rfl (val_assign rfl) ?_
  refine .nil (cj ?_)
  refine .seq ?_
  refine .seq ?_
  refine .plain rfl ?_
  refine .q rfl rfl rfl (val_move rfl) ?_
  refine .q rfl rfl rfl (val_neq rfl rfl rfl) ?_
  refine .q rfl rfl rfl (val_move rfl) ?_
  refine .case (t := 13) rfl (fun hs13 => ?_) (fun hs13 => ?_)
  · exfalso; cases hs13
  · refine .q rfl rfl rfl (val_move rfl) ?_
    refine .q rfl rfl rfl (val_ptr_eq_nil Tryz.underlying53 rfl rfl rfl) ?_
    refine .q rfl rfl rfl (val_pick_f rfl rfl) ?_
    refine .nil (cj ?_)
    refine .cond_f rfl ?_
    refine .skip (cj ?_)
    refine .seq ?_
    refine .plain rfl ?_
    refine .q rfl rfl rfl (val_mk (.cons rfl .nil) (mk_38_0 _)) ?_
    refine .q rfl rfl rfl (val_mk (.cons rfl .nil) (mk_40_0 _ _)) ?_
    refine .alloc rfl rfl rfl ze_40 rfl H2 (fun w3 b3 H3 => ⟨fun _ => trivial, ?_⟩)
    refine .store rfl rfl rfl rfl rfl sz_40 rfl H3 .here (by repeat constructor) (fun w4 H4 => ⟨fun _ => trivial, ?_⟩)
    refine .nil (cj ?_)
    refine .seq ?_
    refine .plain rfl ?_
    refine .q rfl rfl rfl (val_move rfl) ?_
    refine .qs rfl rfl rfl H4 (ld_w rfl ag_40 (.own .here) rfl) ?_
    refine .q rfl rfl rfl (val_mk (.cons rfl (.cons rfl (.cons rfl (.cons rfl (.cons rfl .nil))))) (mk_42_0_1_2_4_6 _ _ _ _ _ _ _)) ?_
    refine .q rfl rfl rfl (val_mk (.cons rfl (.cons rfl (.cons rfl .nil))) (mk_44_0_3_4 _ _ _ _ _ _ _ _ _ _ _ _ _)) ?_
    refine .callx rfl rfl rfl en25 (.cons rfl (.cons rfl .nil)) (hearA3_spec (W := wld0 (cf19 x9 2)) (may19 x9) (aw0_ok x9).1 (Nat.le_trans (aw0_ok x9).2 (by decide)) ta19) H4 (.cons (.there .here) .nil) (.ro (.there (.there (.there (.there (.there .here))))) .nil) (fun y5 w5 C5 H5 => ⟨fun _ => trivial, ?_⟩)
    refine .nil (cj ?_)
    refine .seq ?_
    refine .plain rfl ?_
    refine .q rfl rfl rfl (val_move rfl) ?_
    refine .callx rfl rfl rfl en26 (.cons rfl .nil) (tickA2_spec (W := aw1 x9) (may19 x9) (aw1_ok x9).1 (Nat.le_trans (aw1_ok x9).2 (by decide))) H5 (.cons .here .nil) .nil (fun o6 w6 C6 H6 => ⟨fun _ => trivial, ?_⟩)
    refine .nil (cj ?_)
    refine .seq ?_
    refine .plain rfl ?_
    refine .q rfl rfl rfl (val_move rfl) ?_
    refine .callx rfl rfl rfl en26 (.cons rfl .nil) (tickA2_spec (W := aw2 x9) (may19 x9) (aw2_ok x9).1 (Nat.le_trans (aw2_ok x9).2 (by decide))) H6 (.cons .here .nil) .nil (fun o7 w7 C7 H7 => ⟨fun _ => trivial, ?_⟩)
    refine .nil (cj ?_)
    refine .seq ?_
    refine .plain rfl ?_
    refine .q rfl rfl rfl (val_move rfl) ?_
    refine .qs rfl rfl rfl H7 (ld_w rfl ag_40 (.own (.there (.there (.there (.there .here))))) rfl) ?_
    refine .qs rfl rfl rfl H7 (ld_w rfl ag_40 (.own (.there (.there (.there (.there .here))))) rfl) ?_
    refine .q rfl rfl rfl (val_mk (.cons rfl (.cons rfl (.cons rfl (.cons rfl .nil)))) (mk_42_0_3_4_6 _ _ _ _ _ _ _ _)) ?_
    refine .q rfl rfl rfl (val_mk (.cons rfl (.cons rfl (.cons rfl .nil))) (mk_44_0_3_4 _ _ _ _ _ _ _ _ _ _ _ _ _)) ?_
    refine .callx rfl rfl rfl en25 (.cons rfl (.cons rfl .nil)) (hearA3_spec (W := aw3 x9) (may19 x9) (aw3_ok x9).1 (Nat.le_trans (aw3_ok x9).2 (by decide)) tb19) H7 (.cons .here .nil) (.ro (.there (.there (.there (.there (.there .here))))) .nil) (fun y8 w8 C8 H8 => ⟨fun _ => trivial, ?_⟩)
    refine .nil (cj ?_)
    refine .seq ?_
    refine .plain rfl ?_
    refine .q rfl rfl rfl (val_move rfl) ?_
    refine .callx rfl rfl rfl en26 (.cons rfl .nil) (tickA2_spec (W := aw4 x9) (may19 x9) (aw4_ok x9).1 (Nat.le_trans (aw4_ok x9).2 (by decide))) H8 (.cons .here .nil) .nil (fun o9 w9 C9 H9 => ⟨fun _ => trivial, ?_⟩)
    refine .nil (cj ?_)
    refine .seq ?_
    refine .plain rfl ?_
    refine .q rfl rfl rfl (val_move rfl) ?_
    refine .callx rfl rfl rfl en26 (.cons rfl .nil) (tickA2_spec (W := aw5 x9) (may19 x9) (aw5_ok x9).1 (Nat.le_trans (aw5_ok x9).2 (by decide))) H9 (.cons .here .nil) .nil (fun o9 w10 C10 H10 => ⟨fun _ => trivial, ?_⟩)
    refine .q rfl rfl rfl (val_assign rfl) ?_
    refine .nil (cj ?_)
    refine .seq ?_
    rw [aw_te] at H10
    obtain ⟨A4, cap4, hv4, hn4, H11⟩ := St.rowArr H10 (.there .here)
    rw [hv4]
    refine .plain rfl ?_
    refine .q rfl rfl rfl (val_move rfl) ?_
    refine .callx rfl rfl rfl en18 (.cons rfl .nil) (sightsA_spec (W := aw6 x9) (Nat.le_trans (aw6_ok x9).2 (by decide))) H11 .nil (.own .here .nil) (fun v9 w12 C12 H12 => ⟨fun _ => trivial, ?_⟩)
    refine .q rfl rfl rfl (val_assign rfl) ?_
    refine .nil (cj ?_)
    refine .seq ?_
    rw [aw_l] at H12
    refine .plain rfl ?_
    obtain ⟨A5, cap5, hv5, hn5, H13⟩ := St.rowArr H12 .here
    rw [hv5]
    refine .q rfl rfl rfl (val_move rfl) ?_
    refine .q rfl rfl rfl (val_len Tryz.underlying70 rfl) ?_
    refine .q rfl rfl rfl (val_eql rfl rfl rfl) ?_
    refine .q rfl rfl rfl (val_move rfl) ?_
    refine .case (t := 43) rfl (fun hs43 => ?_) (fun hs43 => ?_)
    · refine .q rfl rfl rfl (val_move rfl) ?_
      obtain ⟨b4, o4, hA4⟩ := Has.base (.ro (.there .here)) H13 (by simp)
      refine .q rfl rfl rfl (val_ix el_70 hA4 rfl rfl (i := 0) rfl (by decide)) ?_
      refine .q rfl rfl rfl (val_fieldAddr rfl fa_44_0) ?_
      refine .qs rfl rfl rfl H13 (ld_el rfl ob_3 (.add .base) hA4 (.ro (.there .here)) encT_len (by first | assumption | rfl) rfl) ?_
      refine .q rfl rfl rfl (val_eql rfl rfl rfl) ?_
      refine .q rfl rfl rfl (val_pick_t rfl rfl) ?_
      refine .q rfl rfl rfl (val_move rfl) ?_
      refine .case (t := 50) rfl (fun hs50 => ?_) (fun hs50 => ?_)
      · refine .q rfl rfl rfl (val_move rfl) ?_
        refine .q rfl rfl rfl (val_ix el_70 hA4 rfl rfl (i := 0) rfl (by decide)) ?_
        refine .q rfl rfl rfl (val_fieldAddr rfl fa_44_3) ?_
        refine .qs rfl rfl rfl H13 (ld_el rfl ob_3 (.add .base) hA4 (.ro (.there .here)) encT_len (by first | assumption | rfl) rfl) ?_
        refine .q rfl rfl rfl (val_eql rfl rfl rfl) ?_
        refine .q rfl rfl rfl (val_pick_t rfl rfl) ?_
        refine .q rfl rfl rfl (val_move rfl) ?_
        refine .case (t := 57) rfl (fun hs57 => ?_) (fun hs57 => ?_)
        · refine .q rfl rfl rfl (val_move rfl) ?_
          refine .q rfl rfl rfl (val_len Tryz.underlying57 rfl) ?_
          refine .q rfl rfl rfl (val_eql rfl rfl rfl) ?_
          refine .q rfl rfl rfl (val_pick_t rfl rfl) ?_
          refine .q rfl rfl rfl (val_move rfl) ?_
          refine .case (t := 62) rfl (fun hs62 => ?_) (fun hs62 => ?_)
          · refine .q rfl rfl rfl (val_move rfl) ?_
            obtain ⟨b5, o5, hA5⟩ := Has.base (.ro .here) H13 (by simp)
            refine .q rfl rfl rfl (val_ix el_57 hA5 rfl rfl (i := 0) rfl (by decide)) ?_
            refine .q rfl rfl rfl (val_fieldAddr rfl fa_60_0) ?_
            refine .qs rfl rfl rfl H13 (ld_el rfl ob_3 (.add .base) hA5 (.ro .here) encSi_len (by first | assumption | rfl) rfl) ?_
            refine .q rfl rfl rfl (val_eql rfl rfl rfl) ?_
            refine .q rfl rfl rfl (val_pick_t rfl rfl) ?_
            refine .q rfl rfl rfl (val_move rfl) ?_
            refine .case (t := 69) rfl (fun hs69 => ?_) (fun hs69 => ?_)
            · refine .q rfl rfl rfl (val_move rfl) ?_
              refine .q rfl rfl rfl (val_ix el_57 hA5 rfl rfl (i := 3) rfl (by decide)) ?_
              refine .q rfl rfl rfl (val_fieldAddr rfl fa_60_0) ?_
              refine .qs rfl rfl rfl H13 (ld_el rfl ob_3 (.add .base) hA5 (.ro .here) encSi_len (by first | assumption | rfl) rfl) ?_
              refine .q rfl rfl rfl (val_eql rfl rfl rfl) ?_
              refine .q rfl rfl rfl (val_pick_t rfl rfl) ?_
              refine .q rfl rfl rfl (val_move rfl) ?_
              refine .case (t := 76) rfl (fun hs76 => ?_) (fun hs76 => ?_)
              · refine .q rfl rfl rfl (val_move rfl) ?_
                refine .q rfl rfl rfl (val_ix el_57 hA5 rfl rfl (i := 3) rfl (by decide)) ?_
                refine .q rfl rfl rfl (val_fieldAddr rfl fa_60_3) ?_
                refine .qs rfl rfl rfl H13 (ld_el rfl ob_3 (.add .base) hA5 (.ro .here) encSi_len (by first | assumption | rfl) rfl) ?_
                refine .q rfl rfl rfl (val_eql rfl rfl rfl) ?_
                refine .q rfl rfl rfl (val_pick_t rfl rfl) ?_
                refine .q rfl rfl rfl (val_move rfl) ?_
                refine .case (t := 83) rfl (fun hs83 => ?_) (fun hs83 => ?_)
                · refine .q rfl rfl rfl (val_move rfl) ?_
                  refine .q rfl rfl rfl (val_ix el_57 hA5 rfl rfl (i := 4) rfl (by decide)) ?_
                  refine .q rfl rfl rfl (val_fieldAddr rfl fa_60_0) ?_
                  refine .qs rfl rfl rfl H13 (ld_el rfl ob_3 (.add .base) hA5 (.ro .here) encSi_len (by first | assumption | rfl) rfl) ?_
                  refine .q rfl rfl rfl (val_eql rfl rfl rfl) ?_
                  refine .q rfl rfl rfl (val_pick_t rfl rfl) ?_
                  refine .q rfl rfl rfl (val_move rfl) ?_
                  refine .case (t := 90) rfl (fun hs90 => ?_) (fun hs90 => ?_)
                  · refine .q rfl rfl rfl (val_move rfl) ?_
                    refine .call1 rfl rfl rfl en19 (.cons rfl .nil) wnowA_spec H13 .nil (.own .here .nil) (fun w14 H14 => ⟨fun _ => trivial, ?_⟩)
                    refine .q rfl rfl rfl (val_eql rfl rfl rfl) ?_
                    refine .q rfl rfl rfl (val_pick_t rfl rfl) ?_
                    refine .q rfl rfl rfl (val_assign rfl) ?_
                    refine .nil (cj ?_)
                    refine .ret (fret (res1 rfl rfl) ?_)
                    refine hRR _ _ ⟨_, ⟨?_, rfl⟩, (H14.rest (.ro (.there (.there (.there (.there (.there (.there (.there .here))))))) .nil)).sub .nil⟩
                    exact congrArg (fun z : Int => Ending.returned (.bool (z == 4))) (aw_now x9)
                  · exfalso; cases hs90
                · exfalso; cases hs83
              · exfalso; cases hs76
            · exfalso; cases hs69
          · exfalso; cases hs62
        · exfalso; cases hs57
      · exfalso; cases hs50
    · exfalso; cases hs43
end Go.Proofs.YtmbibkifbehgnaaGreatDoor
namespace Go.Proofs.YtmbibkifbehgnaaGreatDoor
open Go Sk
set_option linter.unusedVariables false
set_option linter.unusedSimpArgs false
set_option linter.unusedSectionVars false
theorem fa_123_1 (b o : Nat) (w : World) : (Instr.fieldAt 123 (.pointer (some ⟨b, o, none⟩)) 1).run Tryz.prog w = .ok (.pointer (some ⟨b, o + 16, none⟩)) w := by kernel_rfl
theorem mk_114_0 (x0_0_ : Int) (x0_1_ : Int) : Tryz.prog.built 114 [(0, .agg (List.toArray [.int .i64 x0_0_, .int .i64 x0_1_]))] = some (List.toArray [.int .i64 x0_0_, .int .i64 x0_1_, .slice none 0 0]) := by kernel_rfl
theorem mk_123_0_2 (x0_0_ : Int) (x0_1_ : Int) (x0_2_ : Int) (x0_3_A : Option Addr) (x0_3_n : Nat) (x0_3_c : Nat) (x0_4_A : Option Addr) (x0_4_n : Nat) (x0_4_c : Nat) (x0_5_A : Option Addr) (x0_5_n : Nat) (x0_5_c : Nat) (x0_6_A : Option Addr) (x0_6_n : Nat) (x0_6_c : Nat) (x0_7_ : Int) (x0_8_ : Int) (x0_9_ : Int) (x0_10_ : Int) (x0_11_ : Int) (x0_12_ : Int) (x0_13_ : Int) (x0_14_ : Int) (x0_15_ : Bool) (x2_A : Option Addr) (x2_n : Nat) (x2_c : Nat) : Tryz.prog.built 123 [(0, .agg (List.toArray [.int .i64 x0_0_, .int .i64 x0_1_, .int .i64 x0_2_, .slice x0_3_A x0_3_n x0_3_c, .slice x0_4_A x0_4_n x0_4_c, .slice x0_5_A x0_5_n x0_5_c, .slice x0_6_A x0_6_n x0_6_c, .int .i64 x0_7_, .int .i64 x0_8_, .int .i64 x0_9_, .int .i64 x0_10_, .int .i64 x0_11_, .int .i64 x0_12_, .int .i64 x0_13_, .int .i64 x0_14_, .bool x0_15_])), (2, .slice x2_A x2_n x2_c)] = some (List.toArray [.int .i64 x0_0_, .int .i64 x0_1_, .int .i64 x0_2_, .slice x0_3_A x0_3_n x0_3_c, .slice x0_4_A x0_4_n x0_4_c, .slice x0_5_A x0_5_n x0_5_c, .slice x0_6_A x0_6_n x0_6_c, .int .i64 x0_7_, .int .i64 x0_8_, .int .i64 x0_9_, .int .i64 x0_10_, .int .i64 x0_11_, .int .i64 x0_12_, .int .i64 x0_13_, .int .i64 x0_14_, .bool x0_15_, .slice none 0 0, .slice x2_A x2_n x2_c]) := by kernel_rfl
/-- an open cell, and what stands there -/
structure CM where
  x : Int
  y : Int
  l : List Int
def binsTo (c : Cf) (p : Cl) (i : Nat) : List Int := ((c.stacks.take i).filter fun s => decide ((⟨s.x, s.y⟩ : Cl) = p)).flatMap (·.bins)
def cellM (c : Cf) (n : Nat) : List CM := if openR c (cellN c n).x (cellN c n).y = true then [⟨(cellN c n).x, (cellN c n).y, binsTo c (cellN c n) c.stacks.length⟩] else []
def cellsM (c : Cf) (n : Nat) : List CM := (List.range n).flatMap (cellM c)
theorem cellsM_succ (c : Cf) (n : Nat) : cellsM c (n + 1) = cellsM c n ++ cellM c n := by simp [cellsM, List.range_succ]
theorem cellsM_len (c : Cf) : ∀ n, (cellsM c n).length ≤ n
  | 0 => by simp [cellsM]
  | n + 1 => by
    have ih := cellsM_len c n
    rw [cellsM_succ, List.length_append]
    have : (cellM c n).length ≤ 1 := by unfold cellM; split <;> simp
    omega
theorem binsTo_succ {c : Cf} {p : Cl} {i : Nat} {s : Sk1} (h : c.stacks[i]? = some s) : binsTo c p (i + 1) = binsTo c p i ++ (if decide ((⟨s.x, s.y⟩ : Cl) = p) = true then s.bins else []) := by
  unfold binsTo
  rw [take_snoc h, List.filter_append, List.flatMap_append]
  congr 1
  rw [List.filter_cons]
  split <;> simp
theorem sub_len {α β : Type} (f : α → List β) (p : α → Bool) : ∀ (l : List α) (i : Nat), (((l.take i).filter p).flatMap f).length ≤ (l.flatMap f).length
  | [], i => by simp
  | a :: l, 0 => by simp
  | a :: l, i + 1 => by
    have ih := sub_len f p l i
    rw [List.take_succ_cons, List.filter_cons, List.flatMap_cons, List.length_append]
    split
    · rw [List.flatMap_cons, List.length_append]; omega
    · omega
theorem binsTo_len {c : Cf} (hm : MayOk c) (p : Cl) (i : Nat) : (binsTo c p i).length ≤ 512 := Nat.le_trans (sub_len _ _ _ _) hm.bins.few
theorem cell_at {c : Cf} (hn : NumOk c) {x y : Nat} (hx : (x : Int) < c.w) (hy : (y : Int) < c.h) : cellN c (y * c.w.toNat + x) = ⟨x, y⟩ := by
  have hi : inR c (x : Int) (y : Int) = true := by simp [inR]; omega
  have e : numI c ⟨x, y⟩ = y * c.w.toNat + x := by
    have hw : c.w = ((c.w.toNat : Nat) : Int) := by have := hn.w; omega
    unfold numI
    show ((y : Int) * c.w + x).toNat = _
    rw [hw, Int.toNat_natCast]
    have : ((y : Int) * (c.w.toNat : Int) + (x : Int)) = ((y * c.w.toNat + x : Nat) : Int) := by simp
    rw [this, Int.toNat_natCast]
  rw [← e]
  exact cellN_num hn (x := ⟨x, y⟩) hi
/-- the document's stacks -/
structure R8 where
  cells : List CM
  loads : List Int
structure X8 where
  v : Value
  bl : Nat
  ks : List Sk1
abbrev toCM (k : Sk1) : CM := ⟨k.x, k.y, k.bins⟩
abbrev kaA (k : Sk1) : As := arr k.A (k.bins.flatMap encI)
abbrev okK (ks : List Sk1) : Prop := ∀ k ∈ ks, k.A = none → k.bins.length = 0 ∧ k.cap = 0
abbrev s8b (c : Cf) (b : Nat) (v : Value) (bl n : Nat) : As := blk b (encCf c ++ [v, .slice (some ⟨bl, 0, none⟩) n n]) 123
abbrev ceA (v : Value) (ks : List Sk1) : As := row v 114 3 ks.length (ks.flatMap encS)
abbrev s8E (c : Cf) (b : Nat) (loads : List Int) (x : X8) : List As := [s8b c b x.v x.bl loads.length, ceA x.v x.ks, sep (x.ks.map kaA), blk x.bl (loads.map fun z => i64 z) 3]
def s8A (c : Cf) (b : Nat) (S : R8) : As := exAs (ι := { x : X8 // x.ks.map toCM = S.cells ∧ okK x.ks }) fun x => s8E c b S.loads x.1
theorem s8A_in {c : Cf} {b : Nat} {S : R8} {F : List As} {X : Nat → Prop} {w : World} (x : X8) (hx : x.ks.map toCM = S.cells) (hk : okK x.ks) (h : Own (s8E c b S.loads x ++ F) X w) : Own (s8A c b S :: F) X w := Own.exIn (ι := { x : X8 // x.ks.map toCM = S.cells ∧ okK x.ks }) ⟨x, hx, hk⟩ h
def r80 (c : Cf) : R8 := ⟨cellsM c (area c), List.replicate c.robots.length 0⟩
structure Y8 where
  n : Nat
  ks : List Sk1
  v : Value
structure Z8 where
  i : Nat
  v : Value
theorem ce_snoc (v : Value) (L : List Sk1) (y : Sk1) : row v 114 3 (L.length + 1) (L.flatMap encS ++ encS y) = ceA v (L ++ [y]) := by simp [ceA]
theorem okK_snoc {ks : List Sk1} {k : Sk1} (h : okK ks) (hk : k.A = none → k.bins.length = 0 ∧ k.cap = 0) : okK (ks ++ [k]) := by
  intro q hq
  rcases List.mem_append.1 hq with hq | hq
  · exact h q hq
  · rw [List.mem_singleton] at hq
    subst hq
    exact hk
/-- what New answers; ok: it may be -/
structure N8 where
  ok : Bool
  b : Nat
abbrev n8v (x : N8) : Value := if x.ok then ptr x.b else .pointer none
abbrev n8F (c : Cf) (x : N8) : List As := if x.ok then [s8A c x.b (r80 c)] else []
theorem new8_spec (c : Cf) (hc : c.Fit) (hm : MayOk c) : Sk.Spec Tryz.prog 29 #[.agg (encCf c).toArray] [cb c, cp c, cr c, cs c, binsA c] [] fun e F' => ∃ x : N8, e = .returned (.tuple #[n8v x, .bool x.ok]) ∧ F' = n8F c x ∧ True := by
  have hn := hm.num
  obtain ⟨ha, ha2, ha1⟩ := area_le hn
  have hl := hc.s
  have hrl := hm.rl
  have hw16 := hn.w
  have hh16 := hn.h
  have hwW : c.w = ((c.w.toNat : Nat) : Int) := by omega
  have hhH : c.h = ((c.h.toNat : Nat) : Int) := by omega
  have harea : c.h.toNat * c.w.toNat = area c := by
    have h1 : ((c.h.toNat * c.w.toNat : Nat) : Int) = (area c : Int) := by
      rw [ha, Int.natCast_mul, ← hwW, ← hhH, Int.mul_comm]
    omega
  simp only [maxLen] at hl
  refine Spec.of_code (vs := [_]) (k0 := [(0, _)]) 77 Tryz.func29 rfl Tryz.ntmps29 rfl (.cons .nil) fun w X RR hRR H => ?_
  refine .seq ?_
  refine .plain rfl ?_
  refine .box rfl rfl rfl rfl rfl H (fun w1 b1 H1 => ⟨fun _ => trivial, ?_⟩)
  refine .q rfl rfl rfl (val_assign rfl) ?_
  refine .q rfl rfl rfl (val_assign rfl) ?_
  refine .nil (cj ?_)
  refine .seq ?_
  refine .seq ?_
  refine .plain rfl ?_
  refine .qs rfl rfl rfl H1 (ld_w rfl ag_26 (.own .here) rfl) ?_
  refine .callx rfl rfl rfl en32 (.cons rfl .nil) (mayR_spec _ (by assumption)) H1 .nil (.ro .here (.ro (.there .here) (.ro (.there (.there .here)) (.ro (.there (.there (.there .here))) (.ro (.there (.there (.there (.there .here)))) .nil))))) (fun v3 w2 C3 H2 => ⟨fun _ => trivial, ?_⟩)
  refine .q rfl rfl rfl (val_not rfl rfl) ?_
  refine .nil (cj ?_)
  refine .cond rfl (fun hc0 => ?_) (fun hc0 => ?_)
  · have hv3 : v3 = false := by simpa using hc0
    subst hv3
    refine .seq ?_
    refine .plain rfl ?_
    refine .q rfl rfl rfl (val_assign rfl) ?_
    refine .q rfl rfl rfl (val_assign rfl) ?_
    refine .nil (cj ?_)
    refine .ret (fret (res2 rfl rfl rfl) ?_)
    first | exact hRR _ _ ⟨_, ⟨⟨false, 0⟩, rfl, rfl, trivial⟩, H2.sub .nil⟩ | exact hRR _ _ ⟨_, ⟨⟨true, _⟩, rfl, rfl, trivial⟩, (H2.sub (F := _) .nil).map fun X h => s8A_in (S := r80 c) ⟨_, _, _⟩ hyc hyk (by rw [List.append_nil]; exact h)⟩
  · refine .skip (cj ?_)
    refine .seq ?_
    refine .drawS 8 (.cons (0, true) (.cons (1, true) (.cons (2, true) (.cons (3, true) (.cons (4, false) (.cons (5, true) (.cons (6, false) (.cons (7, true) .nil)))))))) mo (by kernel_rfl) H2 (fun _ _ _ _ _ h => h) (fun w3 H3 => ?_)
    refine .ps rfl rfl rfl rfl (ld_w rfl ag_26 (.own .here) rfl) ?_
    refine .p rfl rfl rfl (val_fieldAddr rfl fa_26_5) ?_
    refine .ps rfl rfl rfl rfl (ld_b rfl ob_23 (.own .here) rfl) ?_
    refine .p rfl rfl rfl (val_len Tryz.underlying23 rfl) ?_
    refine .mk rfl rfl rfl ap_27 ze_3 rfl rfl (Nat.le_refl _) (by omega) (by simp only [maxLen]; omega) (made_one _ _) H3 (fun w4 b4 H4 => ⟨fun _ => (H4.sub (.cons (.there .here) .nil)), ?_⟩)
    refine .p rfl rfl rfl (val_mk (.cons rfl (.cons rfl .nil)) (mk_123_0_2 _ _ _ _ _ _ _ _ _ _ _ _ _ _ _ _ _ _ _ _ _ _ _ _ _ _ _)) ?_
    refine .box rfl rfl rfl rfl rfl H4 (fun w5 b5 H5 => ⟨fun _ => (H5.sub (.cons (.there (.there .here)) .nil)), ?_⟩)
    refine .p rfl rfl rfl (val_assign rfl) ?_
    refine .nil (cj ?_)
    refine .seq ?_
    refine .seq ?_
    refine .plain rfl ?_
    refine .q rfl rfl rfl (val_assign rfl) ?_
    refine .nil (cj ?_)
    refine .block ?_
    have H7 := H5.rowNil 114 3
    refine .loop (ι := Y8) (fun y => [(1, ptr b1), (4, ptr b5), (5, i64 (y.n : Int))]) (fun y w' => St w w' X [cb c, cp c, cr c, cs c, binsA c] [blk b1 (encCf c) 26, s8b c b5 y.v b4 (List.replicate c.robots.length (0 : Int)).length, ceA y.v y.ks, sep (y.ks.map kaA), blk b4 ((List.replicate c.robots.length (0 : Int)).map fun z => i64 z) 3] ∧ y.n ≤ c.h.toNat ∧ y.ks.map toCM = cellsM c (y.n * c.w.toNat) ∧ okK y.ks) (fun y => c.h.toNat - y.n) ⟨0, [], .slice none 0 0⟩ (by repeat (first | exact Pick.nil | refine Pick.cons rfl ?_)) ⟨by have hh := St.sepNil H7; simp only [List.map_replicate, List.length_replicate] at hh ⊢; exact hh.sub (.cons (.there (.there (.there (.there .here)))) (.cons (.there (.there .here)) (.cons (.there .here) (.cons .here (.cons .here .nil))))), Nat.zero_le _, by simp [cellsM], fun k hk => by cases hk⟩ ?_
    rintro ⟨yn, ks, v⟩ w5 ⟨H6, hyn, hyc, hyk⟩
    refine .seq ?_
    refine .seq ?_
    refine .plain rfl ?_
    refine .q rfl rfl rfl (val_move rfl) ?_
    refine .q rfl rfl rfl (val_fieldAddr rfl fa_26_1) ?_
    refine .qs rfl rfl rfl H6 (ld_b rfl ob_3 (.own .here) rfl) ?_
    refine .q rfl rfl rfl (val_lss rfl rfl rfl) ?_
    refine .nil (cj ?_)
    refine .cond rfl (fun hc1 => ?_) (fun hc1 => ?_)
    · dsimp only at hyn hyc hyk hc1 H6
      have hyl : (yn : Int) < c.h := by simpa using hc1
      refine .skip (cj ?_)
      refine .seq ?_
      refine .block ?_
      refine .seq ?_
      refine .plain rfl ?_
      refine .q rfl rfl rfl (val_assign rfl) ?_
      refine .nil (cj ?_)
      refine .block ?_
      refine .loop (ι := Y8) (fun y => [(1, ptr b1), (4, ptr b5), (5, i64 (yn : Int)), (6, i64 (y.n : Int))]) (fun y w' => St w w' X [cb c, cp c, cr c, cs c, binsA c] [blk b1 (encCf c) 26, s8b c b5 y.v b4 (List.replicate c.robots.length (0 : Int)).length, ceA y.v y.ks, sep (y.ks.map kaA), blk b4 ((List.replicate c.robots.length (0 : Int)).map fun z => i64 z) 3] ∧ y.n ≤ c.w.toNat ∧ y.ks.map toCM = cellsM c (yn * c.w.toNat + y.n) ∧ okK y.ks) (fun y => c.w.toNat - y.n) ⟨0, ks, v⟩ (by repeat (first | exact Pick.nil | refine Pick.cons rfl ?_)) ⟨H6, Nat.zero_le _, hyc, hyk⟩ ?_
      rintro ⟨xn, ks2, v2⟩ w6 ⟨H8, hxn, hxc, hxk⟩
      refine .seq ?_
      refine .seq ?_
      refine .plain rfl ?_
      refine .q rfl rfl rfl (val_move rfl) ?_
      refine .q rfl rfl rfl (val_fieldAddr rfl fa_26_0) ?_
      refine .qs rfl rfl rfl H8 (ld_b rfl ob_3 (.own .here) rfl) ?_
      refine .q rfl rfl rfl (val_lss rfl rfl rfl) ?_
      refine .nil (cj ?_)
      refine .cond rfl (fun hc2 => ?_) (fun hc2 => ?_)
      · dsimp only at hxn hxc hxk hc2 H8
        have hxl : (xn : Int) < c.w := by simpa using hc2
        have hcell := cell_at hn hxl hyl
        have hxw : yn * c.w.toNat + xn < area c := by have h1 : (yn + 1) * c.w.toNat ≤ c.h.toNat * c.w.toNat := Nat.mul_le_mul_right _ (by omega); rw [Nat.succ_mul] at h1; omega
        have hkl2 : ks2.length ≤ 256 := by have h9 := congrArg List.length hxc; rw [List.length_map] at h9; have h8 := cellsM_len c (yn * c.w.toNat + xn); omega
        refine .skip (cj ?_)
        refine .seq ?_
        refine .block ?_
        refine .seq ?_
        refine .plain rfl ?_
        refine .q rfl rfl rfl (val_move rfl) ?_
        refine .q rfl rfl rfl (val_move rfl) ?_
        refine .q rfl rfl rfl (val_mk (.cons rfl (.cons rfl .nil)) (mk_38_0_1 _ _)) ?_
        refine .alloc rfl rfl rfl ze_38 rfl H8 (fun w9 b9 H9 => ⟨fun _ => trivial, ?_⟩)
        refine .store rfl rfl rfl rfl rfl sz_38 rfl H9 .here (by repeat constructor) (fun w10 H10 => ⟨fun _ => trivial, ?_⟩)
        refine .nil (cj ?_)
        refine .seq ?_
        refine .seq ?_
        refine .plain rfl ?_
        refine .qs rfl rfl rfl H10 (ld_w rfl ag_26 (.own (.there .here)) rfl) ?_
        refine .qs rfl rfl rfl H10 (ld_w rfl ag_38 (.own .here) rfl) ?_
        refine .call1 rfl rfl rfl en61 (.cons rfl (.cons rfl .nil)) (openR_spec _ (by assumption) _ _) H10 .nil (.ro .here .nil) (fun w11 H11 => ⟨fun _ => trivial, ?_⟩)
        refine .q rfl rfl rfl (val_not rfl rfl) ?_
        refine .nil (cj ?_)
        refine .cond rfl (fun hc3 => ?_) (fun hc3 => ?_)
        · have ho : openR c (xn : Int) (yn : Int) = false := by simpa using hc3
          have hxc2 : ks2.map toCM = cellsM c (yn * c.w.toNat + (xn + 1)) := by rw [← Nat.add_assoc, cellsM_succ, hxc]; unfold cellM; rw [hcell, if_neg (by simp [ho]), List.append_nil]
          refine .exit (cj ?_)
          refine .plain rfl ?_
          refine .q rfl rfl rfl (val_move rfl) ?_
          refine .q rfl rfl rfl (val_add rfl rfl (z := ((xn + 1 : Nat) : Int)) (w64_of (by first | omega | (dsimp only; omega)))) ?_
          refine .q rfl rfl rfl (val_assign rfl) ?_
          refine .nil ?_
          intro act0 hact0; change Exists _
          first | (refine ⟨⟨xn + 1, ks2, v2⟩, Pick.kn (by repeat (first | exact Pick.nil | refine Pick.cons rfl ?_)) hact0, ⟨H11.sub (.cons (.there .here) (.cons (.there .here) (.cons (.there .here) (.cons (.there .here) (.cons (.there .here) .nil))))), (show xn + 1 ≤ c.w.toNat by omega), hxc2, hxk⟩, (show c.w.toNat - (xn + 1) < c.w.toNat - xn by omega)⟩) | (refine ⟨⟨xn + 1, ks2 ++ [⟨(xn : Int), (yn : Int), A9, cap9, binsTo c ⟨xn, yn⟩ c.stacks.length⟩], .slice A7 _ cap7⟩, Pick.kn (by repeat (first | exact Pick.nil | refine Pick.cons rfl ?_)) hact0, ⟨by have h9 := St.snoc (H11.sub .nil); have e9 : (ks2.map kaA) ++ [kaA (⟨(xn : Int), (yn : Int), A9, cap9, binsTo c ⟨xn, yn⟩ c.stacks.length⟩ : Sk1)] = (ks2 ++ [(⟨(xn : Int), (yn : Int), A9, cap9, binsTo c ⟨xn, yn⟩ c.stacks.length⟩ : Sk1)]).map kaA := (by simp); rw [e9] at h9; dsimp only; rw [← ce_snoc]; exact h9.sub (.cons (.there .here) (.cons (.there .here) (.cons (.there .here) (.cons .here (.cons .here .nil))))), (show xn + 1 ≤ c.w.toNat by omega), (by rw [List.map_append, hxc, ← Nat.add_assoc, cellsM_succ]; unfold cellM; rw [hcell, if_pos ho]; rfl), okK_snoc hxk hn9⟩, (show c.w.toNat - (xn + 1) < c.w.toNat - xn by omega)⟩)
        · have ho : openR c (xn : Int) (yn : Int) = true := by simpa using hc3
          refine .skip (cj ?_)
          refine .seq ?_
          refine .plain rfl ?_
          refine .qs rfl rfl rfl H11 (ld_w rfl ag_38 (.own .here) rfl) ?_
          refine .q rfl rfl rfl (val_mk (.cons rfl .nil) (mk_114_0 _ _)) ?_
          refine .alloc rfl rfl rfl ze_114 rfl H11 (fun w12 b12 H12 => ⟨fun _ => trivial, ?_⟩)
          refine .store rfl rfl rfl rfl rfl sz_114 rfl H12 .here (by repeat constructor) (fun w13 H13 => ⟨fun _ => trivial, ?_⟩)
          refine .nil (cj ?_)
          refine .seq ?_
          refine .seq ?_
          refine .plain rfl ?_
          refine .q rfl rfl rfl (val_assign rfl) ?_
          refine .nil (cj ?_)
          refine .block ?_
          have H15 := H13.rowNil 3 1
          refine .loop (ι := Z8) (fun z => [(1, ptr b1), (4, ptr b5), (5, i64 (yn : Int)), (6, i64 (xn : Int)), (7, ptr b9), (8, ptr b12), (9, i64 (z.i : Int))]) (fun z w' => St w w' X [cb c, cp c, cr c, cs c, binsA c] [blk b9 [i64 xn, i64 yn] 38, blk b12 [i64 xn, i64 yn, z.v] 114, row z.v 3 1 (binsTo c ⟨xn, yn⟩ z.i).length ((binsTo c ⟨xn, yn⟩ z.i).flatMap encI), blk b1 (encCf c) 26, s8b c b5 v2 b4 (List.replicate c.robots.length (0 : Int)).length, ceA v2 ks2, sep (ks2.map kaA), blk b4 ((List.replicate c.robots.length (0 : Int)).map fun z => i64 z) 3] ∧ z.i ≤ c.stacks.length) (fun z => c.stacks.length - z.i) ⟨0, .slice none 0 0⟩ (by repeat (first | exact Pick.nil | refine Pick.cons rfl ?_)) ⟨H15.sub (.cons (.there (.there .here)) (.cons (.there .here) (.cons .here (.cons .here (.cons .here (.cons .here (.cons .here (.cons .here .nil)))))))), Nat.zero_le _⟩ ?_
          rintro ⟨zi, vz⟩ w7 ⟨H14, hin⟩
          refine .seq ?_
          refine .seq ?_
          refine .plain rfl ?_
          refine .q rfl rfl rfl (val_move rfl) ?_
          refine .q rfl rfl rfl (val_fieldAddr rfl fa_26_6) ?_
          refine .qs rfl rfl rfl H14 (ld_b rfl ob_24 (.own (.there (.there (.there .here)))) rfl) ?_
          refine .q rfl rfl rfl (val_len Tryz.underlying24 rfl) ?_
          refine .q rfl rfl rfl (val_lss rfl rfl rfl) ?_
          refine .nil (cj ?_)
          refine .cond rfl (fun hc4 => ?_) (fun hc4 => ?_)
          · dsimp only at hin hc4 H14
            have hil : zi < c.stacks.length := by simpa using hc4
            obtain ⟨s, hs⟩ : ∃ s, c.stacks[zi]? = some s := ⟨_, List.getElem?_eq_getElem hil⟩
            obtain ⟨b, o, hA⟩ := Has.base (.ro (.there (.there (.there .here)))) H14 (nil_of_flat encS_len (by decide) hil)
            obtain ⟨HB, hnil⟩ := binsA_more (.there (.there (.there (.there .here)))) H14 hs
            have hsb := hc.k s (List.mem_of_getElem? hs)
            have hbl := binsTo_len hm ⟨xn, yn⟩ (zi + 1)
            rw [binsTo_succ hs, List.length_append] at hbl
            refine .skip (cj ?_)
            refine .seq ?_
            refine .block ?_
            refine .seq ?_
            refine .drawS 8 (.cons (0, true) (.cons (1, true) (.cons (2, true) (.cons (3, true) (.cons (4, true) (.cons (5, true) (.cons (6, true) (.cons (7, true) .nil)))))))) mo (by kernel_rfl) HB (fun _ _ _ _ _ h => h) (fun w16 H16 => ?_)
            refine .p rfl rfl rfl (val_fieldAddr rfl fa_26_6) ?_
            refine .ps rfl rfl rfl rfl (ld_b rfl ob_24 (.own (.there (.there (.there .here)))) rfl) ?_
            refine .p rfl rfl rfl (val_move rfl) ?_
            refine .p rfl rfl rfl (val_ix el_24 hA rfl rfl rfl hil) ?_
            refine .p rfl rfl rfl (val_fieldAddr rfl fa_114_0) ?_
            refine .ps rfl rfl rfl rfl (ld_els rfl ag_38 (.add .base) hA (.ro (.there (.there (.there (.there .here))))) encS_len (by first | assumption | rfl) (by repeat constructor)) ?_
            refine .ps rfl rfl rfl rfl (ld_w rfl ag_38 (.own .here) rfl) ?_
            refine .p rfl rfl rfl (val_binrun rfl rfl seq_38_eql) ?_
            refine .nil (cj ?_)
            refine .cond rfl (fun hc5 => ?_) (fun hc5 => ?_)
            · rw [if_pos hc5] at hbl
              refine .drawS2 10 (.cons (0, true) (.cons (1, true) (.cons (2, true) (.cons (3, true) (.cons (4, true) (.cons (5, true) (.cons (6, true) (.cons (7, true) (.cons (8, false) (.cons (9, true) (.cons (10, false) .nil))))))))))) mo (by kernel_rfl) H16 (.cons (.there (.there (.there .here))) (.cons (.there .here) .nil)) (fun _ _ _ _ _ h => h) (fun w17 H17 => ?_)
              refine .p rfl rfl rfl (val_fieldAddr rfl fa_114_1) ?_
              refine .ps rfl rfl rfl rfl (ld_b rfl ob_27 (.own (.there .here)) rfl) ?_
              refine .p rfl rfl rfl (val_fieldAddr rfl fa_26_6) ?_
              refine .ps rfl rfl rfl rfl (ld_b rfl ob_24 (.own .here) rfl) ?_
              refine .p rfl rfl rfl (val_move rfl) ?_
              refine .p rfl rfl rfl (val_ix el_24 hA rfl rfl rfl hil) ?_
              refine .p rfl rfl rfl (val_fieldAddr rfl fa_114_1) ?_
              refine .ps rfl rfl rfl rfl (ld_el rfl ob_27 (.add .base) hA (.ro (.there (.there (.there (.there .here))))) encS_len (by first | assumption | rfl) rfl) ?_
              refine .append rfl rfl rfl (ap_27) rfl rfl H17 (.there (.there .here)) (Has.srcArr (.ro .here) hnil H17) (flat_len encI_len _) one_encI' (by simp only [maxLen]; omega) (by omega) (fun v18 w18 H18 => ⟨fun _ => (H18.sub (.cons (.there (.there (.there .here))) (.cons (.there (.there .here)) .nil))), ?_⟩)
              obtain ⟨A6, cap6, rfl⟩ := St.rowVal H18 .here
              refine .p rfl rfl rfl (val_fieldAddr rfl fa_114_1) ?_
              refine .store rfl rfl rfl rfl rfl sz_27 rfl H18 (.there (.there .here)) (by repeat constructor) (fun w19 H19 => ⟨fun h => absurd h (by decide), ?_⟩)
              refine .nil (cj ?_)
              refine .plain rfl ?_
              refine .q rfl rfl rfl (val_move rfl) ?_
              refine .q rfl rfl rfl (val_add rfl rfl (z := ((zi + 1 : Nat) : Int)) (w64_of (by first | omega | (dsimp only; omega)))) ?_
              refine .q rfl rfl rfl (val_assign rfl) ?_
              refine .nil ?_
              intro act0 hact0; change Exists _
              refine ⟨⟨zi + 1, _⟩, Pick.kn (by repeat (first | exact Pick.nil | refine Pick.cons rfl ?_)) hact0, ⟨by first | (rw [binsTo_succ hs, if_pos hc5, List.flatMap_append, List.length_append]; exact ((H19.rest (.ro (.there .here) (.ro (.there (.there .here)) (.ro (.there (.there (.there .here))) (.ro (.there (.there (.there (.there .here)))) (.ro (.there (.there (.there (.there (.there .here))))) .nil))))))).sub (.cons (.there (.there .here)) (.cons .here (.cons .here (.cons .here (.cons .here (.cons .here (.cons .here (.cons .here .nil))))))))) | (rw [binsTo_succ hs, if_neg (by simpa using hc5), List.append_nil]; exact ((H19.rest (.ro (.there .here) (.ro (.there (.there .here)) (.ro (.there (.there (.there .here))) (.ro (.there (.there (.there (.there .here)))) (.ro (.there (.there (.there (.there (.there .here))))) .nil))))))).sub (.cons (.there (.there .here)) (.cons .here (.cons .here (.cons .here (.cons .here (.cons .here (.cons .here (.cons .here .nil))))))))), (show zi + 1 ≤ c.stacks.length by omega)⟩, (show c.stacks.length - (zi + 1) < c.stacks.length - zi by omega)⟩
            · refine .skip (cj ?_)
              refine .plain rfl ?_
              refine .q rfl rfl rfl (val_move rfl) ?_
              refine .q rfl rfl rfl (val_add rfl rfl (z := ((zi + 1 : Nat) : Int)) (w64_of (by first | omega | (dsimp only; omega)))) ?_
              refine .q rfl rfl rfl (val_assign rfl) ?_
              refine .nil ?_
              intro act0 hact0; change Exists _
              refine ⟨⟨zi + 1, _⟩, Pick.kn (by repeat (first | exact Pick.nil | refine Pick.cons rfl ?_)) hact0, ⟨by first | (rw [binsTo_succ hs, if_pos hc5, List.flatMap_append, List.length_append]; exact ((H16.rest (.ro (.there .here) (.ro (.there (.there .here)) (.ro (.there (.there (.there .here))) (.ro (.there (.there (.there (.there .here)))) (.ro (.there (.there (.there (.there (.there .here))))) .nil))))))).sub (.cons .here (.cons .here (.cons .here (.cons .here (.cons .here (.cons .here (.cons .here (.cons .here .nil))))))))) | (rw [binsTo_succ hs, if_neg (by simpa using hc5), List.append_nil]; exact ((H16.rest (.ro (.there .here) (.ro (.there (.there .here)) (.ro (.there (.there (.there .here))) (.ro (.there (.there (.there (.there .here)))) (.ro (.there (.there (.there (.there (.there .here))))) .nil))))))).sub (.cons .here (.cons .here (.cons .here (.cons .here (.cons .here (.cons .here (.cons .here (.cons .here .nil))))))))), (show zi + 1 ≤ c.stacks.length by omega)⟩, (show c.stacks.length - (zi + 1) < c.stacks.length - zi by omega)⟩
          · dsimp only at hin hc4 H14
            have hil : zi = c.stacks.length := by simp at hc4; omega
            subst hil
            refine .exit (cj ?_)
            obtain ⟨A9, cap9, rfl, hn9, HO⟩ := St.rowOwn H14 (.there (.there .here))
            refine .drawS2 8 (.cons (0, true) (.cons (1, true) (.cons (2, true) (.cons (3, true) (.cons (4, true) (.cons (5, true) (.cons (6, false) (.cons (7, false) (.cons (8, true) (.cons (9, true) (.cons (10, false) .nil))))))))))) mo (by kernel_rfl) HO (.cons (.there (.there (.there (.there .here)))) (.cons (.there (.there .here)) .nil)) (fun _ _ _ _ _ h => h) (fun w20 H20 => ?_)
            refine .p rfl rfl rfl (val_move rfl) ?_
            refine .p rfl rfl rfl (val_move rfl) ?_
            refine .p rfl rfl rfl (val_nilCheck rfl) ?_
            refine .p rfl rfl rfl (val_fieldAddr rfl fa_123_1) ?_
            refine .ps rfl rfl rfl rfl (ld_b rfl ob_24 (.own .here) rfl) ?_
            refine .ps rfl rfl rfl rfl (ld_w rfl ag_114 (.own (.there .here)) rfl) ?_
            refine .lit rfl rfl rfl Tryz.underlying24 (.cons rfl .nil) (bs_114_1_0 _ _ _ _ _) H20 (fun w21 b21 H21 => ⟨fun _ => (H21.sub (.cons (.there (.there (.there (.there (.there .here))))) (.cons (.there (.there (.there .here))) .nil))), ?_⟩)
            refine .append rfl rfl rfl (ap_24) rfl rfl H21 (.there (.there (.there (.there (.there (.there .here)))))) (Has.srcBlk (.own .here) H21) rfl (by simp [Value.oneCell']) (by simp only [maxLen]; omega) (by omega) (fun v22 w22 H22 => ⟨fun _ => (H22.sub (.cons (.there (.there (.there (.there (.there (.there .here)))))) (.cons (.there (.there (.there (.there .here)))) .nil))), ?_⟩)
            obtain ⟨A7, cap7, rfl⟩ := St.rowVal H22 .here
            refine .p rfl rfl rfl (val_nilCheck rfl) ?_
            refine .p rfl rfl rfl (val_fieldAddr rfl fa_123_1) ?_
            refine .store rfl rfl rfl rfl rfl sz_24 rfl H22 (.there (.there (.there (.there (.there (.there .here)))))) (by repeat constructor) (fun w23 H23 => ⟨fun h => absurd h (by decide), ?_⟩)
            refine .nil (cj ?_)
            refine .plain rfl ?_
            refine .q rfl rfl rfl (val_move rfl) ?_
            refine .q rfl rfl rfl (val_add rfl rfl (z := ((xn + 1 : Nat) : Int)) (w64_of (by first | omega | (dsimp only; omega)))) ?_
            refine .q rfl rfl rfl (val_assign rfl) ?_
            refine .nil ?_
            intro act0 hact0; change Exists _
            first | (refine ⟨⟨xn + 1, ks2, v2⟩, Pick.kn (by repeat (first | exact Pick.nil | refine Pick.cons rfl ?_)) hact0, ⟨H23.sub (.cons (.there (.there (.there (.there (.there (.there .here)))))) (.cons .here (.cons .here (.cons (.there (.there (.there (.there .here)))) (.cons (.there (.there (.there (.there .here)))) .nil))))), (show xn + 1 ≤ c.w.toNat by omega), hxc2, hxk⟩, (show c.w.toNat - (xn + 1) < c.w.toNat - xn by omega)⟩) | (refine ⟨⟨xn + 1, ks2 ++ [⟨(xn : Int), (yn : Int), A9, cap9, binsTo c ⟨xn, yn⟩ c.stacks.length⟩], .slice A7 _ cap7⟩, Pick.kn (by repeat (first | exact Pick.nil | refine Pick.cons rfl ?_)) hact0, ⟨by have h9 := St.snoc (H23.sub (.cons (.there (.there (.there .here))) (.cons (.there (.there (.there (.there (.there (.there .here)))))) (.cons (.there (.there (.there (.there (.there .here))))) (.cons .here (.cons .here (.cons (.there (.there (.there .here))) .nil))))))); have e9 : (ks2.map kaA) ++ [kaA (⟨(xn : Int), (yn : Int), A9, cap9, binsTo c ⟨xn, yn⟩ c.stacks.length⟩ : Sk1)] = (ks2 ++ [(⟨(xn : Int), (yn : Int), A9, cap9, binsTo c ⟨xn, yn⟩ c.stacks.length⟩ : Sk1)]).map kaA := (by simp); rw [e9] at h9; dsimp only; rw [← ce_snoc]; exact h9.sub (.cons (.there .here) (.cons (.there .here) (.cons (.there .here) (.cons .here (.cons .here .nil))))), (show xn + 1 ≤ c.w.toNat by omega), (by rw [List.map_append, hxc, ← Nat.add_assoc, cellsM_succ]; unfold cellM; rw [hcell, if_pos ho]; rfl), okK_snoc hxk hn9⟩, (show c.w.toNat - (xn + 1) < c.w.toNat - xn by omega)⟩)
      · dsimp only at hxn hxc hxk hc2 H8
        have hxl : xn = c.w.toNat := by simp at hc2; omega
        have hyc2 : ks2.map toCM = cellsM c ((yn + 1) * c.w.toNat) := by rw [hxc, hxl, Nat.succ_mul]
        refine .exit (cj ?_)
        refine .plain rfl ?_
        refine .q rfl rfl rfl (val_move rfl) ?_
        refine .q rfl rfl rfl (val_add rfl rfl (z := ((yn + 1 : Nat) : Int)) (w64_of (by first | omega | (dsimp only; omega)))) ?_
        refine .q rfl rfl rfl (val_assign rfl) ?_
        refine .nil ?_
        intro act0 hact0; change Exists _
        refine ⟨⟨yn + 1, ks2, v2⟩, Pick.kn (by repeat (first | exact Pick.nil | refine Pick.cons rfl ?_)) hact0, ⟨H8.sub (.cons .here (.cons .here (.cons .here (.cons .here (.cons .here .nil))))), (show yn + 1 ≤ c.h.toNat by omega), hyc2, hxk⟩, (show c.h.toNat - (yn + 1) < c.h.toNat - yn by omega)⟩
    · dsimp only at hyn hyc hyk hc1 H6
      have hyl : yn = c.h.toNat := by simp at hc1; omega
      rw [hyl, harea] at hyc
      refine .exit (cj ?_)
      refine .seq ?_
      refine .plain rfl ?_
      refine .q rfl rfl rfl (val_move rfl) ?_
      refine .q rfl rfl rfl (val_assign rfl) ?_
      refine .q rfl rfl rfl (val_assign rfl) ?_
      refine .nil (cj ?_)
      refine .ret (fret (res2 rfl rfl rfl) ?_)
      first | exact hRR _ _ ⟨_, ⟨⟨false, 0⟩, rfl, rfl, trivial⟩, H6.sub .nil⟩ | exact hRR _ _ ⟨_, ⟨⟨true, _⟩, rfl, rfl, trivial⟩, (H6.sub (F := _) (.cons (.there .here) (.cons (.there .here) (.cons (.there .here) (.cons (.there .here) .nil))))).map fun X h => s8A_in (S := r80 c) ⟨_, _, _⟩ hyc hyk (by rw [List.append_nil]; exact h)⟩
end Go.Proofs.YtmbibkifbehgnaaGreatDoor
namespace Go.Proofs.YtmbibkifbehgnaaGreatDoor
open Go Sk
set_option linter.unusedVariables false
set_option linter.unusedSimpArgs false
set_option linter.unusedSectionVars false
theorem fa_159_1 (b o : Nat) (w : World) : (Instr.fieldAt 159 (.pointer (some ⟨b, o, none⟩)) 1).run Tryz.prog w = .ok (.pointer (some ⟨b, o + 16, none⟩)) w := by kernel_rfl
theorem en29 : Enters Tryz.prog 29 := fun args w => by kernel_rfl
theorem ap_157  : apB Tryz.prog 157 35 1 8 = true := by kernel_rfl
theorem bs_35_1_0 (x0_ : Option Addr) : Tryz.prog.builtSlice 35 1 [(0, .pointer x0_)] = some (List.toArray [.pointer x0_]) := by kernel_rfl
theorem mk_159_0_2 (x0_0_ : Int) (x0_1_ : Int) (x0_2_ : Int) (x0_3_A : Option Addr) (x0_3_n : Nat) (x0_3_c : Nat) (x0_4_A : Option Addr) (x0_4_n : Nat) (x0_4_c : Nat) (x0_5_A : Option Addr) (x0_5_n : Nat) (x0_5_c : Nat) (x0_6_A : Option Addr) (x0_6_n : Nat) (x0_6_c : Nat) (x0_7_ : Int) (x0_8_ : Int) (x0_9_ : Int) (x0_10_ : Int) (x0_11_ : Int) (x0_12_ : Int) (x0_13_ : Int) (x0_14_ : Int) (x0_15_ : Bool) (x2_ : Option Addr) : Tryz.prog.built 159 [(0, .agg (List.toArray [.int .i64 x0_0_, .int .i64 x0_1_, .int .i64 x0_2_, .slice x0_3_A x0_3_n x0_3_c, .slice x0_4_A x0_4_n x0_4_c, .slice x0_5_A x0_5_n x0_5_c, .slice x0_6_A x0_6_n x0_6_c, .int .i64 x0_7_, .int .i64 x0_8_, .int .i64 x0_9_, .int .i64 x0_10_, .int .i64 x0_11_, .int .i64 x0_12_, .int .i64 x0_13_, .int .i64 x0_14_, .bool x0_15_])), (2, .pointer x2_)] = some (List.toArray [.int .i64 x0_0_, .int .i64 x0_1_, .int .i64 x0_2_, .slice x0_3_A x0_3_n x0_3_c, .slice x0_4_A x0_4_n x0_4_c, .slice x0_5_A x0_5_n x0_5_c, .slice x0_6_A x0_6_n x0_6_c, .int .i64 x0_7_, .int .i64 x0_8_, .int .i64 x0_9_, .int .i64 x0_10_, .int .i64 x0_11_, .int .i64 x0_12_, .int .i64 x0_13_, .int .i64 x0_14_, .bool x0_15_, .slice none 0 0, .pointer x2_, .int .i64 0, .slice none 0 0]) := by kernel_rfl
theorem ob_157  : oneB Tryz.prog 157 = true := by kernel_rfl
theorem sz_157  : (Tryz.prog.info? 157).map (·.size) = some 1 := by kernel_rfl
/-- the document's robots, by where they lie and what they are -/
def rwE (c : Cf) (br : List Nat) (qs : List Rw) : List As := List.zipWith (fun b q => wblk b c q) br qs
theorem rwE_snoc {c : Cf} {br : List Nat} {qs : List Rw} {a : Nat} {q : Rw} (h : br.length = qs.length) : rwE c (br ++ [a]) (qs ++ [q]) = rwE c br qs ++ [wblk a c q] := by
  simp [rwE, List.zipWith_append h]
/-- the document's world -/
structure V19 where
  qs : List Rw
  s : R8
  now : Int
  l : List Si
structure X19 where
  bs : Nat
  br : List Nat
  A : Option Addr
  cap : Nat
  v : Value
abbrev vb (c : Cf) (b : Nat) (x : X19) (now : Int) (v : Value) : As := blk b (encCf c ++ [.slice x.A x.br.length x.cap, ptr x.bs, i64 now, v]) 159
abbrev v19E (c : Cf) (b : Nat) (V : V19) (x : X19) : List As := [vb c b x V.now x.v, arr x.A (x.br.flatMap encN), s8A c x.bs V.s, sep (rwE c x.br V.qs), siA x.v V.l]
def v19A (c : Cf) (b : Nat) (V : V19) : As := exAs (ι := { x : X19 // x.br.length = V.qs.length }) fun x => v19E c b V x.1
theorem v19A_in {c : Cf} {b : Nat} {V : V19} {F : List As} {X : Nat → Prop} {w : World} (x : X19) (hx : x.br.length = V.qs.length) (h : Own (v19E c b V x ++ F) X w) : Own (v19A c b V :: F) X w := Own.exIn (ι := { x : X19 // x.br.length = V.qs.length }) ⟨x, hx⟩ h
def newWs (c : Cf) : Nat → List Rw
  | 0 => []
  | i + 1 => newWs c i ++ [rw0 (i : Int) (c.robots.getD i ⟨0, 0, false⟩)]
theorem newWs_len (c : Cf) : ∀ i, (newWs c i).length = i
  | 0 => rfl
  | i + 1 => by rw [newWs, List.length_append, newWs_len c i]; rfl
def v190 (c : Cf) : V19 := ⟨newWs c c.robots.length, r80 c, 0, []⟩
def n8A (c : Cf) (x : N8) : As := sep (n8F c x)
theorem new8A_spec (c : Cf) (hc : c.Fit) (hm : MayOk c) : Sk.Spec Tryz.prog 29 #[.agg (encCf c).toArray] [cb c, cp c, cr c, cs c, binsA c] [] fun e F' => ∃ x : N8, e = .returned (.tuple #[n8v x, .bool x.ok]) ∧ F' = [n8A c x] ∧ True :=
  (new8_spec c hc hm).conseq fun e F' ⟨x, h1, h2, _⟩ => ⟨_, ⟨x, h1, rfl, trivial⟩, fun X w hX => ⟨X, Own.sepIn (F := []) (by rw [List.append_nil, ← h2]; exact hX), fun _ h => h⟩⟩
theorem n8_out {c : Cf} {b : Nat} {w0 w : World} {M : Nat → Prop} {R F : List As} (H : St w0 w M R (n8A c ⟨true, b⟩ :: F)) : St w0 w M R (s8A c b (r80 c) :: F) := St.sepOut (L := [s8A c b (r80 c)]) H
abbrev n19F (c : Cf) (x : N8) : List As := if x.ok then [v19A c x.b (v190 c)] else []
def n19A (c : Cf) (x : N8) : As := sep (n19F c x)
theorem new19_spec (c : Cf) (hc : c.Fit) (hm : MayOk c) : Sk.Spec Tryz.prog 49 #[.agg (encCf c).toArray] [cb c, cp c, cr c, cs c, binsA c] [] fun e F' => ∃ x : N8, e = .returned (n8v x) ∧ F' = n19F c x ∧ True := by
  have hrl := hm.rl
  refine Spec.of_code (vs := [_]) (k0 := [(0, _)]) 38 Tryz.func49 rfl Tryz.ntmps49 rfl (.cons .nil) fun w X RR hRR H => ?_
  refine .seq ?_
  refine .plain rfl ?_
  refine .box rfl rfl rfl rfl rfl H (fun w1 b1 H1 => ⟨fun _ => trivial, ?_⟩)
  refine .q rfl rfl rfl (val_assign rfl) ?_
  refine .nil (cj ?_)
  refine .seq ?_
  refine .plain rfl ?_
  refine .qs rfl rfl rfl H1 (ld_w rfl ag_26 (.own .here) rfl) ?_
  refine .callx rfl rfl rfl en29 (.cons rfl .nil) (new8A_spec c hc hm) H1 .nil (.ro .here (.ro (.there .here) (.ro (.there (.there .here)) (.ro (.there (.there (.there .here))) (.ro (.there (.there (.there (.there .here)))) .nil))))) (fun x8 w2 C2 H2 => ⟨fun _ => trivial, ?_⟩)
  refine .q rfl rfl rfl (val_move rfl) ?_
  refine .q rfl rfl rfl (val_extract rfl rfl) ?_
  refine .q rfl rfl rfl (val_extract rfl rfl) ?_
  refine .q rfl rfl rfl (val_assign rfl) ?_
  refine .q rfl rfl rfl (val_assign rfl) ?_
  refine .nil (cj ?_)
  refine .seq ?_
  refine .seq ?_
  refine .plain rfl ?_
  refine .q rfl rfl rfl (val_move rfl) ?_
  refine .q rfl rfl rfl (val_not rfl rfl) ?_
  refine .nil (cj ?_)
  refine .cond rfl (fun hc0 => ?_) (fun hc0 => ?_)
  · have hok : x8.ok = false := by simpa using hc0
    obtain ⟨ok8, b8⟩ := x8
    dsimp only at hok
    subst hok
    refine .seq ?_
    refine .plain rfl ?_
    refine .q rfl rfl rfl (val_assign rfl) ?_
    refine .nil (cj ?_)
    refine .ret (fret (res1 rfl rfl) ?_)
    first | exact hRR _ _ ⟨_, ⟨⟨false, 0⟩, rfl, rfl, trivial⟩, H2.sub .nil⟩ | (obtain ⟨A8, cap8, rfl, hn8, H8⟩ := St.rowOwn H2 .here; rw [hil] at H8 hql; exact hRR _ _ ⟨_, ⟨⟨true, _⟩, rfl, rfl, trivial⟩, ((H8.rowNil 60 18).sub .nil).map fun X h => v19A_in (V := v190 c) ⟨_, br, A8, cap8, .slice none 0 0⟩ (by rw [hql]; exact (newWs_len c _).symm) (by rw [List.append_nil]; exact h)⟩)
  · have hok : x8.ok = true := by simpa using hc0
    obtain ⟨ok8, b8⟩ := x8
    dsimp only at hok
    subst hok
    have HN := n8_out H2
    refine .skip (cj ?_)
    refine .seq ?_
    refine .plain rfl ?_
    refine .qs rfl rfl rfl HN (ld_w rfl ag_26 (.own (.there .here)) rfl) ?_
    refine .q rfl rfl rfl (val_move rfl) ?_
    refine .q rfl rfl rfl (val_mk (.cons rfl (.cons rfl .nil)) (mk_159_0_2 _ _ _ _ _ _ _ _ _ _ _ _ _ _ _ _ _ _ _ _ _ _ _ _ _)) ?_
    refine .box rfl rfl rfl rfl rfl HN (fun w3 b3 H3 => ⟨fun _ => trivial, ?_⟩)
    refine .q rfl rfl rfl (val_assign rfl) ?_
    refine .nil (cj ?_)
    refine .seq ?_
    refine .seq ?_
    refine .plain rfl ?_
    refine .q rfl rfl rfl (val_assign rfl) ?_
    refine .nil (cj ?_)
    refine .block ?_
    have H5 := H3.rowNil 35 1
    refine .loop (ι := NW) (fun y => [(1, ptr b1), (5, ptr b3), (6, i64 (y.i : Int))]) (fun y w' => St w w' X [cb c, cp c, cr c, cs c, binsA c] [blk b1 (encCf c) 26, blk b3 (encCf c ++ [y.v, ptr b8, i64 0, .slice none 0 0]) 159, s8A c b8 (r80 c), sep (rwE c y.br (newWs c y.i)), row y.v 35 1 y.br.length (y.br.flatMap encN)] ∧ y.i ≤ c.robots.length ∧ y.br.length = y.i) (fun y => c.robots.length - y.i) ⟨0, [], .slice none 0 0⟩ (by repeat (first | exact Pick.nil | refine Pick.cons rfl ?_)) ⟨(St.sepNil H5).sub (.cons (.there (.there (.there (.there .here)))) (.cons (.there (.there .here)) (.cons (.there (.there .here)) (.cons .here (.cons .here .nil))))), Nat.zero_le _, rfl⟩ ?_
    rintro ⟨yi, br, v⟩ w5 ⟨H4, hi, hql⟩
    refine .seq ?_
    refine .seq ?_
    refine .plain rfl ?_
    refine .q rfl rfl rfl (val_move rfl) ?_
    refine .q rfl rfl rfl (val_fieldAddr rfl fa_26_5) ?_
    refine .qs rfl rfl rfl H4 (ld_b rfl ob_23 (.own .here) rfl) ?_
    refine .q rfl rfl rfl (val_len Tryz.underlying23 rfl) ?_
    refine .q rfl rfl rfl (val_lss rfl rfl rfl) ?_
    refine .nil (cj ?_)
    refine .cond rfl (fun hc1 => ?_) (fun hc1 => ?_)
    · dsimp only at hql hi hc1 H4
      have hil : yi < c.robots.length := by simpa using hc1
      obtain ⟨p, hp⟩ : ∃ p, c.robots[yi]? = some p := ⟨_, List.getElem?_eq_getElem hil⟩
      have hpd : c.robots.getD yi ⟨0, 0, false⟩ = p := by rw [List.getD_eq_getElem?_getD, hp]; rfl
      refine .skip (cj ?_)
      refine .seq ?_
      refine .block ?_
      refine .drawS2 10 (.cons (0, true) (.cons (1, true) (.cons (2, true) (.cons (3, true) (.cons (4, true) (.cons (5, true) (.cons (6, true) (.cons (7, false) (.cons (8, false) (.cons (9, false) (.cons (10, true) (.cons (11, true) (.cons (12, false) .nil))))))))))))) mo (by kernel_rfl) H4 (.cons .here (.cons .here .nil)) (fun _ _ _ _ _ h => h) (fun w6 H6 => ?_)
      refine .p rfl rfl rfl (val_move rfl) ?_
      refine .p rfl rfl rfl (val_move rfl) ?_
      refine .p rfl rfl rfl (val_nilCheck rfl) ?_
      refine .p rfl rfl rfl (val_fieldAddr rfl fa_159_1) ?_
      refine .ps rfl rfl rfl rfl (ld_b rfl ob_157 (.own (.there .here)) rfl) ?_
      refine .ps rfl rfl rfl rfl (ld_w rfl ag_26 (.own .here) rfl) ?_
      refine .p rfl rfl rfl (val_move rfl) ?_
      refine .callx rfl rfl rfl en13 (.cons rfl (.cons rfl .nil)) (newW_spec c hc _ _ hp) H6 .nil (.ro (.there (.there .here)) .nil) (fun br9 w7 C7 H7 => ⟨fun _ => (H7.sub (.cons (.there .here) (.cons (.there .here) .nil))), ?_⟩)
      refine .lit rfl rfl rfl Tryz.underlying157 (.cons rfl .nil) (bs_35_1_0 _) H7 (fun w8 b8 H8 => ⟨fun _ => (H8.sub (.cons (.there (.there .here)) (.cons (.there (.there .here)) .nil))), ?_⟩)
      refine .append rfl rfl rfl (ap_157) rfl rfl H8 (.there (.there (.there (.there (.there (.there .here)))))) (Has.srcBlk (.own .here) H8) rfl (by simp [Value.oneCell']) (by simp only [maxLen]; omega) (by omega) (fun v9 w9 H9 => ⟨fun _ => (H9.sub (.cons (.there (.there (.there .here))) (.cons (.there (.there (.there .here))) .nil))), ?_⟩)
      obtain ⟨A9, cap9, rfl⟩ := St.rowVal H9 .here
      refine .p rfl rfl rfl (val_nilCheck rfl) ?_
      refine .p rfl rfl rfl (val_fieldAddr rfl fa_159_1) ?_
      refine .store rfl rfl rfl rfl rfl sz_157 rfl H9 (.there (.there (.there (.there .here)))) (by repeat constructor) (fun w10 H10 => ⟨fun h => absurd h (by decide), ?_⟩)
      refine .nil (cj ?_)
      refine .plain rfl ?_
      refine .q rfl rfl rfl (val_move rfl) ?_
      refine .q rfl rfl rfl (val_add rfl rfl (z := ((yi + 1 : Nat) : Int)) (w64_of (by first | omega | (dsimp only; omega)))) ?_
      refine .q rfl rfl rfl (val_assign rfl) ?_
      refine .nil ?_
      intro act0 hact0; change Exists _
      refine ⟨⟨yi + 1, br ++ [br9], .slice A9 _ cap9⟩, Pick.kn (by repeat (first | exact Pick.nil | refine Pick.cons rfl ?_)) hact0, ⟨by have h9 := St.snoc (H10.sub (.cons (.there (.there (.there .here))) (.cons (.there (.there (.there (.there (.there .here))))) (.cons (.there (.there (.there .here))) (.cons .here (.cons (.there (.there .here)) (.cons .here .nil))))))); rw [flat_snoc, List.length_append, show newWs c (yi + 1) = newWs c yi ++ [rw0 (yi : Int) p] by simp only [newWs, hpd], rwE_snoc (by rw [hql, newWs_len])]; exact h9.sub (.cons (.there .here) (.cons (.there .here) (.cons (.there .here) (.cons .here (.cons .here .nil))))), (show yi + 1 ≤ c.robots.length by omega), by rw [List.length_append, hql]; rfl⟩, (show c.robots.length - (yi + 1) < c.robots.length - yi by omega)⟩
    · dsimp only at hql hi hc1 H4
      have hil : yi = c.robots.length := by simp at hc1; omega
      refine .exit (cj ?_)
      refine .seq ?_
      refine .plain rfl ?_
      refine .q rfl rfl rfl (val_move rfl) ?_
      refine .q rfl rfl rfl (val_assign rfl) ?_
      refine .nil (cj ?_)
      refine .ret (fret (res1 rfl rfl) ?_)
      first | exact hRR _ _ ⟨_, ⟨⟨false, 0⟩, rfl, rfl, trivial⟩, H4.sub .nil⟩ | (obtain ⟨A8, cap8, rfl, hn8, H8⟩ := St.rowOwn H4 (.there (.there (.there (.there .here)))); rw [hil] at H8 hql; exact hRR _ _ ⟨_, ⟨⟨true, _⟩, rfl, rfl, trivial⟩, ((H8.rowNil 60 18).sub (.cons (.there (.there (.there .here))) (.cons (.there .here) (.cons (.there (.there .here)) (.cons (.there (.there .here)) (.cons .here .nil)))))).map fun X h => v19A_in (V := v190 c) ⟨_, br, A8, cap8, .slice none 0 0⟩ (by rw [hql]; exact (newWs_len c _).symm) (by rw [List.append_nil]; exact h)⟩)
theorem new19A_spec (c : Cf) (hc : c.Fit) (hm : MayOk c) : Sk.Spec Tryz.prog 49 #[.agg (encCf c).toArray] [cb c, cp c, cr c, cs c, binsA c] [] fun e F' => ∃ x : N8, e = .returned (n8v x) ∧ F' = [n19A c x] ∧ True :=
  (new19_spec c hc hm).conseq fun e F' ⟨x, h1, h2, _⟩ => ⟨_, ⟨x, h1, rfl, trivial⟩, fun X w hX => ⟨X, Own.sepIn (F := []) (by rw [List.append_nil, ← h2]; exact hX), fun _ h => h⟩⟩
end Go.Proofs.YtmbibkifbehgnaaGreatDoor
namespace Go.Proofs.YtmbibkifbehgnaaGreatDoor
open Go Sk
set_option linter.unusedVariables false
set_option linter.unusedSimpArgs false
set_option linter.unusedSectionVars false
theorem en16 : Enters Tryz.prog 16 := fun args w => by kernel_rfl
theorem en17 : Enters Tryz.prog 17 := fun args w => by kernel_rfl
theorem en20 : Enters Tryz.prog 20 := fun args w => by kernel_rfl
theorem en49 : Enters Tryz.prog 49 := fun args w => by kernel_rfl
/-- a world that was made of a copy -/
structure PL where
  c : Cf
  b : Nat
theorem play0_spec (c : Cf) (hc : c.Fit) (hm : MayOk c) : Sk.Spec Tryz.prog 17 #[.agg (encCf c).toArray, .slice none 0 0] [cb c, cp c, cr c, cs c, binsA c, stepsA] [] fun e F' => ∃ x : PL, e = .returned (.tuple #[ptr x.b, .bool true]) ∧ F' = [wldA x.c x.b (wld0 x.c)] ∧ SimC c x.c := by
  refine Spec.of_code (vs := [_, _]) (k0 := [(0, _), (1, _)]) 43 Tryz.func17 rfl Tryz.ntmps17 rfl (.cons (.cons .nil)) fun w X RR hRR H => ?_
  refine .seq ?_
  refine .plain rfl ?_
  refine .box rfl rfl rfl rfl rfl H (fun w1 b1 H1 => ⟨fun _ => trivial, ?_⟩)
  refine .q rfl rfl rfl (val_assign rfl) ?_
  refine .q rfl rfl rfl (val_assign rfl) ?_
  refine .nil (cj ?_)
  refine .seq ?_
  refine .plain rfl ?_
  refine .qs rfl rfl rfl H1 (ld_w rfl ag_26 (.own .here) rfl) ?_
  refine .callx rfl rfl rfl en12 (.cons rfl .nil) (copyConf_spec c hc hm) H1 .nil (.ro .here (.ro (.there .here) (.ro (.there (.there .here)) (.ro (.there (.there (.there .here))) (.ro (.there (.there (.there (.there .here)))) .nil))))) (fun cf w2 hsim H2 => ⟨fun _ => trivial, ?_⟩)
  refine .callx rfl rfl rfl en23 (.cons rfl .nil) (worldNew_spec cf hsim.fit (hm.sim hsim)) H2 .nil (.own .here (.own (.there .here) (.own (.there (.there .here)) (.own (.there (.there (.there .here))) (.own (.there (.there (.there (.there .here)))) (.ro (.there (.there (.there (.there (.there .here))))) .nil)))))) (fun bw w3 C3 H3 => ⟨fun _ => trivial, ?_⟩)
  refine .q rfl rfl rfl (val_move rfl) ?_
  refine .q rfl rfl rfl (val_extract rfl rfl) ?_
  refine .q rfl rfl rfl (val_extract rfl rfl) ?_
  refine .q rfl rfl rfl (val_assign rfl) ?_
  refine .q rfl rfl rfl (val_assign rfl) ?_
  refine .nil (cj ?_)
  refine .seq ?_
  refine .seq ?_
  refine .plain rfl ?_
  refine .q rfl rfl rfl (val_move rfl) ?_
  refine .q rfl rfl rfl (val_neq rfl rfl rfl) ?_
  refine .q rfl rfl rfl (val_move rfl) ?_
  refine .case (t := 18) rfl (fun hs18 => ?_) (fun hs18 => ?_)
  · exfalso; cases hs18
  · refine .q rfl rfl rfl (val_move rfl) ?_
    refine .q rfl rfl rfl (val_ptr_eq_nil Tryz.underlying53 rfl rfl rfl) ?_
    refine .q rfl rfl rfl (val_pick_f rfl rfl) ?_
    refine .nil (cj ?_)
    refine .cond_f rfl ?_
    refine .skip (cj ?_)
    refine .seq ?_
    refine .plain rfl ?_
    refine .qs rfl rfl rfl H3 (ld_w rfl ag_26 (.own (.there (.there (.there (.there (.there (.there .here))))))) rfl) ?_
    refine .callx rfl rfl rfl en49 (.cons rfl .nil) (new19A_spec c hc hm) H3 .nil (.ro .here (.ro (.there .here) (.ro (.there (.there .here)) (.ro (.there (.there (.there .here))) (.ro (.there (.there (.there (.there .here)))) .nil))))) (fun x19 w4 C4 H4 => ⟨fun _ => trivial, ?_⟩)
    refine .q rfl rfl rfl (val_assign rfl) ?_
    refine .nil (cj ?_)
    refine .seq ?_
    refine .seq ?_
    refine .plain rfl ?_
    refine .q rfl rfl rfl (val_assign rfl) ?_
    refine .nil (cj ?_)
    refine .block ?_
    refine .loop (ι := Unit) (fun _ => [(1, .slice none 0 0), (6, ptr bw), (9, i64 0)]) (fun _ w' => St w w' X [cb c, cp c, cr c, cs c, binsA c, stepsA] [wldA cf bw (wld0 cf)]) (fun _ => 0) () (by repeat (first | exact Pick.nil | refine Pick.cons rfl ?_)) (H4.sub (.cons (.there .here) .nil)) ?_
    rintro _ w5 H5
    refine .seq ?_
    refine .seq ?_
    refine .plain rfl ?_
    refine .q rfl rfl rfl (val_move rfl) ?_
    refine .q rfl rfl rfl (val_move rfl) ?_
    refine .q rfl rfl rfl (val_len Tryz.underlying52 rfl) ?_
    refine .q rfl rfl rfl (val_lss rfl rfl rfl) ?_
    refine .q rfl rfl rfl (val_move rfl) ?_
    refine .case (t := 28) rfl (fun hs28 => ?_) (fun hs28 => ?_)
    · exfalso; simp at hs28
    · refine .no rfl rfl rfl ?_
      refine .no rfl rfl rfl ?_
      refine .q rfl rfl rfl (val_pick_f rfl rfl) ?_
      refine .nil (cj ?_)
      refine .cond_f rfl ?_
      refine .exit (cj ?_)
      refine .seq ?_
      refine .plain rfl ?_
      refine .q rfl rfl rfl (val_move rfl) ?_
      refine .q rfl rfl rfl (val_assign rfl) ?_
      refine .q rfl rfl rfl (val_assign rfl) ?_
      refine .nil (cj ?_)
      refine .ret (fret (res2 rfl rfl rfl) ?_)
      exact hRR _ _ ⟨_, ⟨⟨cf, bw⟩, rfl, rfl, hsim⟩, H5.sub (.cons .here .nil)⟩
theorem dl_bad {W : Wm} {i ticks : Int} (h : i < 0 ∨ (W.rs.length : Int) ≤ i ∨ ticks < 1) : (delayWd W i ticks).e = 1 := by
  unfold delayWd
  split
  · rfl
  · rename_i q hq
    have h1 := robAt_some hq
    have h2 := lt_of_some h1.2
    rw [if_pos (by omega)]
theorem dl_ok {W : Wm} {i ticks : Int} (h : 0 ≤ i ∧ i < (W.rs.length : Int) ∧ 1 ≤ ticks) : (delayWd W i ticks).e = 0 := by
  unfold delayWd
  split
  · rename_i hq
    have h1 := robAt_none hq
    omega
  · rw [if_neg (by omega)]
theorem worldDelays_spec (c : Cf) (hc : c.Fit) (ro ticks : Int) : Sk.Spec Tryz.prog 5 #[.agg (encCf c).toArray, i64 ro, i64 ticks] [cb c, cp c, cr c, cs c, binsA c, stepsA] [] fun e F' => e = .returned (.bool true) ∧ F' = [] := by
  refine Spec.of_code (vs := [_, _, _]) (k0 := [(0, _), (1, _), (2, _)]) 54 Tryz.func5 rfl Tryz.ntmps5 rfl (.cons (.cons (.cons .nil))) fun w X RR hRR H => ?_
  refine .seq ?_
  refine .plain rfl ?_
  refine .box rfl rfl rfl rfl rfl H (fun w1 b1 H1 => ⟨fun _ => trivial, ?_⟩)
  refine .q rfl rfl rfl (val_assign rfl) ?_
  refine .nil (cj ?_)
  refine .seq ?_
  refine .seq ?_
  refine .plain rfl ?_
  refine .qs rfl rfl rfl H1 (ld_w rfl ag_26 (.own .here) rfl) ?_
  refine .callx rfl rfl rfl en9 (.cons rfl .nil) (small_spec _ (by assumption)) H1 .nil (.ro .here (.ro (.there .here) (.ro (.there (.there .here)) (.ro (.there (.there (.there .here))) (.ro (.there (.there (.there (.there .here)))) .nil))))) (fun v11 w2 hv11 H2 => ⟨fun _ => trivial, ?_⟩)
  refine .q rfl rfl rfl (val_not rfl rfl) ?_
  refine .nil (cj ?_)
  refine .cond rfl (fun hc0 => ?_) (fun hc0 => ?_)
  · refine .seq ?_
    refine .plain rfl ?_
    refine .call1 rfl rfl rfl en16 .nil awake19_spec H2 .nil (.ro (.there (.there (.there (.there (.there .here))))) .nil) (fun w3 H3 => ⟨fun _ => trivial, ?_⟩)
    refine .q rfl rfl rfl (val_assign rfl) ?_
    refine .nil (cj ?_)
    refine .ret (fret (res1 rfl rfl) ?_)
    refine hRR _ _ ⟨_, ⟨?_, rfl⟩, H3.sub .nil⟩
    rfl
  · have hsm : SmallOk c := hv11 (by simpa using hc0)
    have hm := hsm.may
    refine .skip (cj ?_)
    refine .seq ?_
    refine .plain rfl ?_
    refine .qs rfl rfl rfl H2 (ld_w rfl ag_26 (.own .here) rfl) ?_
    refine .callx rfl rfl rfl en17 (.cons rfl (.cons rfl .nil)) (play0_spec c hc hm) H2 .nil (.ro .here (.ro (.there .here) (.ro (.there (.there .here)) (.ro (.there (.there (.there .here))) (.ro (.there (.there (.there (.there .here)))) (.ro (.there (.there (.there (.there (.there .here))))) .nil)))))) (fun pl w4 hsim H4 => ⟨fun _ => trivial, ?_⟩)
    refine .q rfl rfl rfl (val_move rfl) ?_
    refine .q rfl rfl rfl (val_extract rfl rfl) ?_
    refine .q rfl rfl rfl (val_extract rfl rfl) ?_
    refine .q rfl rfl rfl (val_assign rfl) ?_
    refine .q rfl rfl rfl (val_assign rfl) ?_
    refine .nil (cj ?_)
    refine .seq ?_
    refine .seq ?_
    refine .plain rfl ?_
    refine .q rfl rfl rfl (val_move rfl) ?_
    refine .q rfl rfl rfl (val_not rfl rfl) ?_
    refine .nil (cj ?_)
    refine .cond rfl (fun hc1 => ?_) (fun hc1 => ?_)
    · exfalso; cases hc1
    · refine .skip (cj ?_)
      refine .seq ?_
      refine .plain rfl ?_
      refine .q rfl rfl rfl (val_move rfl) ?_
      refine .q rfl rfl rfl (val_move rfl) ?_
      refine .q rfl rfl rfl (val_move rfl) ?_
      refine .call1 rfl rfl rfl en20 (.cons rfl (.cons rfl (.cons rfl .nil))) (delayA2_spec _ _) H4 (.cons .here .nil) .nil (fun w5 H5 => ⟨fun _ => trivial, ?_⟩)
      refine .q rfl rfl rfl (val_assign rfl) ?_
      refine .nil (cj ?_)
      refine .seq ?_
      refine .seq ?_
      refine .plain rfl ?_
      have hrob : pl.c.robots.length = c.robots.length := by rw [hsim.eq]
      have hwl : (wld0 pl.c).rs.length = c.robots.length := by rw [← hrob]; exact newRs_len _ _
      refine .q rfl rfl rfl (val_move rfl) ?_
      refine .q rfl rfl rfl (val_lss rfl rfl rfl) ?_
      refine .q rfl rfl rfl (val_move rfl) ?_
      refine .case (t := 27) rfl (fun hs27 => ?_) (fun hs27 => ?_)
      · refine .no rfl rfl rfl ?_
        refine .no rfl rfl rfl ?_
        refine .no rfl rfl rfl ?_
        refine .no rfl rfl rfl ?_
        refine .no rfl rfl rfl ?_
        refine .q rfl rfl rfl (val_pick_t rfl rfl) ?_
        refine .q rfl rfl rfl (val_move rfl) ?_
        refine .no rfl rfl rfl ?_
        refine .no rfl rfl rfl ?_
        refine .q rfl rfl rfl (val_pick_t rfl rfl) ?_
        refine .nil (cj ?_)
        have hdl : True ∧ (delayWd (wld0 pl.c) ro ticks).W.l = [] := ⟨trivial, (delayWd_ok (wld0_ok (hm.sim hsim)) ro ticks).2.2⟩
        refine .cond_t rfl ?_
        refine .seq ?_
        have hbad : (delayWd (wld0 pl.c) ro ticks).e = 1 := dl_bad (by first | (left; simpa using hs27) | (right; left; rw [hwl]; simpa using hs34) | (right; right; simpa using hc2))
        refine .plain rfl ?_
        refine .q rfl rfl rfl (val_move rfl) ?_
        refine .q rfl rfl rfl (val_eql rfl rfl rfl) ?_
        refine .q rfl rfl rfl (val_move rfl) ?_
        refine .case (t := 40) rfl (fun hs40 => ?_) (fun hs40 => ?_)
        · refine .call1 rfl rfl rfl en16 .nil awake19_spec H5 .nil (.ro (.there (.there (.there (.there (.there .here))))) .nil) (fun w6 H6 => ⟨fun _ => trivial, ?_⟩)
          refine .q rfl rfl rfl (val_pick_t rfl rfl) ?_
          refine .q rfl rfl rfl (val_assign rfl) ?_
          refine .nil (cj ?_)
          refine .ret (fret (res1 rfl rfl) ?_)
          refine hRR _ _ ⟨_, ⟨?_, rfl⟩, H6.sub .nil⟩
          rfl
        · exfalso; rw [hbad] at hs40; cases hs40
      · refine .q rfl rfl rfl (val_move rfl) ?_
        refine .q rfl rfl rfl (val_fieldAddr rfl fa_26_5) ?_
        refine .qs rfl rfl rfl H5 (ld_b rfl ob_23 (.own (.there .here)) rfl) ?_
        refine .q rfl rfl rfl (val_len Tryz.underlying23 rfl) ?_
        refine .q rfl rfl rfl (val_geq rfl rfl rfl) ?_
        refine .q rfl rfl rfl (val_pick_f rfl rfl) ?_
        refine .q rfl rfl rfl (val_move rfl) ?_
        refine .case (t := 34) rfl (fun hs34 => ?_) (fun hs34 => ?_)
        · refine .no rfl rfl rfl ?_
          refine .no rfl rfl rfl ?_
          refine .q rfl rfl rfl (val_pick_t rfl rfl) ?_
          refine .nil (cj ?_)
          have hdl : True ∧ (delayWd (wld0 pl.c) ro ticks).W.l = [] := ⟨trivial, (delayWd_ok (wld0_ok (hm.sim hsim)) ro ticks).2.2⟩
          refine .cond_t rfl ?_
          refine .seq ?_
          have hbad : (delayWd (wld0 pl.c) ro ticks).e = 1 := dl_bad (by first | (left; simpa using hs27) | (right; left; rw [hwl]; simpa using hs34) | (right; right; simpa using hc2))
          refine .plain rfl ?_
          refine .q rfl rfl rfl (val_move rfl) ?_
          refine .q rfl rfl rfl (val_eql rfl rfl rfl) ?_
          refine .q rfl rfl rfl (val_move rfl) ?_
          refine .case (t := 40) rfl (fun hs40 => ?_) (fun hs40 => ?_)
          · refine .call1 rfl rfl rfl en16 .nil awake19_spec H5 .nil (.ro (.there (.there (.there (.there (.there .here))))) .nil) (fun w7 H7 => ⟨fun _ => trivial, ?_⟩)
            refine .q rfl rfl rfl (val_pick_t rfl rfl) ?_
            refine .q rfl rfl rfl (val_assign rfl) ?_
            refine .nil (cj ?_)
            refine .ret (fret (res1 rfl rfl) ?_)
            refine hRR _ _ ⟨_, ⟨?_, rfl⟩, H7.sub .nil⟩
            rfl
          · exfalso; rw [hbad] at hs40; cases hs40
        · refine .q rfl rfl rfl (val_move rfl) ?_
          refine .q rfl rfl rfl (val_lss rfl rfl rfl) ?_
          refine .q rfl rfl rfl (val_pick_f rfl rfl) ?_
          refine .nil (cj ?_)
          have hdl : True ∧ (delayWd (wld0 pl.c) ro ticks).W.l = [] := ⟨trivial, (delayWd_ok (wld0_ok (hm.sim hsim)) ro ticks).2.2⟩
          refine .cond rfl (fun hc2 => ?_) (fun hc2 => ?_)
          · refine .seq ?_
            have hbad : (delayWd (wld0 pl.c) ro ticks).e = 1 := dl_bad (by first | (left; simpa using hs27) | (right; left; rw [hwl]; simpa using hs34) | (right; right; simpa using hc2))
            refine .plain rfl ?_
            refine .q rfl rfl rfl (val_move rfl) ?_
            refine .q rfl rfl rfl (val_eql rfl rfl rfl) ?_
            refine .q rfl rfl rfl (val_move rfl) ?_
            refine .case (t := 40) rfl (fun hs40 => ?_) (fun hs40 => ?_)
            · refine .call1 rfl rfl rfl en16 .nil awake19_spec H5 .nil (.ro (.there (.there (.there (.there (.there .here))))) .nil) (fun w8 H8 => ⟨fun _ => trivial, ?_⟩)
              refine .q rfl rfl rfl (val_pick_t rfl rfl) ?_
              refine .q rfl rfl rfl (val_assign rfl) ?_
              refine .nil (cj ?_)
              refine .ret (fret (res1 rfl rfl) ?_)
              refine hRR _ _ ⟨_, ⟨?_, rfl⟩, H8.sub .nil⟩
              rfl
            · exfalso; rw [hbad] at hs40; cases hs40
          · have hgood : (delayWd (wld0 pl.c) ro ticks).e = 0 := dl_ok (by simp at hs27 hs34 hc2; omega)
            refine .skip (cj ?_)
            refine .seq ?_
            refine .plain rfl ?_
            refine .q rfl rfl rfl (val_move rfl) ?_
            refine .q rfl rfl rfl (val_eql rfl rfl rfl) ?_
            refine .q rfl rfl rfl (val_move rfl) ?_
            refine .case (t := 45) rfl (fun hs45 => ?_) (fun hs45 => ?_)
            · refine .q rfl rfl rfl (val_move rfl) ?_
              refine .callx rfl rfl rfl en18 (.cons rfl .nil) (sightsA_spec (W := (delayWd (wld0 pl.c) ro ticks).W) (by rw [hdl.2]; exact Nat.zero_le _)) H5 .nil (.own .here .nil) (fun v9 w9 C9 H9 => ⟨fun _ => trivial, ?_⟩)
              obtain ⟨A9, cap9, rfl⟩ := St.rowVal H9 .here
              refine .q rfl rfl rfl (val_len Tryz.underlying57 rfl) ?_
              refine .q rfl rfl rfl (val_eql rfl rfl rfl) ?_
              refine .q rfl rfl rfl (val_pick_t rfl rfl) ?_
              refine .q rfl rfl rfl (val_move rfl) ?_
              refine .case (t := 51) rfl (fun hs51 => ?_) (fun hs51 => ?_)
              · refine .call1 rfl rfl rfl en16 .nil awake19_spec H9 .nil (.ro (.there (.there (.there (.there (.there .here))))) .nil) (fun w10 H10 => ⟨fun _ => trivial, ?_⟩)
                refine .q rfl rfl rfl (val_pick_t rfl rfl) ?_
                refine .q rfl rfl rfl (val_assign rfl) ?_
                refine .nil (cj ?_)
                refine .ret (fret (res1 rfl rfl) ?_)
                refine hRR _ _ ⟨_, ⟨?_, rfl⟩, H10.sub .nil⟩
                rfl
              · exfalso; rw [hdl.2] at hs51; cases hs51
            · exfalso; rw [hgood] at hs45; cases hs45
end Go.Proofs.YtmbibkifbehgnaaGreatDoor
namespace Go.Proofs.YtmbibkifbehgnaaGreatDoor
open Go Sk Go.ChangeShapes Go.WideShapes Go.ChangeAt Go.RowKit
set_option linter.unusedVariables false
set_option linter.unusedSimpArgs false
section
variable {H : Type} {enc : TypeId × Value → H} {P : Program} {w : World}
theorem cells_get {a : Addr} {n : Nat} {l : List Value} (h : w.cells? 0 a n = some l) : l.length = n ∧ ∀ i, i < n → w.cell? (a.add i) = l[i]? := by
  unfold World.cells? at h
  rw [if_pos (Nat.zero_le _)] at h
  exact ⟨by simpa using mapM_some_length h, fun i hi => mapM_some_get h i i (by simp [hi])⟩
theorem list_of {α : Type} {Q : Nat → α → Prop} : ∀ (n : Nat), (∀ i, i < n → ∃ a, Q i a) → ∃ l : List α, l.length = n ∧ ∀ i a, l[i]? = some a → Q i a
  | 0, _ => ⟨[], rfl, fun i a h => by cases h⟩
  | n + 1, h => by
    obtain ⟨l, hl, hq⟩ := list_of n fun i hi => h i (by omega)
    obtain ⟨a, ha⟩ := h n (by omega)
    refine ⟨l ++ [a], by simp [hl], fun i b hb => ?_⟩
    by_cases hi : i < n
    · rw [List.getElem?_append_left (by omega)] at hb
      exact hq i b hb
    · rw [List.getElem?_append_right (by omega)] at hb
      have hi2 : i - l.length = 0 := by
        have h2 := (List.getElem?_eq_some_iff.1 hb).1
        simp at h2
        omega
      rw [hi2] at hb
      obtain rfl : a = b := by simpa using hb
      have : i = n := by omega
      subst this
      exact ha
/-- A list that is read, of elements that are told by α. -/
theorem list_dec {α : Type} {enc1 : α → List Value} {sz : Nat} {C : α → Prop} (hl : ∀ x, (enc1 x).length = sz) (hz : 0 < sz) {t e : TypeId} (ht : P.underlying t = some (.slice e)) (hc : P.cellsOf e = sz)
    (hdec : ∀ n cs x, DataW.trod enc P w 0 (fun _ => true) true n e cs = some x → ∃ a, cs = enc1 a ∧ C a) {fuel : Nat} {cs : List Value} {x : DataW H × List MemPlace} (h : DataW.trod enc P w 0 (fun _ => true) true fuel t cs = some x) :
    ∃ (A : Option Addr) (cap : Nat) (l : List α), cs = [.slice A l.length cap] ∧ l.length ≤ maxLen ∧ (A = none → l.length = 0 ∧ cap = 0) ∧ (∃ Y, (arr A (l.flatMap enc1)).on Y w) ∧ ∀ x ∈ l, C x := by
  rcases DataW.trod_slice ht h with ⟨rfl, _⟩ | ⟨a, len, cap, elems, rest, n, _, rfl, _, _, hlc, hcm, hlen, hel, _, _⟩
  · exact ⟨none, 0, [], rfl, Nat.zero_le _, fun _ => ⟨rfl, rfl⟩, ⟨fun _ => False, .inl ⟨rfl, fun _ h => h⟩⟩, fun _ h => by cases h⟩
  · rw [hc] at hel
    have key : ∀ i, i < len → ∃ y, w.cells? 0 (a.add (i * sz)) sz = some (enc1 y) ∧ C y := fun i hi => by
      have h1 := hel i hi
      rw [List.getElem?_eq_getElem (by omega : i < elems.length), Option.bind_eq_some_iff] at h1
      obtain ⟨cs', h2, h3⟩ := h1
      obtain ⟨y, rfl, hy⟩ := hdec _ _ _ h3
      exact ⟨y, h2, hy⟩
    obtain ⟨l, hll, hq⟩ := list_of len key
    refine ⟨some a, cap, l, by rw [hll], by omega, fun h => (by cases h), ?_, fun y hy => ?_⟩
    · by_cases h0 : len = 0
      · have : l = [] := List.eq_nil_of_length_eq_zero (by omega)
        subst this
        exact ⟨fun _ => False, .inl ⟨rfl, fun _ h => h⟩⟩
      · have cell : ∀ i y, l[i]? = some y → ∀ c, c < sz → w.cell? ((a.add (i * sz)).add c) = (enc1 y)[c]? := fun i y hy c hc => (cells_get (hq i y hy).1).2 c hc
        have hsp : a.spot = none ∧ a.block < w.heap.size := by
          have h1 := cell 0 (l[0]'(by omega)) (List.getElem?_eq_getElem (by omega)) 0 hz
          rw [List.getElem?_eq_getElem (by rw [hl]; exact hz)] at h1
          have e : (a.add (0 * sz)).add 0 = a := by simp [Addr.add]
          rw [e] at h1
          unfold World.cell? at h1
          split at h1
          · rename_i hh
            refine ⟨?_, (Array.getElem?_eq_some_iff.1 hh).1⟩
            cases hs : a.spot with
            | none => rfl
            | some _ => simp [hs] at h1
          · cases h1
        obtain ⟨b, o, s⟩ := a
        obtain rfl : s = none := hsp.1
        refine ⟨fun k => k = b, .inr ⟨b, o, rfl, fun _ => Iff.rfl, hsp.2, fun j u hj => ?_⟩⟩
        have hlt : j < l.length * sz := by rw [← flat_len hl]; exact (List.getElem?_eq_some_iff.1 hj).1
        have hi : j / sz < l.length := Nat.div_lt_of_lt_mul (by rw [Nat.mul_comm]; exact hlt)
        have hc1 : j % sz < sz := Nat.mod_lt _ hz
        have hj2 : j = j / sz * sz + j % sz := by rw [Nat.mul_comm]; exact (Nat.div_add_mod j sz).symm
        have h1 := cell (j / sz) _ (List.getElem?_eq_getElem hi) (j % sz) hc1
        rw [Sk.add_plain, Sk.add_plain, Nat.add_assoc, ← hj2] at h1
        rw [hj2, flat_get hl l _ _ _ (List.getElem?_eq_getElem hi) hc1] at hj
        rw [h1, hj]
    · obtain ⟨i, hi, rfl⟩ := List.mem_iff_getElem.1 hy
      exact (hq i _ (List.getElem?_eq_getElem hi)).2
end
section
variable {H : Type} {enc : TypeId × Value → H} {w : World} {n : Nat} {cs : List Value} {x : DataW H × List MemPlace}
theorem c3 : Tryz.prog.cellsOf 3 = 1 := by kernel_rfl
theorem c38 : Tryz.prog.cellsOf 38 = 2 := by kernel_rfl
theorem c40 : Tryz.prog.cellsOf 40 = 3 := by kernel_rfl
theorem c114 : Tryz.prog.cellsOf 114 = 3 := by kernel_rfl
theorem c26 : Tryz.prog.cellsOf 26 = 16 := by kernel_rfl
theorem c4 : Tryz.prog.cellsOf 4 = 1 := by kernel_rfl
theorem c22 : Tryz.prog.cellsOf 22 = 1 := by kernel_rfl
theorem c23 : Tryz.prog.cellsOf 23 = 1 := by kernel_rfl
theorem c24 : Tryz.prog.cellsOf 24 = 1 := by kernel_rfl
theorem c27 : Tryz.prog.cellsOf 27 = 1 := by kernel_rfl
theorem i_dec (h : DataW.trod enc Tryz.prog w 0 (fun _ => true) true n 3 cs = some x) : ∃ z, cs = [i64 z] := by
  obtain ⟨z, h1, _⟩ := DataW.trod_int Tryz.underlying3 h
  exact ⟨z, h1⟩
theorem b_dec (h : DataW.trod enc Tryz.prog w 0 (fun _ => true) true n 4 cs = some x) : ∃ z, cs = [.bool z] := by
  obtain ⟨z, h1, _⟩ := DataW.trod_bool Tryz.underlying4 h
  exact ⟨z, h1⟩
/-- one field of a struct -/
theorem fld {t : TypeId} {fs : Array Field} {m : Nat} (ht : Tryz.prog.underlying t = some (.struct fs)) (h : DataW.trod enc Tryz.prog w 0 (fun _ => true) true n t cs = some x) (i : Nat) (f : Field) (hf : fs[i]? = some f) (hm : Tryz.prog.cellsOf f.type = m) :
    ∃ n' y, DataW.trod enc Tryz.prog w 0 (fun _ => true) true n' f.type ((cs.drop f.offset).take m) = some y := by
  obtain ⟨xs, n', _, _, _, hl, he⟩ := DataW.trod_struct ht h
  have := he i f hf
  rw [hm, List.getElem?_eq_getElem (by rw [hl]; exact (Array.getElem?_eq_some_iff.1 hf).1)] at this
  exact ⟨n', _, this⟩
theorem len_of {t : TypeId} {fs : Array Field} {m : Nat} (ht : Tryz.prog.underlying t = some (.struct fs)) (hm : Tryz.prog.cellsOf t = m) (h : DataW.trod enc Tryz.prog w 0 (fun _ => true) true n t cs = some x) : cs.length = m := by
  obtain ⟨_, _, _, _, h1, _⟩ := DataW.trod_struct ht h
  rw [h1, hm]
theorem cl_dec (h : DataW.trod enc Tryz.prog w 0 (fun _ => true) true n 38 cs = some x) : ∃ c : Cl, cs = encC c ∧ True := by
  have hl := len_of Tryz.underlying38 c38 h
  match cs, hl with
  | [a, b], _ =>
    obtain ⟨_, _, h0⟩ := fld Tryz.underlying38 h 0 _ rfl c3
    obtain ⟨_, _, h1⟩ := fld Tryz.underlying38 h 1 _ rfl c3
    obtain ⟨z0, e0⟩ := i_dec h0
    obtain ⟨z1, e1⟩ := i_dec h1
    simp at e0 e1
    subst e0 e1
    exact ⟨⟨z0, z1⟩, rfl, trivial⟩
theorem ps_dec (h : DataW.trod enc Tryz.prog w 0 (fun _ => true) true n 40 cs = some x) : ∃ c : Ps, cs = encP c ∧ True := by
  have hl := len_of Tryz.underlying40 c40 h
  match cs, hl with
  | [a, b, d], _ =>
    obtain ⟨_, _, h0⟩ := fld Tryz.underlying40 h 0 _ rfl c38
    obtain ⟨_, _, h1⟩ := fld Tryz.underlying40 h 1 _ rfl c4
    obtain ⟨z0, e0, _⟩ := cl_dec h0
    obtain ⟨z1, e1⟩ := b_dec h1
    simp at e0 e1
    obtain ⟨rfl, rfl⟩ := e0
    subst e1
    exact ⟨⟨z0.x, z0.y, z1⟩, rfl, trivial⟩
theorem is_dec (h : DataW.trod enc Tryz.prog w 0 (fun _ => true) true n 27 cs = some x) :
    ∃ (A : Option Addr) (cap : Nat) (l : List Int), cs = [.slice A l.length cap] ∧ l.length ≤ maxLen ∧ (A = none → l.length = 0 ∧ cap = 0) ∧ (∃ Y, (arr A (l.flatMap encI)).on Y w) ∧ ∀ x ∈ l, True :=
  list_dec (enc1 := encI) (fun _ => rfl) (by decide) Tryz.underlying27 c3 (fun n cs x h => by
    obtain ⟨z, e⟩ := i_dec h
    exact ⟨z, e, trivial⟩) h
/-- what is known of a stack that was read -/
def SkOk (w : World) (s : Sk1) : Prop := s.bins.length ≤ maxLen ∧ (s.A = none → s.bins.length = 0 ∧ s.cap = 0) ∧ ∃ Y, (arr s.A (s.bins.flatMap encI)).on Y w
theorem sk_dec (h : DataW.trod enc Tryz.prog w 0 (fun _ => true) true n 114 cs = some x) : ∃ c : Sk1, cs = encS c ∧ SkOk w c := by
  have hl := len_of Tryz.underlying114 c114 h
  match cs, hl with
  | [a, b, d], _ =>
    obtain ⟨_, _, h0⟩ := fld Tryz.underlying114 h 0 _ rfl c38
    obtain ⟨_, _, h1⟩ := fld Tryz.underlying114 h 1 _ rfl c27
    obtain ⟨z0, e0, _⟩ := cl_dec h0
    obtain ⟨A, cap, l, e1, k1, k2, k3, _⟩ := is_dec h1
    simp at e0 e1
    obtain ⟨rfl, rfl⟩ := e0
    subst e1
    exact ⟨⟨z0.x, z0.y, A, cap, l⟩, rfl, k1, k2, k3⟩
end
section
variable {H : Type} {enc : TypeId × Value → H} {w : World} {n : Nat} {x : DataW H × List MemPlace}
/-- A config that is read. -/
theorem cf_dec {us : List Value} (h : DataW.trod enc Tryz.prog w 0 (fun _ => true) true n 26 us = some x) : ∃ c : Cf, us = encCf c ∧ c.Fit ∧ Ro [cb c, cp c, cr c, cs c, binsA c] (fun _ => False) w := by
  have hl := len_of Tryz.underlying26 c26 h
  match us, hl with
  | [a0, a1, a2, a3, a4, a5, a6, a7, a8, a9, a10, a11, a12, a13, a14, a15], _ =>
    obtain ⟨_, _, h0⟩ := fld Tryz.underlying26 h 0 _ rfl c3
    obtain ⟨_, _, h1⟩ := fld Tryz.underlying26 h 1 _ rfl c3
    obtain ⟨_, _, h2⟩ := fld Tryz.underlying26 h 2 _ rfl c3
    obtain ⟨_, _, h3⟩ := fld Tryz.underlying26 h 3 _ rfl c22
    obtain ⟨_, _, h4⟩ := fld Tryz.underlying26 h 4 _ rfl c22
    obtain ⟨_, _, h5⟩ := fld Tryz.underlying26 h 5 _ rfl c23
    obtain ⟨_, _, h6⟩ := fld Tryz.underlying26 h 6 _ rfl c24
    obtain ⟨_, _, h7⟩ := fld Tryz.underlying26 h 7 _ rfl c3
    obtain ⟨_, _, h8⟩ := fld Tryz.underlying26 h 8 _ rfl c3
    obtain ⟨_, _, h9⟩ := fld Tryz.underlying26 h 9 _ rfl c3
    obtain ⟨_, _, h10⟩ := fld Tryz.underlying26 h 10 _ rfl c3
    obtain ⟨_, _, h11⟩ := fld Tryz.underlying26 h 11 _ rfl c3
    obtain ⟨_, _, h12⟩ := fld Tryz.underlying26 h 12 _ rfl c3
    obtain ⟨_, _, h13⟩ := fld Tryz.underlying26 h 13 _ rfl c3
    obtain ⟨_, _, h14⟩ := fld Tryz.underlying26 h 14 _ rfl c3
    obtain ⟨_, _, h15⟩ := fld Tryz.underlying26 h 15 _ rfl c4
    obtain ⟨z0, e0⟩ := i_dec h0
    obtain ⟨z1, e1⟩ := i_dec h1
    obtain ⟨z2, e2⟩ := i_dec h2
    obtain ⟨z7, e7⟩ := i_dec h7
    obtain ⟨z8, e8⟩ := i_dec h8
    obtain ⟨z9, e9⟩ := i_dec h9
    obtain ⟨z10, e10⟩ := i_dec h10
    obtain ⟨z11, e11⟩ := i_dec h11
    obtain ⟨z12, e12⟩ := i_dec h12
    obtain ⟨z13, e13⟩ := i_dec h13
    obtain ⟨z14, e14⟩ := i_dec h14
    obtain ⟨z15, e15⟩ := b_dec h15
    obtain ⟨bA, bc, bl, e3, bm, bn, ⟨Yb, hYb⟩, _⟩ := list_dec (enc1 := encC) encC_len (by decide) Tryz.underlying22 c38 (fun n cs x h => cl_dec h) h3
    obtain ⟨pA, pc, pl, e4, pm, pn, ⟨Yp, hYp⟩, _⟩ := list_dec (enc1 := encC) encC_len (by decide) Tryz.underlying22 c38 (fun n cs x h => cl_dec h) h4
    obtain ⟨rA, rc, rl, e5, rm, rn, ⟨Yr, hYr⟩, _⟩ := list_dec (enc1 := encP) encP_len (by decide) Tryz.underlying23 c40 (fun n cs x h => ps_dec h) h5
    obtain ⟨sA, sc, sl, e6, sm, sn, ⟨Ys, hYs⟩, hsk⟩ := list_dec (enc1 := encS) encS_len (by decide) Tryz.underlying24 c114 (fun n cs x h => sk_dec h) h6
    simp at e0 e1 e2 e3 e4 e5 e6 e7 e8 e9 e10 e11 e12 e13 e14 e15
    subst e0 e1 e2 e3 e4 e5 e6 e7 e8 e9 e10 e11 e12 e13 e14 e15
    refine ⟨⟨z0, z1, z2, bA, bc, bl, pA, pc, pl, rA, rc, rl, sA, sc, sl, z7, z8, z9, z10, z11, z12, z13, z14, z15⟩, rfl, ⟨bm, pm, rm, sm, fun s hs => (hsk s hs).1, bn, pn, rn, sn⟩, ?_⟩
    intro r hr
    simp only [List.mem_cons, List.not_mem_nil, or_false] at hr
    rcases hr with rfl | rfl | rfl | rfl | rfl
    · exact ⟨_, hYb, fun _ _ h => h⟩
    · exact ⟨_, hYp, fun _ _ h => h⟩
    · exact ⟨_, hYr, fun _ _ h => h⟩
    · exact ⟨_, hYs, fun _ _ h => h⟩
    · refine ⟨fun k => k < w.heap.size, ⟨fun s hs => ?_, fun k h => h⟩, fun _ _ h => h⟩
      obtain ⟨_, h2, Y, hY⟩ := hsk s hs
      exact ⟨Y, hY, (arr s.A _).lt Y w hY, h2⟩
end
abbrev laidS {H : Type} : List (String × DataW H) := [("skep/grid.steps", Rows.laid_skep_grid_steps)]
/-- The door's own heap meets the condition. -/
theorem door_met (os : Os) (args : Array Value) : laidMetH Tryz.prog laidS ((World.doorLaid Tryz.prog 400 os).forCall (fun _ _ => 0) ⟨#[], args, []⟩).memory :=
  laidMetH_of_parts3 (fuel := 8) (laidMet_of_run' 8 (by kernel_rfl) (by kernel_rfl)) (by kernel_rfl) (by kernel_rfl)
/-- The table of steps, as it was laid. -/
theorem steps_of_laid {W : World} (h : laidMetH Tryz.prog laidS W) : ∃ Y, stepsA.on Y W := by
  rw [MakeChecks.laidMetH_plain _ _ _ (by kernel_rfl)] at h
  obtain ⟨ps, ⟨g0, t0, cs0, f0, p0, q0, hg0, ht0, hv0, hd0, _, _⟩, _, _⟩ := h
  obtain rfl := Option.some.inj ((show Tryz.prog.globalNamed "skep/grid.steps" = some 0 by kernel_rfl).symm.trans hg0)
  obtain rfl := Option.some.inj ((show (Tryz.prog.globals[0]?).map (·.type) = some 214 by kernel_rfl).symm.trans ht0)
  obtain ⟨xs, m, _, ex, hcl, hn, hel⟩ := DataW.trod_array Tryz.underlying214 hd0
  have hlen : cs0.toList.length = 8 := by rw [hcl]; kernel_rfl
  have ex2 : (xs.map (·.1)) = [.agg [.lit (.int .i64 0), .lit (.int .i64 (-1))], .agg [.lit (.int .i64 1), .lit (.int .i64 0)], .agg [.lit (.int .i64 0), .lit (.int .i64 1)], .agg [.lit (.int .i64 (-1)), .lit (.int .i64 0)]] := (DataW.agg.inj (Prod.mk.inj ex).1).symm
  clear ex
  match xs, hn, ex2, hel with
  | [x0, x1, x2, x3], _, ex2, hel =>
    simp only [List.map_cons, List.map_nil, List.cons.injEq, and_true] at ex2
    obtain ⟨e0, e1, e2, e3⟩ := ex2
    obtain ⟨l, hl⟩ : ∃ l, cs0.toList = l := ⟨_, rfl⟩
    have one : ∀ i (y : DataW Unit × List MemPlace) (a b : Int), i < 4 → [x0, x1, x2, x3][i]? = some y → y.1 = .agg [.lit (.int .i64 a), .lit (.int .i64 b)] → (l.drop (i * 2)).take 2 = [i64 a, i64 b] := by
      intro i y a b hi hy hab
      have h1 := hel i hi
      rw [c38, hy, hl] at h1
      obtain ⟨ys, n', _, ey, hyl, hyn, hye⟩ := DataW.trod_struct Tryz.underlying38 h1
      have f0 := hye 0 _ rfl
      have f1 := hye 1 _ rfl
      rw [ey] at hab
      have hab : ys.map (·.1) = [.lit (.int .i64 a), .lit (.int .i64 b)] := DataW.agg.inj hab
      clear ey
      match ys, hyn, hab, f0, f1 with
      | [y0, y1], _, hab, f0, f1 =>
        simp only [List.map_cons, List.map_nil, List.cons.injEq, and_true] at hab
        have g0 : DataW.trod (fun _ => ()) Tryz.prog W 0 (fun _ => true) false n' 3 (List.take (Tryz.prog.cellsOf 3) (List.drop 0 (List.take 2 (List.drop (i * 2) l)))) = some y0 := f0
        have g1 : DataW.trod (fun _ => ()) Tryz.prog W 0 (fun _ => true) false n' 3 (List.take (Tryz.prog.cellsOf 3) (List.drop 1 (List.take 2 (List.drop (i * 2) l)))) = some y1 := f1
        rw [c3] at g0 g1
        clear f0 f1
        obtain ⟨z0, k0, k1, _⟩ := DataW.trod_int Tryz.underlying3 g0
        obtain ⟨z1, k2, k3, _⟩ := DataW.trod_int Tryz.underlying3 g1
        rw [k1, k3] at hab
        simp only [DataW.lit.injEq, Lit.int.injEq, true_and] at hab
        rw [hab.1] at k0
        rw [hab.2] at k2
        rw [c38] at hyl
        generalize (l.drop (i * 2)).take 2 = q at k0 k2 hyl ⊢
        match q, hyl with
        | [q0, q1], _ =>
          simp at k0 k2
          rw [k0, k2]
    have a0 := one 0 x0 _ _ (by decide) rfl e0
    have a1 := one 1 x1 _ _ (by decide) rfl e1
    have a2 := one 2 x2 _ _ (by decide) rfl e2
    have a3 := one 3 x3 _ _ (by decide) rfl e3
    have hl8 : l = stepsL.flatMap encC := by
      rw [hl] at hlen
      match l, hlen with
      | [b0, b1, b2, b3, b4, b5, b6, b7], _ =>
        simp at a0 a1 a2 a3
        obtain ⟨rfl, rfl⟩ := a0
        obtain ⟨rfl, rfl⟩ := a1
        obtain ⟨rfl, rfl⟩ := a2
        obtain ⟨rfl, rfl⟩ := a3
        rfl
    have hb : 0 < W.heap.size := by
      have h1 := World.var?_cell hg0 hv0 0
      have h2 : cs0[0]? = some (i64 0) := by
        have : cs0.toList[0]? = some (i64 0) := by rw [hl, hl8]; rfl
        simpa using this
      rw [h2] at h1
      unfold World.cell? at h1
      split at h1
      · rename_i hh
        exact (Array.getElem?_eq_some_iff.1 hh).1
      · cases h1
    refine ⟨fun k => k = 0, .inr ⟨0, 0, rfl, fun _ => Iff.rfl, hb, fun j u hj => ?_⟩⟩
    rw [World.var?_cell hg0 hv0 (0 + j), Nat.zero_add]
    rw [← hl8, ← hl] at hj
    simpa using hj
section
variable {H : Type} {enc : TypeId × Value → H} {P : Program} {W W' : World}
theorem trodAll_stays (hl : laidOutB P = true) (hb : Below W.heap.size W W') : ∀ {ts : List TypeId} {vs : List Value} {ds : List (DataW H)} {ps : List MemPlace}, (ts.all fun t => P.readableRec t && decide (t < P.types.size)) = true →
    DataW.TrodAll enc P W 0 (fun _ => true) true ts vs ds ps → (∀ p ∈ ps, p.block < W.heap.size) → DataW.TrodAll enc P W' 0 (fun b => decide (b < W.heap.size)) true ts vs ds ps
  | [], vs, ds, ps, _, h, _ => by
    obtain ⟨rfl, rfl, rfl⟩ := trodAll_nil h
    exact h
  | t :: ts, vs, ds, ps, ht, h, hlt => by
    obtain ⟨v, vs1, d, ds1, a, b, rfl, rfl, rfl, h1, h2⟩ := trodAll_cons h
    simp only [List.all_cons, Bool.and_eq_true, decide_eq_true_eq] at ht
    exact ⟨a, b, hb.trod hl ht.1.1 ht.1.2 h1 fun x hx => hlt x (List.mem_append_left _ hx), trodAll_stays hl hb ht.2 h2 fun x hx => hlt x (List.mem_append_right _ hx), rfl⟩
/-- The end of a law that leaves its arguments as they are and writes nothing that was there. -/
theorem law_end {f : Func} {s : ChangeSpec} {args : Array Value} {ds : List (DataW H)} {before : List MemPlace} (hl : laidOutB P = true) (hs : s.vars = []) (hf : f.resultTypes = #[4]) (h4 : P.underlying 4 = some .bool)
    (hret : s.fn H ds = { results := [.lit (.bool true)], args := ds }) (hts : (f.params.toList.all fun t => P.readableRec t && decide (t < P.types.size)) = true)
    (hW : DataW.Whole enc P f.params.toList s.vars false W args.toList ds [] before) (hb : Below W.heap.size W W') : s.post enc P f false true false false W args (.bool true) W' := by
  have hlt := hW.lt
  have hW2 := hW
  obtain ⟨p, q, hA, hV, rfl, _, _⟩ := hW2
  rw [hs] at hV
  obtain rfl : q = [] := hV
  refine ⟨ds, [], _, [], p, [], hW, ?_, ?_, ?_, hb.frame _, fun h => (by cases h)⟩
  · rw [hf, List.append_nil, hret]
    exact trodAll_mk1 (shut_bool h4 _)
  · rw [List.append_nil, hret]
    exact trodAll_stays hl hb hts hA fun x hx => hlt x (List.mem_append_left _ hx)
  · rw [List.append_nil, hret, hs]
    exact (rfl : ([] : List MemPlace) = [])
theorem Ext.below {w w' : World} (h : Ext (fun _ => False) w w') : Below w.heap.size w w' := ⟨h.os, h.tape, h.output, h.size, fun k hk => h.block k hk fun h => h⟩
theorem struct_arg {t : TypeId} {fs : Array Field} {r : Reach} {base : Nat} {v : Value} {l : List Value} (ht : P.underlying t = some (.struct fs)) (hv : Value.okWide P W r base t v) (h : v.cells.toList = l) : v = .agg l.toArray := by
  simp only [Value.okWide, ht] at hv
  obtain ⟨cs, rfl, _⟩ := hv
  subst h
  simp [Value.cells]
theorem int_arg {t : TypeId} {k k' : IntKind} {r : Reach} {base : Nat} {v : Value} {z : Int} (ht : P.underlying t = some (.int k)) (hv : Value.okWide P W r base t v) (h : v.cells.toList = [.int k' z]) : v = .int k' z := by
  cases v <;> simp [Value.okWide, ht, Cell.okWide, Cell.ok] at hv <;> simpa [Value.cells] using h
end
abbrev zeroCf : Value := .agg #[i64 0, i64 0, i64 0, .slice none 0 0, .slice none 0 0, .slice none 0 0, .slice none 0 0, i64 0, i64 0, i64 0, i64 0, i64 0, i64 0, i64 0, i64 0, .bool false]
theorem own : ownKnob Tryz.prog.godebug = none := by kernel_rfl
theorem laidOut : laidOutB Tryz.prog = true := by kernel_rfl
end Go.Proofs.YtmbibkifbehgnaaGreatDoor
namespace Go.Proofs.YtmbibkifbehgnaaGreatDoor
open Go Sk Go.ChangeShapes Go.WideShapes Go.ChangeAt Go.RowKit
set_option linter.unusedVariables false
set_option linter.unusedSimpArgs false
set_option maxRecDepth 100000 in
theorem worldDelays_lifted (os : Os) (started : os.Started) (H : Type) (enc : TypeId × Value → H) :
    ReturnsInHanded {} Tryz.checked os 5 .any (fun w args => (Rows.worldDelaysSpec.pre enc Tryz.prog Tryz.f5 [] false w args ∧ laidMetH Tryz.prog laidS w) ∧ sizedMet enc Tryz.prog Tryz.f5 (OpenSpec.ofChange Rows.worldDelaysSpec) false w args)
      (Rows.worldDelaysSpec.post enc Tryz.prog Tryz.f5 false true false false) := by
  refine returnsInHanded_of_change_and (C := Tryz.checked) (X := fun w _ => laidMetH Tryz.prog laidS w) (fun _ _ _ hh h => h.of_heap hh) own started (by kernel_rfl) Tryz.func5
    (ChangeSpec.witness_shaped (enc := enc) (C := Tryz.checked) (os := os) (X := fun w _ => laidMetH Tryz.prog laidS w) false (World.doorLaid Tryz.prog 400 os) #[zeroCf, i64 0, i64 0] 8 rfl (World.shaped_of_RefB (by kernel_rfl) (by kernel_rfl)) (by kernel_rfl) (by kernel_rfl) (by kernel_rfl) (door_met os _)) ?_
  intro W base args ds gs before hval0 hW _ _ hL _
  have hval : ∀ (j : Nat) t v, Tryz.f5.params[j]? = some t → args[j]? = some v → Value.okWide Tryz.prog W .any base t v := hval0
  have hW' := hW
  obtain ⟨p, q, hA0, hV, rfl, hfz, hnd⟩ := hW
  have hA : DataW.TrodAll enc Tryz.prog W 0 (fun _ => true) true Tryz.f5.params.toList args.toList ds p := hA0
  rw [Tryz.params5] at hA hval
  obtain ⟨v0, v1, v2, d0, d1, d2, p0, p1, p2, rfl, rfl, rfl, ⟨n0, h0⟩, ⟨n1, h1⟩, ⟨n2, h2⟩⟩ := trodAll_three hA
  obtain ⟨rfl, rfl⟩ := trodVars_none hV
  obtain ⟨c, e0, hc, hro⟩ := cf_dec h0
  obtain ⟨z1, e1⟩ := i_dec h1
  obtain ⟨z2, e2⟩ := i_dec h2
  obtain rfl := struct_arg Tryz.underlying26 (hval 0 26 v0 rfl rfl) e0
  obtain rfl := int_arg Tryz.underlying3 (hval 1 3 v1 rfl rfl) e1
  obtain rfl := int_arg Tryz.underlying3 (hval 2 3 v2 rfl rfl) e2
  obtain ⟨Ys, ys⟩ := steps_of_laid hL
  clear hA0 hval0
  refine (worldDelays_spec c hc z1 z2 W (fun _ => False) (fun _ h => h) ?_).mono fun e W' ⟨F', X', ⟨he, _⟩, _, hext, _⟩ => ?_
  · intro r hr
    simp only [List.mem_cons, List.not_mem_nil, or_false] at hr
    rcases hr with rfl | rfl | rfl | rfl | rfl | rfl
    · exact hro _ (by simp)
    · exact hro _ (by simp)
    · exact hro _ (by simp)
    · exact hro _ (by simp)
    · exact hro _ (by simp)
    · exact ⟨_, ys, fun _ _ h => h⟩
  · subst he
    exact ⟨_, rfl, law_end laidOut rfl (by kernel_rfl) Tryz.underlying4 rfl (by kernel_rfl) hW' (Ext.below hext)⟩
theorem worldDelays_holds : Rows.WorldDelaysSaid :=
  OpenClaim.holds_of_wide 5 Tryz.f5 rfl rfl rfl rfl rfl rfl rfl ⟨rfl, rfl, rfl, rfl, rfl⟩ rfl rfl rfl rfl rfl (by kernel_rfl) Tryz.func5 (by kernel_rfl)
    (of_decide_eq_true (by kernel_rfl)) (by unfold Func.isWrapper; first | (rw [if_pos (by decide +kernel)]; kernel_rfl) | (rw [if_neg (by decide +kernel)]; exact ⟨rfl, rfl⟩))
    (fun os started H enc _ => worldDelays_lifted os started H enc)
theorem worldDelays_card : Rows.WorldDelaysCardSaid :=
  Claim7.holds_tied_plain_at .later [] [.data] true (true, "945a9372eb6062a7c0ad54044477438b604fb5e841eea4e5b48e3c95564060f6") false
    worldDelays_holds (fun _ h => by cases h) (by kernel_rfl) (fun _ h => by cases h) worldDelays_row_tie rfl ⟨rfl, rfl⟩ (by kernel_rfl) rfl
    (fun f fn hf hfn => by
      obtain rfl : f = 5 := Option.some.inj ((show Tryz.prog.funcNamed "skep/skeplaw19.WorldDelays" = some 5 by kernel_rfl).symm.trans hf) |>.symm
      obtain rfl : fn = Tryz.f5 := (Option.some.inj (Tryz.func5.symm.trans hfn)).symm
      exact ⟨by kernel_rfl, fun j t ht => by
        rw [Tryz.params5] at ht
        have hm : t ∈ [26, 3, 3] := by simpa using Array.mem_of_getElem? ht
        have hall : ([26, 3, 3].all fun u => !Tryz.prog.wantsStandIn u) = true := by kernel_rfl
        exact (show Tryz.prog.wantsStandIn t = false by simpa using List.all_eq_true.1 hall t hm)⟩)
    (by kernel_rfl)
#print axioms worldDelays_card
end Go.Proofs.YtmbibkifbehgnaaGreatDoor
