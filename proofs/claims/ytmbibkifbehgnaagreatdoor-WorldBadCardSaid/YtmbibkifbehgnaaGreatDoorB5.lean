/-
  My walks and plain laws, part 5 of 5, joined by a program of my own: D13, V5, D14, D22, V7, D23.
-/
import Derived.Test.YtmbibkifbehgnaaGreatDoorRows
import Derived.ProofKit
import Derived.LaidMore
import Derived.OpenShut
import Derived.Carry
import Derived.Stop.Joined
import Derived.Test.YtmbibkifbehgnaaGreatDoorTie
import Derived.Test.YtmbibkifbehgnaaGreatDoorCards
import Derived.SevenTiedAt
import Derived.Test.YtmbibkifbehgnaaGreatDoorB4
namespace Go.Proofs.YtmbibkifbehgnaaGreatDoor
open Go Sk
set_option linter.unusedVariables false
set_option linter.unusedSimpArgs false
set_option linter.unusedSectionVars false
theorem mk_26_0_1_2_7_8_9_10_11_12_13_14_5_6 (x0_ : Int) (x1_ : Int) (x2_ : Int) (x7_ : Int) (x8_ : Int) (x9_ : Int) (x10_ : Int) (x11_ : Int) (x12_ : Int) (x13_ : Int) (x14_ : Int) (x5_A : Option Addr) (x5_n : Nat) (x5_c : Nat) (x6_A : Option Addr) (x6_n : Nat) (x6_c : Nat) : Tryz.prog.built 26 [(0, .int .i64 x0_), (1, .int .i64 x1_), (2, .int .i64 x2_), (7, .int .i64 x7_), (8, .int .i64 x8_), (9, .int .i64 x9_), (10, .int .i64 x10_), (11, .int .i64 x11_), (12, .int .i64 x12_), (13, .int .i64 x13_), (14, .int .i64 x14_), (5, .slice x5_A x5_n x5_c), (6, .slice x6_A x6_n x6_c)] = some (List.toArray [.int .i64 x0_, .int .i64 x1_, .int .i64 x2_, .slice none 0 0, .slice none 0 0, .slice x5_A x5_n x5_c, .slice x6_A x6_n x6_c, .int .i64 x7_, .int .i64 x8_, .int .i64 x9_, .int .i64 x10_, .int .i64 x11_, .int .i64 x12_, .int .i64 x13_, .int .i64 x14_, .bool false]) := by kernel_rfl
theorem mk_38_0 (x0_ : Int) : Tryz.prog.built 38 [(0, .int .i64 x0_)] = some (List.toArray [.int .i64 x0_, .int .i64 0]) := by kernel_rfl
structure C19 where
  b1 : Nat
  b2 : Nat
  b3 : Nat
abbrev sk19 (x : C19) : Sk1 := ⟨2, 0, some ⟨x.b3, 0, none⟩, 1, [7]⟩
/-- law19's config, of any hoist -/
def cf19 (x : C19) (h : Int) : Cf := ⟨4, 1, 1, none, 0, [], none, 0, [], some ⟨x.b1, 0, none⟩, 1, [ps0], some ⟨x.b2, 0, none⟩, 1, [sk19 x], 1, 1, 1, 1, h, 1, 1, 1, false⟩
/-- .. without a stack -/
def cf19n (x : C19) (h : Int) : Cf := ⟨4, 1, 1, none, 0, [], none, 0, [], some ⟨x.b1, 0, none⟩, 1, [ps0], none, 0, [], 1, 1, 1, 1, h, 1, 1, 1, false⟩
theorem cf19_fit (x : C19) (h : Int) : (cf19 x h).Fit := ⟨Nat.zero_le _, Nat.zero_le _, (show 1 ≤ maxLen by decide), (show 1 ≤ maxLen by decide), fun s hs => (by
  rw [show (cf19 x h).stacks = [sk19 x] from rfl, List.mem_singleton] at hs; subst hs; exact (show 1 ≤ maxLen by decide)), fun _ => ⟨rfl, rfl⟩, fun _ => ⟨rfl, rfl⟩, fun h => (by cases h), fun h => (by cases h)⟩
theorem cf19n_fit (x : C19) (h : Int) : (cf19n x h).Fit := ⟨Nat.zero_le _, Nat.zero_le _, (show 1 ≤ maxLen by decide), Nat.zero_le _, fun s hs => (by cases hs), fun _ => ⟨rfl, rfl⟩, fun _ => ⟨rfl, rfl⟩, fun h => (by cases h), fun _ => ⟨rfl, rfl⟩⟩
theorem one_get {α : Type} {a b : α} {i : Nat} (h : [a][i]? = some b) : i = 0 ∧ b = a := by
  have hi := lt_of_some h
  simp at hi
  subst hi
  exact ⟨rfl, by simpa using h.symm⟩
section
variable (x : C19) {h : Int} (hh : 1 ≤ h ∧ h ≤ 1000)
include hh
theorem cf19_may : MayOk (cf19 x h) where
  num := ⟨by simp [cf19], by simp [cf19], by simp [cf19], by simp [cf19], by simp [cf19], by simp [cf19], by simp [cf19], hh, by simp [cf19], by simp [cf19], by simp [cf19]⟩
  bl := Nat.zero_le _
  pl := Nat.zero_le _
  rl := (show 1 ≤ 8 by decide)
  blocked := fun i x h => by simp [cf19] at h
  ports := fun i x h => by simp [cf19] at h
  robots := fun i p h => by
    obtain ⟨_, rfl⟩ := one_get h
    rfl
  cells := fun i y hy => by
    have h1 := List.mem_of_getElem? hy
    have e : (cf19 x h).robots.flatMap cellsL = [⟨0, 0⟩, ⟨1, 0⟩] := rfl
    rw [e] at h1 ⊢
    rcases (by simpa using h1 : y = ⟨0, 0⟩ ∨ y = ⟨1, 0⟩) with rfl | rfl <;> decide
  bins := ⟨fun i s h => by
      obtain ⟨_, rfl⟩ := one_get h
      exact ⟨rfl, (by show ((1 : Nat) : Int) ≤ 1; decide)⟩,
    fun i k s t hk h1 h2 => by
      obtain ⟨rfl, _⟩ := one_get h1
      omega, (show 1 ≤ 512 by decide), fun i b hb => by
      obtain ⟨_, rfl⟩ := one_get (a := (7 : Int)) hb
      decide, fun i k a b hk h1 h2 => by
      obtain ⟨rfl, _⟩ := one_get (a := (7 : Int)) h1
      omega⟩
theorem cf19n_may : MayOk (cf19n x h) where
  num := ⟨by simp [cf19n], by simp [cf19n], by simp [cf19n], by simp [cf19n], by simp [cf19n], by simp [cf19n], by simp [cf19n], hh, by simp [cf19n], by simp [cf19n], by simp [cf19n]⟩
  bl := Nat.zero_le _
  pl := Nat.zero_le _
  rl := (show 1 ≤ 8 by decide)
  blocked := fun i x h => by simp [cf19n] at h
  ports := fun i x h => by simp [cf19n] at h
  robots := fun i p h => by
    obtain ⟨_, rfl⟩ := one_get h
    rfl
  cells := fun i y hy => by
    have h1 := List.mem_of_getElem? hy
    have e : (cf19n x h).robots.flatMap cellsL = [⟨0, 0⟩, ⟨1, 0⟩] := rfl
    rw [e] at h1 ⊢
    rcases (by simpa using h1 : y = ⟨0, 0⟩ ∨ y = ⟨1, 0⟩) with rfl | rfl <;> decide
  bins := ⟨fun i s h => by simp [cf19n] at h, fun i k s t _ h => by simp [cf19n] at h, by simp [cf19n], fun i x h => by simp [cf19n] at h, fun i k x y _ h => by simp [cf19n] at h⟩
end
section
variable {x : C19} {h : Int} {w0 w : World} {M : Nat → Prop} {R F F1 F2 F3 : List As}
theorem bins19 (H : St w0 w M (arr (some ⟨x.b3, 0, none⟩) [i64 7] :: R) F) : St w0 w M (binsA (cf19 x h) :: R) F := by
  obtain ⟨⟨X, h1, h2, h3⟩, h4⟩ := H
  refine ⟨⟨X, h1, fun r hr => ?_, h3⟩, h4⟩
  rcases List.mem_cons.1 hr with rfl | hr
  · obtain ⟨Y, hY, hd⟩ := h2 _ List.mem_cons_self
    refine ⟨Y, ⟨fun s hs => ?_, fun k hk => (arr (some ⟨x.b3, 0, none⟩) [i64 7]).lt Y w hY k hk⟩, hd⟩
    rw [show (cf19 x h).stacks = [sk19 x] from rfl, List.mem_singleton] at hs
    subst hs
    exact ⟨Y, hY, fun _ h => h, fun h => by cases h⟩
  · exact h2 r (List.mem_cons_of_mem _ hr)
theorem cf19_ro (H : St w0 w M R F) (hat : At F (blk x.b1 (encP ps0) 40) F1) (hat2 : At F1 (blk x.b2 (encS (sk19 x)) 114) F2) (hat3 : At F2 (blk x.b3 [i64 7] 3) F3) :
    St w0 w M (binsA (cf19 x h) :: cs (cf19 x h) :: cp (cf19 x h) :: cb (cf19 x h) :: cr (cf19 x h) :: R) F3 := by
  have H1 : St w0 w M (cr (cf19 x h) :: R) F1 := H.blkArr hat
  have H2 : St w0 w M (cb (cf19 x h) :: cr (cf19 x h) :: R) F1 := ro0 _ arr_none H1
  have H3 : St w0 w M (cp (cf19 x h) :: cb (cf19 x h) :: cr (cf19 x h) :: R) F1 := ro0 _ arr_none H2
  have H4 : St w0 w M (cs (cf19 x h) :: cp (cf19 x h) :: cb (cf19 x h) :: cr (cf19 x h) :: R) F2 := H3.blkArr hat2
  exact bins19 (H4.blkArr hat3)
theorem cf19n_ro (H : St w0 w M R F) (hat : At F (blk x.b1 (encP ps0) 40) F1) :
    St w0 w M (binsA (cf19n x h) :: cs (cf19n x h) :: cp (cf19n x h) :: cb (cf19n x h) :: cr (cf19n x h) :: R) F1 := by
  have H1 : St w0 w M (cr (cf19n x h) :: R) F1 := H.blkArr hat
  have H2 : St w0 w M (cb (cf19n x h) :: cr (cf19n x h) :: R) F1 := ro0 _ arr_none H1
  have H3 : St w0 w M (cp (cf19n x h) :: cb (cf19n x h) :: cr (cf19n x h) :: R) F1 := ro0 _ arr_none H2
  have H4 : St w0 w M (cs (cf19n x h) :: cp (cf19n x h) :: cb (cf19n x h) :: cr (cf19n x h) :: R) F1 := ro0 _ arr_none H3
  exact ro0 _ (bins_none rfl) H4
end
theorem conf19_spec : Sk.Spec Tryz.prog 21 #[] [] [] fun e F' => ∃ x : C19, e = .returned (.agg (encCf (cf19 x 2)).toArray) ∧ F' = [blk x.b1 (encP ps0) 40, blk x.b2 (encS (sk19 x)) 114, blk x.b3 [i64 7] 3] ∧ True := by
  refine Spec.of_code (vs := []) (k0 := []) 8 Tryz.func21 rfl Tryz.ntmps21 rfl .nil fun w X RR hRR H => ?_
  refine .seq ?_
  refine .plain rfl ?_
  refine .alloc rfl rfl rfl ze_26 rfl H (fun w1 b1 H1 => ⟨fun _ => trivial, ?_⟩)
  refine .nil (cj ?_)
  refine .seq ?_
  refine .plain rfl ?_
  refine .q rfl rfl rfl (val_mk .nil mk_40_) ?_
  refine .lit rfl rfl rfl Tryz.underlying23 (.cons rfl .nil) (bs_40_1_0 _ _ _) H1 (fun w2 b2 H2 => ⟨fun _ => trivial, ?_⟩)
  refine .q rfl rfl rfl (val_mk (.cons rfl .nil) (mk_38_0 _)) ?_
  refine .lit rfl rfl rfl Tryz.underlying27 (.cons rfl .nil) (bs_3_1_0 _) H2 (fun w3 b3 H3 => ⟨fun _ => trivial, ?_⟩)
  refine .q rfl rfl rfl (val_mk (.cons rfl (.cons rfl .nil)) (mk_114_0_1 _ _ _ _ _)) ?_
  refine .lit rfl rfl rfl Tryz.underlying24 (.cons rfl .nil) (bs_114_1_0 _ _ _ _ _) H3 (fun w4 b4 H4 => ⟨fun _ => trivial, ?_⟩)
  refine .q rfl rfl rfl (val_mk (.cons rfl (.cons rfl (.cons rfl (.cons rfl (.cons rfl (.cons rfl (.cons rfl (.cons rfl (.cons rfl (.cons rfl (.cons rfl (.cons rfl (.cons rfl .nil))))))))))))) (mk_26_0_1_2_7_8_9_10_11_12_13_14_5_6 _ _ _ _ _ _ _ _ _ _ _ _ _ _ _ _ _)) ?_
  refine .store rfl rfl rfl rfl rfl sz_26 rfl H4 (.there (.there (.there .here))) (by repeat constructor) (fun w5 H5 => ⟨fun _ => trivial, ?_⟩)
  refine .nil (cj ?_)
  refine .ret (fret (resc rfl rfl (lds_w ag_26 (.own .here) rfl H5)) ?_)
  exact hRR _ _ ⟨_, ⟨⟨_, _, _⟩, rfl, rfl, trivial⟩, H5.sub (.cons (.there (.there (.there .here))) (.cons (.there .here) (.cons (.there .here) .nil)))⟩
end Go.Proofs.YtmbibkifbehgnaaGreatDoor
namespace Go.Proofs.YtmbibkifbehgnaaGreatDoor
open Go Sk
set_option linter.unusedVariables false
set_option linter.unusedSimpArgs false
theorem mk_42_0_3_4_6 (x0_ : Int) (x3_0_0_ : Int) (x3_0_1_ : Int) (x3_1_ : Bool) (x4_0_0_ : Int) (x4_0_1_ : Int) (x4_1_ : Bool) (x6_ : Int) : Tryz.prog.built 42 [(0, .int .i64 x0_), (3, .agg (List.toArray [.int .i64 x3_0_0_, .int .i64 x3_0_1_, .bool x3_1_])), (4, .agg (List.toArray [.int .i64 x4_0_0_, .int .i64 x4_0_1_, .bool x4_1_])), (6, .int .i64 x6_)] = some (List.toArray [.int .i64 x0_, .int .i64 0, .int .i64 0, .int .i64 x3_0_0_, .int .i64 x3_0_1_, .bool x3_1_, .int .i64 x4_0_0_, .int .i64 x4_0_1_, .bool x4_1_, .int .i64 0, .int .i64 x6_]) := by kernel_rfl
end Go.Proofs.YtmbibkifbehgnaaGreatDoor
namespace Go.Proofs.YtmbibkifbehgnaaGreatDoor
open Go Sk
set_option linter.unusedVariables false
set_option linter.unusedSimpArgs false
set_option linter.unusedSectionVars false
def ps19 : Ps := ⟨2, 0, false⟩
def ta19 : Te := ⟨1, 0, 0, 1, ⟨1, 1, 2, ⟨0, 0, false⟩, ps19, 0, 2⟩, ⟨0, 0, false⟩, 0⟩
def tb19 : Te := ⟨1, 0, 0, 2, ⟨3, 0, 0, ps19, ps19, 0, 2⟩, ⟨0, 0, false⟩, 0⟩
section
variable (x : C19)
def aw1 : Wm := (hearWd (cf19 x 2) (wld0 (cf19 x 2)) ta19).W
def aw2 : Wm := tickWd (cf19 x 2) (aw1 x)
def aw3 : Wm := tickWd (cf19 x 2) (aw2 x)
def aw4 : Wm := (hearWd (cf19 x 2) (aw3 x) tb19).W
def aw5 : Wm := tickWd (cf19 x 2) (aw4 x)
def aw6 : Wm := tickWd (cf19 x 2) (aw5 x)
theorem aw_te : tickTe (cf19 x 2) (aw5 x) = [⟨3, 0, 0, 2, mv0, ps0, 0⟩] := by kernel_rfl
theorem aw_now : (aw6 x).now = 4 := by kernel_rfl
theorem aw_l : (aw6 x).l = [⟨1, 0, 0, 0, ps0, ⟨1, 1, 2, ⟨0, 0, false⟩, ps19, 0, 2⟩⟩, ⟨2, 2, 0, 0, ps19, ⟨1, 1, 2, ⟨0, 0, false⟩, ps19, 0, 2⟩⟩, ⟨1, 2, 0, 0, ps19, ⟨3, 0, 0, ps19, ps19, 0, 2⟩⟩, ⟨4, 4, 0, 7, ps19, mv0⟩, ⟨2, 4, 0, 0, ps19, ⟨3, 0, 0, ps19, ps19, 0, 2⟩⟩] := by kernel_rfl
theorem may19 : MayOk (cf19 x 2) := cf19_may x (by decide)
theorem aw0_ok : (wld0 (cf19 x 2)).Ok (cf19 x 2) ∧ (wld0 (cf19 x 2)).l.length ≤ 0 := ⟨wld0_ok (may19 x), Nat.le_refl _⟩
theorem aw1_ok : (aw1 x).Ok (cf19 x 2) ∧ (aw1 x).l.length ≤ 1 := by
  have h := hearWd_ok (aw0_ok x).1 ta19
  exact ⟨h.1, Nat.le_trans h.2.2 (by have := (aw0_ok x).2; omega)⟩
theorem aw2_ok : (aw2 x).Ok (cf19 x 2) ∧ (aw2 x).l.length ≤ 100 := by
  have h := tickWd_ok (may19 x) (aw1_ok x).1
  exact ⟨h.1, Nat.le_trans h.2.2 (by have := (aw1_ok x).2; omega)⟩
theorem aw3_ok : (aw3 x).Ok (cf19 x 2) ∧ (aw3 x).l.length ≤ 200 := by
  have h := tickWd_ok (may19 x) (aw2_ok x).1
  exact ⟨h.1, Nat.le_trans h.2.2 (by have := (aw2_ok x).2; omega)⟩
theorem aw4_ok : (aw4 x).Ok (cf19 x 2) ∧ (aw4 x).l.length ≤ 300 := by
  have h := hearWd_ok (aw3_ok x).1 tb19
  exact ⟨h.1, Nat.le_trans h.2.2 (by have := (aw3_ok x).2; omega)⟩
theorem aw5_ok : (aw5 x).Ok (cf19 x 2) ∧ (aw5 x).l.length ≤ 400 := by
  have h := tickWd_ok (may19 x) (aw4_ok x).1
  exact ⟨h.1, Nat.le_trans h.2.2 (by have := (aw4_ok x).2; omega)⟩
theorem aw6_ok : (aw6 x).Ok (cf19 x 2) ∧ (aw6 x).l.length ≤ 500 := by
  have h := tickWd_ok (may19 x) (aw5_ok x).1
  exact ⟨h.1, Nat.le_trans h.2.2 (by have := (aw5_ok x).2; omega)⟩
end
theorem fa_60_0 (b o : Nat) (w : World) : (Instr.fieldAt 60 (.pointer (some ⟨b, o, none⟩)) 0).run Tryz.prog w = .ok (.pointer (some ⟨b, o + 0, none⟩)) w := by kernel_rfl
theorem fa_60_3 (b o : Nat) (w : World) : (Instr.fieldAt 60 (.pointer (some ⟨b, o, none⟩)) 3).run Tryz.prog w = .ok (.pointer (some ⟨b, o + 3, none⟩)) w := by kernel_rfl
theorem en16 : Enters Tryz.prog 16 := fun args w => by kernel_rfl
theorem en18 : Enters Tryz.prog 18 := fun args w => by kernel_rfl
theorem en19 : Enters Tryz.prog 19 := fun args w => by kernel_rfl
theorem en21 : Enters Tryz.prog 21 := fun args w => by kernel_rfl
theorem en23 : Enters Tryz.prog 23 := fun args w => by kernel_rfl
theorem en25 : Enters Tryz.prog 25 := fun args w => by kernel_rfl
theorem en26 : Enters Tryz.prog 26 := fun args w => by kernel_rfl
theorem mk_42_0_1_2_4_6 (x0_ : Int) (x1_ : Int) (x2_ : Int) (x4_0_0_ : Int) (x4_0_1_ : Int) (x4_1_ : Bool) (x6_ : Int) : Tryz.prog.built 42 [(0, .int .i64 x0_), (1, .int .i64 x1_), (2, .int .i64 x2_), (4, .agg (List.toArray [.int .i64 x4_0_0_, .int .i64 x4_0_1_, .bool x4_1_])), (6, .int .i64 x6_)] = some (List.toArray [.int .i64 x0_, .int .i64 x1_, .int .i64 x2_, .int .i64 0, .int .i64 0, .bool false, .int .i64 x4_0_0_, .int .i64 x4_0_1_, .bool x4_1_, .int .i64 0, .int .i64 x6_]) := by kernel_rfl
theorem mk_44_0_3_4 (x0_ : Int) (x3_ : Int) (x4_0_ : Int) (x4_1_ : Int) (x4_2_ : Int) (x4_3_0_0_ : Int) (x4_3_0_1_ : Int) (x4_3_1_ : Bool) (x4_4_0_0_ : Int) (x4_4_0_1_ : Int) (x4_4_1_ : Bool) (x4_5_ : Int) (x4_6_ : Int) : Tryz.prog.built 44 [(0, .int .i64 x0_), (3, .int .i64 x3_), (4, .agg (List.toArray [.int .i64 x4_0_, .int .i64 x4_1_, .int .i64 x4_2_, .int .i64 x4_3_0_0_, .int .i64 x4_3_0_1_, .bool x4_3_1_, .int .i64 x4_4_0_0_, .int .i64 x4_4_0_1_, .bool x4_4_1_, .int .i64 x4_5_, .int .i64 x4_6_]))] = some (List.toArray [.int .i64 x0_, .int .i64 0, .int .i64 0, .int .i64 x3_, .int .i64 x4_0_, .int .i64 x4_1_, .int .i64 x4_2_, .int .i64 x4_3_0_0_, .int .i64 x4_3_0_1_, .bool x4_3_1_, .int .i64 x4_4_0_0_, .int .i64 x4_4_0_1_, .bool x4_4_1_, .int .i64 x4_5_, .int .i64 x4_6_, .int .i64 0, .int .i64 0, .bool false, .int .i64 0]) := by kernel_rfl
theorem awake19_spec : Sk.Spec Tryz.prog 16 #[] [stepsA] [] fun e F' => e = .returned (.bool true) ∧ F' = [] := by
  refine Spec.of_code (vs := []) (k0 := []) 95 Tryz.func16 rfl Tryz.ntmps16 rfl .nil fun w X RR hRR H => ?_
  refine .seq ?_
  refine .plain rfl ?_
  refine .q rfl rfl rfl (val_assign rfl) ?_
  refine .nil (cj ?_)
  refine .seq ?_
  refine .plain rfl ?_
  refine .callx rfl rfl rfl en21 .nil conf19_spec H .nil .nil (fun x9 w1 C1 H1 => ⟨fun _ => trivial, ?_⟩)
  have HA2 := cf19_ro (h := 2) H1 .here .here .here
  refine .callx rfl rfl rfl en23 (.cons rfl .nil) (worldNew_spec (cf19 x9 2) (cf19_fit x9 2) (may19 x9)) HA2 .nil (.ro (.there (.there (.there .here))) (.ro (.there (.there .here)) (.ro (.there (.there (.there (.there .here)))) (.ro (.there .here) (.ro .here (.ro (.there (.there (.there (.there (.there .here))))) .nil)))))) (fun bw w2 C2 H2 => ⟨fun _ => trivial, ?_⟩)
  refine .q rfl rfl rfl (val_move rfl) ?_
  refine .q rfl rfl rfl (val_extract rfl rfl) ?_
  refine .q rfl rfl rfl (val_extract rfl rfl) ?_
  refine .q rfl rfl rfl (val_assign rfl) ?_
  refine .q rfl rfl rfl (val_assign rfl) ?_
  refine .nil (cj ?_)
  refine .seq ?_
  refine .seq ?_
  refine .plain rfl ?_
  refine .q rfl rfl rfl (val_move rfl) ?_
  refine .q rfl rfl rfl (val_neq rfl rfl rfl) ?_
  refine .q rfl rfl rfl (val_move rfl) ?_
  refine .case (t := 13) rfl (fun hs13 => ?_) (fun hs13 => ?_)
  · exfalso; cases hs13
  · refine .q rfl rfl rfl (val_move rfl) ?_
    refine .q rfl rfl rfl (val_ptr_eq_nil Tryz.underlying53 rfl rfl rfl) ?_
    refine .q rfl rfl rfl (val_pick_f rfl rfl) ?_
    refine .nil (cj ?_)
    refine .cond_f rfl ?_
    refine .skip (cj ?_)
    refine .seq ?_
    refine .plain rfl ?_
    refine .q rfl rfl rfl (val_mk (.cons rfl .nil) (mk_38_0 _)) ?_
    refine .q rfl rfl rfl (val_mk (.cons rfl .nil) (mk_40_0 _ _)) ?_
    refine .alloc rfl rfl rfl ze_40 rfl H2 (fun w3 b3 H3 => ⟨fun _ => trivial, ?_⟩)
    refine .store rfl rfl rfl rfl rfl sz_40 rfl H3 .here (by repeat constructor) (fun w4 H4 => ⟨fun _ => trivial, ?_⟩)
    refine .nil (cj ?_)
    refine .seq ?_
    refine .plain rfl ?_
    refine .q rfl rfl rfl (val_move rfl) ?_
    refine .qs rfl rfl rfl H4 (ld_w rfl ag_40 (.own .here) rfl) ?_
    refine .q rfl rfl rfl (val_mk (.cons rfl (.cons rfl (.cons rfl (.cons rfl (.cons rfl .nil))))) (mk_42_0_1_2_4_6 _ _ _ _ _ _ _)) ?_
    refine .q rfl rfl rfl (val_mk (.cons rfl (.cons rfl (.cons rfl .nil))) (mk_44_0_3_4 _ _ _ _ _ _ _ _ _ _ _ _ _)) ?_
    refine .callx rfl rfl rfl en25 (.cons rfl (.cons rfl .nil)) (hearA3_spec (W := wld0 (cf19 x9 2)) (may19 x9) (aw0_ok x9).1 (Nat.le_trans (aw0_ok x9).2 (by decide)) ta19) H4 (.cons (.there .here) .nil) (.ro (.there (.there (.there (.there (.there .here))))) .nil) (fun y5 w5 C5 H5 => ⟨fun _ => trivial, ?_⟩)
    refine .nil (cj ?_)
    refine .seq ?_
    refine .plain rfl ?_
    refine .q rfl rfl rfl (val_move rfl) ?_
    refine .callx rfl rfl rfl en26 (.cons rfl .nil) (tickA2_spec (W := aw1 x9) (may19 x9) (aw1_ok x9).1 (Nat.le_trans (aw1_ok x9).2 (by decide))) H5 (.cons .here .nil) .nil (fun o6 w6 C6 H6 => ⟨fun _ => trivial, ?_⟩)
    refine .nil (cj ?_)
    refine .seq ?_
    refine .plain rfl ?_
    refine .q rfl rfl rfl (val_move rfl) ?_
    refine .callx rfl rfl rfl en26 (.cons rfl .nil) (tickA2_spec (W := aw2 x9) (may19 x9) (aw2_ok x9).1 (Nat.le_trans (aw2_ok x9).2 (by decide))) H6 (.cons .here .nil) .nil (fun o7 w7 C7 H7 => ⟨fun _ => trivial, ?_⟩)
    refine .nil (cj ?_)
    refine .seq ?_
    refine .plain rfl ?_
    refine .q rfl rfl rfl (val_move rfl) ?_
    refine .qs rfl rfl rfl H7 (ld_w rfl ag_40 (.own (.there (.there (.there (.there .here))))) rfl) ?_
    refine .qs rfl rfl rfl H7 (ld_w rfl ag_40 (.own (.there (.there (.there (.there .here))))) rfl) ?_
    refine .q rfl rfl rfl (val_mk (.cons rfl (.cons rfl (.cons rfl (.cons rfl .nil)))) (mk_42_0_3_4_6 _ _ _ _ _ _ _ _)) ?_
    refine .q rfl rfl rfl (val_mk (.cons rfl (.cons rfl (.cons rfl .nil))) (mk_44_0_3_4 _ _ _ _ _ _ _ _ _ _ _ _ _)) ?_
    refine .callx rfl rfl rfl en25 (.cons rfl (.cons rfl .nil)) (hearA3_spec (W := aw3 x9) (may19 x9) (aw3_ok x9).1 (Nat.le_trans (aw3_ok x9).2 (by decide)) tb19) H7 (.cons .here .nil) (.ro (.there (.there (.there (.there (.there .here))))) .nil) (fun y8 w8 C8 H8 => ⟨fun _ => trivial, ?_⟩)
    refine .nil (cj ?_)
    refine .seq ?_
    refine .plain rfl ?_
    refine .q rfl rfl rfl (val_move rfl) ?_
    refine .callx rfl rfl rfl en26 (.cons rfl .nil) (tickA2_spec (W := aw4 x9) (may19 x9) (aw4_ok x9).1 (Nat.le_trans (aw4_ok x9).2 (by decide))) H8 (.cons .here .nil) .nil (fun o9 w9 C9 H9 => ⟨fun _ => trivial, ?_⟩)
    refine .nil (cj ?_)
    refine .seq ?_
    refine .plain rfl ?_
    refine .q rfl rfl rfl (val_move rfl) ?_
    refine .callx rfl rfl rfl en26 (.cons rfl .nil) (tickA2_spec (W := aw5 x9) (may19 x9) (aw5_ok x9).1 (Nat.le_trans (aw5_ok x9).2 (by decide))) H9 (.cons .here .nil) .nil (fun o9 w10 C10 H10 => ⟨fun _ => trivial, ?_⟩)
    refine .q rfl rfl rfl (val_assign rfl) ?_
    refine .nil (cj ?_)
    refine .seq ?_
    rw [aw_te] at H10
    obtain ⟨A4, cap4, hv4, hn4, H11⟩ := St.rowArr H10 (.there .here)
    rw [hv4]
    refine .plain rfl ?_
    refine .q rfl rfl rfl (val_move rfl) ?_
    refine .callx rfl rfl rfl en18 (.cons rfl .nil) (sightsA_spec (W := aw6 x9) (Nat.le_trans (aw6_ok x9).2 (by decide))) H11 .nil (.own .here .nil) (fun v9 w12 C12 H12 => ⟨fun _ => trivial, ?_⟩)
    refine .q rfl rfl rfl (val_assign rfl) ?_
    refine .nil (cj ?_)
    refine .seq ?_
    rw [aw_l] at H12
    refine .plain rfl ?_
    obtain ⟨A5, cap5, hv5, hn5, H13⟩ := St.rowArr H12 .here
    rw [hv5]
    refine .q rfl rfl rfl (val_move rfl) ?_
    refine .q rfl rfl rfl (val_len Tryz.underlying70 rfl) ?_
    refine .q rfl rfl rfl (val_eql rfl rfl rfl) ?_
    refine .q rfl rfl rfl (val_move rfl) ?_
    refine .case (t := 43) rfl (fun hs43 => ?_) (fun hs43 => ?_)
    · refine .q rfl rfl rfl (val_move rfl) ?_
      obtain ⟨b4, o4, hA4⟩ := Has.base (.ro (.there .here)) H13 (by simp)
      refine .q rfl rfl rfl (val_ix el_70 hA4 rfl rfl (i := 0) rfl (by decide)) ?_
      refine .q rfl rfl rfl (val_fieldAddr rfl fa_44_0) ?_
      refine .qs rfl rfl rfl H13 (ld_el rfl ob_3 (.add .base) hA4 (.ro (.there .here)) encT_len (by first | assumption | rfl) rfl) ?_
      refine .q rfl rfl rfl (val_eql rfl rfl rfl) ?_
      refine .q rfl rfl rfl (val_pick_t rfl rfl) ?_
      refine .q rfl rfl rfl (val_move rfl) ?_
      refine .case (t := 50) rfl (fun hs50 => ?_) (fun hs50 => ?_)
      · refine .q rfl rfl rfl (val_move rfl) ?_
        refine .q rfl rfl rfl (val_ix el_70 hA4 rfl rfl (i := 0) rfl (by decide)) ?_
        refine .q rfl rfl rfl (val_fieldAddr rfl fa_44_3) ?_
        refine .qs rfl rfl rfl H13 (ld_el rfl ob_3 (.add .base) hA4 (.ro (.there .here)) encT_len (by first | assumption | rfl) rfl) ?_
        refine .q rfl rfl rfl (val_eql rfl rfl rfl) ?_
        refine .q rfl rfl rfl (val_pick_t rfl rfl) ?_
        refine .q rfl rfl rfl (val_move rfl) ?_
        refine .case (t := 57) rfl (fun hs57 => ?_) (fun hs57 => ?_)
        · refine .q rfl rfl rfl (val_move rfl) ?_
          refine .q rfl rfl rfl (val_len Tryz.underlying57 rfl) ?_
          refine .q rfl rfl rfl (val_eql rfl rfl rfl) ?_
          refine .q rfl rfl rfl (val_pick_t rfl rfl) ?_
          refine .q rfl rfl rfl (val_move rfl) ?_
          refine .case (t := 62) rfl (fun hs62 => ?_) (fun hs62 => ?_)
          · refine .q rfl rfl rfl (val_move rfl) ?_
            obtain ⟨b5, o5, hA5⟩ := Has.base (.ro .here) H13 (by simp)
            refine .q rfl rfl rfl (val_ix el_57 hA5 rfl rfl (i := 0) rfl (by decide)) ?_
            refine .q rfl rfl rfl (val_fieldAddr rfl fa_60_0) ?_
            refine .qs rfl rfl rfl H13 (ld_el rfl ob_3 (.add .base) hA5 (.ro .here) encSi_len (by first | assumption | rfl) rfl) ?_
            refine .q rfl rfl rfl (val_eql rfl rfl rfl) ?_
            refine .q rfl rfl rfl (val_pick_t rfl rfl) ?_
            refine .q rfl rfl rfl (val_move rfl) ?_
            refine .case (t := 69) rfl (fun hs69 => ?_) (fun hs69 => ?_)
            · refine .q rfl rfl rfl (val_move rfl) ?_
              refine .q rfl rfl rfl (val_ix el_57 hA5 rfl rfl (i := 3) rfl (by decide)) ?_
              refine .q rfl rfl rfl (val_fieldAddr rfl fa_60_0) ?_
              refine .qs rfl rfl rfl H13 (ld_el rfl ob_3 (.add .base) hA5 (.ro .here) encSi_len (by first | assumption | rfl) rfl) ?_
              refine .q rfl rfl rfl (val_eql rfl rfl rfl) ?_
              refine .q rfl rfl rfl (val_pick_t rfl rfl) ?_
              refine .q rfl rfl rfl (val_move rfl) ?_
              refine .case (t := 76) rfl (fun hs76 => ?_) (fun hs76 => ?_)
              · refine .q rfl rfl rfl (val_move rfl) ?_
                refine .q rfl rfl rfl (val_ix el_57 hA5 rfl rfl (i := 3) rfl (by decide)) ?_
                refine .q rfl rfl rfl (val_fieldAddr rfl fa_60_3) ?_
                refine .qs rfl rfl rfl H13 (ld_el rfl ob_3 (.add .base) hA5 (.ro .here) encSi_len (by first | assumption | rfl) rfl) ?_
                refine .q rfl rfl rfl (val_eql rfl rfl rfl) ?_
                refine .q rfl rfl rfl (val_pick_t rfl rfl) ?_
                refine .q rfl rfl rfl (val_move rfl) ?_
                refine .case (t := 83) rfl (fun hs83 => ?_) (fun hs83 => ?_)
                · refine .q rfl rfl rfl (val_move rfl) ?_
                  refine .q rfl rfl rfl (val_ix el_57 hA5 rfl rfl (i := 4) rfl (by decide)) ?_
                  refine .q rfl rfl rfl (val_fieldAddr rfl fa_60_0) ?_
                  refine .qs rfl rfl rfl H13 (ld_el rfl ob_3 (.add .base) hA5 (.ro .here) encSi_len (by first | assumption | rfl) rfl) ?_
                  refine .q rfl rfl rfl (val_eql rfl rfl rfl) ?_
                  refine .q rfl rfl rfl (val_pick_t rfl rfl) ?_
                  refine .q rfl rfl rfl (val_move rfl) ?_
                  refine .case (t := 90) rfl (fun hs90 => ?_) (fun hs90 => ?_)
                  · refine .q rfl rfl rfl (val_move rfl) ?_
                    refine .call1 rfl rfl rfl en19 (.cons rfl .nil) wnowA_spec H13 .nil (.own .here .nil) (fun w14 H14 => ⟨fun _ => trivial, ?_⟩)
                    refine .q rfl rfl rfl (val_eql rfl rfl rfl) ?_
                    refine .q rfl rfl rfl (val_pick_t rfl rfl) ?_
                    refine .q rfl rfl rfl (val_assign rfl) ?_
                    refine .nil (cj ?_)
                    refine .ret (fret (res1 rfl rfl) ?_)
                    refine hRR _ _ ⟨_, ⟨?_, rfl⟩, (H14.rest (.ro (.there (.there (.there (.there (.there (.there (.there .here))))))) .nil)).sub .nil⟩
                    exact congrArg (fun z : Int => Ending.returned (.bool (z == 4))) (aw_now x9)
                  · exfalso; cases hs90
                · exfalso; cases hs83
              · exfalso; cases hs76
            · exfalso; cases hs69
          · exfalso; cases hs62
        · exfalso; cases hs57
      · exfalso; cases hs50
    · exfalso; cases hs43
end Go.Proofs.YtmbibkifbehgnaaGreatDoor
namespace Go.Proofs.YtmbibkifbehgnaaGreatDoor
open Go Sk
set_option linter.unusedVariables false
set_option linter.unusedSimpArgs false
set_option linter.unusedSectionVars false
theorem en24 : Enters Tryz.prog 24 := fun args w => by kernel_rfl
theorem en27 : Enters Tryz.prog 27 := fun args w => by kernel_rfl
theorem en28 : Enters Tryz.prog 28 := fun args w => by kernel_rfl
theorem mk_42_0_6 (x0_ : Int) (x6_ : Int) : Tryz.prog.built 42 [(0, .int .i64 x0_), (6, .int .i64 x6_)] = some (List.toArray [.int .i64 x0_, .int .i64 0, .int .i64 0, .int .i64 0, .int .i64 0, .bool false, .int .i64 0, .int .i64 0, .bool false, .int .i64 0, .int .i64 x6_]) := by kernel_rfl
def teBad (kind h : Int) : Te := ⟨1, 0, 0, 1, ⟨kind, 0, 0, ⟨0, 0, false⟩, ⟨0, 0, false⟩, 0, h⟩, ⟨0, 0, false⟩, 0⟩
def tickN (c : Cf) (W : Wm) : Nat → Wm
  | 0 => W
  | i + 1 => tickWd c (tickN c W i)
theorem tickN_ok {c : Cf} (hm : MayOk c) {W : Wm} (h : W.Ok c) : ∀ i, (tickN c W i).Ok c ∧ (tickN c W i).rs.length = W.rs.length ∧ (tickN c W i).l.length ≤ W.l.length + 32 * i
  | 0 => ⟨h, rfl, by simp [tickN]⟩
  | i + 1 => by
    obtain ⟨h1, h2, h3⟩ := tickN_ok hm h i
    obtain ⟨g1, g2, g3⟩ := tickWd_ok hm h1
    exact ⟨g1, g2.trans h2, by show (tickWd c (tickN c W i)).l.length ≤ _; omega⟩
def badW (c : Cf) (kind h : Int) : Wm := (hearWd c (wld0 c) (teBad kind h)).W
def chkBad (c : Cf) (kind h : Int) : Bool := match (tickN c (badW c kind h) h.toNat).l, (tickN c (badW c kind h) h.toNat).rs with
  | [s0, s1, s2], [q] => s1.kind == 8 && s1.bin == 0 && s2.kind == 2 && q.r.load == 0 && (tickN c (badW c kind h) h.toNat).s.bins == (wld0 c).s.bins && (tickN c (badW c kind h) h.toNat).s.loads == (wld0 c).s.loads
  | _, _ => false
theorem chk_all (x : C19) : ((List.range 20).all fun h => chkBad (cf19 x ((h : Int) + 1)) 4 ((h : Int) + 1) && chkBad (cf19n x ((h : Int) + 1)) 3 ((h : Int) + 1)) = true := by kernel_rfl
theorem chk_at (x : C19) {h : Int} (hh : 1 ≤ h ∧ h ≤ 20) : chkBad (cf19 x h) 4 h = true ∧ chkBad (cf19n x h) 3 h = true := by
  have h1 := List.all_eq_true.1 (chk_all x) (h.toNat - 1) (List.mem_range.2 (by omega))
  have e : (((h.toNat - 1 : Nat) : Int) + 1) = h := by omega
  rw [e] at h1
  simpa [Bool.and_eq_true] using h1
structure BadOk (c : Cf) (W : Wm) : Prop where
  l : ∃ s0 s1 s2 : Si, W.l = [s0, s1, s2] ∧ s1.kind = 8 ∧ s1.bin = 0 ∧ s2.kind = 2
  q : ∃ q : Rg, W.rs = [q] ∧ q.r.load = 0
  b : binsM W.s = binsM (wld0 c).s
theorem chk_ok {c : Cf} {kind h : Int} (hc : chkBad c kind h = true) : BadOk c (tickN c (badW c kind h) h.toNat) := by
  unfold chkBad at hc
  split at hc
  · rename_i s0 s1 s2 q hl hr
    simp only [Bool.and_eq_true, beq_iff_eq] at hc
    obtain ⟨⟨⟨⟨⟨a1, a2⟩, a3⟩, a4⟩, a5⟩, a6⟩ := hc
    exact ⟨⟨s0, s1, s2, hl, a1, a2, a3⟩, ⟨q, hr, a4⟩, by rw [binsM, binsM, allM, allM, a5, a6]⟩
  · cases hc
theorem worldBad0_spec (which hoist : Int) (hk : placeN which 3 = 0) : Sk.Spec Tryz.prog 6 #[i64 which, i64 hoist] [stepsA] [] fun e F' => e = .returned (.bool true) ∧ F' = [] := by
  have hwr := placeN_rng (v := which) (n := 3) (by decide)
  refine Spec.of_code (vs := [_, _]) (k0 := [(0, _), (1, _)]) 102 Tryz.func6 rfl Tryz.ntmps6 rfl (.cons (.cons .nil)) fun w X RR hRR H => ?_
  refine .seq ?_
  refine .plain rfl ?_
  refine .q rfl rfl rfl (val_assign rfl) ?_
  refine .nil (cj ?_)
  refine .seq ?_
  refine .plain rfl ?_
  refine .callx rfl rfl rfl en21 .nil conf19_spec H .nil .nil (fun x9 w1 C1 H1 => ⟨fun _ => trivial, ?_⟩)
  refine .alloc rfl rfl rfl ze_26 rfl H1 (fun w2 b2 H2 => ⟨fun _ => trivial, ?_⟩)
  refine .store rfl rfl rfl rfl rfl sz_26 rfl H2 .here (by repeat constructor) (fun w3 H3 => ⟨fun _ => trivial, ?_⟩)
  refine .nil (cj ?_)
  refine .seq ?_
  refine .plain rfl ?_
  refine .q rfl rfl rfl (val_move rfl) ?_
  refine .call1 rfl rfl rfl en22 (.cons rfl (.cons rfl .nil)) (place_spec _ _ (by omega)) H3 .nil .nil (fun w4 H4 => ⟨fun _ => trivial, ?_⟩)
  obtain ⟨h9, hh9⟩ : ∃ z, w64 (1 + placeN hoist 20) = z := ⟨_, rfl⟩
  have hpr := placeN_rng (v := hoist) (n := 20) (by decide)
  have hh : 1 ≤ h9 ∧ h9 ≤ 20 := by rw [← hh9, w64_of (by omega)]; omega
  have hmy : MayOk (cf19n x9 h9) := cf19n_may x9 (by omega)
  have hbad := chk_ok (chk_at x9 hh).2
  obtain ⟨⟨t0, t1, t2, hl9, ht1, ht2, ht3⟩, ⟨q9, hq9, hload⟩, hbins⟩ := hbad
  have hok0 : (wld0 (cf19n x9 h9)).Ok (cf19n x9 h9) := wld0_ok hmy
  have hokb := hearWd_ok hok0 (teBad 3 h9)
  have hlb : (badW (cf19n x9 h9) 3 h9).l.length ≤ 1 := hokb.2.2
  have hokn := fun i => tickN_ok hmy (show (badW (cf19n x9 h9) 3 h9).Ok (cf19n x9 h9) from hokb.1) i
  refine .q rfl rfl rfl (val_add rfl rfl hh9) ?_
  refine .q rfl rfl rfl (val_fieldAddr rfl fa_26_11) ?_
  refine .store rfl rfl rfl rfl rfl sz_3 rfl H4 .here (by repeat constructor) (fun w5 H5 => ⟨fun _ => trivial, ?_⟩)
  refine .nil (cj ?_)
  refine .seq ?_
  refine .plain rfl ?_
  refine .q rfl rfl rfl (val_move rfl) ?_
  refine .call1 rfl rfl rfl en22 (.cons rfl (.cons rfl .nil)) (place_spec _ _ (by omega)) H5 .nil .nil (fun w6 H6 => ⟨fun _ => trivial, ?_⟩)
  refine .q rfl rfl rfl (val_assign rfl) ?_
  refine .nil (cj ?_)
  refine .seq ?_
  refine .seq ?_
  refine .plain rfl ?_
  refine .q rfl rfl rfl (val_move rfl) ?_
  refine .q rfl rfl rfl (val_eql rfl rfl rfl) ?_
  refine .nil (cj ?_)
  refine .cond rfl (fun hc0 => ?_) (fun hc0 => ?_)
  · refine .plain rfl ?_
    refine .q rfl rfl rfl (val_fieldAddr rfl fa_26_6) ?_
    refine .store rfl rfl rfl rfl rfl sz_24 rfl H6 .here (by repeat constructor) (fun w7 H7 => ⟨fun _ => trivial, ?_⟩)
    refine .nil (cj ?_)
    refine .seq ?_
    refine .plain rfl ?_
    refine .qs rfl rfl rfl H7 (ld_w rfl ag_26 (.own .here) rfl) ?_
    have HA2 := cf19n_ro (h := h9) (H7.sub (.cons (.there .here) (.cons .here .nil))) .here
    refine .callx rfl rfl rfl en23 (.cons rfl .nil) (worldNew_spec (cf19n x9 h9) (cf19n_fit x9 h9) hmy) HA2 .nil (.ro (.there (.there (.there .here))) (.ro (.there (.there .here)) (.ro (.there (.there (.there (.there .here)))) (.ro (.there .here) (.ro .here (.ro (.there (.there (.there (.there (.there .here))))) .nil)))))) (fun bw w8 C8 H8 => ⟨fun _ => trivial, ?_⟩)
    refine .q rfl rfl rfl (val_move rfl) ?_
    refine .q rfl rfl rfl (val_extract rfl rfl) ?_
    refine .q rfl rfl rfl (val_extract rfl rfl) ?_
    refine .q rfl rfl rfl (val_assign rfl) ?_
    refine .q rfl rfl rfl (val_assign rfl) ?_
    refine .nil (cj ?_)
    refine .seq ?_
    refine .seq ?_
    refine .plain rfl ?_
    refine .q rfl rfl rfl (val_move rfl) ?_
    refine .q rfl rfl rfl (val_neq rfl rfl rfl) ?_
    refine .q rfl rfl rfl (val_move rfl) ?_
    refine .case (t := 33) rfl (fun hs33 => ?_) (fun hs33 => ?_)
    · exfalso; cases hs33
    · refine .q rfl rfl rfl (val_move rfl) ?_
      refine .q rfl rfl rfl (val_ptr_eq_nil Tryz.underlying53 rfl rfl rfl) ?_
      refine .q rfl rfl rfl (val_pick_f rfl rfl) ?_
      refine .nil (cj ?_)
      refine .cond_f rfl ?_
      refine .skip (cj ?_)
      refine .seq ?_
      refine .plain rfl ?_
      refine .q rfl rfl rfl (val_move rfl) ?_
      refine .callx rfl rfl rfl en24 (.cons rfl .nil) (binsA2_spec hmy (by assumption)) H8 .nil (.own .here .nil) (fun vw9 w9 C9 H9 => ⟨fun _ => trivial, ?_⟩)
      obtain ⟨A38, cap38, rfl⟩ := St.rowVal H9 .here
      refine .q rfl rfl rfl (val_assign rfl) ?_
      refine .nil (cj ?_)
      refine .seq ?_
      refine .plain rfl ?_
      refine .q rfl rfl rfl (val_move rfl) ?_
      refine .q rfl rfl rfl (val_min rfl rfl rfl) ?_
      refine .q rfl rfl rfl (val_add rfl rfl (z := 3) (by rw [hk]; rfl)) ?_
      refine .q rfl rfl rfl (val_fieldAddr rfl fa_26_11) ?_
      refine .qs rfl rfl rfl H9 (ld_b rfl ob_3 (.own (.there (.there .here))) rfl) ?_
      refine .q rfl rfl rfl (val_mk (.cons rfl (.cons rfl .nil)) (mk_42_0_6 _ _)) ?_
      refine .alloc rfl rfl rfl ze_42 rfl H9 (fun w10 b10 H10 => ⟨fun _ => trivial, ?_⟩)
      refine .store rfl rfl rfl rfl rfl sz_42 rfl H10 .here (by repeat constructor) (fun w11 H11 => ⟨fun _ => trivial, ?_⟩)
      refine .nil (cj ?_)
      refine .seq ?_
      refine .plain rfl ?_
      refine .q rfl rfl rfl (val_move rfl) ?_
      refine .qs rfl rfl rfl H11 (ld_w rfl ag_42 (.own .here) rfl) ?_
      refine .q rfl rfl rfl (val_mk (.cons rfl (.cons rfl (.cons rfl .nil))) (mk_44_0_3_4 _ _ _ _ _ _ _ _ _ _ _ _ _)) ?_
      refine .callx rfl rfl rfl en25 (.cons rfl (.cons rfl .nil)) (hearA3_spec (W := wld0 (cf19n x9 h9)) hmy hok0 (Nat.zero_le _) (teBad 3 h9)) H11 (.cons (.there (.there .here)) .nil) (.ro (.there (.there (.there (.there (.there .here))))) .nil) (fun y12 w12 C12 H12 => ⟨fun _ => trivial, ?_⟩)
      refine .nil (cj ?_)
      refine .seq ?_
      refine .seq ?_
      refine .plain rfl ?_
      refine .q rfl rfl rfl (val_assign rfl) ?_
      refine .nil (cj ?_)
      refine .block ?_
      refine .loop (ι := Nat) (fun i => [(5, ptr b2), (6, i64 (placeN which 3)), (7, ptr bw), (9, .slice A38 (binsM (wld0 (cf19n x9 h9)).s).length cap38), (11, i64 (i : Int))]) (fun i w' => St w w' X [binsA (cf19n x9 h9), cs (cf19n x9 h9), cp (cf19n x9 h9), cb (cf19n x9 h9), cr (cf19n x9 h9), stepsA] [wldA (cf19n x9 h9) bw (tickN (cf19n x9 h9) (badW (cf19n x9 h9) 3 h9) i), blk b2 (encCf (cf19n x9 h9)) 26, row (.slice A38 (binsM (wld0 (cf19n x9 h9)).s).length cap38) 3 1 (binsM (wld0 (cf19n x9 h9)).s).length ((binsM (wld0 (cf19n x9 h9)).s).flatMap encI)] ∧ (i : Int) ≤ h9) (fun i => h9.toNat - i) 0 (by repeat (first | exact Pick.nil | refine Pick.cons rfl ?_)) ⟨H12.sub (.cons .here (.cons (.there (.there (.there .here))) (.cons (.there (.there .here)) .nil))), (by omega)⟩ ?_
      rintro i w5 ⟨H13, hi⟩
      refine .seq ?_
      refine .seq ?_
      refine .plain rfl ?_
      refine .q rfl rfl rfl (val_move rfl) ?_
      refine .q rfl rfl rfl (val_fieldAddr rfl fa_26_11) ?_
      refine .qs rfl rfl rfl H13 (ld_b rfl ob_3 (.own (.there .here)) rfl) ?_
      refine .q rfl rfl rfl (val_lss rfl rfl rfl) ?_
      refine .nil (cj ?_)
      refine .cond rfl (fun hc2 => ?_) (fun hc2 => ?_)
      · have hil : (i : Int) < h9 := of_decide_eq_true hc2
        have hoki := hokn i
        have hoki3 := hoki.2.2
        refine .skip (cj ?_)
        refine .seq ?_
        refine .block ?_
        refine .plain rfl ?_
        refine .q rfl rfl rfl (val_move rfl) ?_
        refine .callx rfl rfl rfl en26 (.cons rfl .nil) (tickA2_spec (W := tickN (cf19n x9 h9) (badW (cf19n x9 h9) 3 h9) i) hmy hoki.1 (by omega)) H13 (.cons .here .nil) .nil (fun o14 w14 C14 H14 => ⟨fun _ => trivial, ?_⟩)
        refine .nil (cj ?_)
        refine .plain rfl ?_
        refine .q rfl rfl rfl (val_move rfl) ?_
        refine .q rfl rfl rfl (val_add rfl rfl (z := ((i + 1 : Nat) : Int)) (w64_of (by omega))) ?_
        refine .q rfl rfl rfl (val_assign rfl) ?_
        refine .nil ?_
        intro act0 hact0; change Exists _
        refine ⟨(i + 1), Pick.kn (by repeat (first | exact Pick.nil | refine Pick.cons rfl ?_)) hact0, ⟨H14.sub (.cons .here (.cons (.there .here) (.cons (.there .here) .nil))), (by omega)⟩, (by omega)⟩
      · have hc9 : ¬ (i : Int) < h9 := of_decide_eq_false hc2
        have hih : i = h9.toNat := by omega
        subst hih
        have hoki := hokn h9.toNat
        have hoki3 := hoki.2.2
        have hokf := hoki.1
        refine .exit (cj ?_)
        refine .seq ?_
        refine .plain rfl ?_
        refine .q rfl rfl rfl (val_move rfl) ?_
        refine .callx rfl rfl rfl en18 (.cons rfl .nil) (sightsA_spec (W := tickN (cf19n x9 h9) (badW (cf19n x9 h9) 3 h9) h9.toNat) (by omega)) H13 .nil (.own .here .nil) (fun v9 w15 C15 H15 => ⟨fun _ => trivial, ?_⟩)
        refine .q rfl rfl rfl (val_assign rfl) ?_
        refine .nil (cj ?_)
        refine .seq ?_
        refine .plain rfl ?_
        refine .q rfl rfl rfl (val_move rfl) ?_
        refine .call1 rfl rfl rfl en27 (.cons rfl (.cons rfl .nil)) (robotA2_spec (i := 0) (W := tickN (cf19n x9 h9) (badW (cf19n x9 h9) 3 h9) h9.toNat) (by rw [hq9]; rfl)) H15 .nil (.own (.there .here) .nil) (fun w16 H16 => ⟨fun _ => trivial, ?_⟩)
        refine .q rfl rfl rfl (val_move rfl) ?_
        refine .q rfl rfl rfl (val_extract rfl rfl) ?_
        refine .q rfl rfl rfl (val_extract rfl rfl) ?_
        refine .q rfl rfl rfl (val_extract rfl rfl) ?_
        refine .alloc rfl rfl rfl ze_40 rfl H16 (fun w17 b17 H17 => ⟨fun _ => trivial, ?_⟩)
        refine .store rfl rfl rfl rfl rfl sz_40 rfl H17 .here (by repeat constructor) (fun w18 H18 => ⟨fun _ => trivial, ?_⟩)
        refine .q rfl rfl rfl (val_assign rfl) ?_
        refine .q rfl rfl rfl (val_assign rfl) ?_
        refine .nil (cj ?_)
        refine .seq ?_
        refine .plain rfl ?_
        rw [hl9] at H18
        refine .q rfl rfl rfl (val_move rfl) ?_
        obtain ⟨A5, cap5, hv5, hn5, H19⟩ := St.rowArr H18 (.there .here)
        rw [hv5]
        refine .q rfl rfl rfl (val_len Tryz.underlying57 rfl) ?_
        refine .q rfl rfl rfl (val_eql rfl rfl rfl) ?_
        refine .q rfl rfl rfl (val_move rfl) ?_
        refine .case (t := 68) rfl (fun hs68 => ?_) (fun hs68 => ?_)
        · refine .q rfl rfl rfl (val_move rfl) ?_
          obtain ⟨b5, o5, hA5⟩ := Has.base (.ro .here) H19 (by simp)
          refine .q rfl rfl rfl (val_ix el_57 hA5 rfl rfl (i := 1) rfl (show 1 < 3 by decide)) ?_
          refine .q rfl rfl rfl (val_fieldAddr rfl fa_60_0) ?_
          refine .qs rfl rfl rfl H19 (ld_el rfl ob_3 (.add .base) hA5 (.ro .here) encSi_len (by first | assumption | rfl) rfl) ?_
          refine .q rfl rfl rfl (val_eql rfl rfl rfl) ?_
          refine .q rfl rfl rfl (val_pick_t rfl rfl) ?_
          refine .q rfl rfl rfl (val_move rfl) ?_
          refine .case (t := 75) rfl (fun hs75 => ?_) (fun hs75 => ?_)
          · refine .q rfl rfl rfl (val_move rfl) ?_
            refine .q rfl rfl rfl (val_ix el_57 hA5 rfl rfl (i := 1) rfl (show 1 < 3 by decide)) ?_
            refine .q rfl rfl rfl (val_fieldAddr rfl fa_60_3) ?_
            refine .qs rfl rfl rfl H19 (ld_el rfl ob_3 (.add .base) hA5 (.ro .here) encSi_len (by first | assumption | rfl) rfl) ?_
            refine .q rfl rfl rfl (val_eql rfl rfl rfl) ?_
            refine .q rfl rfl rfl (val_pick_t rfl rfl) ?_
            refine .q rfl rfl rfl (val_move rfl) ?_
            refine .case (t := 82) rfl (fun hs82 => ?_) (fun hs82 => ?_)
            · refine .q rfl rfl rfl (val_move rfl) ?_
              refine .q rfl rfl rfl (val_ix el_57 hA5 rfl rfl (i := 2) rfl (show 2 < 3 by decide)) ?_
              refine .q rfl rfl rfl (val_fieldAddr rfl fa_60_0) ?_
              refine .qs rfl rfl rfl H19 (ld_el rfl ob_3 (.add .base) hA5 (.ro .here) encSi_len (by first | assumption | rfl) rfl) ?_
              refine .q rfl rfl rfl (val_eql rfl rfl rfl) ?_
              refine .q rfl rfl rfl (val_pick_t rfl rfl) ?_
              refine .q rfl rfl rfl (val_move rfl) ?_
              refine .case (t := 89) rfl (fun hs89 => ?_) (fun hs89 => ?_)
              · refine .q rfl rfl rfl (val_move rfl) ?_
                refine .q rfl rfl rfl (val_eql rfl rfl rfl) ?_
                refine .q rfl rfl rfl (val_pick_t rfl rfl) ?_
                refine .q rfl rfl rfl (val_move rfl) ?_
                refine .case (t := 93) rfl (fun hs93 => ?_) (fun hs93 => ?_)
                · have hdone : True := trivial
                  refine .q rfl rfl rfl (val_move rfl) ?_
                  refine .callx rfl rfl rfl en24 (.cons rfl .nil) (binsA2_spec hmy (by assumption)) H19 .nil (.own (.there .here) .nil) (fun vw20 w20 C20 H20 => ⟨fun _ => trivial, ?_⟩)
                  obtain ⟨A95, cap95, rfl⟩ := St.rowVal H20 .here
                  rw [hbins] at H20 ⊢
                  have hbl9 : (binsM (wld0 (cf19n x9 h9)).s).length ≤ 1000000 := by rw [show (binsM (wld0 (cf19n x9 h9)).s).length = (allM (wld0 (cf19n x9 h9)).s).length from List.length_mergeSort ..]; exact (show 0 ≤ 1000000 by decide)
                  refine .q rfl rfl rfl (val_move rfl) ?_
                  refine .call1 rfl rfl rfl en28 (.cons rfl (.cons rfl .nil)) (sameI_spec _ _ _ _ (binsM (wld0 (cf19n x9 h9)).s) hbl9) H20 .nil (.own .here (.own (.there (.there (.there (.there .here)))) .nil)) (fun w21 H21 => ⟨fun _ => trivial, ?_⟩)
                  refine .q rfl rfl rfl (val_pick_t rfl rfl) ?_
                  refine .q rfl rfl rfl (val_move rfl) ?_
                  refine .case (t := 99) rfl (fun hs99 => ?_) (fun hs99 => ?_)
                  · refine .call1 rfl rfl rfl en16 .nil awake19_spec H21 .nil (.ro (.there (.there (.there (.there (.there (.there .here)))))) .nil) (fun w22 H22 => ⟨fun _ => trivial, ?_⟩)
                    refine .q rfl rfl rfl (val_pick_t rfl rfl) ?_
                    refine .q rfl rfl rfl (val_assign rfl) ?_
                    refine .nil (cj ?_)
                    refine .ret (fret (res1 rfl rfl) ?_)
                    refine hRR _ _ ⟨_, ⟨?_, rfl⟩, (H22.rest (.ro (.there (.there (.there (.there (.there (.there .here)))))) .nil)).sub .nil⟩
                    rfl
                  · exfalso; cases hs99
                · exfalso; rw [hload] at hs93; cases hs93
              · exfalso; rw [ht3] at hs89; cases hs89
            · exfalso; rw [ht2] at hs82; cases hs82
          · exfalso; rw [ht1] at hs75; cases hs75
        · exfalso; cases hs68
  · exfalso; simp [hk] at hc0
theorem worldBad1_spec (which hoist : Int) (hk : placeN which 3 ≠ 0) : Sk.Spec Tryz.prog 6 #[i64 which, i64 hoist] [stepsA] [] fun e F' => e = .returned (.bool true) ∧ F' = [] := by
  have hwr := placeN_rng (v := which) (n := 3) (by decide)
  refine Spec.of_code (vs := [_, _]) (k0 := [(0, _), (1, _)]) 102 Tryz.func6 rfl Tryz.ntmps6 rfl (.cons (.cons .nil)) fun w X RR hRR H => ?_
  refine .seq ?_
  refine .plain rfl ?_
  refine .q rfl rfl rfl (val_assign rfl) ?_
  refine .nil (cj ?_)
  refine .seq ?_
  refine .plain rfl ?_
  refine .callx rfl rfl rfl en21 .nil conf19_spec H .nil .nil (fun x9 w1 C1 H1 => ⟨fun _ => trivial, ?_⟩)
  refine .alloc rfl rfl rfl ze_26 rfl H1 (fun w2 b2 H2 => ⟨fun _ => trivial, ?_⟩)
  refine .store rfl rfl rfl rfl rfl sz_26 rfl H2 .here (by repeat constructor) (fun w3 H3 => ⟨fun _ => trivial, ?_⟩)
  refine .nil (cj ?_)
  refine .seq ?_
  refine .plain rfl ?_
  refine .q rfl rfl rfl (val_move rfl) ?_
  refine .call1 rfl rfl rfl en22 (.cons rfl (.cons rfl .nil)) (place_spec _ _ (by omega)) H3 .nil .nil (fun w4 H4 => ⟨fun _ => trivial, ?_⟩)
  obtain ⟨h9, hh9⟩ : ∃ z, w64 (1 + placeN hoist 20) = z := ⟨_, rfl⟩
  have hpr := placeN_rng (v := hoist) (n := 20) (by decide)
  have hh : 1 ≤ h9 ∧ h9 ≤ 20 := by rw [← hh9, w64_of (by omega)]; omega
  have hmy : MayOk (cf19 x9 h9) := cf19_may x9 (by omega)
  have hbad := chk_ok (chk_at x9 hh).1
  obtain ⟨⟨t0, t1, t2, hl9, ht1, ht2, ht3⟩, ⟨q9, hq9, hload⟩, hbins⟩ := hbad
  have hok0 : (wld0 (cf19 x9 h9)).Ok (cf19 x9 h9) := wld0_ok hmy
  have hokb := hearWd_ok hok0 (teBad 4 h9)
  have hlb : (badW (cf19 x9 h9) 4 h9).l.length ≤ 1 := hokb.2.2
  have hokn := fun i => tickN_ok hmy (show (badW (cf19 x9 h9) 4 h9).Ok (cf19 x9 h9) from hokb.1) i
  refine .q rfl rfl rfl (val_add rfl rfl hh9) ?_
  refine .q rfl rfl rfl (val_fieldAddr rfl fa_26_11) ?_
  refine .store rfl rfl rfl rfl rfl sz_3 rfl H4 .here (by repeat constructor) (fun w5 H5 => ⟨fun _ => trivial, ?_⟩)
  refine .nil (cj ?_)
  refine .seq ?_
  refine .plain rfl ?_
  refine .q rfl rfl rfl (val_move rfl) ?_
  refine .call1 rfl rfl rfl en22 (.cons rfl (.cons rfl .nil)) (place_spec _ _ (by omega)) H5 .nil .nil (fun w6 H6 => ⟨fun _ => trivial, ?_⟩)
  refine .q rfl rfl rfl (val_assign rfl) ?_
  refine .nil (cj ?_)
  refine .seq ?_
  refine .seq ?_
  refine .plain rfl ?_
  refine .q rfl rfl rfl (val_move rfl) ?_
  refine .q rfl rfl rfl (val_eql rfl rfl rfl) ?_
  refine .nil (cj ?_)
  refine .cond rfl (fun hc0 => ?_) (fun hc0 => ?_)
  · exfalso; simp at hc0; exact hk hc0
  · refine .skip (cj ?_)
    refine .seq ?_
    refine .plain rfl ?_
    refine .qs rfl rfl rfl H6 (ld_w rfl ag_26 (.own .here) rfl) ?_
    have HA2 := cf19_ro (h := h9) (H6.sub (.cons (.there .here) (.cons (.there .here) (.cons (.there .here) (.cons .here .nil))))) .here .here .here
    refine .callx rfl rfl rfl en23 (.cons rfl .nil) (worldNew_spec (cf19 x9 h9) (cf19_fit x9 h9) hmy) HA2 .nil (.ro (.there (.there (.there .here))) (.ro (.there (.there .here)) (.ro (.there (.there (.there (.there .here)))) (.ro (.there .here) (.ro .here (.ro (.there (.there (.there (.there (.there .here))))) .nil)))))) (fun bw w7 C7 H7 => ⟨fun _ => trivial, ?_⟩)
    refine .q rfl rfl rfl (val_move rfl) ?_
    refine .q rfl rfl rfl (val_extract rfl rfl) ?_
    refine .q rfl rfl rfl (val_extract rfl rfl) ?_
    refine .q rfl rfl rfl (val_assign rfl) ?_
    refine .q rfl rfl rfl (val_assign rfl) ?_
    refine .nil (cj ?_)
    refine .seq ?_
    refine .seq ?_
    refine .plain rfl ?_
    refine .q rfl rfl rfl (val_move rfl) ?_
    refine .q rfl rfl rfl (val_neq rfl rfl rfl) ?_
    refine .q rfl rfl rfl (val_move rfl) ?_
    refine .case (t := 33) rfl (fun hs33 => ?_) (fun hs33 => ?_)
    · exfalso; cases hs33
    · refine .q rfl rfl rfl (val_move rfl) ?_
      refine .q rfl rfl rfl (val_ptr_eq_nil Tryz.underlying53 rfl rfl rfl) ?_
      refine .q rfl rfl rfl (val_pick_f rfl rfl) ?_
      refine .nil (cj ?_)
      refine .cond_f rfl ?_
      refine .skip (cj ?_)
      refine .seq ?_
      refine .plain rfl ?_
      refine .q rfl rfl rfl (val_move rfl) ?_
      refine .callx rfl rfl rfl en24 (.cons rfl .nil) (binsA2_spec hmy (by assumption)) H7 .nil (.own .here .nil) (fun vw8 w8 C8 H8 => ⟨fun _ => trivial, ?_⟩)
      obtain ⟨A38, cap38, rfl⟩ := St.rowVal H8 .here
      refine .q rfl rfl rfl (val_assign rfl) ?_
      refine .nil (cj ?_)
      refine .seq ?_
      refine .plain rfl ?_
      refine .q rfl rfl rfl (val_move rfl) ?_
      refine .q rfl rfl rfl (val_min rfl rfl rfl) ?_
      refine .q rfl rfl rfl (val_add rfl rfl (z := 4) (by have e : min (placeN which 3) 1 = 1 := (by omega); rw [e]; rfl)) ?_
      refine .q rfl rfl rfl (val_fieldAddr rfl fa_26_11) ?_
      refine .qs rfl rfl rfl H8 (ld_b rfl ob_3 (.own (.there (.there .here))) rfl) ?_
      refine .q rfl rfl rfl (val_mk (.cons rfl (.cons rfl .nil)) (mk_42_0_6 _ _)) ?_
      refine .alloc rfl rfl rfl ze_42 rfl H8 (fun w9 b9 H9 => ⟨fun _ => trivial, ?_⟩)
      refine .store rfl rfl rfl rfl rfl sz_42 rfl H9 .here (by repeat constructor) (fun w10 H10 => ⟨fun _ => trivial, ?_⟩)
      refine .nil (cj ?_)
      refine .seq ?_
      refine .plain rfl ?_
      refine .q rfl rfl rfl (val_move rfl) ?_
      refine .qs rfl rfl rfl H10 (ld_w rfl ag_42 (.own .here) rfl) ?_
      refine .q rfl rfl rfl (val_mk (.cons rfl (.cons rfl (.cons rfl .nil))) (mk_44_0_3_4 _ _ _ _ _ _ _ _ _ _ _ _ _)) ?_
      refine .callx rfl rfl rfl en25 (.cons rfl (.cons rfl .nil)) (hearA3_spec (W := wld0 (cf19 x9 h9)) hmy hok0 (Nat.zero_le _) (teBad 4 h9)) H10 (.cons (.there (.there .here)) .nil) (.ro (.there (.there (.there (.there (.there .here))))) .nil) (fun y11 w11 C11 H11 => ⟨fun _ => trivial, ?_⟩)
      refine .nil (cj ?_)
      refine .seq ?_
      refine .seq ?_
      refine .plain rfl ?_
      refine .q rfl rfl rfl (val_assign rfl) ?_
      refine .nil (cj ?_)
      refine .block ?_
      refine .loop (ι := Nat) (fun i => [(5, ptr b2), (6, i64 (placeN which 3)), (7, ptr bw), (9, .slice A38 (binsM (wld0 (cf19 x9 h9)).s).length cap38), (11, i64 (i : Int))]) (fun i w' => St w w' X [binsA (cf19 x9 h9), cs (cf19 x9 h9), cp (cf19 x9 h9), cb (cf19 x9 h9), cr (cf19 x9 h9), stepsA] [wldA (cf19 x9 h9) bw (tickN (cf19 x9 h9) (badW (cf19 x9 h9) 4 h9) i), blk b2 (encCf (cf19 x9 h9)) 26, row (.slice A38 (binsM (wld0 (cf19 x9 h9)).s).length cap38) 3 1 (binsM (wld0 (cf19 x9 h9)).s).length ((binsM (wld0 (cf19 x9 h9)).s).flatMap encI)] ∧ (i : Int) ≤ h9) (fun i => h9.toNat - i) 0 (by repeat (first | exact Pick.nil | refine Pick.cons rfl ?_)) ⟨H11.sub (.cons .here (.cons (.there (.there (.there .here))) (.cons (.there (.there .here)) .nil))), (by omega)⟩ ?_
      rintro i w5 ⟨H12, hi⟩
      refine .seq ?_
      refine .seq ?_
      refine .plain rfl ?_
      refine .q rfl rfl rfl (val_move rfl) ?_
      refine .q rfl rfl rfl (val_fieldAddr rfl fa_26_11) ?_
      refine .qs rfl rfl rfl H12 (ld_b rfl ob_3 (.own (.there .here)) rfl) ?_
      refine .q rfl rfl rfl (val_lss rfl rfl rfl) ?_
      refine .nil (cj ?_)
      refine .cond rfl (fun hc2 => ?_) (fun hc2 => ?_)
      · have hil : (i : Int) < h9 := of_decide_eq_true hc2
        have hoki := hokn i
        have hoki3 := hoki.2.2
        refine .skip (cj ?_)
        refine .seq ?_
        refine .block ?_
        refine .plain rfl ?_
        refine .q rfl rfl rfl (val_move rfl) ?_
        refine .callx rfl rfl rfl en26 (.cons rfl .nil) (tickA2_spec (W := tickN (cf19 x9 h9) (badW (cf19 x9 h9) 4 h9) i) hmy hoki.1 (by omega)) H12 (.cons .here .nil) .nil (fun o13 w13 C13 H13 => ⟨fun _ => trivial, ?_⟩)
        refine .nil (cj ?_)
        refine .plain rfl ?_
        refine .q rfl rfl rfl (val_move rfl) ?_
        refine .q rfl rfl rfl (val_add rfl rfl (z := ((i + 1 : Nat) : Int)) (w64_of (by omega))) ?_
        refine .q rfl rfl rfl (val_assign rfl) ?_
        refine .nil ?_
        intro act0 hact0; change Exists _
        refine ⟨(i + 1), Pick.kn (by repeat (first | exact Pick.nil | refine Pick.cons rfl ?_)) hact0, ⟨H13.sub (.cons .here (.cons (.there .here) (.cons (.there .here) .nil))), (by omega)⟩, (by omega)⟩
      · have hc9 : ¬ (i : Int) < h9 := of_decide_eq_false hc2
        have hih : i = h9.toNat := by omega
        subst hih
        have hoki := hokn h9.toNat
        have hoki3 := hoki.2.2
        have hokf := hoki.1
        refine .exit (cj ?_)
        refine .seq ?_
        refine .plain rfl ?_
        refine .q rfl rfl rfl (val_move rfl) ?_
        refine .callx rfl rfl rfl en18 (.cons rfl .nil) (sightsA_spec (W := tickN (cf19 x9 h9) (badW (cf19 x9 h9) 4 h9) h9.toNat) (by omega)) H12 .nil (.own .here .nil) (fun v9 w14 C14 H14 => ⟨fun _ => trivial, ?_⟩)
        refine .q rfl rfl rfl (val_assign rfl) ?_
        refine .nil (cj ?_)
        refine .seq ?_
        refine .plain rfl ?_
        refine .q rfl rfl rfl (val_move rfl) ?_
        refine .call1 rfl rfl rfl en27 (.cons rfl (.cons rfl .nil)) (robotA2_spec (i := 0) (W := tickN (cf19 x9 h9) (badW (cf19 x9 h9) 4 h9) h9.toNat) (by rw [hq9]; rfl)) H14 .nil (.own (.there .here) .nil) (fun w15 H15 => ⟨fun _ => trivial, ?_⟩)
        refine .q rfl rfl rfl (val_move rfl) ?_
        refine .q rfl rfl rfl (val_extract rfl rfl) ?_
        refine .q rfl rfl rfl (val_extract rfl rfl) ?_
        refine .q rfl rfl rfl (val_extract rfl rfl) ?_
        refine .alloc rfl rfl rfl ze_40 rfl H15 (fun w16 b16 H16 => ⟨fun _ => trivial, ?_⟩)
        refine .store rfl rfl rfl rfl rfl sz_40 rfl H16 .here (by repeat constructor) (fun w17 H17 => ⟨fun _ => trivial, ?_⟩)
        refine .q rfl rfl rfl (val_assign rfl) ?_
        refine .q rfl rfl rfl (val_assign rfl) ?_
        refine .nil (cj ?_)
        refine .seq ?_
        refine .plain rfl ?_
        rw [hl9] at H17
        refine .q rfl rfl rfl (val_move rfl) ?_
        obtain ⟨A5, cap5, hv5, hn5, H18⟩ := St.rowArr H17 (.there .here)
        rw [hv5]
        refine .q rfl rfl rfl (val_len Tryz.underlying57 rfl) ?_
        refine .q rfl rfl rfl (val_eql rfl rfl rfl) ?_
        refine .q rfl rfl rfl (val_move rfl) ?_
        refine .case (t := 68) rfl (fun hs68 => ?_) (fun hs68 => ?_)
        · refine .q rfl rfl rfl (val_move rfl) ?_
          obtain ⟨b5, o5, hA5⟩ := Has.base (.ro .here) H18 (by simp)
          refine .q rfl rfl rfl (val_ix el_57 hA5 rfl rfl (i := 1) rfl (show 1 < 3 by decide)) ?_
          refine .q rfl rfl rfl (val_fieldAddr rfl fa_60_0) ?_
          refine .qs rfl rfl rfl H18 (ld_el rfl ob_3 (.add .base) hA5 (.ro .here) encSi_len (by first | assumption | rfl) rfl) ?_
          refine .q rfl rfl rfl (val_eql rfl rfl rfl) ?_
          refine .q rfl rfl rfl (val_pick_t rfl rfl) ?_
          refine .q rfl rfl rfl (val_move rfl) ?_
          refine .case (t := 75) rfl (fun hs75 => ?_) (fun hs75 => ?_)
          · refine .q rfl rfl rfl (val_move rfl) ?_
            refine .q rfl rfl rfl (val_ix el_57 hA5 rfl rfl (i := 1) rfl (show 1 < 3 by decide)) ?_
            refine .q rfl rfl rfl (val_fieldAddr rfl fa_60_3) ?_
            refine .qs rfl rfl rfl H18 (ld_el rfl ob_3 (.add .base) hA5 (.ro .here) encSi_len (by first | assumption | rfl) rfl) ?_
            refine .q rfl rfl rfl (val_eql rfl rfl rfl) ?_
            refine .q rfl rfl rfl (val_pick_t rfl rfl) ?_
            refine .q rfl rfl rfl (val_move rfl) ?_
            refine .case (t := 82) rfl (fun hs82 => ?_) (fun hs82 => ?_)
            · refine .q rfl rfl rfl (val_move rfl) ?_
              refine .q rfl rfl rfl (val_ix el_57 hA5 rfl rfl (i := 2) rfl (show 2 < 3 by decide)) ?_
              refine .q rfl rfl rfl (val_fieldAddr rfl fa_60_0) ?_
              refine .qs rfl rfl rfl H18 (ld_el rfl ob_3 (.add .base) hA5 (.ro .here) encSi_len (by first | assumption | rfl) rfl) ?_
              refine .q rfl rfl rfl (val_eql rfl rfl rfl) ?_
              refine .q rfl rfl rfl (val_pick_t rfl rfl) ?_
              refine .q rfl rfl rfl (val_move rfl) ?_
              refine .case (t := 89) rfl (fun hs89 => ?_) (fun hs89 => ?_)
              · refine .q rfl rfl rfl (val_move rfl) ?_
                refine .q rfl rfl rfl (val_eql rfl rfl rfl) ?_
                refine .q rfl rfl rfl (val_pick_t rfl rfl) ?_
                refine .q rfl rfl rfl (val_move rfl) ?_
                refine .case (t := 93) rfl (fun hs93 => ?_) (fun hs93 => ?_)
                · have hdone : True := trivial
                  refine .q rfl rfl rfl (val_move rfl) ?_
                  refine .callx rfl rfl rfl en24 (.cons rfl .nil) (binsA2_spec hmy (by assumption)) H18 .nil (.own (.there .here) .nil) (fun vw19 w19 C19 H19 => ⟨fun _ => trivial, ?_⟩)
                  obtain ⟨A95, cap95, rfl⟩ := St.rowVal H19 .here
                  rw [hbins] at H19 ⊢
                  have hbl9 : (binsM (wld0 (cf19 x9 h9)).s).length ≤ 1000000 := by rw [show (binsM (wld0 (cf19 x9 h9)).s).length = (allM (wld0 (cf19 x9 h9)).s).length from List.length_mergeSort ..]; exact (show 1 ≤ 1000000 by decide)
                  refine .q rfl rfl rfl (val_move rfl) ?_
                  refine .call1 rfl rfl rfl en28 (.cons rfl (.cons rfl .nil)) (sameI_spec _ _ _ _ (binsM (wld0 (cf19 x9 h9)).s) hbl9) H19 .nil (.own .here (.own (.there (.there (.there (.there .here)))) .nil)) (fun w20 H20 => ⟨fun _ => trivial, ?_⟩)
                  refine .q rfl rfl rfl (val_pick_t rfl rfl) ?_
                  refine .q rfl rfl rfl (val_move rfl) ?_
                  refine .case (t := 99) rfl (fun hs99 => ?_) (fun hs99 => ?_)
                  · refine .call1 rfl rfl rfl en16 .nil awake19_spec H20 .nil (.ro (.there (.there (.there (.there (.there (.there .here)))))) .nil) (fun w21 H21 => ⟨fun _ => trivial, ?_⟩)
                    refine .q rfl rfl rfl (val_pick_t rfl rfl) ?_
                    refine .q rfl rfl rfl (val_assign rfl) ?_
                    refine .nil (cj ?_)
                    refine .ret (fret (res1 rfl rfl) ?_)
                    refine hRR _ _ ⟨_, ⟨?_, rfl⟩, (H21.rest (.ro (.there (.there (.there (.there (.there (.there .here)))))) .nil)).sub .nil⟩
                    rfl
                  · exfalso; cases hs99
                · exfalso; rw [hload] at hs93; cases hs93
              · exfalso; rw [ht3] at hs89; cases hs89
            · exfalso; rw [ht2] at hs82; cases hs82
          · exfalso; rw [ht1] at hs75; cases hs75
        · exfalso; cases hs68
theorem worldBad_spec (which hoist : Int) : Sk.Spec Tryz.prog 6 #[i64 which, i64 hoist] [stepsA] [] fun e F' => e = .returned (.bool true) ∧ F' = [] := by
  by_cases hk : placeN which 3 = 0
  · exact worldBad0_spec which hoist hk
  · exact worldBad1_spec which hoist hk
end Go.Proofs.YtmbibkifbehgnaaGreatDoor
namespace Go.Proofs.YtmbibkifbehgnaaGreatDoor
open Go Sk Go.ChangeShapes Go.WideShapes Go.ChangeAt Go.RowKit
set_option linter.unusedVariables false
set_option linter.unusedSimpArgs false
section
variable {H : Type} {enc : TypeId × Value → H} {P : Program} {w : World}
end
section
variable {H : Type} {enc : TypeId × Value → H} {w : World} {n : Nat} {cs : List Value} {x : DataW H × List MemPlace}
theorem c3 : Tryz.prog.cellsOf 3 = 1 := by kernel_rfl
theorem c38 : Tryz.prog.cellsOf 38 = 2 := by kernel_rfl
theorem i_dec (h : DataW.trod enc Tryz.prog w 0 (fun _ => true) true n 3 cs = some x) : ∃ z, cs = [i64 z] := by
  obtain ⟨z, h1, _⟩ := DataW.trod_int Tryz.underlying3 h
  exact ⟨z, h1⟩
end
section
variable {H : Type} {enc : TypeId × Value → H} {w : World} {n : Nat} {x : DataW H × List MemPlace}
end
abbrev laidS {H : Type} : List (String × DataW H) := [("skep/grid.steps", Rows.laid_skep_grid_steps)]
/-- The door's own heap meets the condition. -/
theorem door_met (os : Os) (args : Array Value) : laidMetH Tryz.prog laidS ((World.doorLaid Tryz.prog 400 os).forCall (fun _ _ => 0) ⟨#[], args, []⟩).memory :=
  laidMetH_of_parts3 (fuel := 8) (laidMet_of_run' 8 (by kernel_rfl) (by kernel_rfl)) (by kernel_rfl) (by kernel_rfl)
/-- The table of steps, as it was laid. -/
theorem steps_of_laid {W : World} (h : laidMetH Tryz.prog laidS W) : ∃ Y, stepsA.on Y W := by
  rw [MakeChecks.laidMetH_plain _ _ _ (by kernel_rfl)] at h
  obtain ⟨ps, ⟨g0, t0, cs0, f0, p0, q0, hg0, ht0, hv0, hd0, _, _⟩, _, _⟩ := h
  obtain rfl := Option.some.inj ((show Tryz.prog.globalNamed "skep/grid.steps" = some 0 by kernel_rfl).symm.trans hg0)
  obtain rfl := Option.some.inj ((show (Tryz.prog.globals[0]?).map (·.type) = some 214 by kernel_rfl).symm.trans ht0)
  obtain ⟨xs, m, _, ex, hcl, hn, hel⟩ := DataW.trod_array Tryz.underlying214 hd0
  have hlen : cs0.toList.length = 8 := by rw [hcl]; kernel_rfl
  have ex2 : (xs.map (·.1)) = [.agg [.lit (.int .i64 0), .lit (.int .i64 (-1))], .agg [.lit (.int .i64 1), .lit (.int .i64 0)], .agg [.lit (.int .i64 0), .lit (.int .i64 1)], .agg [.lit (.int .i64 (-1)), .lit (.int .i64 0)]] := (DataW.agg.inj (Prod.mk.inj ex).1).symm
  clear ex
  match xs, hn, ex2, hel with
  | [x0, x1, x2, x3], _, ex2, hel =>
    simp only [List.map_cons, List.map_nil, List.cons.injEq, and_true] at ex2
    obtain ⟨e0, e1, e2, e3⟩ := ex2
    obtain ⟨l, hl⟩ : ∃ l, cs0.toList = l := ⟨_, rfl⟩
    have one : ∀ i (y : DataW Unit × List MemPlace) (a b : Int), i < 4 → [x0, x1, x2, x3][i]? = some y → y.1 = .agg [.lit (.int .i64 a), .lit (.int .i64 b)] → (l.drop (i * 2)).take 2 = [i64 a, i64 b] := by
      intro i y a b hi hy hab
      have h1 := hel i hi
      rw [c38, hy, hl] at h1
      obtain ⟨ys, n', _, ey, hyl, hyn, hye⟩ := DataW.trod_struct Tryz.underlying38 h1
      have f0 := hye 0 _ rfl
      have f1 := hye 1 _ rfl
      rw [ey] at hab
      have hab : ys.map (·.1) = [.lit (.int .i64 a), .lit (.int .i64 b)] := DataW.agg.inj hab
      clear ey
      match ys, hyn, hab, f0, f1 with
      | [y0, y1], _, hab, f0, f1 =>
        simp only [List.map_cons, List.map_nil, List.cons.injEq, and_true] at hab
        have g0 : DataW.trod (fun _ => ()) Tryz.prog W 0 (fun _ => true) false n' 3 (List.take (Tryz.prog.cellsOf 3) (List.drop 0 (List.take 2 (List.drop (i * 2) l)))) = some y0 := f0
        have g1 : DataW.trod (fun _ => ()) Tryz.prog W 0 (fun _ => true) false n' 3 (List.take (Tryz.prog.cellsOf 3) (List.drop 1 (List.take 2 (List.drop (i * 2) l)))) = some y1 := f1
        rw [c3] at g0 g1
        clear f0 f1
        obtain ⟨z0, k0, k1, _⟩ := DataW.trod_int Tryz.underlying3 g0
        obtain ⟨z1, k2, k3, _⟩ := DataW.trod_int Tryz.underlying3 g1
        rw [k1, k3] at hab
        simp only [DataW.lit.injEq, Lit.int.injEq, true_and] at hab
        rw [hab.1] at k0
        rw [hab.2] at k2
        rw [c38] at hyl
        generalize (l.drop (i * 2)).take 2 = q at k0 k2 hyl ⊢
        match q, hyl with
        | [q0, q1], _ =>
          simp at k0 k2
          rw [k0, k2]
    have a0 := one 0 x0 _ _ (by decide) rfl e0
    have a1 := one 1 x1 _ _ (by decide) rfl e1
    have a2 := one 2 x2 _ _ (by decide) rfl e2
    have a3 := one 3 x3 _ _ (by decide) rfl e3
    have hl8 : l = stepsL.flatMap encC := by
      rw [hl] at hlen
      match l, hlen with
      | [b0, b1, b2, b3, b4, b5, b6, b7], _ =>
        simp at a0 a1 a2 a3
        obtain ⟨rfl, rfl⟩ := a0
        obtain ⟨rfl, rfl⟩ := a1
        obtain ⟨rfl, rfl⟩ := a2
        obtain ⟨rfl, rfl⟩ := a3
        rfl
    have hb : 0 < W.heap.size := by
      have h1 := World.var?_cell hg0 hv0 0
      have h2 : cs0[0]? = some (i64 0) := by
        have : cs0.toList[0]? = some (i64 0) := by rw [hl, hl8]; rfl
        simpa using this
      rw [h2] at h1
      unfold World.cell? at h1
      split at h1
      · rename_i hh
        exact (Array.getElem?_eq_some_iff.1 hh).1
      · cases h1
    refine ⟨fun k => k = 0, .inr ⟨0, 0, rfl, fun _ => Iff.rfl, hb, fun j u hj => ?_⟩⟩
    rw [World.var?_cell hg0 hv0 (0 + j), Nat.zero_add]
    rw [← hl8, ← hl] at hj
    simpa using hj
section
variable {H : Type} {enc : TypeId × Value → H} {P : Program} {W W' : World}
theorem trodAll_stays (hl : laidOutB P = true) (hb : Below W.heap.size W W') : ∀ {ts : List TypeId} {vs : List Value} {ds : List (DataW H)} {ps : List MemPlace}, (ts.all fun t => P.readableRec t && decide (t < P.types.size)) = true →
    DataW.TrodAll enc P W 0 (fun _ => true) true ts vs ds ps → (∀ p ∈ ps, p.block < W.heap.size) → DataW.TrodAll enc P W' 0 (fun b => decide (b < W.heap.size)) true ts vs ds ps
  | [], vs, ds, ps, _, h, _ => by
    obtain ⟨rfl, rfl, rfl⟩ := trodAll_nil h
    exact h
  | t :: ts, vs, ds, ps, ht, h, hlt => by
    obtain ⟨v, vs1, d, ds1, a, b, rfl, rfl, rfl, h1, h2⟩ := trodAll_cons h
    simp only [List.all_cons, Bool.and_eq_true, decide_eq_true_eq] at ht
    exact ⟨a, b, hb.trod hl ht.1.1 ht.1.2 h1 fun x hx => hlt x (List.mem_append_left _ hx), trodAll_stays hl hb ht.2 h2 fun x hx => hlt x (List.mem_append_right _ hx), rfl⟩
/-- The end of a law that leaves its arguments as they are and writes nothing that was there. -/
theorem law_end {f : Func} {s : ChangeSpec} {args : Array Value} {ds : List (DataW H)} {before : List MemPlace} (hl : laidOutB P = true) (hs : s.vars = []) (hf : f.resultTypes = #[4]) (h4 : P.underlying 4 = some .bool)
    (hret : s.fn H ds = { results := [.lit (.bool true)], args := ds }) (hts : (f.params.toList.all fun t => P.readableRec t && decide (t < P.types.size)) = true)
    (hW : DataW.Whole enc P f.params.toList s.vars false W args.toList ds [] before) (hb : Below W.heap.size W W') : s.post enc P f false true false false W args (.bool true) W' := by
  have hlt := hW.lt
  have hW2 := hW
  obtain ⟨p, q, hA, hV, rfl, _, _⟩ := hW2
  rw [hs] at hV
  obtain rfl : q = [] := hV
  refine ⟨ds, [], _, [], p, [], hW, ?_, ?_, ?_, hb.frame _, fun h => (by cases h)⟩
  · rw [hf, List.append_nil, hret]
    exact trodAll_mk1 (shut_bool h4 _)
  · rw [List.append_nil, hret]
    exact trodAll_stays hl hb hts hA fun x hx => hlt x (List.mem_append_left _ hx)
  · rw [List.append_nil, hret, hs]
    exact (rfl : ([] : List MemPlace) = [])
theorem Ext.below {w w' : World} (h : Ext (fun _ => False) w w') : Below w.heap.size w w' := ⟨h.os, h.tape, h.output, h.size, fun k hk => h.block k hk fun h => h⟩
theorem int_arg {t : TypeId} {k k' : IntKind} {r : Reach} {base : Nat} {v : Value} {z : Int} (ht : P.underlying t = some (.int k)) (hv : Value.okWide P W r base t v) (h : v.cells.toList = [.int k' z]) : v = .int k' z := by
  cases v <;> simp [Value.okWide, ht, Cell.okWide, Cell.ok] at hv <;> simpa [Value.cells] using h
end
theorem own : ownKnob Tryz.prog.godebug = none := by kernel_rfl
theorem laidOut : laidOutB Tryz.prog = true := by kernel_rfl
end Go.Proofs.YtmbibkifbehgnaaGreatDoor
namespace Go.Proofs.YtmbibkifbehgnaaGreatDoor
open Go Sk Go.ChangeShapes Go.WideShapes Go.ChangeAt Go.RowKit
set_option linter.unusedVariables false
set_option linter.unusedSimpArgs false
set_option maxRecDepth 100000 in
theorem worldBad_lifted (os : Os) (started : os.Started) (H : Type) (enc : TypeId × Value → H) :
    ReturnsInHanded {} Tryz.checked os 6 .any (fun w args => (Rows.worldBadSpec.pre enc Tryz.prog Tryz.f6 [] false w args ∧ laidMetH Tryz.prog laidS w) ∧ sizedMet enc Tryz.prog Tryz.f6 (OpenSpec.ofChange Rows.worldBadSpec) false w args)
      (Rows.worldBadSpec.post enc Tryz.prog Tryz.f6 false true false false) := by
  refine returnsInHanded_of_change_and (C := Tryz.checked) (X := fun w _ => laidMetH Tryz.prog laidS w) (fun _ _ _ hh h => h.of_heap hh) own started (by kernel_rfl) Tryz.func6
    (ChangeSpec.witness_shaped (enc := enc) (C := Tryz.checked) (os := os) (X := fun w _ => laidMetH Tryz.prog laidS w) false (World.doorLaid Tryz.prog 400 os) #[i64 0, i64 0] 8 rfl (World.shaped_of_RefB (by kernel_rfl) (by kernel_rfl)) (by kernel_rfl) (by kernel_rfl) (by kernel_rfl) (door_met os _)) ?_
  intro W base args ds gs before hval0 hW _ _ hL _
  have hval : ∀ (j : Nat) t v, Tryz.f6.params[j]? = some t → args[j]? = some v → Value.okWide Tryz.prog W .any base t v := hval0
  have hW' := hW
  obtain ⟨p, q, hA0, hV, rfl, hfz, hnd⟩ := hW
  have hA : DataW.TrodAll enc Tryz.prog W 0 (fun _ => true) true Tryz.f6.params.toList args.toList ds p := hA0
  rw [Tryz.params6] at hA hval
  obtain ⟨v0, v1, d0, d1, p0, p1, rfl, rfl, rfl, ⟨n0, h0⟩, ⟨n1, h1⟩⟩ := trodAll_two hA
  obtain ⟨rfl, rfl⟩ := trodVars_none hV
  obtain ⟨z0, e0⟩ := i_dec h0
  obtain rfl := int_arg Tryz.underlying3 (hval 0 3 v0 rfl rfl) e0
  obtain ⟨z1, e1⟩ := i_dec h1
  obtain rfl := int_arg Tryz.underlying3 (hval 1 3 v1 rfl rfl) e1
  obtain ⟨Ys, ys⟩ := steps_of_laid hL
  clear hA0 hval0
  refine (worldBad_spec z0 z1 W (fun _ => False) (fun _ h => h) ?_).mono fun e W' ⟨F', X', ⟨he, _⟩, _, hext, _⟩ => ?_
  · intro r hr
    simp only [List.mem_cons, List.not_mem_nil, or_false] at hr
    subst hr
    exact ⟨_, ys, fun _ _ h => h⟩
  · subst he
    exact ⟨_, rfl, law_end laidOut rfl (by kernel_rfl) Tryz.underlying4 rfl (by kernel_rfl) hW' (Ext.below hext)⟩
theorem worldBad_holds : Rows.WorldBadSaid :=
  OpenClaim.holds_of_wide 6 Tryz.f6 rfl rfl rfl rfl rfl rfl rfl ⟨rfl, rfl, rfl, rfl, rfl⟩ rfl rfl rfl rfl rfl (by kernel_rfl) Tryz.func6 (by kernel_rfl)
    (of_decide_eq_true (by kernel_rfl)) (by unfold Func.isWrapper; first | (rw [if_pos (by decide +kernel)]; kernel_rfl) | (rw [if_neg (by decide +kernel)]; exact ⟨rfl, rfl⟩))
    (fun os started H enc _ => worldBad_lifted os started H enc)
theorem worldBad_card : Rows.WorldBadCardSaid :=
  Claim7.holds_tied_plain_at .later [] [.data] true (true, "945a9372eb6062a7c0ad54044477438b604fb5e841eea4e5b48e3c95564060f6") false
    worldBad_holds (fun _ h => by cases h) (by kernel_rfl) (fun _ h => by cases h) worldBad_row_tie rfl ⟨rfl, rfl⟩ (by kernel_rfl) rfl
    (fun f fn hf hfn => by
      obtain rfl : f = 6 := Option.some.inj ((show Tryz.prog.funcNamed "skep/skeplaw19.WorldBad" = some 6 by kernel_rfl).symm.trans hf) |>.symm
      obtain rfl : fn = Tryz.f6 := (Option.some.inj (Tryz.func6.symm.trans hfn)).symm
      exact ⟨by kernel_rfl, fun j t ht => by
        rw [Tryz.params6] at ht
        have hm : t ∈ [3, 3] := by simpa using Array.mem_of_getElem? ht
        have hall : ([3, 3].all fun u => !Tryz.prog.wantsStandIn u) = true := by kernel_rfl
        exact (show Tryz.prog.wantsStandIn t = false by simpa using List.all_eq_true.1 hall t hm)⟩)
    (by kernel_rfl)
#print axioms worldBad_card
end Go.Proofs.YtmbibkifbehgnaaGreatDoor
