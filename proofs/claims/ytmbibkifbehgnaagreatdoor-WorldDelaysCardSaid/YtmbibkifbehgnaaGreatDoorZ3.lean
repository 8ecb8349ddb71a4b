/-
  My walks and plain laws, part 3 of 5, joined by a program of my own: L9, C1, C2, K1, K2, K3, K4, K5, Q1, Q2, Q3, Q4, Q5, Q6, Q7, Q8, Q11, Q12, Q13, Q14, Q15, W2, W3, SkIt, SkRg, SkEx, N1, N2, N3, N4.
-/
import Derived.OrdersIn
import Derived.RangeFuncRecord
import Derived.Laws.LoneSync
import Derived.Test.YtmbibkifbehgnaaGreatDoorZ2
namespace Go.Proofs.YtmbibkifbehgnaaGreatDoor
open Go Sk
set_option linter.unusedVariables false
set_option linter.unusedSimpArgs false
theorem w64_mul0 {k : Nat} : w64 ((k : Int) * 0) = 0 := by rw [Int.mul_zero]; exact w64_of (by omega)
theorem w64_mul1 {k : Nat} (h : k ≤ 17) : w64 ((k : Int) * 1) = k := by rw [Int.mul_one]; exact w64_of (by omega)
theorem w64_muln {k : Nat} (h : k ≤ 17) : w64 ((k : Int) * -1) = -k := by rw [Int.mul_neg, Int.mul_one]; exact w64_of (by omega)
theorem shift_eq {c : Cf} (hn : NumOk c) {p : Ps} (hp : inR c p.x p.y = true) {dir : Int} (hd : withinB dir 0 3 = true) {k : Nat} (hk : k ≤ 16) : shiftR p dir (k : Int) = shiftS p dir (k : Int) := by
  have hok : shiftOk dir (k : Int) = true := by
    have : withinB (k : Int) 0 16 = true := by simp [withinB]; omega
    simp [shiftOk, this, hd]
  obtain ⟨h1, h2⟩ := wi hd
  obtain ⟨e1, e2, _, _⟩ := w64_in hn hp
  rw [shiftR, if_pos hok]
  unfold shiftP shiftS
  have hdir : dir = 0 ∨ dir = 1 ∨ dir = 2 ∨ dir = 3 := by omega
  rcases hdir with rfl | rfl | rfl | rfl
  · have a : stepsL.getD (Int.toNat 0) ⟨0, 0⟩ = ⟨0, -1⟩ := rfl
    rw [a]; dsimp only
    rw [w64_mul0, w64_muln (by omega), e1, ← Int.sub_eq_add_neg]; simp
  · have a : stepsL.getD (Int.toNat 1) ⟨0, 0⟩ = ⟨1, 0⟩ := rfl
    rw [a]; dsimp only
    rw [w64_mul0, w64_mul1 (by omega), e2]; simp
  · have a : stepsL.getD (Int.toNat 2) ⟨0, 0⟩ = ⟨0, 1⟩ := rfl
    rw [a]; dsimp only
    rw [w64_mul0, w64_mul1 (by omega), e1]; simp
  · have a : stepsL.getD (Int.toNat 3) ⟨0, 0⟩ = ⟨-1, 0⟩ := rfl
    rw [a]; dsimp only
    rw [w64_mul0, w64_muln (by omega), e2, ← Int.sub_eq_add_neg]; simp
theorem shift_zero {c : Cf} (hn : NumOk c) {p : Ps} (hp : inR c p.x p.y = true) (dir : Int) : shiftS p dir ((0 : Nat) : Int) = p := by
  obtain ⟨e1, e2, _, _⟩ := w64_in hn hp
  have e3 : w64 (p.x - 0) = p.x := by rw [Int.sub_zero, ← Int.add_zero p.x]; simpa using e1
  have e4 : w64 (p.y - 0) = p.y := by rw [Int.sub_zero, ← Int.add_zero p.y]; simpa using e2
  unfold shiftS
  simp only [Int.natCast_zero] at *
  rw [e1, e2, e3, e4]
  split <;> first | rfl | (split <;> first | rfl | (split <;> first | rfl | (split <;> rfl)))
theorem shiftOk_le {dir : Int} (hd : withinB dir 0 3 = true) {k : Nat} (hk : k ≤ 16) : shiftOk dir (k : Int) = true := by
  have : withinB (k : Int) 0 16 = true := by simp [withinB]; omega
  simp [shiftOk, this, hd]
theorem run_eq {c : Cf} {K : List Int} (hK : KRel c K) (hn : NumOk c) {fr : Ps} (hp : inR c fr.x fr.y = true) {dir : Int} (hd : withinB dir 0 3 = true) : ∀ n, n ≤ 16 → runB ⟨c.w, c.h, K⟩ fr dir (n + 1) = (fitsR c fr && fitR c fr dir n)
  | 0, _ => by
    have h1 := shift_eq hn hp hd (k := 0) (by omega)
    rw [shift_zero hn hp] at h1
    simp only [runB, fitR, Bool.true_and, Bool.and_true, shiftOk_le hd (k := 0) (by omega), h1, fits_eq hK hn]
  | n + 1, h => by
    have ih := run_eq hK hn hp hd n (by omega)
    rw [runB, ih, shiftOk_le hd h, shift_eq hn hp hd h, fits_eq hK hn, fitR, Bool.true_and, Bool.and_assoc]
theorem all_open {c : Cf} {K : List Int} (hK : KRel c K) (hn : NumOk c) (l : List Cl) : l.all (fun x => openB ⟨c.w, c.h, K⟩ x.x x.y) = l.all (fun x => openR c x.x x.y) := by
  congr 1
  funext x
  exact open_eq hK hn _ _
theorem legal_eq {c : Cf} {K : List Int} (hK : KRel c K) (hn : NumOk c) (m : Mv) : legalB ⟨c.w, c.h, K⟩ m = legalR c m := by
  unfold legalB legalR
  rw [fits_eq hK hn]
  cases hf : fitsR c m.fr with
  | false => simp
  | true =>
    have hp : inR c m.fr.x m.fr.y = true := by
      simp only [fitsR, Bool.and_eq_true] at hf
      exact openR_in hf.1
    have ht : ¬ (true = false) := by simp
    rw [if_neg ht, if_neg ht]
    by_cases h1 : m.kind = 1
    · rw [if_pos h1, if_pos h1]
      by_cases hd : withinB m.dir 0 3 = true
      · by_cases hlow : 1 ≤ m.n
        · by_cases hhi : m.n ≤ 16
          · obtain ⟨k, hk⟩ : ∃ k : Nat, m.n = ((k + 1 : Nat) : Int) := ⟨(m.n - 1).toNat, by omega⟩
            have hk16 : k + 1 ≤ 16 := by omega
            have e1 : (m.n + 1).toNat = k + 1 + 1 := by omega
            have e2 : m.n.toNat = k + 1 := by omega
            have hw : withinB m.n 1 16 = true := by simp [withinB]; omega
            rw [e1, e2, run_eq hK hn hp hd _ hk16, hf, hw, hd, decide_eq_true hlow, lastP, shift_eq hn hp hd hk16, ← hk]
            simp only [Bool.true_and]
            exact Bool.and_comm _ _
          · have hw : withinB m.n 1 16 = false := by simp [withinB]; omega
            have hr : runB ⟨c.w, c.h, K⟩ m.fr m.dir (m.n + 1).toNat = false := by
              cases h9 : runB ⟨c.w, c.h, K⟩ m.fr m.dir (m.n + 1).toNat with
              | false => rfl
              | true =>
                have h8 := runB_le (k := 17 + 1) (by omega) h9
                simp only [runB, Bool.and_eq_true] at h8
                have := h8.2.1
                simp [shiftOk, withinB] at this
            rw [hw, hr]; rfl
        · have hw : withinB m.n 1 16 = false := by simp [withinB]; omega
          rw [hw, decide_eq_false hlow]; simp
      · have hd' : withinB m.dir 0 3 = false := by simpa using hd
        by_cases hlow : 1 ≤ m.n
        · have hr : runB ⟨c.w, c.h, K⟩ m.fr m.dir (m.n + 1).toNat = false := by
            cases h9 : runB ⟨c.w, c.h, K⟩ m.fr m.dir (m.n + 1).toNat with
            | false => rfl
            | true =>
              have h8 := runB_le (k := 0 + 1) (by omega) h9
              simp only [runB, Bool.and_eq_true] at h8
              have := h8.2.1
              simp [shiftOk, hd'] at this
          rw [hr, hd']; simp
        · rw [decide_eq_false hlow, hd']; simp
    · rw [if_neg h1, if_neg h1]
      by_cases hz : m.dir ≠ 0 ∨ m.n ≠ 0
      · rw [if_pos hz]
        have hzz : ((m.n == 0) && (m.dir == 0)) = false := by
          rcases hz with h | h <;> simp [h]
        by_cases h2 : m.kind = 2
        · rw [if_pos h2, ← Bool.and_assoc (m.n == 0), hzz]; simp
        · rw [if_neg h2, ← Bool.and_assoc (m.n == 0), hzz]; simp
      · rw [if_neg hz]
        have hn0 : m.n = 0 := by omega
        have hd0 : m.dir = 0 := by omega
        rw [all_open hK hn, hn0, hd0]
        simp
end Go.Proofs.YtmbibkifbehgnaaGreatDoor
namespace Go.Proofs.YtmbibkifbehgnaaGreatDoor
open Go Sk
set_option linter.unusedVariables false
set_option linter.unusedSimpArgs false
theorem en38 : Enters Tryz.prog 38 := fun args w => by kernel_rfl
theorem en73 : Enters Tryz.prog 73 := fun args w => by kernel_rfl
theorem ap_23  : apB Tryz.prog 23 40 3 24 = true := by kernel_rfl
theorem ap_24  : apB Tryz.prog 24 114 3 40 = true := by kernel_rfl
theorem bs_114_1_0 (x0_0_0_ : Int) (x0_0_1_ : Int) (x0_1_A : Option Addr) (x0_1_n : Nat) (x0_1_c : Nat) : Tryz.prog.builtSlice 114 1 [(0, .agg (List.toArray [.int .i64 x0_0_0_, .int .i64 x0_0_1_, .slice x0_1_A x0_1_n x0_1_c]))] = some (List.toArray [.int .i64 x0_0_0_, .int .i64 x0_0_1_, .slice x0_1_A x0_1_n x0_1_c]) := by kernel_rfl
theorem mk_114_0_1 (x0_0_ : Int) (x0_1_ : Int) (x1_A : Option Addr) (x1_n : Nat) (x1_c : Nat) : Tryz.prog.built 114 [(0, .agg (List.toArray [.int .i64 x0_0_, .int .i64 x0_1_])), (1, .slice x1_A x1_n x1_c)] = some (List.toArray [.int .i64 x0_0_, .int .i64 x0_1_, .slice x1_A x1_n x1_c]) := by kernel_rfl
theorem sz_22  : (Tryz.prog.info? 22).map (·.size) = some 1 := by kernel_rfl
theorem sz_23  : (Tryz.prog.info? 23).map (·.size) = some 1 := by kernel_rfl
theorem sz_24  : (Tryz.prog.info? 24).map (·.size) = some 1 := by kernel_rfl
theorem sz_26  : (Tryz.prog.info? 26).map (·.size) = some 16 := by kernel_rfl
theorem ze_26  : (Tryz.prog.info? 26).bind (·.zero) = some (.agg (List.toArray [.int .i64 0, .int .i64 0, .int .i64 0, .slice none 0 0, .slice none 0 0, .slice none 0 0, .slice none 0 0, .int .i64 0, .int .i64 0, .int .i64 0, .int .i64 0, .int .i64 0, .int .i64 0, .int .i64 0, .int .i64 0, .bool false])) := by kernel_rfl
theorem copyInts_spec (A : Option Addr) (cap : Nat) (l : List Int) (hl : l.length ≤ 1000) (hn : A = none → l.length = 0 ∧ cap = 0) : Sk.Spec Tryz.prog 73 #[.slice A l.length cap] [arr A (l.flatMap encI)] [] fun e F' => ∃ v, e = .returned v ∧ F' = [row v 3 1 l.length (l.flatMap encI)] ∧ True := by
  refine Spec.of_code (vs := [_]) (k0 := [(0, _)]) 5 Tryz.func73 rfl Tryz.ntmps73 rfl (.cons .nil) fun w X RR hRR H => ?_
  refine .seq ?_
  refine .plain rfl ?_
  refine .q rfl rfl rfl (val_assign rfl) ?_
  refine .nil (cj ?_)
  refine .seq ?_
  refine .plain rfl ?_
  refine .q rfl rfl rfl (val_move rfl) ?_
  have H1 := H.rowNil 3 1
  refine .append rfl rfl rfl (ap_27) rfl rfl H1 .here (Has.srcArr (.ro .here) hn H1) (flat_len encI_len _) one_encI (by simp only [maxLen]; omega) (by first | omega | (dsimp only; omega)) (fun v2 w2 H2 => ⟨fun _ => trivial, ?_⟩)
  refine .q rfl rfl rfl (val_assign rfl) ?_
  refine .nil (cj ?_)
  refine .ret (fret (res1 rfl rfl) ?_)
  refine hRR _ _ ⟨_, ⟨_, rfl, rfl, trivial⟩, ?_⟩
  have h9 := H2.sub (.cons .here .nil)
  simp only [Nat.zero_add, List.nil_append] at h9
  exact h9
/-- arrays of bins, together -/
def bagA (l : List Sk1) : As where
  on X w := (∀ s ∈ l, ∃ Y, (arr s.A (s.bins.flatMap encI)).on Y w ∧ (∀ k, Y k → X k) ∧ (s.A = none → s.bins.length = 0 ∧ s.cap = 0)) ∧ ∀ k, X k → k < w.heap.size
  loc X w w' h hk := ⟨fun s hs => by
    obtain ⟨Y, hY, hs, hn⟩ := h.1 s hs
    exact ⟨Y, (arr s.A _).loc Y w w' hY fun k hk' => hk k (hs k hk'), hs, hn⟩, fun k hx => by
    have h1 := h.2 k hx
    have := hk k hx
    rw [Array.getElem?_eq_getElem h1] at this
    exact (Array.getElem?_eq_some_iff.1 this).1⟩
  lt X w h := h.2
theorem St.bag0 {w0 w : World} {M : Nat → Prop} {R F : List As} (H : St w0 w M R F) : St w0 w M R (bagA [] :: F) := by
  obtain ⟨⟨X, h1, h2, h3⟩, h4⟩ := H
  exact ⟨⟨X, ⟨fun _ => False, X, ⟨fun s hs => absurd hs List.not_mem_nil, fun _ h => h.elim⟩, h1, fun _ h => h.elim, fun k => by simp⟩, h2, h3⟩, h4⟩
theorem St.bag {w0 w : World} {M : Nat → Prop} {R F F1 F2 : List As} {l : List Sk1} {s : Sk1} (H : St w0 w M R F) (h : At F (bagA l) F1) (h' : At F1 (arr s.A (s.bins.flatMap encI)) F2) (hn : s.A = none → s.bins.length = 0 ∧ s.cap = 0) : St w0 w M R (bagA (l ++ [s]) :: F2) := by
  obtain ⟨⟨X, h1, h2, h3⟩, h4⟩ := H
  obtain ⟨X1, X2, g1, g2, g3, g4⟩ := Own.pick h h1
  obtain ⟨Y1, Y2, k1, k2, k3, k4⟩ := Own.pick h' g2
  refine ⟨⟨X, ⟨fun k => X1 k ∨ Y1 k, Y2, ⟨fun t ht => ?_, ?_⟩, k2, ?_, fun k => ?_⟩, h2, h3⟩, h4⟩
  · rcases List.mem_append.1 ht with ht | ht
    · obtain ⟨Y, hY, hs, hn'⟩ := g1.1 t ht
      exact ⟨Y, hY, fun k hk => .inl (hs k hk), hn'⟩
    · obtain rfl : t = s := by simpa using ht
      exact ⟨Y1, k1, fun k hk => .inr hk, hn⟩
  · rintro k (hk | hk)
    · exact g1.2 k hk
    · exact (arr s.A _).lt Y1 w k1 k hk
  · rintro k (hk | hk) hy
    · exact g3 k hk ((k4 k).2 (.inr hy))
    · exact k3 k hk hy
  · rw [g4 k, k4 k]
    exact ⟨fun h => by rcases h with h | h | h <;> simp [h], fun h => by rcases h with (h | h) | h <;> simp [h]⟩
/-- the same stack, laid elsewhere -/
def simS (s t : Sk1) : Prop := t.x = s.x ∧ t.y = s.y ∧ t.bins = s.bins ∧ (t.A = none → t.bins.length = 0 ∧ t.cap = 0)
structure CI where
  i : Nat
  v : Value
  l : List Sk1
theorem row_snocS {v : Value} {acc : List Sk1} {m : Sk1} : row v 114 3 (acc ++ [m]).length ((acc ++ [m]).flatMap encS) = row v 114 3 (acc.length + 1) (acc.flatMap encS ++ encS m) := by
  simp
theorem copyStacks_spec (c : Cf) (hc : c.Fit) (hl : c.stacks.length ≤ 1000) (hb : ∀ s ∈ c.stacks, s.bins.length ≤ 1000) : Sk.Spec Tryz.prog 38 #[.slice c.sA c.stacks.length c.sc] [cs c, binsA c] [] fun e F' => ∃ x : CI, e = .returned x.v ∧ F' = [row x.v 114 3 x.l.length (x.l.flatMap encS), bagA x.l] ∧ (x.l.length = c.stacks.length ∧ ∀ (i : Nat) (s t : Sk1), c.stacks[i]? = some s → x.l[i]? = some t → simS s t) := by
  refine Spec.of_code (vs := [_]) (k0 := [(0, _)]) 27 Tryz.func38 rfl Tryz.ntmps38 rfl (.cons .nil) fun w X RR hRR H => ?_
  refine .seq ?_
  refine .plain rfl ?_
  refine .q rfl rfl rfl (val_assign rfl) ?_
  refine .nil (cj ?_)
  refine .seq ?_
  refine .plain rfl ?_
  refine .q rfl rfl rfl (val_assign rfl) ?_
  refine .nil (cj ?_)
  refine .seq ?_
  refine .seq ?_
  refine .plain rfl ?_
  refine .q rfl rfl rfl (val_assign rfl) ?_
  refine .nil (cj ?_)
  refine .block ?_
  have H2 := H.rowNil 114 3
  refine .loop (ι := CI) (fun x => [(0, .slice c.sA c.stacks.length c.sc), (3, x.v), (4, i64 (x.i : Int))]) (fun x w' => St w w' X [cs c, binsA c] [row x.v 114 3 x.l.length (x.l.flatMap encS), bagA x.l] ∧ x.i ≤ c.stacks.length ∧ x.l.length = x.i ∧ ∀ (i : Nat) (s t : Sk1), c.stacks[i]? = some s → x.l[i]? = some t → simS s t) (fun x => c.stacks.length - x.i) ⟨0, .slice none 0 0, []⟩ (by repeat (first | exact Pick.nil | refine Pick.cons rfl ?_)) ⟨(St.bag0 H2).sub (.cons (.there .here) (.cons .here .nil)), Nat.zero_le _, rfl, fun i s t _ ht => by cases ht⟩ ?_
  rintro x w5 ⟨H1, hi, hxl, hsim⟩
  refine .seq ?_
  refine .seq ?_
  refine .plain rfl ?_
  refine .q rfl rfl rfl (val_move rfl) ?_
  refine .q rfl rfl rfl (val_move rfl) ?_
  refine .q rfl rfl rfl (val_len Tryz.underlying24 rfl) ?_
  refine .q rfl rfl rfl (val_lss rfl rfl rfl) ?_
  refine .nil (cj ?_)
  refine .cond rfl (fun hc0 => ?_) (fun hc0 => ?_)
  · have hil : x.i < c.stacks.length := by simp only [decide_eq_true_eq] at hc0; omega
    obtain ⟨s, hs⟩ : ∃ s, c.stacks[x.i]? = some s := ⟨_, List.getElem?_eq_getElem hil⟩
    obtain ⟨b, o, hA⟩ := Has.base (.ro .here) H1 (nil_of_flat encS_len (by decide) hil)
    obtain ⟨HB, hnil⟩ := binsA_more (.there .here) H1 hs
    have hsb := hb s (List.mem_of_getElem? hs)
    refine .skip (cj ?_)
    refine .seq ?_
    refine .block ?_
    refine .drawS2 16 (.cons (0, true) (.cons (1, true) (.cons (2, true) (.cons (3, true) (.cons (4, true) (.cons (5, true) (.cons (6, true) (.cons (7, true) (.cons (8, true) (.cons (9, true) (.cons (10, true) (.cons (11, false) (.cons (12, true) (.cons (13, false) (.cons (14, false) (.cons (15, true) .nil)))))))))))))))) mo (by kernel_rfl) HB (.cons (.there .here) .nil) (fun _ _ _ _ _ h => h) (fun w3 H3 => ?_)
    refine .p rfl rfl rfl (val_move rfl) ?_
    refine .p rfl rfl rfl (val_move rfl) ?_
    refine .p rfl rfl rfl (val_move rfl) ?_
    refine .p rfl rfl rfl (val_ix el_24 hA rfl rfl rfl hil) ?_
    refine .p rfl rfl rfl (val_fieldAddr rfl fa_114_0) ?_
    refine .ps rfl rfl rfl rfl (ld_els rfl ag_38 (.add .base) hA (.ro (.there .here)) encS_len (by first | assumption | rfl) (by repeat constructor)) ?_
    refine .p rfl rfl rfl (val_move rfl) ?_
    refine .p rfl rfl rfl (val_move rfl) ?_
    refine .p rfl rfl rfl (val_ix el_24 hA rfl rfl rfl hil) ?_
    refine .p rfl rfl rfl (val_fieldAddr rfl fa_114_1) ?_
    refine .ps rfl rfl rfl rfl (ld_el rfl ob_27 (.add .base) hA (.ro (.there .here)) encS_len (by first | assumption | rfl) rfl) ?_
    refine .callx rfl rfl rfl en73 (.cons rfl .nil) (copyInts_spec _ _ _ (by omega) (by assumption)) H3 .nil (.ro .here .nil) (fun v4 w4 C4 H4 => ⟨fun _ => (H4.sub (.cons (.there (.there .here)) .nil)), ?_⟩)
    obtain ⟨A9, cap9, rfl, hn9, H5⟩ := St.rowOwn H4 .here
    refine .p rfl rfl rfl (val_mk (.cons rfl (.cons rfl .nil)) (mk_114_0_1 _ _ _ _ _)) ?_
    refine .lit rfl rfl rfl Tryz.underlying24 (.cons rfl .nil) (bs_114_1_0 _ _ _ _ _) H5 (fun w6 b6 H6 => ⟨fun _ => (H6.sub (.cons (.there (.there (.there .here))) .nil)), ?_⟩)
    refine .append rfl rfl rfl (ap_24) rfl rfl H6 (.there (.there .here)) (Has.srcBlk (.own .here) H6) rfl (by simp [Value.oneCell']) (by simp only [maxLen]; omega) (by first | omega | (dsimp only; omega)) (fun v7 w7 H7 => ⟨fun _ => (H7.sub (.cons (.there (.there (.there .here))) .nil)), ?_⟩)
    refine .p rfl rfl rfl (val_assign rfl) ?_
    refine .nil (cj ?_)
    have hsim' : ∀ (i : Nat) (s' t : Sk1), c.stacks[i]? = some s' → (x.l ++ [⟨s.x, s.y, A9, cap9, s.bins⟩])[i]? = some t → simS s' t := by
      intro i s' t hs' ht
      rcases Nat.lt_or_ge i x.l.length with h | h
      · rw [List.getElem?_append_left h] at ht; exact hsim i s' t hs' ht
      · have hi2 := (List.getElem?_eq_some_iff.1 ht).1
        rw [List.length_append, List.length_singleton] at hi2
        obtain rfl : i = x.i := by omega
        rw [← hxl, List.getElem?_append_right (Nat.le_refl _), Nat.sub_self] at ht
        obtain rfl := Option.some.inj ht
        obtain rfl := Option.some.inj (hs.symm.trans hs')
        exact ⟨rfl, rfl, rfl, hn9⟩
    refine .plain rfl ?_
    refine .q rfl rfl rfl (val_move rfl) ?_
    refine .q rfl rfl rfl (val_add rfl rfl (z := ((x.i + 1 : Nat) : Int)) (w64_of (by omega))) ?_
    refine .q rfl rfl rfl (val_assign rfl) ?_
    refine .nil ?_
    intro act0 hact0; change Exists _
    refine ⟨⟨x.i + 1, _, x.l ++ [⟨s.x, s.y, A9, cap9, s.bins⟩]⟩, Pick.kn (by repeat (first | exact Pick.nil | refine Pick.cons rfl ?_)) hact0, ⟨by rw [row_snocS]; exact (St.bag (s := ⟨s.x, s.y, A9, cap9, s.bins⟩) (H7.rest (.ro (.there .here) (.ro (.there (.there .here)) .nil))) (.there (.there (.there .here))) (.there (.there .here)) hn9).sub (.cons (.there .here) (.cons .here .nil)), hil, by rw [List.length_append, hxl]; rfl, hsim'⟩, (show c.stacks.length - (x.i + 1) < c.stacks.length - x.i by omega)⟩
  · refine .exit (cj ?_)
    refine .seq ?_
    refine .plain rfl ?_
    refine .q rfl rfl rfl (val_move rfl) ?_
    refine .q rfl rfl rfl (val_assign rfl) ?_
    refine .nil (cj ?_)
    refine .ret (fret (res1 rfl rfl) ?_)
    exact hRR _ _ ⟨_, ⟨⟨x.i, x.v, x.l⟩, rfl, rfl, by rw [hxl]; simp only [decide_eq_false_iff_not] at hc0; omega, hsim⟩, H1.sub (.cons .here (.cons .here .nil))⟩
/-- the same config, laid elsewhere -/
structure SimC (c c' : Cf) : Prop where
  eq : c' = { c with bA := c'.bA, bc := c'.bc, pA := c'.pA, pc := c'.pc, rA := c'.rA, rc := c'.rc, sA := c'.sA, sc := c'.sc, stacks := c'.stacks }
  len : c'.stacks.length = c.stacks.length
  st : ∀ (i : Nat) (s t : Sk1), c.stacks[i]? = some s → c'.stacks[i]? = some t → simS s t
  fit : c'.Fit
theorem one_encP {l : List Ps} : ∀ u ∈ l.flatMap encP, u.oneCell' = true := by
  intro u hu
  obtain ⟨b, _, hb⟩ := List.mem_flatMap.1 hu
  rcases (by simpa using hb : u = i64 b.x ∨ u = i64 b.y ∨ u = .bool b.d) with rfl | rfl | rfl <;> rfl
theorem sim_of {c : Cf} (hc : c.Fit) (hsb : ∀ s ∈ c.stacks, s.bins.length ≤ 1000) {A1 A2 A3 A4 : Option Addr} {cap1 cap2 cap3 cap4 : Nat} {l : List Sk1} (h1 : A1 = none → 0 + c.blocked.length = 0 ∧ cap1 = 0) (h2 : A2 = none → 0 + c.ports.length = 0 ∧ cap2 = 0) (h3 : A3 = none → 0 + c.robots.length = 0 ∧ cap3 = 0)
    (h4 : A4 = none → l.length = 0 ∧ cap4 = 0) (hl : l.length = c.stacks.length) (hs : ∀ (i : Nat) (s t : Sk1), c.stacks[i]? = some s → l[i]? = some t → simS s t) : SimC c { c with bA := A1, bc := cap1, pA := A2, pc := cap2, rA := A3, rc := cap3, sA := A4, sc := cap4, stacks := l } where
  eq := rfl
  len := hl
  st := hs
  fit := by
    refine ⟨hc.b, hc.p, hc.r, ?_, fun t ht => ?_, fun h => ?_, fun h => ?_, fun h => ?_, h4⟩
    · show l.length ≤ maxLen
      rw [hl]; exact hc.s
    · obtain ⟨i, hi⟩ := List.getElem?_of_mem ht
      have hil := (List.getElem?_eq_some_iff.1 hi).1
      have h5 := hs i c.stacks[i] t (List.getElem?_eq_getElem (by rw [← hl]; exact hil)) hi
      have h6 := hsb c.stacks[i] (List.getElem_mem _)
      rw [h5.2.2.1]
      simp only [maxLen]; omega
    · have := h1 h; simpa using this
    · have := h2 h; simpa using this
    · have := h3 h; simpa using this
theorem copyConf_spec (c : Cf) (hc : c.Fit) (hm : MayOk c) : Sk.Spec Tryz.prog 12 #[.agg (encCf c).toArray] [cb c, cp c, cr c, cs c, binsA c] [] fun e F' => ∃ c' : Cf, e = .returned (.agg (encCf c').toArray) ∧ F' = [cb c', cp c', cr c', cs c', binsA c'] ∧ SimC c c' := by
  have hbl := hm.bl
  have hpl := hm.pl
  have hrl := hm.rl
  have hbn := hc.bn
  have hpn := hc.pn
  have hrn := hc.rn
  have hsb : ∀ s ∈ c.stacks, s.bins.length ≤ 1000 := fun s hs => by
    obtain ⟨i, hi⟩ := List.getElem?_of_mem hs
    have h1 := (hm.bins.st i s hi).2
    have h2 := hm.num.height
    omega
  have hsl : c.stacks.length ≤ 1000 := by
    have h := nodup_lt (area c) (c.stacks.map fun s => numI c ⟨s.x, s.y⟩) (by
      refine List.pairwise_map.2 (List.pairwise_iff_getElem.2 fun i j hi hj hij e => ?_)
      have h1 := List.getElem?_eq_getElem hi
      have h2 := List.getElem?_eq_getElem hj
      have hin : ∀ (i : Nat) (s : Sk1), c.stacks[i]? = some s → inR c s.x s.y = true := fun i s hs => by
        have h9 := (hm.bins.st i s hs).1
        simp only [stackedR, Bool.and_eq_true] at h9
        exact openR_in h9.1.1.1
      exact hm.bins.apart j i _ _ hij h2 h1 (numI_inj (hin _ _ h1) (hin _ _ h2) e)) (by
      intro x hx
      obtain ⟨s, hs, rfl⟩ := List.mem_map.1 hx
      obtain ⟨i, hi⟩ := List.getElem?_of_mem hs
      have h9 := (hm.bins.st i s hi).1
      simp only [stackedR, Bool.and_eq_true] at h9
      exact (numI_lt hm.num (openR_in h9.1.1.1)).1)
    rw [List.length_map] at h
    have := (area_le hm.num).2.1
    omega
  refine Spec.of_code (vs := [_]) (k0 := [(0, _)]) 20 Tryz.func12 rfl Tryz.ntmps12 rfl (.cons .nil) fun w X RR hRR H => ?_
  refine .seq ?_
  refine .plain rfl ?_
  refine .box rfl rfl rfl rfl rfl H (fun w1 b1 H1 => ⟨fun _ => trivial, ?_⟩)
  refine .alloc rfl rfl rfl ze_26 rfl H1 (fun w2 b2 H2 => ⟨fun _ => trivial, ?_⟩)
  refine .nil (cj ?_)
  refine .seq ?_
  refine .plain rfl ?_
  refine .q rfl rfl rfl (val_fieldAddr rfl fa_26_3) ?_
  refine .qs rfl rfl rfl H2 (ld_b rfl ob_22 (.own (.there .here)) rfl) ?_
  have H3 := H2.rowNil 38 2
  refine .append rfl rfl rfl (ap_22) rfl rfl H3 .here (Has.srcArr (.ro .here) hbn H3) (flat_len encC_len _) one_encC (by simp only [maxLen]; omega) (by first | omega | (dsimp only; omega)) (fun v4 w4 H4 => ⟨fun _ => trivial, ?_⟩)
  obtain ⟨A1, cap1, rfl, hn1, H5⟩ := St.rowOwn H4 .here
  refine .q rfl rfl rfl (val_fieldAddr rfl fa_26_3) ?_
  refine .store rfl rfl rfl rfl rfl sz_22 rfl H5 (.there (.there .here)) (by repeat constructor) (fun w6 H6 => ⟨fun _ => trivial, ?_⟩)
  refine .nil (cj ?_)
  refine .seq ?_
  refine .plain rfl ?_
  refine .q rfl rfl rfl (val_fieldAddr rfl fa_26_4) ?_
  refine .qs rfl rfl rfl H6 (ld_b rfl ob_22 (.own .here) rfl) ?_
  have H7 := H6.rowNil 38 2
  refine .append rfl rfl rfl (ap_22) rfl rfl H7 .here (Has.srcArr (.ro (.there .here)) hpn H7) (flat_len encC_len _) one_encC (by simp only [maxLen]; omega) (by first | omega | (dsimp only; omega)) (fun v8 w8 H8 => ⟨fun _ => trivial, ?_⟩)
  obtain ⟨A2, cap2, rfl, hn2, H9⟩ := St.rowOwn H8 .here
  refine .q rfl rfl rfl (val_fieldAddr rfl fa_26_4) ?_
  refine .store rfl rfl rfl rfl rfl sz_22 rfl H9 (.there .here) (by repeat constructor) (fun w10 H10 => ⟨fun _ => trivial, ?_⟩)
  refine .nil (cj ?_)
  refine .seq ?_
  refine .plain rfl ?_
  refine .q rfl rfl rfl (val_fieldAddr rfl fa_26_5) ?_
  refine .qs rfl rfl rfl H10 (ld_b rfl ob_23 (.own .here) rfl) ?_
  have H11 := H10.rowNil 40 3
  refine .append rfl rfl rfl (ap_23) rfl rfl H11 .here (Has.srcArr (.ro (.there (.there .here))) hrn H11) (flat_len encP_len _) one_encP (by simp only [maxLen]; omega) (by first | omega | (dsimp only; omega)) (fun v12 w12 H12 => ⟨fun _ => trivial, ?_⟩)
  obtain ⟨A3, cap3, rfl, hn3, H13⟩ := St.rowOwn H12 .here
  refine .q rfl rfl rfl (val_fieldAddr rfl fa_26_5) ?_
  refine .store rfl rfl rfl rfl rfl sz_23 rfl H13 (.there .here) (by repeat constructor) (fun w14 H14 => ⟨fun _ => trivial, ?_⟩)
  refine .nil (cj ?_)
  refine .seq ?_
  refine .plain rfl ?_
  refine .q rfl rfl rfl (val_fieldAddr rfl fa_26_6) ?_
  refine .qs rfl rfl rfl H14 (ld_b rfl ob_24 (.own .here) rfl) ?_
  refine .callx rfl rfl rfl en38 (.cons rfl .nil) (copyStacks_spec c hc hsl hsb) H14 .nil (.ro (.there (.there (.there .here))) (.ro (.there (.there (.there (.there .here)))) .nil)) (fun x9 w15 C9 H15 => ⟨fun _ => trivial, ?_⟩)
  obtain ⟨A4, cap4, hv4, hn4, H16⟩ := St.rowOwn H15 .here
  rw [hv4]
  refine .q rfl rfl rfl (val_fieldAddr rfl fa_26_6) ?_
  refine .store rfl rfl rfl rfl rfl sz_24 rfl H16 (.there (.there .here)) (by repeat constructor) (fun w17 H17 => ⟨fun _ => trivial, ?_⟩)
  refine .nil (cj ?_)
  refine .seq ?_
  refine .plain rfl ?_
  refine .qs rfl rfl rfl H17 (ld_w rfl ag_26 (.own .here) rfl) ?_
  refine .store rfl rfl rfl rfl rfl sz_26 rfl H17 (.there (.there (.there (.there (.there (.there .here)))))) (by repeat constructor) (fun w18 H18 => ⟨fun _ => trivial, ?_⟩)
  refine .nil (cj ?_)
  refine .ret (fret (resc rfl rfl (lds_w ag_26 (.own .here) rfl H18)) ?_)
  refine hRR _ _ ⟨_, ⟨{ c with bA := A1, bc := cap1, pA := A2, pc := cap2, rA := A3, rc := cap3, sA := A4, sc := cap4, stacks := x9.l }, ?_, rfl, ?_⟩, ?_⟩
  · simp only [Nat.zero_add]
  · exact sim_of hc hsb hn1 hn2 hn3 hn4 C9.1 C9.2
  · exact H18.sub (.cons (.there (.there (.there (.there (.there (.there .here)))))) (.cons (.there (.there (.there (.there (.there .here))))) (.cons (.there (.there (.there (.there .here)))) (.cons (.there (.there .here)) (.cons (.there (.there .here)) .nil)))))
end Go.Proofs.YtmbibkifbehgnaaGreatDoor
namespace Go.Proofs.YtmbibkifbehgnaaGreatDoor
open Go Sk
set_option linter.unusedVariables false
set_option linter.unusedSimpArgs false
theorem flat_sim {l l' : List Sk1} (hl : l'.length = l.length) (hs : ∀ (i : Nat) (s t : Sk1), l[i]? = some s → l'[i]? = some t → simS s t) : l'.flatMap (·.bins) = l.flatMap (·.bins) := by
  induction l generalizing l' with
  | nil =>
    obtain rfl : l' = [] := List.eq_nil_of_length_eq_zero (by simpa using hl)
    rfl
  | cons s l ih =>
    cases l' with
    | nil => simp at hl
    | cons t l' =>
      have h0 := (hs 0 s t rfl rfl).2.2.1
      rw [List.flatMap_cons, List.flatMap_cons, h0, ih (by simpa using hl) fun i a b ha hb => hs (i + 1) a b (by simpa using ha) (by simpa using hb)]
theorem MayOk.sim {c c' : Cf} (h : SimC c c') (hm : MayOk c) : MayOk c' := by
  obtain ⟨e, hl, hs, hf⟩ := h
  have num : NumOk c' := by rw [e]; exact ⟨hm.num.w, hm.num.h, hm.num.height, hm.num.unit, hm.num.accel, hm.num.speed, hm.num.turn, hm.num.hoist, hm.num.resend, hm.num.queue, hm.num.budget⟩
  have back : ∀ (i : Nat) (t : Sk1), c'.stacks[i]? = some t → ∃ s, c.stacks[i]? = some s ∧ simS s t := fun i t ht => by
    have hi := (List.getElem?_eq_some_iff.1 ht).1
    have h1 := List.getElem?_eq_getElem (l := c.stacks) (i := i) (by rw [← hl]; exact hi)
    exact ⟨_, h1, hs i _ t h1 ht⟩
  have hfl := flat_sim hl hs
  have hst : ∀ x y, stackedR c' x y = stackedR c x y := fun x y => by rw [e]; rfl
  have hh : c'.height = c.height := by rw [e]
  have bins : BinsOk c' := by
    refine ⟨fun i t ht => ?_, fun i k t u hk ht hu => ?_, ?_, ?_, ?_⟩
    · obtain ⟨s, h1, h2, h3, h4, _⟩ := back i t ht
      rw [hst, h2, h3, h4, hh]
      exact hm.bins.st i s h1
    · obtain ⟨s, h1, h2, h3, h4, _⟩ := back i t ht
      obtain ⟨s', h1', h2', h3', h4', _⟩ := back k u hu
      rw [h2, h3, h2', h3']
      exact hm.bins.apart i k s s' hk h1 h1'
    · rw [hfl]; exact hm.bins.few
    · rw [hfl]; exact hm.bins.num
    · rw [hfl]; exact hm.bins.twice
  have e1 : c'.blocked = c.blocked := by rw [e]
  have e2 : c'.ports = c.ports := by rw [e]
  have e3 : c'.robots = c.robots := by rw [e]
  have hin : ∀ x y, inR c' x y = inR c x y := fun x y => by rw [e]; rfl
  have hho : ∀ x y, homeR c' x y = homeR c x y := fun x y => by rw [e]; rfl
  have hbe : ∀ x y, besideR c' x y = besideR c x y := fun x y => by rw [e]; rfl
  have hfi : ∀ p, fitsR c' p = fitsR c p := fun p => by rw [e]; rfl
  refine ⟨num, by rw [e1]; exact hm.bl, by rw [e2]; exact hm.pl, by rw [e3]; exact hm.rl, ?_, ?_, ?_, ?_, bins⟩
  · intro i x hx; rw [e1] at hx ⊢; rw [e2, hin]; exact hm.blocked i x hx
  · intro i x hx; rw [e2] at hx ⊢; rw [hin, hho, hbe]; exact hm.ports i x hx
  · intro i x hx; rw [e3] at hx; rw [hfi]; exact hm.robots i x hx
  · intro i x hx; rw [e3] at hx ⊢; exact hm.cells i x hx
end Go.Proofs.YtmbibkifbehgnaaGreatDoor
namespace Go.Proofs.YtmbibkifbehgnaaGreatDoor
open Go Sk
set_option linter.unusedVariables false
set_option linter.unusedSimpArgs false
theorem en36 : Enters Tryz.prog 36 := fun args w => by kernel_rfl
theorem en37 : Enters Tryz.prog 37 := fun args w => by kernel_rfl
theorem mk_130_0_1_2 (x0_ : Int) (x1_ : Int) (x2_ : Int) : Tryz.prog.built 130 [(0, .int .i64 x0_), (1, .int .i64 x1_), (2, .int .i64 x2_)] = some (List.toArray [.int .i64 x0_, .int .i64 x1_, .int .i64 x2_]) := by kernel_rfl
theorem mk_147_0_1_2 (x0_ : Int) (x1_ : Int) (x2_ : Int) : Tryz.prog.built 147 [(0, .int .i64 x0_), (1, .int .i64 x1_), (2, .int .i64 x2_)] = some (List.toArray [.int .i64 x0_, .int .i64 x1_, .int .i64 x2_, .int .u32 0, .int .i32 0, .int .u32 0, .slice none 0 0, .int .u32 0, .int .i32 0, .int .u32 0, .slice none 0 0, .int .u32 0, .int .i32 0, .int .u32 0, .slice none 0 0, .int .u32 0, .int .i32 0, .int .u32 0, .slice none 0 0, .int .u32 0, .int .i32 0, .int .u32 0, .slice none 0 0, .int .u32 0, .int .i32 0, .int .u32 0, .slice none 0 0, .int .u32 0, .int .i32 0, .int .u32 0, .slice none 0 0, .int .u32 0, .int .i32 0, .int .u32 0, .slice none 0 0, .int .u32 0, .int .i32 0, .int .u32 0, .slice none 0 0, .int .u32 0, .int .i32 0, .int .u32 0, .slice none 0 0, .int .u32 0, .int .i32 0, .int .u32 0, .slice none 0 0, .int .u32 0, .int .i32 0, .int .u32 0, .slice none 0 0, .int .u32 0, .int .i32 0, .int .u32 0, .slice none 0 0, .int .u32 0, .int .i32 0, .int .u32 0, .slice none 0 0, .int .u32 0, .int .i32 0, .int .u32 0, .slice none 0 0, .int .u32 0, .int .i32 0, .int .u32 0, .slice none 0 0, .int .u32 0, .int .i32 0, .int .u32 0, .slice none 0 0]) := by kernel_rfl
theorem mk_92_0_1_2_3 (x0_ : Int) (x1_ : Option Addr) (x2_ : Option Addr) (x3_0_0_ : Int) (x3_0_1_ : Int) (x3_1_ : Bool) : Tryz.prog.built 92 [(0, .int .i64 x0_), (1, .pointer x1_), (2, .pointer x2_), (3, .agg (List.toArray [.int .i64 x3_0_0_, .int .i64 x3_0_1_, .bool x3_1_]))] = some (List.toArray [.int .i64 x0_, .pointer x1_, .pointer x2_, .int .i64 x3_0_0_, .int .i64 x3_0_1_, .bool x3_1_, .int .i64 0, .int .i64 0, .int .i64 0, .pointer none, .bool false, .int .i64 0]) := by kernel_rfl
theorem idx3 {nt : NT} {k : L} {X Y : Operand} {vs : List Value} {j : Nat} {q : IntKind} {v : Value} (hx : ev k X = some (.agg vs.toArray)) (hy : ev k Y = some (.int q (j : Int))) (hj : j < 3) (hv : vs[j]? = some v) : Val Tryz.prog nt k (.index 130 X Y) v := fun a ha d ty pos af g w => by
  have hu : Tryz.prog.underlying 130 = some (.array 3 3) := Tryz.underlying130
  have h1 : (sizeOf 3).run Tryz.prog w = .ok 1 w := by kernel_rfl
  have h2 : (isAgg 3).run Tryz.prog w = .ok false w := by kernel_rfl
  have h0 : (0 : Int) ≤ (j : Int) ∧ (j : Int) < (3 : Int) := by omega
  have hp : (part 3 vs.toArray (j * 1)).run Tryz.prog w = .ok v w := by
    simp [part, h2, hv, go_sem]
  simp only [execOp, ha.ev hx, ha.ev hy, Sem.run_bind, Instr.index, asIntOf, Sem.run_pure, Result.andThen_ok, run_underlying hu]
  simp only [Int.toNat_natCast]
  have h0' : (0 : Int) ≤ (j : Int) ∧ (j : Int) < ((3 : Nat) : Int) := by omega
  simp only [if_pos h0', Sem.run_bind, h1, Result.andThen_ok, hp]
abbrev runZ : List Value := [.int .u32 0, .int .i32 0, .int .u32 0, .slice none 0 0]
/-- a Kin of which no run was reckoned -/
abbrev kin0 (u a s : Int) : List Value := i64 u :: i64 a :: i64 s :: (List.replicate 17 runZ).flatten
theorem kinNew_spec (u a s : Int) (hu : 1 ≤ u ∧ u ≤ 1000) (ha : 1 ≤ a ∧ a ≤ 1000) (hs : 1 ≤ s ∧ s ≤ 1000) : Sk.Spec Tryz.prog 37 #[i64 u, i64 a, i64 s] [] [] fun e F' => ∃ b : Nat, e = .returned (.tuple #[ptr b, i64 0]) ∧ F' = [blk b (kin0 u a s) 147] ∧ True := by
  refine Spec.of_code (vs := [_, _, _]) (k0 := [(0, _), (1, _), (2, _)]) 29 Tryz.func37 rfl Tryz.ntmps37 rfl (.cons (.cons (.cons .nil))) fun w X RR hRR H => ?_
  refine .seq ?_
  refine .plain rfl ?_
  refine .q rfl rfl rfl (val_assign rfl) ?_
  refine .q rfl rfl rfl (val_assign rfl) ?_
  refine .nil (cj ?_)
  refine .seq ?_
  refine .seq ?_
  refine .plain rfl ?_
  refine .q rfl rfl rfl (val_move rfl) ?_
  refine .q rfl rfl rfl (val_move rfl) ?_
  refine .q rfl rfl rfl (val_move rfl) ?_
  refine .q rfl rfl rfl (val_mk (.cons rfl (.cons rfl (.cons rfl .nil))) (mk_130_0_1_2 _ _ _)) ?_
  refine .q rfl rfl rfl (val_move rfl) ?_
  refine .nil (cj ?_)
  refine .block ?_
  refine .loop (ι := Nat) (fun j => [(0, i64 u), (1, i64 a), (2, i64 s), (13, .agg (List.toArray [i64 u, i64 a, i64 s])), (14, i64 (j : Int))]) (fun j w' => St w w' X [] [] ∧ j ≤ 3) (fun j => 3 - j) 0 (by repeat (first | exact Pick.nil | refine Pick.cons rfl ?_)) ⟨H, Nat.zero_le _⟩ ?_
  rintro j w5 ⟨H1, hj⟩
  refine .seq ?_
  refine .plain rfl ?_
  refine .q rfl rfl rfl (val_lss rfl rfl rfl) ?_
  refine .nil (cj ?_)
  refine .seq ?_
  refine .cond rfl (fun hc0 => ?_) (fun hc0 => ?_)
  · have hjl : j < 3 := by have h9 := of_decide_eq_true hc0; omega
    obtain ⟨v, hv, hv1, hv2⟩ : ∃ v : Int, [i64 u, i64 a, i64 s][j]? = some (i64 v) ∧ 1 ≤ v ∧ v ≤ 1000 := by
      match j, hjl with
      | 0, _ => exact ⟨u, rfl, hu⟩
      | 1, _ => exact ⟨a, rfl, ha⟩
      | 2, _ => exact ⟨s, rfl, hs⟩
    refine .skip (cj ?_)
    refine .seq ?_
    refine .block ?_
    refine .seq ?_
    refine .plain rfl ?_
    refine .q rfl rfl rfl (idx3 rfl rfl hjl hv) ?_
    refine .q rfl rfl rfl (val_assign rfl) ?_
    refine .nil (cj ?_)
    refine .seq ?_
    refine .plain rfl ?_
    refine .q rfl rfl rfl (val_move rfl) ?_
    refine .q rfl rfl rfl (val_lss rfl rfl rfl) ?_
    refine .q rfl rfl rfl (val_move rfl) ?_
    refine .case (t := 19) rfl (fun hs19 => ?_) (fun hs19 => ?_)
    · exfalso; have h9 := of_decide_eq_true hs19; omega
    · refine .q rfl rfl rfl (val_move rfl) ?_
      refine .q rfl rfl rfl (val_gtr rfl rfl rfl) ?_
      refine .q rfl rfl rfl (val_pick_f rfl rfl) ?_
      refine .nil (cj ?_)
      refine .cond rfl (fun hc1 => ?_) (fun hc1 => ?_)
      · exfalso; have h9 := of_decide_eq_true hc1; omega
      · refine .skip (cj ?_)
        refine .plain rfl ?_
        refine .q rfl rfl rfl (val_add rfl rfl (z := ((j + 1 : Nat) : Int)) (w64_of (by omega))) ?_
        refine .q rfl rfl rfl (val_move rfl) ?_
        refine .nil ?_
        intro act0 hact0; change Exists _
        refine ⟨(j + 1), Pick.kn (by repeat (first | exact Pick.nil | refine Pick.cons rfl ?_)) hact0, ⟨H1, hjl⟩, (by omega)⟩
  · refine .exit (cj ?_)
    refine .seq ?_
    refine .plain rfl ?_
    refine .q rfl rfl rfl (val_move rfl) ?_
    refine .q rfl rfl rfl (val_move rfl) ?_
    refine .q rfl rfl rfl (val_move rfl) ?_
    refine .q rfl rfl rfl (val_mk (.cons rfl (.cons rfl (.cons rfl .nil))) (mk_147_0_1_2 _ _ _)) ?_
    refine .box rfl rfl rfl rfl rfl H1 (fun w2 b2 H2 => ⟨fun _ => trivial, ?_⟩)
    refine .q rfl rfl rfl (val_assign rfl) ?_
    refine .q rfl rfl rfl (val_assign rfl) ?_
    refine .nil (cj ?_)
    refine .ret (fret (res2 rfl rfl rfl) ?_)
    exact hRR _ _ ⟨_, ⟨_, rfl, rfl, trivial⟩, H2.sub (.cons .here .nil)⟩
structure Gg where
  move : Mv
  t : Int
  left : Int
  cut : Bool
abbrev encG (g : Gg) : List Value := encM g.move ++ [i64 g.t, i64 g.left, .bool g.cut]
structure Rb where
  i : Int
  pose : Ps
  load : Int
  epoch : Int
  num : Int
  stopping : Bool
  delay : Int
abbrev encR (r : Rb) (bg bk : Nat) (u : Option Addr) : List Value := [i64 r.i, ptr bg, ptr bk, i64 r.pose.x, i64 r.pose.y, .bool r.pose.d, i64 r.load, i64 r.epoch, i64 r.num, .pointer u, .bool r.stopping, i64 r.delay]
structure RN where
  br : Nat
  bg : Nat
  bk : Nat
  bn : Nat
theorem robotNew_spec (c : Cf) (hc : c.Fit) (hm : MayOk c) (i : Nat) (p : Ps) (hp : c.robots[i]? = some p) : Sk.Spec Tryz.prog 11 #[.agg (encCf c).toArray, i64 (i : Int)] [cb c, cp c, cr c, cs c, binsA c, stepsA] []
    fun e F' => ∃ x : RN, e = .returned (.tuple #[ptr x.br, i64 0]) ∧ F' = [blk x.br (encR ⟨i, p, 0, 0, 0, false, 0⟩ x.bg x.bn none) 92, gfix c x.bg x.bk, kblk x.bk (KF c), blk x.bn (kin0 c.unit c.accel c.speed) 147] ∧ True := by
  have hil := (List.getElem?_eq_some_iff.1 hp).1
  refine Spec.of_code (vs := [_, _]) (k0 := [(0, _), (1, _)]) 47 Tryz.func11 rfl Tryz.ntmps11 rfl (.cons (.cons .nil)) fun w X RR hRR H => ?_
  refine .seq ?_
  refine .plain rfl ?_
  refine .box rfl rfl rfl rfl rfl H (fun w1 b1 H1 => ⟨fun _ => trivial, ?_⟩)
  refine .q rfl rfl rfl (val_assign rfl) ?_
  refine .q rfl rfl rfl (val_assign rfl) ?_
  refine .nil (cj ?_)
  refine .seq ?_
  refine .plain rfl ?_
  refine .qs rfl rfl rfl H1 (ld_w rfl ag_26 (.own .here) rfl) ?_
  refine .callx rfl rfl rfl en36 (.cons rfl .nil) (gnew_spec c hc hm) H1 .nil (.ro .here (.ro (.there .here) (.ro (.there (.there .here)) (.ro (.there (.there (.there .here))) (.ro (.there (.there (.there (.there .here)))) (.ro (.there (.there (.there (.there (.there .here))))) .nil)))))) (fun x2 w2 C2 H2 => ⟨fun _ => trivial, ?_⟩)
  refine .q rfl rfl rfl (val_move rfl) ?_
  refine .q rfl rfl rfl (val_extract rfl rfl) ?_
  refine .q rfl rfl rfl (val_extract rfl rfl) ?_
  refine .q rfl rfl rfl (val_assign rfl) ?_
  refine .q rfl rfl rfl (val_assign rfl) ?_
  refine .nil (cj ?_)
  refine .seq ?_
  refine .seq ?_
  refine .plain rfl ?_
  refine .q rfl rfl rfl (val_move rfl) ?_
  refine .q rfl rfl rfl (val_neq rfl rfl rfl) ?_
  refine .nil (cj ?_)
  refine .cond rfl (fun hc0 => ?_) (fun hc0 => ?_)
  · exfalso; simp at hc0
  · refine .skip (cj ?_)
    refine .seq ?_
    refine .seq ?_
    refine .plain rfl ?_
    refine .q rfl rfl rfl (val_move rfl) ?_
    refine .q rfl rfl rfl (val_lss rfl rfl rfl) ?_
    refine .q rfl rfl rfl (val_move rfl) ?_
    refine .case (t := 20) rfl (fun hs20 => ?_) (fun hs20 => ?_)
    · exfalso; simp at hs20; omega
    · refine .q rfl rfl rfl (val_move rfl) ?_
      refine .q rfl rfl rfl (val_fieldAddr rfl fa_26_5) ?_
      refine .qs rfl rfl rfl H2 (ld_b rfl ob_23 (.own (.there (.there .here))) rfl) ?_
      refine .q rfl rfl rfl (val_len Tryz.underlying23 rfl) ?_
      refine .q rfl rfl rfl (val_geq rfl rfl rfl) ?_
      refine .q rfl rfl rfl (val_pick_f rfl rfl) ?_
      refine .nil (cj ?_)
      refine .cond rfl (fun hc1 => ?_) (fun hc1 => ?_)
      · exfalso; simp at hc1; omega
      · refine .skip (cj ?_)
        refine .seq ?_
        obtain ⟨b, o, hA⟩ := Has.base (.ro (.there (.there .here))) H2 (nil_of_flat encP_len (by decide) hil)
        refine .plain rfl ?_
        refine .q rfl rfl rfl (val_fieldAddr rfl fa_26_7) ?_
        refine .qs rfl rfl rfl H2 (ld_b rfl ob_3 (.own (.there (.there .here))) rfl) ?_
        refine .q rfl rfl rfl (val_fieldAddr rfl fa_26_8) ?_
        refine .qs rfl rfl rfl H2 (ld_b rfl ob_3 (.own (.there (.there .here))) rfl) ?_
        refine .q rfl rfl rfl (val_fieldAddr rfl fa_26_9) ?_
        refine .qs rfl rfl rfl H2 (ld_b rfl ob_3 (.own (.there (.there .here))) rfl) ?_
        refine .callx rfl rfl rfl en37 (.cons rfl (.cons rfl (.cons rfl .nil))) (kinNew_spec _ _ _ hm.num.unit hm.num.accel hm.num.speed) H2 .nil .nil (fun b3 w3 C3 H3 => ⟨fun _ => trivial, ?_⟩)
        refine .q rfl rfl rfl (val_move rfl) ?_
        refine .q rfl rfl rfl (val_extract rfl rfl) ?_
        refine .q rfl rfl rfl (val_extract rfl rfl) ?_
        refine .q rfl rfl rfl (val_assign rfl) ?_
        refine .q rfl rfl rfl (val_assign rfl) ?_
        refine .nil (cj ?_)
        refine .seq ?_
        refine .plain rfl ?_
        refine .q rfl rfl rfl (val_move rfl) ?_
        refine .q rfl rfl rfl (val_move rfl) ?_
        refine .q rfl rfl rfl (val_move rfl) ?_
        refine .q rfl rfl rfl (val_fieldAddr rfl fa_26_5) ?_
        refine .qs rfl rfl rfl H3 (ld_b rfl ob_23 (.own (.there (.there (.there .here)))) rfl) ?_
        refine .q rfl rfl rfl (val_move rfl) ?_
        refine .q rfl rfl rfl (val_ix el_23 hA rfl rfl rfl hil) ?_
        refine .qs rfl rfl rfl H3 (ld_ela rfl ag_40 .base hA (.ro (.there (.there .here))) encP_len (by first | assumption | rfl)) ?_
        refine .q rfl rfl rfl (val_mk (.cons rfl (.cons rfl (.cons rfl (.cons rfl .nil)))) (mk_92_0_1_2_3 _ _ _ _ _ _)) ?_
        refine .box rfl rfl rfl rfl rfl H3 (fun w4 b4 H4 => ⟨fun _ => trivial, ?_⟩)
        refine .q rfl rfl rfl (val_assign rfl) ?_
        refine .q rfl rfl rfl (val_assign rfl) ?_
        refine .nil (cj ?_)
        refine .ret (fret (res2 rfl rfl rfl) ?_)
        exact hRR _ _ ⟨_, ⟨⟨_, _, _, _⟩, rfl, rfl, trivial⟩, H4.sub (.cons .here (.cons (.there .here) (.cons (.there .here) (.cons .here .nil))))⟩
end Go.Proofs.YtmbibkifbehgnaaGreatDoor
namespace Go.Proofs.YtmbibkifbehgnaaGreatDoor
open Go Sk
set_option linter.unusedVariables false
set_option linter.unusedSimpArgs false
theorem fa_92_0 (b o : Nat) (w : World) : (Instr.fieldAt 92 (.pointer (some ⟨b, o, none⟩)) 0).run Tryz.prog w = .ok (.pointer (some ⟨b, o + 0, none⟩)) w := by kernel_rfl
theorem fa_92_3 (b o : Nat) (w : World) : (Instr.fieldAt 92 (.pointer (some ⟨b, o, none⟩)) 3).run Tryz.prog w = .ok (.pointer (some ⟨b, o + 3, none⟩)) w := by kernel_rfl
theorem fa_92_4 (b o : Nat) (w : World) : (Instr.fieldAt 92 (.pointer (some ⟨b, o, none⟩)) 4).run Tryz.prog w = .ok (.pointer (some ⟨b, o + 6, none⟩)) w := by kernel_rfl
theorem fa_92_5 (b o : Nat) (w : World) : (Instr.fieldAt 92 (.pointer (some ⟨b, o, none⟩)) 5).run Tryz.prog w = .ok (.pointer (some ⟨b, o + 7, none⟩)) w := by kernel_rfl
theorem fa_92_6 (b o : Nat) (w : World) : (Instr.fieldAt 92 (.pointer (some ⟨b, o, none⟩)) 6).run Tryz.prog w = .ok (.pointer (some ⟨b, o + 8, none⟩)) w := by kernel_rfl
theorem fa_92_7 (b o : Nat) (w : World) : (Instr.fieldAt 92 (.pointer (some ⟨b, o, none⟩)) 7).run Tryz.prog w = .ok (.pointer (some ⟨b, o + 9, none⟩)) w := by kernel_rfl
theorem fa_92_8 (b o : Nat) (w : World) : (Instr.fieldAt 92 (.pointer (some ⟨b, o, none⟩)) 8).run Tryz.prog w = .ok (.pointer (some ⟨b, o + 10, none⟩)) w := by kernel_rfl
theorem fa_92_9 (b o : Nat) (w : World) : (Instr.fieldAt 92 (.pointer (some ⟨b, o, none⟩)) 9).run Tryz.prog w = .ok (.pointer (some ⟨b, o + 11, none⟩)) w := by kernel_rfl
theorem fa_156_0 (b o : Nat) (w : World) : (Instr.fieldAt 156 (.pointer (some ⟨b, o, none⟩)) 0).run Tryz.prog w = .ok (.pointer (some ⟨b, o + 0, none⟩)) w := by kernel_rfl
theorem fa_156_1 (b o : Nat) (w : World) : (Instr.fieldAt 156 (.pointer (some ⟨b, o, none⟩)) 1).run Tryz.prog w = .ok (.pointer (some ⟨b, o + 11, none⟩)) w := by kernel_rfl
theorem fa_156_2 (b o : Nat) (w : World) : (Instr.fieldAt 156 (.pointer (some ⟨b, o, none⟩)) 2).run Tryz.prog w = .ok (.pointer (some ⟨b, o + 12, none⟩)) w := by kernel_rfl
theorem bs_44_1_0 (x0_0_ : Int) (x0_1_ : Int) (x0_2_ : Int) (x0_3_ : Int) (x0_4_0_ : Int) (x0_4_1_ : Int) (x0_4_2_ : Int) (x0_4_3_0_0_ : Int) (x0_4_3_0_1_ : Int) (x0_4_3_1_ : Bool) (x0_4_4_0_0_ : Int) (x0_4_4_0_1_ : Int) (x0_4_4_1_ : Bool) (x0_4_5_ : Int) (x0_4_6_ : Int) (x0_5_0_0_ : Int) (x0_5_0_1_ : Int) (x0_5_1_ : Bool) (x0_6_ : Int) : Tryz.prog.builtSlice 44 1 [(0, .agg (List.toArray [.int .i64 x0_0_, .int .i64 x0_1_, .int .i64 x0_2_, .int .i64 x0_3_, .int .i64 x0_4_0_, .int .i64 x0_4_1_, .int .i64 x0_4_2_, .int .i64 x0_4_3_0_0_, .int .i64 x0_4_3_0_1_, .bool x0_4_3_1_, .int .i64 x0_4_4_0_0_, .int .i64 x0_4_4_0_1_, .bool x0_4_4_1_, .int .i64 x0_4_5_, .int .i64 x0_4_6_, .int .i64 x0_5_0_0_, .int .i64 x0_5_0_1_, .bool x0_5_1_, .int .i64 x0_6_]))] = some (List.toArray [.int .i64 x0_0_, .int .i64 x0_1_, .int .i64 x0_2_, .int .i64 x0_3_, .int .i64 x0_4_0_, .int .i64 x0_4_1_, .int .i64 x0_4_2_, .int .i64 x0_4_3_0_0_, .int .i64 x0_4_3_0_1_, .bool x0_4_3_1_, .int .i64 x0_4_4_0_0_, .int .i64 x0_4_4_0_1_, .bool x0_4_4_1_, .int .i64 x0_4_5_, .int .i64 x0_4_6_, .int .i64 x0_5_0_0_, .int .i64 x0_5_0_1_, .bool x0_5_1_, .int .i64 x0_6_]) := by kernel_rfl
theorem mk_42_  : Tryz.prog.built 42 [] = some (List.toArray [.int .i64 0, .int .i64 0, .int .i64 0, .int .i64 0, .int .i64 0, .bool false, .int .i64 0, .int .i64 0, .bool false, .int .i64 0, .int .i64 0]) := by kernel_rfl
theorem mk_44_0_1_2_3 (x0_ : Int) (x1_ : Int) (x2_ : Int) (x3_ : Int) : Tryz.prog.built 44 [(0, .int .i64 x0_), (1, .int .i64 x1_), (2, .int .i64 x2_), (3, .int .i64 x3_)] = some (List.toArray [.int .i64 x0_, .int .i64 x1_, .int .i64 x2_, .int .i64 x3_, .int .i64 0, .int .i64 0, .int .i64 0, .int .i64 0, .int .i64 0, .bool false, .int .i64 0, .int .i64 0, .bool false, .int .i64 0, .int .i64 0, .int .i64 0, .int .i64 0, .bool false, .int .i64 0]) := by kernel_rfl
theorem mk_44_0_1_2_5_6 (x0_ : Int) (x1_ : Int) (x2_ : Int) (x5_0_0_ : Int) (x5_0_1_ : Int) (x5_1_ : Bool) (x6_ : Int) : Tryz.prog.built 44 [(0, .int .i64 x0_), (1, .int .i64 x1_), (2, .int .i64 x2_), (5, .agg (List.toArray [.int .i64 x5_0_0_, .int .i64 x5_0_1_, .bool x5_1_])), (6, .int .i64 x6_)] = some (List.toArray [.int .i64 x0_, .int .i64 x1_, .int .i64 x2_, .int .i64 0, .int .i64 0, .int .i64 0, .int .i64 0, .int .i64 0, .int .i64 0, .bool false, .int .i64 0, .int .i64 0, .bool false, .int .i64 0, .int .i64 0, .int .i64 x5_0_0_, .int .i64 x5_0_1_, .bool x5_1_, .int .i64 x6_]) := by kernel_rfl
theorem ob_90  : oneB Tryz.prog 90 = true := by kernel_rfl
theorem sz_90  : (Tryz.prog.info? 90).map (·.size) = some 1 := by kernel_rfl
def mv0 : Mv := ⟨0, 0, 0, ⟨0, 0, false⟩, ⟨0, 0, false⟩, 0, 0⟩
def ps0 : Ps := ⟨0, 0, false⟩
abbrev rblk (br bg bn : Nat) (r : Rb) (u : Option Addr) : As := blk br (encR r bg bn u) 92
abbrev gblk2 (bu : Nat) (g : Gg) : As := blk bu (encG g) 156
theorem pose_spec (br bg bn : Nat) (r : Rb) (u : Option Addr) : Sk.Spec Tryz.prog 59 #[ptr br] [rblk br bg bn r u] [] fun e F' => e = .returned (.agg (encP r.pose).toArray) ∧ F' = [] := by
  refine Spec.of_code (vs := [_]) (k0 := [(0, _)]) 10 Tryz.func59 rfl Tryz.ntmps59 rfl (.cons .nil) fun w X RR hRR H => ?_
  refine .seq ?_
  refine .plain rfl ?_
  refine .alloc rfl rfl rfl ze_40 rfl H (fun w1 b1 H1 => ⟨fun _ => trivial, ?_⟩)
  refine .nil (cj ?_)
  refine .seq ?_
  refine .seq ?_
  refine .plain rfl ?_
  refine .q rfl rfl rfl (val_move rfl) ?_
  refine .q rfl rfl rfl (val_ptr_eq_nil Tryz.underlying30 rfl rfl rfl) ?_
  refine .nil (cj ?_)
  refine .cond_f rfl ?_
  refine .skip (cj ?_)
  refine .seq ?_
  refine .plain rfl ?_
  refine .q rfl rfl rfl (val_move rfl) ?_
  refine .q rfl rfl rfl (val_nilCheck rfl) ?_
  refine .q rfl rfl rfl (val_fieldAddr rfl fa_92_3) ?_
  refine .qs rfl rfl rfl H1 (ld_blks rfl ag_40 (.ro .here) (by repeat constructor)) ?_
  refine .store rfl rfl rfl rfl rfl sz_40 rfl H1 .here (by repeat constructor) (fun w2 H2 => ⟨fun _ => trivial, ?_⟩)
  refine .nil (cj ?_)
  refine .ret (fret (resc rfl rfl (lds_w ag_40 (.own .here) rfl H2)) ?_)
  refine hRR _ _ ⟨_, ⟨?_, rfl⟩, H2.sub .nil⟩
  rfl
theorem now0_spec (br bg bn : Nat) (r : Rb) : Sk.Spec Tryz.prog 55 #[ptr br] [rblk br bg bn r none] [] fun e F' => e = .returned (.tuple #[.agg (encM mv0).toArray, .bool false]) ∧ F' = [] := by
  refine Spec.of_code (vs := [_]) (k0 := [(0, _)]) 21 Tryz.func55 rfl Tryz.ntmps55 rfl (.cons .nil) fun w X RR hRR H => ?_
  refine .seq ?_
  refine .plain rfl ?_
  refine .alloc rfl rfl rfl ze_42 rfl H (fun w1 b1 H1 => ⟨fun _ => trivial, ?_⟩)
  refine .q rfl rfl rfl (val_assign rfl) ?_
  refine .nil (cj ?_)
  refine .seq ?_
  refine .seq ?_
  refine .plain rfl ?_
  refine .q rfl rfl rfl (val_move rfl) ?_
  refine .q rfl rfl rfl (val_ptr_eq_nil Tryz.underlying30 rfl rfl rfl) ?_
  refine .q rfl rfl rfl (val_move rfl) ?_
  refine .q rfl rfl rfl (val_move rfl) ?_
  refine .q rfl rfl rfl (val_nilCheck rfl) ?_
  refine .q rfl rfl rfl (val_fieldAddr rfl fa_92_7) ?_
  refine .qs rfl rfl rfl H1 (ld_b rfl ob_90 (.ro .here) rfl) ?_
  refine .q rfl rfl rfl (val_ptr_eq_nil Tryz.underlying90 rfl rfl rfl) ?_
  refine .q rfl rfl rfl (val_pick_f rfl rfl) ?_
  refine .nil (cj ?_)
  refine .cond_t rfl ?_
  refine .seq ?_
  refine .plain rfl ?_
  refine .q rfl rfl rfl (val_mk .nil mk_42_) ?_
  refine .store rfl rfl rfl rfl rfl sz_42 rfl H1 .here (by repeat constructor) (fun w2 H2 => ⟨fun _ => trivial, ?_⟩)
  refine .q rfl rfl rfl (val_assign rfl) ?_
  refine .nil (cj ?_)
  refine .ret (fret (resct rfl rfl (lds_w ag_42 (.own .here) rfl H2) rfl) ?_)
  refine hRR _ _ ⟨_, ⟨?_, rfl⟩, H2.sub .nil⟩
  rfl
theorem now1_spec (br bg bn bu : Nat) (r : Rb) (g : Gg) : Sk.Spec Tryz.prog 55 #[ptr br] [rblk br bg bn r (some ⟨bu, 0, none⟩), gblk2 bu g] [] fun e F' => e = .returned (.tuple #[.agg (encM g.move).toArray, .bool true]) ∧ F' = [] := by
  refine Spec.of_code (vs := [_]) (k0 := [(0, _)]) 21 Tryz.func55 rfl Tryz.ntmps55 rfl (.cons .nil) fun w X RR hRR H => ?_
  refine .seq ?_
  refine .plain rfl ?_
  refine .alloc rfl rfl rfl ze_42 rfl H (fun w1 b1 H1 => ⟨fun _ => trivial, ?_⟩)
  refine .q rfl rfl rfl (val_assign rfl) ?_
  refine .nil (cj ?_)
  refine .seq ?_
  refine .seq ?_
  refine .plain rfl ?_
  refine .q rfl rfl rfl (val_move rfl) ?_
  refine .q rfl rfl rfl (val_ptr_eq_nil Tryz.underlying30 rfl rfl rfl) ?_
  refine .q rfl rfl rfl (val_move rfl) ?_
  refine .q rfl rfl rfl (val_move rfl) ?_
  refine .q rfl rfl rfl (val_nilCheck rfl) ?_
  refine .q rfl rfl rfl (val_fieldAddr rfl fa_92_7) ?_
  refine .qs rfl rfl rfl H1 (ld_b rfl ob_90 (.ro .here) rfl) ?_
  refine .q rfl rfl rfl (val_ptr_eq_nil Tryz.underlying90 rfl rfl rfl) ?_
  refine .q rfl rfl rfl (val_pick_f rfl rfl) ?_
  refine .nil (cj ?_)
  refine .cond_f rfl ?_
  refine .skip (cj ?_)
  refine .seq ?_
  refine .plain rfl ?_
  refine .q rfl rfl rfl (val_move rfl) ?_
  refine .q rfl rfl rfl (val_nilCheck rfl) ?_
  refine .q rfl rfl rfl (val_fieldAddr rfl fa_92_7) ?_
  refine .qs rfl rfl rfl H1 (ld_b rfl ob_90 (.ro .here) rfl) ?_
  refine .q rfl rfl rfl (val_nilCheck rfl) ?_
  refine .q rfl rfl rfl (val_fieldAddr rfl fa_156_0) ?_
  refine .qs rfl rfl rfl H1 (ld_blks rfl ag_42 (.ro (.there .here)) (by repeat constructor)) ?_
  refine .store rfl rfl rfl rfl rfl sz_42 rfl H1 .here (by repeat constructor) (fun w2 H2 => ⟨fun _ => trivial, ?_⟩)
  refine .q rfl rfl rfl (val_assign rfl) ?_
  refine .nil (cj ?_)
  refine .ret (fret (resct rfl rfl (lds_w ag_42 (.own .here) rfl H2) rfl) ?_)
  refine hRR _ _ ⟨_, ⟨?_, rfl⟩, H2.sub .nil⟩
  rfl
def tellB (r : Rb) : Te := if r.num = 0 ∧ 0 < r.epoch then ⟨4, r.i, r.epoch, 0, mv0, r.pose, r.load⟩ else ⟨3, r.i, r.epoch, r.num, mv0, ps0, 0⟩
theorem tell1 {r : Rb} (h1 : (r.num == 0) = true) (h2 : decide (0 < r.epoch) = true) : tellB r = ⟨4, r.i, r.epoch, 0, mv0, r.pose, r.load⟩ := by
  simp at h1 h2; simp [tellB, h1, h2]
theorem tell2 {r : Rb} (h1 : (r.num == 0) = true) (h2 : decide (0 < r.epoch) = false) : tellB r = ⟨3, r.i, r.epoch, r.num, mv0, ps0, 0⟩ := by
  unfold tellB; rw [if_neg]; simp at h2; omega
theorem tell3 {r : Rb} (h1 : (r.num == 0) = false) : tellB r = ⟨3, r.i, r.epoch, r.num, mv0, ps0, 0⟩ := by
  unfold tellB; rw [if_neg]; simp at h1; omega
theorem tell_spec (br bg bn : Nat) (r : Rb) (u : Option Addr) : Sk.Spec Tryz.prog 58 #[ptr br] [rblk br bg bn r u] [] fun e F' => ∃ b : Nat, e = .returned (.slice (some ⟨b, 0, none⟩) 1 1) ∧ F' = [blk b (encT (tellB r)) 44] ∧ True := by
  refine Spec.of_code (vs := [_]) (k0 := [(0, _)]) 49 Tryz.func58 rfl Tryz.ntmps58 rfl (.cons .nil) fun w X RR hRR H => ?_
  refine .seq ?_
  refine .plain rfl ?_
  refine .q rfl rfl rfl (val_assign rfl) ?_
  refine .nil (cj ?_)
  refine .seq ?_
  refine .seq ?_
  refine .plain rfl ?_
  refine .q rfl rfl rfl (val_move rfl) ?_
  refine .q rfl rfl rfl (val_ptr_eq_nil Tryz.underlying30 rfl rfl rfl) ?_
  refine .nil (cj ?_)
  refine .cond_f rfl ?_
  refine .skip (cj ?_)
  refine .seq ?_
  refine .seq ?_
  refine .plain rfl ?_
  refine .q rfl rfl rfl (val_move rfl) ?_
  refine .q rfl rfl rfl (val_nilCheck rfl) ?_
  refine .q rfl rfl rfl (val_fieldAddr rfl fa_92_6) ?_
  refine .qs rfl rfl rfl H (ld_b rfl ob_3 (.ro .here) rfl) ?_
  refine .q rfl rfl rfl (val_eql rfl rfl rfl) ?_
  refine .q rfl rfl rfl (val_move rfl) ?_
  refine .case (t := 10) rfl (fun hs10 => ?_) (fun hs10 => ?_)
  · refine .q rfl rfl rfl (val_move rfl) ?_
    refine .q rfl rfl rfl (val_nilCheck rfl) ?_
    refine .q rfl rfl rfl (val_fieldAddr rfl fa_92_5) ?_
    refine .qs rfl rfl rfl H (ld_b rfl ob_3 (.ro .here) rfl) ?_
    refine .q rfl rfl rfl (val_gtr rfl rfl rfl) ?_
    refine .q rfl rfl rfl (val_pick_t rfl rfl) ?_
    refine .nil (cj ?_)
    refine .cond rfl (fun hc1 => ?_) (fun hc1 => ?_)
    · refine .seq ?_
      refine .drawS 19 (.cons (0, true) (.cons (1, true) (.cons (2, true) (.cons (3, true) (.cons (4, true) (.cons (5, true) (.cons (6, true) (.cons (7, true) (.cons (8, true) (.cons (9, true) (.cons (10, true) (.cons (11, true) (.cons (12, true) (.cons (13, true) (.cons (14, true) (.cons (15, true) (.cons (16, true) (.cons (17, false) (.cons (18, true) .nil))))))))))))))))))) mo (by kernel_rfl) H (fun _ _ _ _ _ h => h) (fun w1 H1 => ?_)
      refine .p rfl rfl rfl (val_move rfl) ?_
      refine .p rfl rfl rfl (val_nilCheck rfl) ?_
      refine .p rfl rfl rfl (val_fieldAddr rfl fa_92_0) ?_
      refine .ps rfl rfl rfl rfl (ld_b rfl ob_3 (.ro .here) rfl) ?_
      refine .p rfl rfl rfl (val_move rfl) ?_
      refine .p rfl rfl rfl (val_nilCheck rfl) ?_
      refine .p rfl rfl rfl (val_fieldAddr rfl fa_92_5) ?_
      refine .ps rfl rfl rfl rfl (ld_b rfl ob_3 (.ro .here) rfl) ?_
      refine .p rfl rfl rfl (val_move rfl) ?_
      refine .p rfl rfl rfl (val_nilCheck rfl) ?_
      refine .p rfl rfl rfl (val_fieldAddr rfl fa_92_3) ?_
      refine .ps rfl rfl rfl rfl (ld_blks rfl ag_40 (.ro .here) (by repeat constructor)) ?_
      refine .p rfl rfl rfl (val_move rfl) ?_
      refine .p rfl rfl rfl (val_nilCheck rfl) ?_
      refine .p rfl rfl rfl (val_fieldAddr rfl fa_92_4) ?_
      refine .ps rfl rfl rfl rfl (ld_b rfl ob_3 (.ro .here) rfl) ?_
      refine .p rfl rfl rfl (val_mk (.cons rfl (.cons rfl (.cons rfl (.cons rfl (.cons rfl .nil))))) (mk_44_0_1_2_5_6 _ _ _ _ _ _ _)) ?_
      refine .lit rfl rfl rfl Tryz.underlying70 (.cons rfl .nil) (bs_44_1_0 _ _ _ _ _ _ _ _ _ _ _ _ _ _ _ _ _ _ _) H1 (fun w2 b2 H2 => ⟨fun _ => (H2.sub .nil), ?_⟩)
      refine .p rfl rfl rfl (val_assign rfl) ?_
      refine .nil (cj ?_)
      refine .ret (fret (res1 rfl rfl) ?_)
      first | (rw [tell1 hs10 hc1] at hRR; exact hRR _ _ ⟨_, ⟨_, rfl, rfl, trivial⟩, H2.sub (.cons .here .nil)⟩) | (rw [tell2 hs10 hc1] at hRR; exact hRR _ _ ⟨_, ⟨_, rfl, rfl, trivial⟩, H2.sub (.cons .here .nil)⟩) | (rw [tell3 hs10] at hRR; exact hRR _ _ ⟨_, ⟨_, rfl, rfl, trivial⟩, H2.sub (.cons .here .nil)⟩)
    · refine .skip (cj ?_)
      refine .seq ?_
      refine .drawS 15 (.cons (0, true) (.cons (1, true) (.cons (2, true) (.cons (3, true) (.cons (4, true) (.cons (5, true) (.cons (6, true) (.cons (7, true) (.cons (8, true) (.cons (9, true) (.cons (10, true) (.cons (11, true) (.cons (12, true) (.cons (13, false) (.cons (14, true) .nil))))))))))))))) mo (by kernel_rfl) H (fun _ _ _ _ _ h => h) (fun w3 H3 => ?_)
      refine .p rfl rfl rfl (val_move rfl) ?_
      refine .p rfl rfl rfl (val_nilCheck rfl) ?_
      refine .p rfl rfl rfl (val_fieldAddr rfl fa_92_0) ?_
      refine .ps rfl rfl rfl rfl (ld_b rfl ob_3 (.ro .here) rfl) ?_
      refine .p rfl rfl rfl (val_move rfl) ?_
      refine .p rfl rfl rfl (val_nilCheck rfl) ?_
      refine .p rfl rfl rfl (val_fieldAddr rfl fa_92_5) ?_
      refine .ps rfl rfl rfl rfl (ld_b rfl ob_3 (.ro .here) rfl) ?_
      refine .p rfl rfl rfl (val_move rfl) ?_
      refine .p rfl rfl rfl (val_nilCheck rfl) ?_
      refine .p rfl rfl rfl (val_fieldAddr rfl fa_92_6) ?_
      refine .ps rfl rfl rfl rfl (ld_b rfl ob_3 (.ro .here) rfl) ?_
      refine .p rfl rfl rfl (val_mk (.cons rfl (.cons rfl (.cons rfl (.cons rfl .nil)))) (mk_44_0_1_2_3 _ _ _ _)) ?_
      refine .lit rfl rfl rfl Tryz.underlying70 (.cons rfl .nil) (bs_44_1_0 _ _ _ _ _ _ _ _ _ _ _ _ _ _ _ _ _ _ _) H3 (fun w4 b4 H4 => ⟨fun _ => (H4.sub .nil), ?_⟩)
      refine .p rfl rfl rfl (val_assign rfl) ?_
      refine .nil (cj ?_)
      refine .ret (fret (res1 rfl rfl) ?_)
      first | (rw [tell1 hs10 hc1] at hRR; exact hRR _ _ ⟨_, ⟨_, rfl, rfl, trivial⟩, H4.sub (.cons .here .nil)⟩) | (rw [tell2 hs10 hc1] at hRR; exact hRR _ _ ⟨_, ⟨_, rfl, rfl, trivial⟩, H4.sub (.cons .here .nil)⟩) | (rw [tell3 hs10] at hRR; exact hRR _ _ ⟨_, ⟨_, rfl, rfl, trivial⟩, H4.sub (.cons .here .nil)⟩)
  · refine .no rfl rfl rfl ?_
    refine .no rfl rfl rfl ?_
    refine .no rfl rfl rfl ?_
    refine .no rfl rfl rfl ?_
    refine .no rfl rfl rfl ?_
    refine .q rfl rfl rfl (val_pick_f rfl rfl) ?_
    refine .nil (cj ?_)
    refine .cond_f rfl ?_
    refine .skip (cj ?_)
    refine .seq ?_
    refine .drawS 15 (.cons (0, true) (.cons (1, true) (.cons (2, true) (.cons (3, true) (.cons (4, true) (.cons (5, true) (.cons (6, true) (.cons (7, true) (.cons (8, true) (.cons (9, true) (.cons (10, true) (.cons (11, true) (.cons (12, true) (.cons (13, false) (.cons (14, true) .nil))))))))))))))) mo (by kernel_rfl) H (fun _ _ _ _ _ h => h) (fun w5 H5 => ?_)
    refine .p rfl rfl rfl (val_move rfl) ?_
    refine .p rfl rfl rfl (val_nilCheck rfl) ?_
    refine .p rfl rfl rfl (val_fieldAddr rfl fa_92_0) ?_
    refine .ps rfl rfl rfl rfl (ld_b rfl ob_3 (.ro .here) rfl) ?_
    refine .p rfl rfl rfl (val_move rfl) ?_
    refine .p rfl rfl rfl (val_nilCheck rfl) ?_
    refine .p rfl rfl rfl (val_fieldAddr rfl fa_92_5) ?_
    refine .ps rfl rfl rfl rfl (ld_b rfl ob_3 (.ro .here) rfl) ?_
    refine .p rfl rfl rfl (val_move rfl) ?_
    refine .p rfl rfl rfl (val_nilCheck rfl) ?_
    refine .p rfl rfl rfl (val_fieldAddr rfl fa_92_6) ?_
    refine .ps rfl rfl rfl rfl (ld_b rfl ob_3 (.ro .here) rfl) ?_
    refine .p rfl rfl rfl (val_mk (.cons rfl (.cons rfl (.cons rfl (.cons rfl .nil)))) (mk_44_0_1_2_3 _ _ _ _)) ?_
    refine .lit rfl rfl rfl Tryz.underlying70 (.cons rfl .nil) (bs_44_1_0 _ _ _ _ _ _ _ _ _ _ _ _ _ _ _ _ _ _ _) H5 (fun w6 b6 H6 => ⟨fun _ => (H6.sub .nil), ?_⟩)
    refine .p rfl rfl rfl (val_assign rfl) ?_
    refine .nil (cj ?_)
    refine .ret (fret (res1 rfl rfl) ?_)
    first | (rw [tell1 hs10 hc1] at hRR; exact hRR _ _ ⟨_, ⟨_, rfl, rfl, trivial⟩, H6.sub (.cons .here .nil)⟩) | (rw [tell2 hs10 hc1] at hRR; exact hRR _ _ ⟨_, ⟨_, rfl, rfl, trivial⟩, H6.sub (.cons .here .nil)⟩) | (rw [tell3 hs10] at hRR; exact hRR _ _ ⟨_, ⟨_, rfl, rfl, trivial⟩, H6.sub (.cons .here .nil)⟩)
structure TR where
  m : Mv
  how : Int
  r : Rb
  g : Option Gg
def tickB (r : Rb) (g : Gg) : TR :=
  if 0 < r.delay then ⟨mv0, 0, { r with delay := w64 (r.delay - 1) }, some g⟩
  else if 0 < w64 (g.left - 1) then ⟨mv0, 0, r, some { g with t := w64 (g.t + 1), left := w64 (g.left - 1) }⟩
  else if r.stopping then ⟨g.move, 2, { r with pose := g.move.to, delay := 0, stopping := false }, none⟩
  else ⟨g.move, 1, { r with pose := g.move.to, delay := 0, num := w64 (r.num + 1) }, none⟩
/-- a robot's memory -/
def robF (br bg bn bu : Nat) (r : Rb) : Option Gg → List As
  | none => [rblk br bg bn r none]
  | some g => [rblk br bg bn r (some ⟨bu, 0, none⟩), gblk2 bu g]
theorem tick_a {r : Rb} {g : Gg} (h : decide (0 < r.delay) = true) : tickB r g = ⟨mv0, 0, { r with delay := w64 (r.delay - 1) }, some g⟩ := by
  unfold tickB; rw [if_pos (of_decide_eq_true h)]
theorem tick_b {r : Rb} {g : Gg} (h : decide (0 < r.delay) = false) (h2 : decide (0 < w64 (g.left - 1)) = true) : tickB r g = ⟨mv0, 0, r, some { g with t := w64 (g.t + 1), left := w64 (g.left - 1) }⟩ := by
  unfold tickB; rw [if_neg (of_decide_eq_false h), if_pos (of_decide_eq_true h2)]
theorem tick_c {r : Rb} {g : Gg} (h : decide (0 < r.delay) = false) (h2 : decide (0 < w64 (g.left - 1)) = false) (h3 : r.stopping = true) : tickB r g = ⟨g.move, 2, { r with pose := g.move.to, delay := 0, stopping := false }, none⟩ := by
  unfold tickB; rw [if_neg (of_decide_eq_false h), if_neg (of_decide_eq_false h2), if_pos h3]
theorem tick_d {r : Rb} {g : Gg} (h : decide (0 < r.delay) = false) (h2 : decide (0 < w64 (g.left - 1)) = false) (h3 : r.stopping = false) : tickB r g = ⟨g.move, 1, { r with pose := g.move.to, delay := 0, num := w64 (r.num + 1) }, none⟩ := by
  unfold tickB; rw [if_neg (of_decide_eq_false h), if_neg (of_decide_eq_false h2), if_neg (by rw [h3]; simp)]
theorem tick0_spec (br bg bn : Nat) (r : Rb) : Sk.Spec Tryz.prog 41 #[ptr br] [] [rblk br bg bn r none] fun e F' => e = .returned (.tuple #[.agg (encM mv0).toArray, i64 0]) ∧ F' = [rblk br bg bn r none] := by
  refine Spec.of_code (vs := [_]) (k0 := [(0, _)]) 88 Tryz.func41 rfl Tryz.ntmps41 rfl (.cons .nil) fun w X RR hRR H => ?_
  refine .seq ?_
  refine .plain rfl ?_
  refine .alloc rfl rfl rfl ze_42 rfl H (fun w1 b1 H1 => ⟨fun _ => trivial, ?_⟩)
  refine .q rfl rfl rfl (val_assign rfl) ?_
  refine .nil (cj ?_)
  refine .seq ?_
  refine .seq ?_
  refine .plain rfl ?_
  refine .q rfl rfl rfl (val_move rfl) ?_
  refine .q rfl rfl rfl (val_ptr_eq_nil Tryz.underlying30 rfl rfl rfl) ?_
  refine .q rfl rfl rfl (val_move rfl) ?_
  refine .q rfl rfl rfl (val_move rfl) ?_
  refine .q rfl rfl rfl (val_nilCheck rfl) ?_
  refine .q rfl rfl rfl (val_fieldAddr rfl fa_92_7) ?_
  refine .qs rfl rfl rfl H1 (ld_b rfl ob_90 (.own (.there .here)) rfl) ?_
  refine .q rfl rfl rfl (val_ptr_eq_nil Tryz.underlying90 rfl rfl rfl) ?_
  refine .q rfl rfl rfl (val_pick_f rfl rfl) ?_
  refine .nil (cj ?_)
  refine .cond_t rfl ?_
  refine .seq ?_
  refine .plain rfl ?_
  refine .q rfl rfl rfl (val_mk .nil mk_42_) ?_
  refine .store rfl rfl rfl rfl rfl sz_42 rfl H1 .here (by repeat constructor) (fun w2 H2 => ⟨fun _ => trivial, ?_⟩)
  refine .q rfl rfl rfl (val_assign rfl) ?_
  refine .nil (cj ?_)
  refine .ret (fret (resct rfl rfl (lds_w ag_42 (.own .here) rfl H2) rfl) ?_)
  refine hRR _ _ ⟨_, ⟨?_, rfl⟩, H2.sub (.cons (.there .here) .nil)⟩
  rfl
theorem tick1_spec (br bg bn bu : Nat) (r : Rb) (g : Gg) : Sk.Spec Tryz.prog 41 #[ptr br] [] [rblk br bg bn r (some ⟨bu, 0, none⟩), gblk2 bu g] fun e F' => e = .returned (.tuple #[.agg (encM (tickB r g).m).toArray, i64 (tickB r g).how]) ∧ F' = robF br bg bn bu (tickB r g).r (tickB r g).g := by
  refine Spec.of_code (vs := [_]) (k0 := [(0, _)]) 88 Tryz.func41 rfl Tryz.ntmps41 rfl (.cons .nil) fun w X RR hRR H => ?_
  refine .seq ?_
  refine .plain rfl ?_
  refine .alloc rfl rfl rfl ze_42 rfl H (fun w1 b1 H1 => ⟨fun _ => trivial, ?_⟩)
  refine .q rfl rfl rfl (val_assign rfl) ?_
  refine .nil (cj ?_)
  refine .seq ?_
  refine .seq ?_
  refine .plain rfl ?_
  refine .q rfl rfl rfl (val_move rfl) ?_
  refine .q rfl rfl rfl (val_ptr_eq_nil Tryz.underlying30 rfl rfl rfl) ?_
  refine .q rfl rfl rfl (val_move rfl) ?_
  refine .q rfl rfl rfl (val_move rfl) ?_
  refine .q rfl rfl rfl (val_nilCheck rfl) ?_
  refine .q rfl rfl rfl (val_fieldAddr rfl fa_92_7) ?_
  refine .qs rfl rfl rfl H1 (ld_b rfl ob_90 (.own (.there .here)) rfl) ?_
  refine .q rfl rfl rfl (val_ptr_eq_nil Tryz.underlying90 rfl rfl rfl) ?_
  refine .q rfl rfl rfl (val_pick_f rfl rfl) ?_
  refine .nil (cj ?_)
  refine .cond_f rfl ?_
  refine .skip (cj ?_)
  refine .seq ?_
  refine .seq ?_
  refine .plain rfl ?_
  refine .q rfl rfl rfl (val_move rfl) ?_
  refine .q rfl rfl rfl (val_nilCheck rfl) ?_
  refine .q rfl rfl rfl (val_fieldAddr rfl fa_92_9) ?_
  refine .qs rfl rfl rfl H1 (ld_b rfl ob_3 (.own (.there .here)) rfl) ?_
  refine .q rfl rfl rfl (val_gtr rfl rfl rfl) ?_
  refine .nil (cj ?_)
  refine .cond rfl (fun hc1 => ?_) (fun hc1 => ?_)
  · refine .seq ?_
    refine .plain rfl ?_
    refine .q rfl rfl rfl (val_move rfl) ?_
    refine .q rfl rfl rfl (val_nilCheck rfl) ?_
    refine .q rfl rfl rfl (val_fieldAddr rfl fa_92_9) ?_
    refine .qs rfl rfl rfl H1 (ld_b rfl ob_3 (.own (.there .here)) rfl) ?_
    refine .q rfl rfl rfl (val_sub rfl rfl rfl) ?_
    refine .q rfl rfl rfl (val_nilCheck rfl) ?_
    refine .q rfl rfl rfl (val_fieldAddr rfl fa_92_9) ?_
    refine .store rfl rfl rfl rfl rfl sz_3 rfl H1 (.there .here) (by repeat constructor) (fun w2 H2 => ⟨fun _ => trivial, ?_⟩)
    refine .nil (cj ?_)
    refine .seq ?_
    refine .plain rfl ?_
    refine .q rfl rfl rfl (val_mk .nil mk_42_) ?_
    refine .store rfl rfl rfl rfl rfl sz_42 rfl H2 (.there .here) (by repeat constructor) (fun w3 H3 => ⟨fun _ => trivial, ?_⟩)
    refine .q rfl rfl rfl (val_assign rfl) ?_
    refine .nil (cj ?_)
    refine .ret (fret (resct rfl rfl (lds_w ag_42 (.own .here) rfl H3) rfl) ?_)
    first | (rw [tick_a hc1] at hRR; exact hRR _ _ ⟨_, ⟨rfl, rfl⟩, H3.sub (.cons (.there .here) (.cons (.there .here) .nil))⟩) | (rw [tick_b hc1 hc2] at hRR; exact hRR _ _ ⟨_, ⟨rfl, rfl⟩, H3.sub (.cons (.there .here) (.cons (.there .here) .nil))⟩) | (rw [tick_c hc1 hc2 hc3] at hRR; exact hRR _ _ ⟨_, ⟨rfl, rfl⟩, H3.sub (.cons (.there .here) .nil)⟩) | (rw [tick_d hc1 hc2 hc3] at hRR; exact hRR _ _ ⟨_, ⟨rfl, rfl⟩, H3.sub (.cons (.there .here) .nil)⟩)
  · refine .skip (cj ?_)
    refine .seq ?_
    refine .plain rfl ?_
    refine .q rfl rfl rfl (val_move rfl) ?_
    refine .q rfl rfl rfl (val_nilCheck rfl) ?_
    refine .q rfl rfl rfl (val_fieldAddr rfl fa_92_7) ?_
    refine .qs rfl rfl rfl H1 (ld_b rfl ob_90 (.own (.there .here)) rfl) ?_
    refine .q rfl rfl rfl (val_assign rfl) ?_
    refine .nil (cj ?_)
    refine .seq ?_
    refine .plain rfl ?_
    refine .q rfl rfl rfl (val_move rfl) ?_
    refine .q rfl rfl rfl (val_nilCheck rfl) ?_
    refine .q rfl rfl rfl (val_fieldAddr rfl fa_156_1) ?_
    refine .qs rfl rfl rfl H1 (ld_b rfl ob_3 (.own (.there (.there .here))) rfl) ?_
    refine .q rfl rfl rfl (val_add rfl rfl rfl) ?_
    refine .q rfl rfl rfl (val_nilCheck rfl) ?_
    refine .q rfl rfl rfl (val_fieldAddr rfl fa_156_1) ?_
    refine .store rfl rfl rfl rfl rfl sz_3 rfl H1 (.there (.there .here)) (by repeat constructor) (fun w4 H4 => ⟨fun _ => trivial, ?_⟩)
    refine .nil (cj ?_)
    refine .seq ?_
    refine .plain rfl ?_
    refine .q rfl rfl rfl (val_move rfl) ?_
    refine .q rfl rfl rfl (val_nilCheck rfl) ?_
    refine .q rfl rfl rfl (val_fieldAddr rfl fa_156_2) ?_
    refine .qs rfl rfl rfl H4 (ld_b rfl ob_3 (.own .here) rfl) ?_
    refine .q rfl rfl rfl (val_sub rfl rfl rfl) ?_
    refine .q rfl rfl rfl (val_nilCheck rfl) ?_
    refine .q rfl rfl rfl (val_fieldAddr rfl fa_156_2) ?_
    refine .store rfl rfl rfl rfl rfl sz_3 rfl H4 .here (by repeat constructor) (fun w5 H5 => ⟨fun _ => trivial, ?_⟩)
    refine .nil (cj ?_)
    refine .seq ?_
    refine .seq ?_
    refine .plain rfl ?_
    refine .q rfl rfl rfl (val_move rfl) ?_
    refine .q rfl rfl rfl (val_nilCheck rfl) ?_
    refine .q rfl rfl rfl (val_fieldAddr rfl fa_156_2) ?_
    refine .qs rfl rfl rfl H5 (ld_b rfl ob_3 (.own .here) rfl) ?_
    refine .q rfl rfl rfl (val_gtr rfl rfl rfl) ?_
    refine .nil (cj ?_)
    refine .cond rfl (fun hc2 => ?_) (fun hc2 => ?_)
    · refine .seq ?_
      refine .plain rfl ?_
      refine .q rfl rfl rfl (val_mk .nil mk_42_) ?_
      refine .store rfl rfl rfl rfl rfl sz_42 rfl H5 (.there .here) (by repeat constructor) (fun w6 H6 => ⟨fun _ => trivial, ?_⟩)
      refine .q rfl rfl rfl (val_assign rfl) ?_
      refine .nil (cj ?_)
      refine .ret (fret (resct rfl rfl (lds_w ag_42 (.own .here) rfl H6) rfl) ?_)
      first | (rw [tick_a hc1] at hRR; exact hRR _ _ ⟨_, ⟨rfl, rfl⟩, H6.sub (.cons (.there (.there .here)) (.cons (.there .here) .nil))⟩) | (rw [tick_b hc1 hc2] at hRR; exact hRR _ _ ⟨_, ⟨rfl, rfl⟩, H6.sub (.cons (.there (.there .here)) (.cons (.there .here) .nil))⟩) | (rw [tick_c hc1 hc2 hc3] at hRR; exact hRR _ _ ⟨_, ⟨rfl, rfl⟩, H6.sub (.cons (.there (.there .here)) .nil)⟩) | (rw [tick_d hc1 hc2 hc3] at hRR; exact hRR _ _ ⟨_, ⟨rfl, rfl⟩, H6.sub (.cons (.there (.there .here)) .nil)⟩)
    · refine .skip (cj ?_)
      refine .seq ?_
      refine .plain rfl ?_
      refine .q rfl rfl rfl (val_move rfl) ?_
      refine .q rfl rfl rfl (val_move rfl) ?_
      refine .q rfl rfl rfl (val_nilCheck rfl) ?_
      refine .q rfl rfl rfl (val_fieldAddr rfl fa_156_0) ?_
      refine .q rfl rfl rfl (val_fieldAddr rfl fa_42_4) ?_
      refine .qs rfl rfl rfl H5 (ld_blks rfl ag_40 (.own .here) (by repeat constructor)) ?_
      refine .q rfl rfl rfl (val_nilCheck rfl) ?_
      refine .q rfl rfl rfl (val_fieldAddr rfl fa_92_3) ?_
      refine .store rfl rfl rfl rfl rfl sz_40 rfl H5 (.there (.there .here)) (by repeat constructor) (fun w7 H7 => ⟨fun _ => trivial, ?_⟩)
      refine .nil (cj ?_)
      refine .seq ?_
      refine .plain rfl ?_
      refine .q rfl rfl rfl (val_move rfl) ?_
      refine .q rfl rfl rfl (val_nilCheck rfl) ?_
      refine .q rfl rfl rfl (val_fieldAddr rfl fa_92_7) ?_
      refine .store rfl rfl rfl rfl rfl sz_90 rfl H7 .here (by repeat constructor) (fun w8 H8 => ⟨fun _ => trivial, ?_⟩)
      refine .nil (cj ?_)
      refine .seq ?_
      refine .plain rfl ?_
      refine .q rfl rfl rfl (val_move rfl) ?_
      refine .q rfl rfl rfl (val_nilCheck rfl) ?_
      refine .q rfl rfl rfl (val_fieldAddr rfl fa_92_9) ?_
      refine .store rfl rfl rfl rfl rfl sz_3 rfl H8 .here (by repeat constructor) (fun w9 H9 => ⟨fun _ => trivial, ?_⟩)
      refine .nil (cj ?_)
      refine .seq ?_
      refine .seq ?_
      refine .plain rfl ?_
      refine .q rfl rfl rfl (val_move rfl) ?_
      refine .q rfl rfl rfl (val_nilCheck rfl) ?_
      refine .q rfl rfl rfl (val_fieldAddr rfl fa_92_8) ?_
      refine .qs rfl rfl rfl H9 (ld_b rfl ob_4 (.own .here) rfl) ?_
      refine .nil (cj ?_)
      refine .cond rfl (fun hc3 => ?_) (fun hc3 => ?_)
      · refine .seq ?_
        refine .plain rfl ?_
        refine .q rfl rfl rfl (val_move rfl) ?_
        refine .q rfl rfl rfl (val_nilCheck rfl) ?_
        refine .q rfl rfl rfl (val_fieldAddr rfl fa_92_8) ?_
        refine .store rfl rfl rfl rfl rfl sz_4 rfl H9 .here (by repeat constructor) (fun w10 H10 => ⟨fun _ => trivial, ?_⟩)
        refine .nil (cj ?_)
        refine .seq ?_
        refine .plain rfl ?_
        refine .q rfl rfl rfl (val_move rfl) ?_
        refine .q rfl rfl rfl (val_nilCheck rfl) ?_
        refine .q rfl rfl rfl (val_fieldAddr rfl fa_156_0) ?_
        refine .qs rfl rfl rfl H10 (ld_blks rfl ag_42 (.own (.there .here)) (by repeat constructor)) ?_
        refine .store rfl rfl rfl rfl rfl sz_42 rfl H10 (.there (.there .here)) (by repeat constructor) (fun w11 H11 => ⟨fun _ => trivial, ?_⟩)
        refine .q rfl rfl rfl (val_assign rfl) ?_
        refine .nil (cj ?_)
        refine .ret (fret (resct rfl rfl (lds_w ag_42 (.own .here) rfl H11) rfl) ?_)
        first | (rw [tick_a hc1] at hRR; exact hRR _ _ ⟨_, ⟨rfl, rfl⟩, H11.sub (.cons (.there .here) (.cons (.there .here) .nil))⟩) | (rw [tick_b hc1 hc2] at hRR; exact hRR _ _ ⟨_, ⟨rfl, rfl⟩, H11.sub (.cons (.there .here) (.cons (.there .here) .nil))⟩) | (rw [tick_c hc1 hc2 hc3] at hRR; exact hRR _ _ ⟨_, ⟨rfl, rfl⟩, H11.sub (.cons (.there .here) .nil)⟩) | (rw [tick_d hc1 hc2 hc3] at hRR; exact hRR _ _ ⟨_, ⟨rfl, rfl⟩, H11.sub (.cons (.there .here) .nil)⟩)
      · refine .skip (cj ?_)
        refine .seq ?_
        refine .plain rfl ?_
        refine .q rfl rfl rfl (val_move rfl) ?_
        refine .q rfl rfl rfl (val_nilCheck rfl) ?_
        refine .q rfl rfl rfl (val_fieldAddr rfl fa_92_6) ?_
        refine .qs rfl rfl rfl H9 (ld_b rfl ob_3 (.own .here) rfl) ?_
        refine .q rfl rfl rfl (val_add rfl rfl rfl) ?_
        refine .q rfl rfl rfl (val_nilCheck rfl) ?_
        refine .q rfl rfl rfl (val_fieldAddr rfl fa_92_6) ?_
        refine .store rfl rfl rfl rfl rfl sz_3 rfl H9 .here (by repeat constructor) (fun w12 H12 => ⟨fun _ => trivial, ?_⟩)
        refine .nil (cj ?_)
        refine .seq ?_
        refine .plain rfl ?_
        refine .q rfl rfl rfl (val_move rfl) ?_
        refine .q rfl rfl rfl (val_nilCheck rfl) ?_
        refine .q rfl rfl rfl (val_fieldAddr rfl fa_156_0) ?_
        refine .qs rfl rfl rfl H12 (ld_blks rfl ag_42 (.own (.there .here)) (by repeat constructor)) ?_
        refine .store rfl rfl rfl rfl rfl sz_42 rfl H12 (.there (.there .here)) (by repeat constructor) (fun w13 H13 => ⟨fun _ => trivial, ?_⟩)
        refine .q rfl rfl rfl (val_assign rfl) ?_
        refine .nil (cj ?_)
        refine .ret (fret (resct rfl rfl (lds_w ag_42 (.own .here) rfl H13) rfl) ?_)
        first | (rw [tick_a hc1] at hRR; exact hRR _ _ ⟨_, ⟨rfl, rfl⟩, H13.sub (.cons (.there .here) (.cons (.there .here) .nil))⟩) | (rw [tick_b hc1 hc2] at hRR; exact hRR _ _ ⟨_, ⟨rfl, rfl⟩, H13.sub (.cons (.there .here) (.cons (.there .here) .nil))⟩) | (rw [tick_c hc1 hc2 hc3] at hRR; exact hRR _ _ ⟨_, ⟨rfl, rfl⟩, H13.sub (.cons (.there .here) .nil)⟩) | (rw [tick_d hc1 hc2 hc3] at hRR; exact hRR _ _ ⟨_, ⟨rfl, rfl⟩, H13.sub (.cons (.there .here) .nil)⟩)
end Go.Proofs.YtmbibkifbehgnaaGreatDoor
namespace Go.Proofs.YtmbibkifbehgnaaGreatDoor
open Go Sk
set_option linter.unusedVariables false
set_option linter.unusedSimpArgs false
theorem legalK_spec (c : Cf) (hm : MayOk c) (bg bk : Nat) (m : Mv) : Sk.Spec Tryz.prog 95 #[ptr bg, .agg (encM m).toArray] [gfix c bg bk, kblk bk (KF c), stepsA] [] fun e F' => e = .returned (.bool (legalR c m)) ∧ F' = [] := by
  have h := legal_spec bg (some ⟨bk, 0, none⟩) (area c) ⟨c.w, c.h, KF c⟩ ((KF_rel hm).ok hm.num) m
  rw [legal_eq (KF_rel hm) hm.num] at h
  have e : gblk bg (some ⟨bk, 0, none⟩) (area c) ⟨c.w, c.h, KF c⟩ = gfix c bg bk := by simp only [gblk, gfix, (KF_rel hm).len]
  rw [e] at h
  exact Spec.tell h (.cons .here (Tells.refl _) (.cons (.there .here) Tells.blk (.cons (.there (.there .here)) (Tells.refl _) .nil)))
def delayB (r : Rb) (n : Int) : Rb := if n ≤ 0 then r else { r with delay := min 1000000 (w64 (r.delay + min n 1000000)) }
theorem delay_a {r : Rb} {n : Int} (h : decide (n ≤ 0) = true) : delayB r n = r := by unfold delayB; rw [if_pos (of_decide_eq_true h)]
theorem delay_b {r : Rb} {n : Int} (h : decide (n ≤ 0) = false) : delayB r n = { r with delay := min 1000000 (w64 (r.delay + min n 1000000)) } := by unfold delayB; rw [if_neg (of_decide_eq_false h)]
theorem delay0_spec (br bg bn : Nat) (r : Rb) (n : Int) : Sk.Spec Tryz.prog 43 #[ptr br, i64 n] [] [rblk br bg bn r none] fun e F' => e = .returned (.tuple #[]) ∧ F' = [rblk br bg bn r none] := by
  refine Spec.of_code (vs := [_, _]) (k0 := [(0, _), (1, _)]) 28 Tryz.func43 rfl Tryz.ntmps43 rfl (.cons (.cons .nil)) fun w X RR hRR H => ?_
  refine .seq ?_
  refine .seq ?_
  refine .plain rfl ?_
  refine .q rfl rfl rfl (val_move rfl) ?_
  refine .q rfl rfl rfl (val_ptr_eq_nil Tryz.underlying30 rfl rfl rfl) ?_
  refine .q rfl rfl rfl (val_move rfl) ?_
  refine .q rfl rfl rfl (val_move rfl) ?_
  refine .q rfl rfl rfl (val_nilCheck rfl) ?_
  refine .q rfl rfl rfl (val_fieldAddr rfl fa_92_7) ?_
  refine .qs rfl rfl rfl H (ld_b rfl ob_90 (.own .here) rfl) ?_
  refine .q rfl rfl rfl (val_ptr_eq_nil Tryz.underlying90 rfl rfl rfl) ?_
  refine .q rfl rfl rfl (val_pick_f rfl rfl) ?_
  refine .q rfl rfl rfl (val_move rfl) ?_
  refine .no rfl rfl rfl ?_
  refine .no rfl rfl rfl ?_
  refine .q rfl rfl rfl (val_pick_t rfl rfl) ?_
  refine .nil (cj ?_)
  refine .cond_t rfl ?_
  refine .ret (fret (res0 rfl) ?_)
  refine hRR _ _ ⟨_, ⟨?_, rfl⟩, H.sub (.cons .here .nil)⟩
  rfl
theorem delay1_spec (br bg bn bu : Nat) (r : Rb) (g : Gg) (n : Int) : Sk.Spec Tryz.prog 43 #[ptr br, i64 n] [gblk2 bu g] [rblk br bg bn r (some ⟨bu, 0, none⟩)] fun e F' => e = .returned (.tuple #[]) ∧ F' = [rblk br bg bn (delayB r n) (some ⟨bu, 0, none⟩)] := by
  refine Spec.of_code (vs := [_, _]) (k0 := [(0, _), (1, _)]) 28 Tryz.func43 rfl Tryz.ntmps43 rfl (.cons (.cons .nil)) fun w X RR hRR H => ?_
  refine .seq ?_
  refine .seq ?_
  refine .plain rfl ?_
  refine .q rfl rfl rfl (val_move rfl) ?_
  refine .q rfl rfl rfl (val_ptr_eq_nil Tryz.underlying30 rfl rfl rfl) ?_
  refine .q rfl rfl rfl (val_move rfl) ?_
  refine .q rfl rfl rfl (val_move rfl) ?_
  refine .q rfl rfl rfl (val_nilCheck rfl) ?_
  refine .q rfl rfl rfl (val_fieldAddr rfl fa_92_7) ?_
  refine .qs rfl rfl rfl H (ld_b rfl ob_90 (.own .here) rfl) ?_
  refine .q rfl rfl rfl (val_ptr_eq_nil Tryz.underlying90 rfl rfl rfl) ?_
  refine .q rfl rfl rfl (val_pick_f rfl rfl) ?_
  refine .q rfl rfl rfl (val_move rfl) ?_
  refine .q rfl rfl rfl (val_move rfl) ?_
  refine .q rfl rfl rfl (val_leq rfl rfl rfl) ?_
  refine .q rfl rfl rfl (val_pick_f rfl rfl) ?_
  refine .nil (cj ?_)
  refine .cond rfl (fun hc0 => ?_) (fun hc0 => ?_)
  · refine .ret (fret (res0 rfl) ?_)
    first | (rw [delay_a hc0] at hRR; exact hRR _ _ ⟨_, ⟨rfl, rfl⟩, H.sub (.cons .here .nil)⟩) | (rw [delay_b hc0] at hRR; exact hRR _ _ ⟨_, ⟨rfl, rfl⟩, H.sub (.cons .here .nil)⟩)
  · refine .skip (cj ?_)
    refine .plain rfl ?_
    refine .q rfl rfl rfl (val_move rfl) ?_
    refine .q rfl rfl rfl (val_move rfl) ?_
    refine .q rfl rfl rfl (val_nilCheck rfl) ?_
    refine .q rfl rfl rfl (val_fieldAddr rfl fa_92_9) ?_
    refine .qs rfl rfl rfl H (ld_b rfl ob_3 (.own .here) rfl) ?_
    refine .q rfl rfl rfl (val_move rfl) ?_
    refine .q rfl rfl rfl (val_min rfl rfl rfl) ?_
    refine .q rfl rfl rfl (val_add rfl rfl rfl) ?_
    refine .q rfl rfl rfl (val_min rfl rfl rfl) ?_
    refine .q rfl rfl rfl (val_nilCheck rfl) ?_
    refine .q rfl rfl rfl (val_fieldAddr rfl fa_92_9) ?_
    refine .store rfl rfl rfl rfl rfl sz_3 rfl H .here (by repeat constructor) (fun w1 H1 => ⟨fun _ => trivial, ?_⟩)
    refine .nil (fend (res0 rfl) ?_)
    first | (rw [delay_a hc0] at hRR; exact hRR _ _ ⟨_, ⟨rfl, rfl⟩, H1.sub (.cons .here .nil)⟩) | (rw [delay_b hc0] at hRR; exact hRR _ _ ⟨_, ⟨rfl, rfl⟩, H1.sub (.cons .here .nil)⟩)
theorem carry_spec (br bg bn : Nat) (r : Rb) (u : Option Addr) (n : Int) : Sk.Spec Tryz.prog 45 #[ptr br, i64 n] [] [rblk br bg bn r u] fun e F' => e = .returned (.tuple #[]) ∧ F' = [rblk br bg bn { r with load := n } u] := by
  refine Spec.of_code (vs := [_, _]) (k0 := [(0, _), (1, _)]) 10 Tryz.func45 rfl Tryz.ntmps45 rfl (.cons (.cons .nil)) fun w X RR hRR H => ?_
  refine .seq ?_
  refine .plain rfl ?_
  refine .q rfl rfl rfl (val_move rfl) ?_
  refine .q rfl rfl rfl (val_ptr_ne_nil Tryz.underlying30 rfl rfl rfl) ?_
  refine .nil (cj ?_)
  refine .cond_t rfl ?_
  refine .plain rfl ?_
  refine .q rfl rfl rfl (val_move rfl) ?_
  refine .q rfl rfl rfl (val_move rfl) ?_
  refine .q rfl rfl rfl (val_nilCheck rfl) ?_
  refine .q rfl rfl rfl (val_fieldAddr rfl fa_92_4) ?_
  refine .store rfl rfl rfl rfl rfl sz_3 rfl H .here (by repeat constructor) (fun w1 H1 => ⟨fun _ => trivial, ?_⟩)
  refine .nil (fend (res0 rfl) ?_)
  exact hRR _ _ ⟨_, ⟨rfl, rfl⟩, H1.sub (.cons .here .nil)⟩
/-- telegrams that are told: none, or one -/
inductive TeV : Option Te → Value → List As → Prop where
  | none : TeV none (.slice none 0 0) []
  | some (b : Nat) (t : Te) : TeV (some t) (.slice (some ⟨b, 0, none⟩) 1 1) [blk b (encT t) 44]
structure HX where
  v : Value
  fx : List As
  bu : Nat
structure GoR where
  tele : Option Te
  how : Int
  g : Option Gg
def goB (c : Cf) (r : Rb) (g : Option Gg) (t : Te) : GoR :=
  if t.epoch < r.epoch then ⟨none, 2, g⟩
  else if r.epoch < t.epoch ∨ g.isSome = true then ⟨none, 0, g⟩
  else if 0 < r.num ∧ t.num = r.num then ⟨some (tellB r), 0, g⟩
  else if t.num = w64 (r.num + 1) ∧ t.move.fr = r.pose ∧ legalR c t.move = true ∧ ¬ t.move.en ≤ t.move.st ∧ lessI t.move.en t.move.st ≠ 0 then ⟨none, 1, some ⟨t.move, 0, lessI t.move.en t.move.st, false⟩⟩
  else ⟨none, 0, g⟩
section
variable {c : Cf} {r : Rb} {g : Option Gg} {t : Te}
theorem go_a (h : decide (t.epoch < r.epoch) = true) : goB c r g t = ⟨none, 2, g⟩ := by unfold goB; rw [if_pos (of_decide_eq_true h)]
theorem go_b (h : decide (t.epoch < r.epoch) = false) (h2 : decide (r.epoch < t.epoch) = true) : goB c r g t = ⟨none, 0, g⟩ := by
  unfold goB; rw [if_neg (of_decide_eq_false h), if_pos (.inl (of_decide_eq_true h2))]
theorem go_u {u : Gg} (h : decide (t.epoch < r.epoch) = false) : goB c r (some u) t = ⟨none, 0, some u⟩ := by
  unfold goB; rw [if_neg (of_decide_eq_false h), if_pos (.inr rfl)]
theorem go_c (h : decide (t.epoch < r.epoch) = false) (h2 : decide (r.epoch < t.epoch) = false) (h3 : decide (0 < r.num) = true) (h4 : (t.num == r.num) = true) : goB c r none t = ⟨some (tellB r), 0, none⟩ := by
  have e : t.num = r.num := by simpa using h4
  unfold goB; rw [if_neg (of_decide_eq_false h), if_neg (by simpa using h2), if_pos ⟨of_decide_eq_true h3, e⟩]
theorem go_no (h : decide (t.epoch < r.epoch) = false) (h2 : decide (r.epoch < t.epoch) = false) (h3 : ¬ (0 < r.num ∧ t.num = r.num)) (h4 : ¬ (t.num = w64 (r.num + 1) ∧ t.move.fr = r.pose ∧ legalR c t.move = true ∧ ¬ t.move.en ≤ t.move.st ∧ lessI t.move.en t.move.st ≠ 0)) : goB c r none t = ⟨none, 0, none⟩ := by
  unfold goB; rw [if_neg (of_decide_eq_false h), if_neg (by simpa using h2), if_neg h3, if_neg h4]
theorem go_yes (h : decide (t.epoch < r.epoch) = false) (h2 : decide (r.epoch < t.epoch) = false) (h3 : ¬ (0 < r.num ∧ t.num = r.num)) (h4 : (t.num != w64 (r.num + 1)) = false) (h5 : (!decide ((⟨t.move.fr.x, t.move.fr.y, t.move.fr.d⟩ : Ps) = ⟨r.pose.x, r.pose.y, r.pose.d⟩)) = false) (h6 : (!legalR c t.move) = false) (h7 : decide (t.move.en ≤ t.move.st) = false) (h8 : (lessI t.move.en t.move.st == 0) = false) :
    goB c r none t = ⟨none, 1, some ⟨t.move, 0, lessI t.move.en t.move.st, false⟩⟩ := by
  have a1 : t.num = w64 (r.num + 1) := by simpa using h4
  have a2 : t.move.fr = r.pose := of_decide_eq_true (nf h5)
  have a3 := of_decide_eq_false h7
  have a4 : lessI t.move.en t.move.st ≠ 0 := by simpa using h8
  unfold goB; rw [if_neg (of_decide_eq_false h), if_neg (by simpa using h2), if_neg h3, if_pos ⟨a1, a2, nf h6, a3, a4⟩]
theorem nn_a (h : decide (0 < r.num) = false) : ¬ (0 < r.num ∧ t.num = r.num) := fun e => of_decide_eq_false h e.1
theorem nn_b (h : (t.num == r.num) = false) : ¬ (0 < r.num ∧ t.num = r.num) := fun e => by simp [e.2] at h
end
end Go.Proofs.YtmbibkifbehgnaaGreatDoor
namespace Go.Proofs.YtmbibkifbehgnaaGreatDoor
open Go Sk
set_option linter.unusedVariables false
set_option linter.unusedSimpArgs false
theorem fa_42_5 (b o : Nat) (w : World) : (Instr.fieldAt 42 (.pointer (some ⟨b, o, none⟩)) 5).run Tryz.prog w = .ok (.pointer (some ⟨b, o + 9, none⟩)) w := by kernel_rfl
theorem fa_42_6 (b o : Nat) (w : World) : (Instr.fieldAt 42 (.pointer (some ⟨b, o, none⟩)) 6).run Tryz.prog w = .ok (.pointer (some ⟨b, o + 10, none⟩)) w := by kernel_rfl
theorem fa_44_2 (b o : Nat) (w : World) : (Instr.fieldAt 44 (.pointer (some ⟨b, o, none⟩)) 2).run Tryz.prog w = .ok (.pointer (some ⟨b, o + 2, none⟩)) w := by kernel_rfl
theorem fa_44_3 (b o : Nat) (w : World) : (Instr.fieldAt 44 (.pointer (some ⟨b, o, none⟩)) 3).run Tryz.prog w = .ok (.pointer (some ⟨b, o + 3, none⟩)) w := by kernel_rfl
theorem fa_44_4 (b o : Nat) (w : World) : (Instr.fieldAt 44 (.pointer (some ⟨b, o, none⟩)) 4).run Tryz.prog w = .ok (.pointer (some ⟨b, o + 4, none⟩)) w := by kernel_rfl
theorem fa_92_1 (b o : Nat) (w : World) : (Instr.fieldAt 92 (.pointer (some ⟨b, o, none⟩)) 1).run Tryz.prog w = .ok (.pointer (some ⟨b, o + 1, none⟩)) w := by kernel_rfl
theorem en58 : Enters Tryz.prog 58 := fun args w => by kernel_rfl
theorem en94 : Enters Tryz.prog 94 := fun args w => by kernel_rfl
theorem en95 : Enters Tryz.prog 95 := fun args w => by kernel_rfl
theorem mk_156_0_2 (x0_0_ : Int) (x0_1_ : Int) (x0_2_ : Int) (x0_3_0_0_ : Int) (x0_3_0_1_ : Int) (x0_3_1_ : Bool) (x0_4_0_0_ : Int) (x0_4_0_1_ : Int) (x0_4_1_ : Bool) (x0_5_ : Int) (x0_6_ : Int) (x2_ : Int) : Tryz.prog.built 156 [(0, .agg (List.toArray [.int .i64 x0_0_, .int .i64 x0_1_, .int .i64 x0_2_, .int .i64 x0_3_0_0_, .int .i64 x0_3_0_1_, .bool x0_3_1_, .int .i64 x0_4_0_0_, .int .i64 x0_4_0_1_, .bool x0_4_1_, .int .i64 x0_5_, .int .i64 x0_6_])), (2, .int .i64 x2_)] = some (List.toArray [.int .i64 x0_0_, .int .i64 x0_1_, .int .i64 x0_2_, .int .i64 x0_3_0_0_, .int .i64 x0_3_0_1_, .bool x0_3_1_, .int .i64 x0_4_0_0_, .int .i64 x0_4_0_1_, .bool x0_4_1_, .int .i64 x0_5_, .int .i64 x0_6_, .int .i64 0, .int .i64 x2_, .bool false]) := by kernel_rfl
theorem ob_84  : oneB Tryz.prog 84 = true := by kernel_rfl
section
variable {c : Cf} {r : Rb} {t : Te}
abbrev GoOk (c : Cf) (r : Rb) (t : Te) : Prop := t.num = w64 (r.num + 1) ∧ t.move.fr = r.pose ∧ legalR c t.move = true ∧ ¬ t.move.en ≤ t.move.st ∧ lessI t.move.en t.move.st ≠ 0
theorem no1 (h : (t.num != w64 (r.num + 1)) = true) : ¬ GoOk c r t := fun e => by simp [e.1] at h
theorem no2 (h : (!decide ((⟨t.move.fr.x, t.move.fr.y, t.move.fr.d⟩ : Ps) = ⟨r.pose.x, r.pose.y, r.pose.d⟩)) = true) : ¬ GoOk c r t := fun e => of_decide_eq_false (nt h) e.2.1
theorem no3 (h : (!legalR c t.move) = true) : ¬ GoOk c r t := fun e => by
  have h9 := e.2.2.1
  rw [nt h] at h9; cases h9
theorem no4 (h : decide (t.move.en ≤ t.move.st) = true) : ¬ GoOk c r t := fun e => e.2.2.2.1 (of_decide_eq_true h)
theorem no5 (h : (lessI t.move.en t.move.st == 0) = true) : ¬ GoOk c r t := fun e => e.2.2.2.2 (by simpa using h)
end
abbrev GoPost (br bg bn : Nat) (r : Rb) (q : GoR) : Ending → List As → Prop := fun e F' => ∃ x : HX, e = .returned (.tuple #[x.v, i64 q.how]) ∧ F' = x.fx ++ robF br bg bn x.bu r q.g ∧ TeV q.tele x.v x.fx
theorem goes0_spec (c : Cf) (hm : MayOk c) (br bg bk bn : Nat) (r : Rb) (t : Te) : Sk.Spec Tryz.prog 70 #[ptr br, .agg (encT t).toArray] [gfix c bg bk, kblk bk (KF c), stepsA] [rblk br bg bn r none] (GoPost br bg bn r (goB c r none t)) := by
  refine Spec.of_code (vs := [_, _]) (k0 := [(0, _), (1, _)]) 103 Tryz.func70 rfl Tryz.ntmps70 rfl (.cons (.cons .nil)) fun w X RR hRR H => ?_
  refine .seq ?_
  refine .plain rfl ?_
  refine .box rfl rfl rfl rfl rfl H (fun w1 b1 H1 => ⟨fun _ => trivial, ?_⟩)
  refine .q rfl rfl rfl (val_assign rfl) ?_
  refine .q rfl rfl rfl (val_assign rfl) ?_
  refine .nil (cj ?_)
  refine .seq ?_
  refine .block ?_
  refine .seq ?_
  refine .drawS 8 (.cons (0, true) (.cons (1, true) (.cons (2, true) (.cons (3, true) (.cons (4, true) (.cons (5, true) (.cons (6, true) (.cons (7, true) .nil)))))))) mo (by kernel_rfl) H1 (fun _ _ _ _ _ h => h) (fun w2 H2 => ?_)
  refine .p rfl rfl rfl (val_fieldAddr rfl fa_44_2) ?_
  refine .ps rfl rfl rfl rfl (ld_b rfl ob_3 (.own .here) rfl) ?_
  refine .p rfl rfl rfl (val_move rfl) ?_
  refine .p rfl rfl rfl (val_nilCheck rfl) ?_
  refine .p rfl rfl rfl (val_fieldAddr rfl fa_92_5) ?_
  refine .ps rfl rfl rfl rfl (ld_b rfl ob_3 (.own (.there .here)) rfl) ?_
  refine .p rfl rfl rfl (val_lss rfl rfl rfl) ?_
  refine .p rfl rfl rfl (val_assign rfl) ?_
  refine .nil (cj ?_)
  refine .cond rfl (fun hc0 => ?_) (fun hc0 => ?_)
  · refine .seq ?_
    refine .plain rfl ?_
    refine .q rfl rfl rfl (val_assign rfl) ?_
    refine .q rfl rfl rfl (val_assign rfl) ?_
    refine .nil (cj ?_)
    refine .ret (fret (res2 rfl rfl rfl) ?_)
    first | (rw [go_a hc0] at hRR; exact hRR _ _ ⟨_, ⟨⟨_, [], 0⟩, rfl, rfl, .none⟩, H2.sub (.cons (.there .here) .nil)⟩) | (rw [go_b hc0 hs23] at hRR; exact hRR _ _ ⟨_, ⟨⟨_, [], 0⟩, rfl, rfl, .none⟩, H2.sub (.cons (.there .here) .nil)⟩) | (rw [go_c hc0 hs23 hs36 hc2] at hRR; exact hRR _ _ ⟨_, ⟨⟨_, _, 0⟩, rfl, rfl, .some _ _⟩, H2.sub .nil⟩) | (rw [go_yes hc0 hs23 (by first | exact nn_a hs36 | exact nn_b hc2) hs62 hs72 hs82 hs91 hc3] at hRR; exact hRR _ _ ⟨_, ⟨⟨_, [], _⟩, rfl, rfl, .none⟩, H2.sub .nil⟩) | (rw [go_no hc0 hs23 (by first | exact nn_a hs36 | exact nn_b hc2) (by first | exact no1 hs62 | exact no2 hs72 | exact no3 hs82 | exact no4 hs91 | exact no5 hc3)] at hRR; exact hRR _ _ ⟨_, ⟨⟨_, [], 0⟩, rfl, rfl, .none⟩, H2.sub (.cons (.there .here) .nil)⟩)
  · refine .seq ?_
    refine .drawS 15 (.cons (0, true) (.cons (1, true) (.cons (2, true) (.cons (3, true) (.cons (4, true) (.cons (5, true) (.cons (6, true) (.cons (7, true) (.cons (8, true) (.cons (9, true) (.cons (10, true) (.cons (11, true) (.cons (12, true) (.cons (13, true) (.cons (14, true) .nil))))))))))))))) mo (by kernel_rfl) H2 (fun _ _ _ _ _ h => h) (fun w3 H3 => ?_)
    refine .p rfl rfl rfl (val_fieldAddr rfl fa_44_2) ?_
    refine .ps rfl rfl rfl rfl (ld_b rfl ob_3 (.own .here) rfl) ?_
    refine .p rfl rfl rfl (val_move rfl) ?_
    refine .p rfl rfl rfl (val_nilCheck rfl) ?_
    refine .p rfl rfl rfl (val_fieldAddr rfl fa_92_5) ?_
    refine .ps rfl rfl rfl rfl (ld_b rfl ob_3 (.own (.there .here)) rfl) ?_
    refine .p rfl rfl rfl (val_gtr rfl rfl rfl) ?_
    refine .p rfl rfl rfl (val_move rfl) ?_
    refine .case (t := 23) rfl (fun hs23 => ?_) (fun hs23 => ?_)
    · refine .no rfl rfl rfl ?_
      refine .no rfl rfl rfl ?_
      refine .no rfl rfl rfl ?_
      refine .no rfl rfl rfl ?_
      refine .no rfl rfl rfl ?_
      refine .p rfl rfl rfl (val_pick_t rfl rfl) ?_
      refine .p rfl rfl rfl (val_assign rfl) ?_
      refine .nil (cj ?_)
      refine .cond_t rfl ?_
      refine .seq ?_
      refine .plain rfl ?_
      refine .q rfl rfl rfl (val_assign rfl) ?_
      refine .q rfl rfl rfl (val_assign rfl) ?_
      refine .nil (cj ?_)
      refine .ret (fret (res2 rfl rfl rfl) ?_)
      first | (rw [go_a hc0] at hRR; exact hRR _ _ ⟨_, ⟨⟨_, [], 0⟩, rfl, rfl, .none⟩, H3.sub (.cons (.there .here) .nil)⟩) | (rw [go_b hc0 hs23] at hRR; exact hRR _ _ ⟨_, ⟨⟨_, [], 0⟩, rfl, rfl, .none⟩, H3.sub (.cons (.there .here) .nil)⟩) | (rw [go_c hc0 hs23 hs36 hc2] at hRR; exact hRR _ _ ⟨_, ⟨⟨_, _, 0⟩, rfl, rfl, .some _ _⟩, H3.sub .nil⟩) | (rw [go_yes hc0 hs23 (by first | exact nn_a hs36 | exact nn_b hc2) hs62 hs72 hs82 hs91 hc3] at hRR; exact hRR _ _ ⟨_, ⟨⟨_, [], _⟩, rfl, rfl, .none⟩, H3.sub .nil⟩) | (rw [go_no hc0 hs23 (by first | exact nn_a hs36 | exact nn_b hc2) (by first | exact no1 hs62 | exact no2 hs72 | exact no3 hs82 | exact no4 hs91 | exact no5 hc3)] at hRR; exact hRR _ _ ⟨_, ⟨⟨_, [], 0⟩, rfl, rfl, .none⟩, H3.sub (.cons (.there .here) .nil)⟩)
    · refine .p rfl rfl rfl (val_move rfl) ?_
      refine .p rfl rfl rfl (val_nilCheck rfl) ?_
      refine .p rfl rfl rfl (val_fieldAddr rfl fa_92_7) ?_
      refine .ps rfl rfl rfl rfl (ld_b rfl ob_90 (.own (.there .here)) rfl) ?_
      refine .p rfl rfl rfl (val_ptr_ne_nil Tryz.underlying90 rfl rfl rfl) ?_
      refine .p rfl rfl rfl (val_pick_f rfl rfl) ?_
      refine .p rfl rfl rfl (val_assign rfl) ?_
      refine .nil (cj ?_)
      refine .cond_f rfl ?_
      refine .seq ?_
      refine .drawS 15 (.cons (0, true) (.cons (1, true) (.cons (2, true) (.cons (3, true) (.cons (4, true) (.cons (5, true) (.cons (6, true) (.cons (7, true) (.cons (8, true) (.cons (9, true) (.cons (10, true) (.cons (11, true) (.cons (12, true) (.cons (13, true) (.cons (14, true) .nil))))))))))))))) mo (by kernel_rfl) H3 (fun _ _ _ _ _ h => h) (fun w4 H4 => ?_)
      refine .p rfl rfl rfl (val_move rfl) ?_
      refine .p rfl rfl rfl (val_nilCheck rfl) ?_
      refine .p rfl rfl rfl (val_fieldAddr rfl fa_92_6) ?_
      refine .ps rfl rfl rfl rfl (ld_b rfl ob_3 (.own (.there .here)) rfl) ?_
      refine .p rfl rfl rfl (val_gtr rfl rfl rfl) ?_
      refine .p rfl rfl rfl (val_move rfl) ?_
      refine .case (t := 36) rfl (fun hs36 => ?_) (fun hs36 => ?_)
      · refine .p rfl rfl rfl (val_fieldAddr rfl fa_44_3) ?_
        refine .ps rfl rfl rfl rfl (ld_b rfl ob_3 (.own .here) rfl) ?_
        refine .p rfl rfl rfl (val_move rfl) ?_
        refine .p rfl rfl rfl (val_nilCheck rfl) ?_
        refine .p rfl rfl rfl (val_fieldAddr rfl fa_92_6) ?_
        refine .ps rfl rfl rfl rfl (ld_b rfl ob_3 (.own (.there .here)) rfl) ?_
        refine .p rfl rfl rfl (val_eql rfl rfl rfl) ?_
        refine .p rfl rfl rfl (val_pick_t rfl rfl) ?_
        refine .p rfl rfl rfl (val_assign rfl) ?_
        refine .nil (cj ?_)
        refine .cond rfl (fun hc2 => ?_) (fun hc2 => ?_)
        · refine .seq ?_
          refine .plain rfl ?_
          refine .q rfl rfl rfl (val_move rfl) ?_
          refine .callx rfl rfl rfl en58 (.cons rfl .nil) (tell_spec _ _ _ _ _) H4 .nil (.own (.there .here) .nil) (fun b5 w5 C5 H5 => ⟨fun _ => trivial, ?_⟩)
          refine .q rfl rfl rfl (val_assign rfl) ?_
          refine .q rfl rfl rfl (val_assign rfl) ?_
          refine .nil (cj ?_)
          refine .ret (fret (res2 rfl rfl rfl) ?_)
          first | (rw [go_a hc0] at hRR; exact hRR _ _ ⟨_, ⟨⟨_, [], 0⟩, rfl, rfl, .none⟩, H5.sub (.cons (.there (.there .here)) .nil)⟩) | (rw [go_b hc0 hs23] at hRR; exact hRR _ _ ⟨_, ⟨⟨_, [], 0⟩, rfl, rfl, .none⟩, H5.sub (.cons (.there (.there .here)) .nil)⟩) | (rw [go_c hc0 hs23 hs36 hc2] at hRR; exact hRR _ _ ⟨_, ⟨⟨_, _, 0⟩, rfl, rfl, .some _ _⟩, H5.sub (.cons .here (.cons (.there .here) .nil))⟩) | (rw [go_yes hc0 hs23 (by first | exact nn_a hs36 | exact nn_b hc2) hs62 hs72 hs82 hs91 hc3] at hRR; exact hRR _ _ ⟨_, ⟨⟨_, [], _⟩, rfl, rfl, .none⟩, H5.sub .nil⟩) | (rw [go_no hc0 hs23 (by first | exact nn_a hs36 | exact nn_b hc2) (by first | exact no1 hs62 | exact no2 hs72 | exact no3 hs82 | exact no4 hs91 | exact no5 hc3)] at hRR; exact hRR _ _ ⟨_, ⟨⟨_, [], 0⟩, rfl, rfl, .none⟩, H5.sub (.cons (.there (.there .here)) .nil)⟩)
        · refine .skip (cj ?_)
          refine .seq ?_
          refine .plain rfl ?_
          refine .q rfl rfl rfl (val_fieldAddr rfl fa_44_4) ?_
          refine .q rfl rfl rfl (val_fieldAddr rfl fa_42_6) ?_
          refine .qs rfl rfl rfl H4 (ld_b rfl ob_3 (.own .here) rfl) ?_
          refine .q rfl rfl rfl (val_fieldAddr rfl fa_44_4) ?_
          refine .q rfl rfl rfl (val_fieldAddr rfl fa_42_5) ?_
          refine .qs rfl rfl rfl H4 (ld_b rfl ob_3 (.own .here) rfl) ?_
          refine .call1 rfl rfl rfl en94 (.cons rfl (.cons rfl .nil)) (less_spec _ _) H4 .nil .nil (fun w6 H6 => ⟨fun _ => trivial, ?_⟩)
          refine .q rfl rfl rfl (val_assign rfl) ?_
          refine .nil (cj ?_)
          refine .seq ?_
          refine .seq ?_
          refine .drawS 41 (.cons (0, true) (.cons (1, true) (.cons (2, true) (.cons (3, true) (.cons (4, true) (.cons (5, true) (.cons (6, true) (.cons (7, true) (.cons (8, true) (.cons (9, true) (.cons (10, true) (.cons (11, true) (.cons (12, true) (.cons (13, true) (.cons (14, true) (.cons (15, true) (.cons (16, true) (.cons (17, true) (.cons (18, true) (.cons (19, true) (.cons (20, true) (.cons (21, true) (.cons (22, true) (.cons (23, true) (.cons (24, true) (.cons (25, false) (.cons (26, true) (.cons (27, true) (.cons (28, true) (.cons (29, true) (.cons (30, true) (.cons (31, true) (.cons (32, true) (.cons (33, true) (.cons (34, true) (.cons (35, true) (.cons (36, true) (.cons (37, true) (.cons (38, true) (.cons (39, true) (.cons (40, true) .nil))))))))))))))))))))))))))))))))))))))))) mo (by kernel_rfl) H6 (fun _ _ _ _ _ h => h) (fun w7 H7 => ?_)
          refine .p rfl rfl rfl (val_fieldAddr rfl fa_44_3) ?_
          refine .ps rfl rfl rfl rfl (ld_b rfl ob_3 (.own .here) rfl) ?_
          refine .p rfl rfl rfl (val_move rfl) ?_
          refine .p rfl rfl rfl (val_nilCheck rfl) ?_
          refine .p rfl rfl rfl (val_fieldAddr rfl fa_92_6) ?_
          refine .ps rfl rfl rfl rfl (ld_b rfl ob_3 (.own (.there .here)) rfl) ?_
          refine .p rfl rfl rfl (val_add rfl rfl rfl) ?_
          refine .p rfl rfl rfl (val_neq rfl rfl rfl) ?_
          refine .p rfl rfl rfl (val_move rfl) ?_
          refine .case (t := 62) rfl (fun hs62 => ?_) (fun hs62 => ?_)
          · refine .no rfl rfl rfl ?_
            refine .no rfl rfl rfl ?_
            refine .no rfl rfl rfl ?_
            refine .no rfl rfl rfl ?_
            refine .no rfl rfl rfl ?_
            refine .no rfl rfl rfl ?_
            refine .no rfl rfl rfl ?_
            refine .no rfl rfl rfl ?_
            refine .p rfl rfl rfl (val_pick_t rfl rfl) ?_
            refine .p rfl rfl rfl (val_move rfl) ?_
            refine .no rfl rfl rfl ?_
            refine .no rfl rfl rfl ?_
            refine .no rfl rfl rfl ?_
            refine .no rfl rfl rfl ?_
            refine .no rfl rfl rfl ?_
            refine .no rfl rfl rfl ?_
            refine .no rfl rfl rfl ?_
            refine .no rfl rfl rfl ?_
            refine .p rfl rfl rfl (val_pick_t rfl rfl) ?_
            refine .p rfl rfl rfl (val_move rfl) ?_
            refine .no rfl rfl rfl ?_
            refine .no rfl rfl rfl ?_
            refine .no rfl rfl rfl ?_
            refine .no rfl rfl rfl ?_
            refine .no rfl rfl rfl ?_
            refine .no rfl rfl rfl ?_
            refine .no rfl rfl rfl ?_
            refine .p rfl rfl rfl (val_pick_t rfl rfl) ?_
            refine .p rfl rfl rfl (val_move rfl) ?_
            refine .no rfl rfl rfl ?_
            refine .no rfl rfl rfl ?_
            refine .p rfl rfl rfl (val_pick_t rfl rfl) ?_
            refine .nil (cj ?_)
            refine .cond_t rfl ?_
            refine .seq ?_
            refine .plain rfl ?_
            refine .q rfl rfl rfl (val_assign rfl) ?_
            refine .q rfl rfl rfl (val_assign rfl) ?_
            refine .nil (cj ?_)
            refine .ret (fret (res2 rfl rfl rfl) ?_)
            first | (rw [go_a hc0] at hRR; exact hRR _ _ ⟨_, ⟨⟨_, [], 0⟩, rfl, rfl, .none⟩, H7.sub (.cons (.there .here) .nil)⟩) | (rw [go_b hc0 hs23] at hRR; exact hRR _ _ ⟨_, ⟨⟨_, [], 0⟩, rfl, rfl, .none⟩, H7.sub (.cons (.there .here) .nil)⟩) | (rw [go_c hc0 hs23 hs36 hc2] at hRR; exact hRR _ _ ⟨_, ⟨⟨_, _, 0⟩, rfl, rfl, .some _ _⟩, H7.sub .nil⟩) | (rw [go_yes hc0 hs23 (by first | exact nn_a hs36 | exact nn_b hc2) hs62 hs72 hs82 hs91 hc3] at hRR; exact hRR _ _ ⟨_, ⟨⟨_, [], _⟩, rfl, rfl, .none⟩, H7.sub .nil⟩) | (rw [go_no hc0 hs23 (by first | exact nn_a hs36 | exact nn_b hc2) (by first | exact no1 hs62 | exact no2 hs72 | exact no3 hs82 | exact no4 hs91 | exact no5 hc3)] at hRR; exact hRR _ _ ⟨_, ⟨⟨_, [], 0⟩, rfl, rfl, .none⟩, H7.sub (.cons (.there .here) .nil)⟩)
          · refine .p rfl rfl rfl (val_fieldAddr rfl fa_44_4) ?_
            refine .p rfl rfl rfl (val_fieldAddr rfl fa_42_3) ?_
            refine .ps rfl rfl rfl rfl (ld_blks rfl ag_40 (.own .here) (by repeat constructor)) ?_
            refine .p rfl rfl rfl (val_move rfl) ?_
            refine .p rfl rfl rfl (val_nilCheck rfl) ?_
            refine .p rfl rfl rfl (val_fieldAddr rfl fa_92_3) ?_
            refine .ps rfl rfl rfl rfl (ld_blks rfl ag_40 (.own (.there .here)) (by repeat constructor)) ?_
            refine .p rfl rfl rfl (val_binrun rfl rfl seq_40_neq) ?_
            refine .p rfl rfl rfl (val_pick_f rfl rfl) ?_
            refine .p rfl rfl rfl (val_move rfl) ?_
            refine .case (t := 72) rfl (fun hs72 => ?_) (fun hs72 => ?_)
            · refine .no rfl rfl rfl ?_
              refine .no rfl rfl rfl ?_
              refine .no rfl rfl rfl ?_
              refine .no rfl rfl rfl ?_
              refine .no rfl rfl rfl ?_
              refine .no rfl rfl rfl ?_
              refine .no rfl rfl rfl ?_
              refine .no rfl rfl rfl ?_
              refine .p rfl rfl rfl (val_pick_t rfl rfl) ?_
              refine .p rfl rfl rfl (val_move rfl) ?_
              refine .no rfl rfl rfl ?_
              refine .no rfl rfl rfl ?_
              refine .no rfl rfl rfl ?_
              refine .no rfl rfl rfl ?_
              refine .no rfl rfl rfl ?_
              refine .no rfl rfl rfl ?_
              refine .no rfl rfl rfl ?_
              refine .p rfl rfl rfl (val_pick_t rfl rfl) ?_
              refine .p rfl rfl rfl (val_move rfl) ?_
              refine .no rfl rfl rfl ?_
              refine .no rfl rfl rfl ?_
              refine .p rfl rfl rfl (val_pick_t rfl rfl) ?_
              refine .nil (cj ?_)
              refine .cond_t rfl ?_
              refine .seq ?_
              refine .plain rfl ?_
              refine .q rfl rfl rfl (val_assign rfl) ?_
              refine .q rfl rfl rfl (val_assign rfl) ?_
              refine .nil (cj ?_)
              refine .ret (fret (res2 rfl rfl rfl) ?_)
              first | (rw [go_a hc0] at hRR; exact hRR _ _ ⟨_, ⟨⟨_, [], 0⟩, rfl, rfl, .none⟩, H7.sub (.cons (.there .here) .nil)⟩) | (rw [go_b hc0 hs23] at hRR; exact hRR _ _ ⟨_, ⟨⟨_, [], 0⟩, rfl, rfl, .none⟩, H7.sub (.cons (.there .here) .nil)⟩) | (rw [go_c hc0 hs23 hs36 hc2] at hRR; exact hRR _ _ ⟨_, ⟨⟨_, _, 0⟩, rfl, rfl, .some _ _⟩, H7.sub .nil⟩) | (rw [go_yes hc0 hs23 (by first | exact nn_a hs36 | exact nn_b hc2) hs62 hs72 hs82 hs91 hc3] at hRR; exact hRR _ _ ⟨_, ⟨⟨_, [], _⟩, rfl, rfl, .none⟩, H7.sub .nil⟩) | (rw [go_no hc0 hs23 (by first | exact nn_a hs36 | exact nn_b hc2) (by first | exact no1 hs62 | exact no2 hs72 | exact no3 hs82 | exact no4 hs91 | exact no5 hc3)] at hRR; exact hRR _ _ ⟨_, ⟨⟨_, [], 0⟩, rfl, rfl, .none⟩, H7.sub (.cons (.there .here) .nil)⟩)
            · refine .p rfl rfl rfl (val_move rfl) ?_
              refine .p rfl rfl rfl (val_nilCheck rfl) ?_
              refine .p rfl rfl rfl (val_fieldAddr rfl fa_92_1) ?_
              refine .ps rfl rfl rfl rfl (ld_b rfl ob_84 (.own (.there .here)) rfl) ?_
              refine .p rfl rfl rfl (val_fieldAddr rfl fa_44_4) ?_
              refine .ps rfl rfl rfl rfl (ld_blks rfl ag_42 (.own .here) (by repeat constructor)) ?_
              refine .call1 rfl rfl rfl en95 (.cons rfl (.cons rfl .nil)) (legalK_spec c hm _ _ _) H7 .nil (.ro .here (.ro (.there .here) (.ro (.there (.there .here)) .nil))) (fun w8 H8 => ⟨fun _ => H8, ?_⟩)
              refine .p rfl rfl rfl (val_not rfl rfl) ?_
              refine .p rfl rfl rfl (val_pick_f rfl rfl) ?_
              refine .p rfl rfl rfl (val_move rfl) ?_
              refine .case (t := 82) rfl (fun hs82 => ?_) (fun hs82 => ?_)
              · refine .no rfl rfl rfl ?_
                refine .no rfl rfl rfl ?_
                refine .no rfl rfl rfl ?_
                refine .no rfl rfl rfl ?_
                refine .no rfl rfl rfl ?_
                refine .no rfl rfl rfl ?_
                refine .no rfl rfl rfl ?_
                refine .p rfl rfl rfl (val_pick_t rfl rfl) ?_
                refine .p rfl rfl rfl (val_move rfl) ?_
                refine .no rfl rfl rfl ?_
                refine .no rfl rfl rfl ?_
                refine .p rfl rfl rfl (val_pick_t rfl rfl) ?_
                refine .nil (cj ?_)
                refine .cond_t rfl ?_
                refine .seq ?_
                refine .plain rfl ?_
                refine .q rfl rfl rfl (val_assign rfl) ?_
                refine .q rfl rfl rfl (val_assign rfl) ?_
                refine .nil (cj ?_)
                refine .ret (fret (res2 rfl rfl rfl) ?_)
                first | (rw [go_a hc0] at hRR; exact hRR _ _ ⟨_, ⟨⟨_, [], 0⟩, rfl, rfl, .none⟩, H8.sub (.cons (.there .here) .nil)⟩) | (rw [go_b hc0 hs23] at hRR; exact hRR _ _ ⟨_, ⟨⟨_, [], 0⟩, rfl, rfl, .none⟩, H8.sub (.cons (.there .here) .nil)⟩) | (rw [go_c hc0 hs23 hs36 hc2] at hRR; exact hRR _ _ ⟨_, ⟨⟨_, _, 0⟩, rfl, rfl, .some _ _⟩, H8.sub .nil⟩) | (rw [go_yes hc0 hs23 (by first | exact nn_a hs36 | exact nn_b hc2) hs62 hs72 hs82 hs91 hc3] at hRR; exact hRR _ _ ⟨_, ⟨⟨_, [], _⟩, rfl, rfl, .none⟩, H8.sub .nil⟩) | (rw [go_no hc0 hs23 (by first | exact nn_a hs36 | exact nn_b hc2) (by first | exact no1 hs62 | exact no2 hs72 | exact no3 hs82 | exact no4 hs91 | exact no5 hc3)] at hRR; exact hRR _ _ ⟨_, ⟨⟨_, [], 0⟩, rfl, rfl, .none⟩, H8.sub (.cons (.there .here) .nil)⟩)
              · refine .p rfl rfl rfl (val_fieldAddr rfl fa_44_4) ?_
                refine .p rfl rfl rfl (val_fieldAddr rfl fa_42_6) ?_
                refine .ps rfl rfl rfl rfl (ld_b rfl ob_3 (.own .here) rfl) ?_
                refine .p rfl rfl rfl (val_fieldAddr rfl fa_44_4) ?_
                refine .p rfl rfl rfl (val_fieldAddr rfl fa_42_5) ?_
                refine .ps rfl rfl rfl rfl (ld_b rfl ob_3 (.own .here) rfl) ?_
                refine .p rfl rfl rfl (val_leq rfl rfl rfl) ?_
                refine .p rfl rfl rfl (val_pick_f rfl rfl) ?_
                refine .p rfl rfl rfl (val_move rfl) ?_
                refine .case (t := 91) rfl (fun hs91 => ?_) (fun hs91 => ?_)
                · refine .no rfl rfl rfl ?_
                  refine .no rfl rfl rfl ?_
                  refine .p rfl rfl rfl (val_pick_t rfl rfl) ?_
                  refine .nil (cj ?_)
                  refine .cond_t rfl ?_
                  refine .seq ?_
                  refine .plain rfl ?_
                  refine .q rfl rfl rfl (val_assign rfl) ?_
                  refine .q rfl rfl rfl (val_assign rfl) ?_
                  refine .nil (cj ?_)
                  refine .ret (fret (res2 rfl rfl rfl) ?_)
                  first | (rw [go_a hc0] at hRR; exact hRR _ _ ⟨_, ⟨⟨_, [], 0⟩, rfl, rfl, .none⟩, H8.sub (.cons (.there .here) .nil)⟩) | (rw [go_b hc0 hs23] at hRR; exact hRR _ _ ⟨_, ⟨⟨_, [], 0⟩, rfl, rfl, .none⟩, H8.sub (.cons (.there .here) .nil)⟩) | (rw [go_c hc0 hs23 hs36 hc2] at hRR; exact hRR _ _ ⟨_, ⟨⟨_, _, 0⟩, rfl, rfl, .some _ _⟩, H8.sub .nil⟩) | (rw [go_yes hc0 hs23 (by first | exact nn_a hs36 | exact nn_b hc2) hs62 hs72 hs82 hs91 hc3] at hRR; exact hRR _ _ ⟨_, ⟨⟨_, [], _⟩, rfl, rfl, .none⟩, H8.sub .nil⟩) | (rw [go_no hc0 hs23 (by first | exact nn_a hs36 | exact nn_b hc2) (by first | exact no1 hs62 | exact no2 hs72 | exact no3 hs82 | exact no4 hs91 | exact no5 hc3)] at hRR; exact hRR _ _ ⟨_, ⟨⟨_, [], 0⟩, rfl, rfl, .none⟩, H8.sub (.cons (.there .here) .nil)⟩)
                · refine .p rfl rfl rfl (val_move rfl) ?_
                  refine .p rfl rfl rfl (val_eql rfl rfl rfl) ?_
                  refine .p rfl rfl rfl (val_pick_f rfl rfl) ?_
                  refine .nil (cj ?_)
                  refine .cond rfl (fun hc3 => ?_) (fun hc3 => ?_)
                  · refine .seq ?_
                    refine .plain rfl ?_
                    refine .q rfl rfl rfl (val_assign rfl) ?_
                    refine .q rfl rfl rfl (val_assign rfl) ?_
                    refine .nil (cj ?_)
                    refine .ret (fret (res2 rfl rfl rfl) ?_)
                    first | (rw [go_a hc0] at hRR; exact hRR _ _ ⟨_, ⟨⟨_, [], 0⟩, rfl, rfl, .none⟩, H8.sub (.cons (.there .here) .nil)⟩) | (rw [go_b hc0 hs23] at hRR; exact hRR _ _ ⟨_, ⟨⟨_, [], 0⟩, rfl, rfl, .none⟩, H8.sub (.cons (.there .here) .nil)⟩) | (rw [go_c hc0 hs23 hs36 hc2] at hRR; exact hRR _ _ ⟨_, ⟨⟨_, _, 0⟩, rfl, rfl, .some _ _⟩, H8.sub .nil⟩) | (rw [go_yes hc0 hs23 (by first | exact nn_a hs36 | exact nn_b hc2) hs62 hs72 hs82 hs91 hc3] at hRR; exact hRR _ _ ⟨_, ⟨⟨_, [], _⟩, rfl, rfl, .none⟩, H8.sub .nil⟩) | (rw [go_no hc0 hs23 (by first | exact nn_a hs36 | exact nn_b hc2) (by first | exact no1 hs62 | exact no2 hs72 | exact no3 hs82 | exact no4 hs91 | exact no5 hc3)] at hRR; exact hRR _ _ ⟨_, ⟨⟨_, [], 0⟩, rfl, rfl, .none⟩, H8.sub (.cons (.there .here) .nil)⟩)
                  · refine .skip (cj ?_)
                    refine .seq ?_
                    refine .plain rfl ?_
                    refine .q rfl rfl rfl (val_move rfl) ?_
                    refine .q rfl rfl rfl (val_fieldAddr rfl fa_44_4) ?_
                    refine .qs rfl rfl rfl H8 (ld_blks rfl ag_42 (.own .here) (by repeat constructor)) ?_
                    refine .q rfl rfl rfl (val_move rfl) ?_
                    refine .q rfl rfl rfl (val_mk (.cons rfl (.cons rfl .nil)) (mk_156_0_2 _ _ _ _ _ _ _ _ _ _ _ _)) ?_
                    refine .box rfl rfl rfl rfl rfl H8 (fun w9 b9 H9 => ⟨fun _ => trivial, ?_⟩)
                    refine .q rfl rfl rfl (val_nilCheck rfl) ?_
                    refine .q rfl rfl rfl (val_fieldAddr rfl fa_92_7) ?_
                    refine .store rfl rfl rfl rfl rfl sz_90 rfl H9 (.there (.there .here)) (by repeat constructor) (fun w10 H10 => ⟨fun _ => trivial, ?_⟩)
                    refine .nil (cj ?_)
                    refine .seq ?_
                    refine .plain rfl ?_
                    refine .q rfl rfl rfl (val_assign rfl) ?_
                    refine .q rfl rfl rfl (val_assign rfl) ?_
                    refine .nil (cj ?_)
                    refine .ret (fret (res2 rfl rfl rfl) ?_)
                    first | (rw [go_a hc0] at hRR; exact hRR _ _ ⟨_, ⟨⟨_, [], 0⟩, rfl, rfl, .none⟩, H10.sub (.cons .here .nil)⟩) | (rw [go_b hc0 hs23] at hRR; exact hRR _ _ ⟨_, ⟨⟨_, [], 0⟩, rfl, rfl, .none⟩, H10.sub (.cons .here .nil)⟩) | (rw [go_c hc0 hs23 hs36 hc2] at hRR; exact hRR _ _ ⟨_, ⟨⟨_, _, 0⟩, rfl, rfl, .some _ _⟩, H10.sub .nil⟩) | (rw [go_yes hc0 hs23 (by first | exact nn_a hs36 | exact nn_b hc2) hs62 hs72 hs82 hs91 hc3] at hRR; exact hRR _ _ ⟨_, ⟨⟨_, [], _⟩, rfl, rfl, .none⟩, H10.sub (.cons .here (.cons .here .nil))⟩) | (rw [go_no hc0 hs23 (by first | exact nn_a hs36 | exact nn_b hc2) (by first | exact no1 hs62 | exact no2 hs72 | exact no3 hs82 | exact no4 hs91 | exact no5 hc3)] at hRR; exact hRR _ _ ⟨_, ⟨⟨_, [], 0⟩, rfl, rfl, .none⟩, H10.sub (.cons .here .nil)⟩)
      · refine .no rfl rfl rfl ?_
        refine .no rfl rfl rfl ?_
        refine .no rfl rfl rfl ?_
        refine .no rfl rfl rfl ?_
        refine .no rfl rfl rfl ?_
        refine .no rfl rfl rfl ?_
        refine .no rfl rfl rfl ?_
        refine .p rfl rfl rfl (val_pick_f rfl rfl) ?_
        refine .p rfl rfl rfl (val_assign rfl) ?_
        refine .nil (cj ?_)
        refine .cond_f rfl ?_
        refine .skip (cj ?_)
        refine .seq ?_
        refine .plain rfl ?_
        refine .q rfl rfl rfl (val_fieldAddr rfl fa_44_4) ?_
        refine .q rfl rfl rfl (val_fieldAddr rfl fa_42_6) ?_
        refine .qs rfl rfl rfl H4 (ld_b rfl ob_3 (.own .here) rfl) ?_
        refine .q rfl rfl rfl (val_fieldAddr rfl fa_44_4) ?_
        refine .q rfl rfl rfl (val_fieldAddr rfl fa_42_5) ?_
        refine .qs rfl rfl rfl H4 (ld_b rfl ob_3 (.own .here) rfl) ?_
        refine .call1 rfl rfl rfl en94 (.cons rfl (.cons rfl .nil)) (less_spec _ _) H4 .nil .nil (fun w11 H11 => ⟨fun _ => trivial, ?_⟩)
        refine .q rfl rfl rfl (val_assign rfl) ?_
        refine .nil (cj ?_)
        refine .seq ?_
        refine .seq ?_
        refine .drawS 41 (.cons (0, true) (.cons (1, true) (.cons (2, true) (.cons (3, true) (.cons (4, true) (.cons (5, true) (.cons (6, true) (.cons (7, true) (.cons (8, true) (.cons (9, true) (.cons (10, true) (.cons (11, true) (.cons (12, true) (.cons (13, true) (.cons (14, true) (.cons (15, true) (.cons (16, true) (.cons (17, true) (.cons (18, true) (.cons (19, true) (.cons (20, true) (.cons (21, true) (.cons (22, true) (.cons (23, true) (.cons (24, true) (.cons (25, false) (.cons (26, true) (.cons (27, true) (.cons (28, true) (.cons (29, true) (.cons (30, true) (.cons (31, true) (.cons (32, true) (.cons (33, true) (.cons (34, true) (.cons (35, true) (.cons (36, true) (.cons (37, true) (.cons (38, true) (.cons (39, true) (.cons (40, true) .nil))))))))))))))))))))))))))))))))))))))))) mo (by kernel_rfl) H11 (fun _ _ _ _ _ h => h) (fun w12 H12 => ?_)
        refine .p rfl rfl rfl (val_fieldAddr rfl fa_44_3) ?_
        refine .ps rfl rfl rfl rfl (ld_b rfl ob_3 (.own .here) rfl) ?_
        refine .p rfl rfl rfl (val_move rfl) ?_
        refine .p rfl rfl rfl (val_nilCheck rfl) ?_
        refine .p rfl rfl rfl (val_fieldAddr rfl fa_92_6) ?_
        refine .ps rfl rfl rfl rfl (ld_b rfl ob_3 (.own (.there .here)) rfl) ?_
        refine .p rfl rfl rfl (val_add rfl rfl rfl) ?_
        refine .p rfl rfl rfl (val_neq rfl rfl rfl) ?_
        refine .p rfl rfl rfl (val_move rfl) ?_
        refine .case (t := 62) rfl (fun hs62 => ?_) (fun hs62 => ?_)
        · refine .no rfl rfl rfl ?_
          refine .no rfl rfl rfl ?_
          refine .no rfl rfl rfl ?_
          refine .no rfl rfl rfl ?_
          refine .no rfl rfl rfl ?_
          refine .no rfl rfl rfl ?_
          refine .no rfl rfl rfl ?_
          refine .no rfl rfl rfl ?_
          refine .p rfl rfl rfl (val_pick_t rfl rfl) ?_
          refine .p rfl rfl rfl (val_move rfl) ?_
          refine .no rfl rfl rfl ?_
          refine .no rfl rfl rfl ?_
          refine .no rfl rfl rfl ?_
          refine .no rfl rfl rfl ?_
          refine .no rfl rfl rfl ?_
          refine .no rfl rfl rfl ?_
          refine .no rfl rfl rfl ?_
          refine .no rfl rfl rfl ?_
          refine .p rfl rfl rfl (val_pick_t rfl rfl) ?_
          refine .p rfl rfl rfl (val_move rfl) ?_
          refine .no rfl rfl rfl ?_
          refine .no rfl rfl rfl ?_
          refine .no rfl rfl rfl ?_
          refine .no rfl rfl rfl ?_
          refine .no rfl rfl rfl ?_
          refine .no rfl rfl rfl ?_
          refine .no rfl rfl rfl ?_
          refine .p rfl rfl rfl (val_pick_t rfl rfl) ?_
          refine .p rfl rfl rfl (val_move rfl) ?_
          refine .no rfl rfl rfl ?_
          refine .no rfl rfl rfl ?_
          refine .p rfl rfl rfl (val_pick_t rfl rfl) ?_
          refine .nil (cj ?_)
          refine .cond_t rfl ?_
          refine .seq ?_
          refine .plain rfl ?_
          refine .q rfl rfl rfl (val_assign rfl) ?_
          refine .q rfl rfl rfl (val_assign rfl) ?_
          refine .nil (cj ?_)
          refine .ret (fret (res2 rfl rfl rfl) ?_)
          first | (rw [go_a hc0] at hRR; exact hRR _ _ ⟨_, ⟨⟨_, [], 0⟩, rfl, rfl, .none⟩, H12.sub (.cons (.there .here) .nil)⟩) | (rw [go_b hc0 hs23] at hRR; exact hRR _ _ ⟨_, ⟨⟨_, [], 0⟩, rfl, rfl, .none⟩, H12.sub (.cons (.there .here) .nil)⟩) | (rw [go_c hc0 hs23 hs36 hc2] at hRR; exact hRR _ _ ⟨_, ⟨⟨_, _, 0⟩, rfl, rfl, .some _ _⟩, H12.sub .nil⟩) | (rw [go_yes hc0 hs23 (by first | exact nn_a hs36 | exact nn_b hc2) hs62 hs72 hs82 hs91 hc3] at hRR; exact hRR _ _ ⟨_, ⟨⟨_, [], _⟩, rfl, rfl, .none⟩, H12.sub .nil⟩) | (rw [go_no hc0 hs23 (by first | exact nn_a hs36 | exact nn_b hc2) (by first | exact no1 hs62 | exact no2 hs72 | exact no3 hs82 | exact no4 hs91 | exact no5 hc3)] at hRR; exact hRR _ _ ⟨_, ⟨⟨_, [], 0⟩, rfl, rfl, .none⟩, H12.sub (.cons (.there .here) .nil)⟩)
        · refine .p rfl rfl rfl (val_fieldAddr rfl fa_44_4) ?_
          refine .p rfl rfl rfl (val_fieldAddr rfl fa_42_3) ?_
          refine .ps rfl rfl rfl rfl (ld_blks rfl ag_40 (.own .here) (by repeat constructor)) ?_
          refine .p rfl rfl rfl (val_move rfl) ?_
          refine .p rfl rfl rfl (val_nilCheck rfl) ?_
          refine .p rfl rfl rfl (val_fieldAddr rfl fa_92_3) ?_
          refine .ps rfl rfl rfl rfl (ld_blks rfl ag_40 (.own (.there .here)) (by repeat constructor)) ?_
          refine .p rfl rfl rfl (val_binrun rfl rfl seq_40_neq) ?_
          refine .p rfl rfl rfl (val_pick_f rfl rfl) ?_
          refine .p rfl rfl rfl (val_move rfl) ?_
          refine .case (t := 72) rfl (fun hs72 => ?_) (fun hs72 => ?_)
          · refine .no rfl rfl rfl ?_
            refine .no rfl rfl rfl ?_
            refine .no rfl rfl rfl ?_
            refine .no rfl rfl rfl ?_
            refine .no rfl rfl rfl ?_
            refine .no rfl rfl rfl ?_
            refine .no rfl rfl rfl ?_
            refine .no rfl rfl rfl ?_
            refine .p rfl rfl rfl (val_pick_t rfl rfl) ?_
            refine .p rfl rfl rfl (val_move rfl) ?_
            refine .no rfl rfl rfl ?_
            refine .no rfl rfl rfl ?_
            refine .no rfl rfl rfl ?_
            refine .no rfl rfl rfl ?_
            refine .no rfl rfl rfl ?_
            refine .no rfl rfl rfl ?_
            refine .no rfl rfl rfl ?_
            refine .p rfl rfl rfl (val_pick_t rfl rfl) ?_
            refine .p rfl rfl rfl (val_move rfl) ?_
            refine .no rfl rfl rfl ?_
            refine .no rfl rfl rfl ?_
            refine .p rfl rfl rfl (val_pick_t rfl rfl) ?_
            refine .nil (cj ?_)
            refine .cond_t rfl ?_
            refine .seq ?_
            refine .plain rfl ?_
            refine .q rfl rfl rfl (val_assign rfl) ?_
            refine .q rfl rfl rfl (val_assign rfl) ?_
            refine .nil (cj ?_)
            refine .ret (fret (res2 rfl rfl rfl) ?_)
            first | (rw [go_a hc0] at hRR; exact hRR _ _ ⟨_, ⟨⟨_, [], 0⟩, rfl, rfl, .none⟩, H12.sub (.cons (.there .here) .nil)⟩) | (rw [go_b hc0 hs23] at hRR; exact hRR _ _ ⟨_, ⟨⟨_, [], 0⟩, rfl, rfl, .none⟩, H12.sub (.cons (.there .here) .nil)⟩) | (rw [go_c hc0 hs23 hs36 hc2] at hRR; exact hRR _ _ ⟨_, ⟨⟨_, _, 0⟩, rfl, rfl, .some _ _⟩, H12.sub .nil⟩) | (rw [go_yes hc0 hs23 (by first | exact nn_a hs36 | exact nn_b hc2) hs62 hs72 hs82 hs91 hc3] at hRR; exact hRR _ _ ⟨_, ⟨⟨_, [], _⟩, rfl, rfl, .none⟩, H12.sub .nil⟩) | (rw [go_no hc0 hs23 (by first | exact nn_a hs36 | exact nn_b hc2) (by first | exact no1 hs62 | exact no2 hs72 | exact no3 hs82 | exact no4 hs91 | exact no5 hc3)] at hRR; exact hRR _ _ ⟨_, ⟨⟨_, [], 0⟩, rfl, rfl, .none⟩, H12.sub (.cons (.there .here) .nil)⟩)
          · refine .p rfl rfl rfl (val_move rfl) ?_
            refine .p rfl rfl rfl (val_nilCheck rfl) ?_
            refine .p rfl rfl rfl (val_fieldAddr rfl fa_92_1) ?_
            refine .ps rfl rfl rfl rfl (ld_b rfl ob_84 (.own (.there .here)) rfl) ?_
            refine .p rfl rfl rfl (val_fieldAddr rfl fa_44_4) ?_
            refine .ps rfl rfl rfl rfl (ld_blks rfl ag_42 (.own .here) (by repeat constructor)) ?_
            refine .call1 rfl rfl rfl en95 (.cons rfl (.cons rfl .nil)) (legalK_spec c hm _ _ _) H12 .nil (.ro .here (.ro (.there .here) (.ro (.there (.there .here)) .nil))) (fun w13 H13 => ⟨fun _ => H13, ?_⟩)
            refine .p rfl rfl rfl (val_not rfl rfl) ?_
            refine .p rfl rfl rfl (val_pick_f rfl rfl) ?_
            refine .p rfl rfl rfl (val_move rfl) ?_
            refine .case (t := 82) rfl (fun hs82 => ?_) (fun hs82 => ?_)
            · refine .no rfl rfl rfl ?_
              refine .no rfl rfl rfl ?_
              refine .no rfl rfl rfl ?_
              refine .no rfl rfl rfl ?_
              refine .no rfl rfl rfl ?_
              refine .no rfl rfl rfl ?_
              refine .no rfl rfl rfl ?_
              refine .p rfl rfl rfl (val_pick_t rfl rfl) ?_
              refine .p rfl rfl rfl (val_move rfl) ?_
              refine .no rfl rfl rfl ?_
              refine .no rfl rfl rfl ?_
              refine .p rfl rfl rfl (val_pick_t rfl rfl) ?_
              refine .nil (cj ?_)
              refine .cond_t rfl ?_
              refine .seq ?_
              refine .plain rfl ?_
              refine .q rfl rfl rfl (val_assign rfl) ?_
              refine .q rfl rfl rfl (val_assign rfl) ?_
              refine .nil (cj ?_)
              refine .ret (fret (res2 rfl rfl rfl) ?_)
              first | (rw [go_a hc0] at hRR; exact hRR _ _ ⟨_, ⟨⟨_, [], 0⟩, rfl, rfl, .none⟩, H13.sub (.cons (.there .here) .nil)⟩) | (rw [go_b hc0 hs23] at hRR; exact hRR _ _ ⟨_, ⟨⟨_, [], 0⟩, rfl, rfl, .none⟩, H13.sub (.cons (.there .here) .nil)⟩) | (rw [go_c hc0 hs23 hs36 hc2] at hRR; exact hRR _ _ ⟨_, ⟨⟨_, _, 0⟩, rfl, rfl, .some _ _⟩, H13.sub .nil⟩) | (rw [go_yes hc0 hs23 (by first | exact nn_a hs36 | exact nn_b hc2) hs62 hs72 hs82 hs91 hc3] at hRR; exact hRR _ _ ⟨_, ⟨⟨_, [], _⟩, rfl, rfl, .none⟩, H13.sub .nil⟩) | (rw [go_no hc0 hs23 (by first | exact nn_a hs36 | exact nn_b hc2) (by first | exact no1 hs62 | exact no2 hs72 | exact no3 hs82 | exact no4 hs91 | exact no5 hc3)] at hRR; exact hRR _ _ ⟨_, ⟨⟨_, [], 0⟩, rfl, rfl, .none⟩, H13.sub (.cons (.there .here) .nil)⟩)
            · refine .p rfl rfl rfl (val_fieldAddr rfl fa_44_4) ?_
              refine .p rfl rfl rfl (val_fieldAddr rfl fa_42_6) ?_
              refine .ps rfl rfl rfl rfl (ld_b rfl ob_3 (.own .here) rfl) ?_
              refine .p rfl rfl rfl (val_fieldAddr rfl fa_44_4) ?_
              refine .p rfl rfl rfl (val_fieldAddr rfl fa_42_5) ?_
              refine .ps rfl rfl rfl rfl (ld_b rfl ob_3 (.own .here) rfl) ?_
              refine .p rfl rfl rfl (val_leq rfl rfl rfl) ?_
              refine .p rfl rfl rfl (val_pick_f rfl rfl) ?_
              refine .p rfl rfl rfl (val_move rfl) ?_
              refine .case (t := 91) rfl (fun hs91 => ?_) (fun hs91 => ?_)
              · refine .no rfl rfl rfl ?_
                refine .no rfl rfl rfl ?_
                refine .p rfl rfl rfl (val_pick_t rfl rfl) ?_
                refine .nil (cj ?_)
                refine .cond_t rfl ?_
                refine .seq ?_
                refine .plain rfl ?_
                refine .q rfl rfl rfl (val_assign rfl) ?_
                refine .q rfl rfl rfl (val_assign rfl) ?_
                refine .nil (cj ?_)
                refine .ret (fret (res2 rfl rfl rfl) ?_)
                first | (rw [go_a hc0] at hRR; exact hRR _ _ ⟨_, ⟨⟨_, [], 0⟩, rfl, rfl, .none⟩, H13.sub (.cons (.there .here) .nil)⟩) | (rw [go_b hc0 hs23] at hRR; exact hRR _ _ ⟨_, ⟨⟨_, [], 0⟩, rfl, rfl, .none⟩, H13.sub (.cons (.there .here) .nil)⟩) | (rw [go_c hc0 hs23 hs36 hc2] at hRR; exact hRR _ _ ⟨_, ⟨⟨_, _, 0⟩, rfl, rfl, .some _ _⟩, H13.sub .nil⟩) | (rw [go_yes hc0 hs23 (by first | exact nn_a hs36 | exact nn_b hc2) hs62 hs72 hs82 hs91 hc3] at hRR; exact hRR _ _ ⟨_, ⟨⟨_, [], _⟩, rfl, rfl, .none⟩, H13.sub .nil⟩) | (rw [go_no hc0 hs23 (by first | exact nn_a hs36 | exact nn_b hc2) (by first | exact no1 hs62 | exact no2 hs72 | exact no3 hs82 | exact no4 hs91 | exact no5 hc3)] at hRR; exact hRR _ _ ⟨_, ⟨⟨_, [], 0⟩, rfl, rfl, .none⟩, H13.sub (.cons (.there .here) .nil)⟩)
              · refine .p rfl rfl rfl (val_move rfl) ?_
                refine .p rfl rfl rfl (val_eql rfl rfl rfl) ?_
                refine .p rfl rfl rfl (val_pick_f rfl rfl) ?_
                refine .nil (cj ?_)
                refine .cond rfl (fun hc3 => ?_) (fun hc3 => ?_)
                · refine .seq ?_
                  refine .plain rfl ?_
                  refine .q rfl rfl rfl (val_assign rfl) ?_
                  refine .q rfl rfl rfl (val_assign rfl) ?_
                  refine .nil (cj ?_)
                  refine .ret (fret (res2 rfl rfl rfl) ?_)
                  first | (rw [go_a hc0] at hRR; exact hRR _ _ ⟨_, ⟨⟨_, [], 0⟩, rfl, rfl, .none⟩, H13.sub (.cons (.there .here) .nil)⟩) | (rw [go_b hc0 hs23] at hRR; exact hRR _ _ ⟨_, ⟨⟨_, [], 0⟩, rfl, rfl, .none⟩, H13.sub (.cons (.there .here) .nil)⟩) | (rw [go_c hc0 hs23 hs36 hc2] at hRR; exact hRR _ _ ⟨_, ⟨⟨_, _, 0⟩, rfl, rfl, .some _ _⟩, H13.sub .nil⟩) | (rw [go_yes hc0 hs23 (by first | exact nn_a hs36 | exact nn_b hc2) hs62 hs72 hs82 hs91 hc3] at hRR; exact hRR _ _ ⟨_, ⟨⟨_, [], _⟩, rfl, rfl, .none⟩, H13.sub .nil⟩) | (rw [go_no hc0 hs23 (by first | exact nn_a hs36 | exact nn_b hc2) (by first | exact no1 hs62 | exact no2 hs72 | exact no3 hs82 | exact no4 hs91 | exact no5 hc3)] at hRR; exact hRR _ _ ⟨_, ⟨⟨_, [], 0⟩, rfl, rfl, .none⟩, H13.sub (.cons (.there .here) .nil)⟩)
                · refine .skip (cj ?_)
                  refine .seq ?_
                  refine .plain rfl ?_
                  refine .q rfl rfl rfl (val_move rfl) ?_
                  refine .q rfl rfl rfl (val_fieldAddr rfl fa_44_4) ?_
                  refine .qs rfl rfl rfl H13 (ld_blks rfl ag_42 (.own .here) (by repeat constructor)) ?_
                  refine .q rfl rfl rfl (val_move rfl) ?_
                  refine .q rfl rfl rfl (val_mk (.cons rfl (.cons rfl .nil)) (mk_156_0_2 _ _ _ _ _ _ _ _ _ _ _ _)) ?_
                  refine .box rfl rfl rfl rfl rfl H13 (fun w14 b14 H14 => ⟨fun _ => trivial, ?_⟩)
                  refine .q rfl rfl rfl (val_nilCheck rfl) ?_
                  refine .q rfl rfl rfl (val_fieldAddr rfl fa_92_7) ?_
                  refine .store rfl rfl rfl rfl rfl sz_90 rfl H14 (.there (.there .here)) (by repeat constructor) (fun w15 H15 => ⟨fun _ => trivial, ?_⟩)
                  refine .nil (cj ?_)
                  refine .seq ?_
                  refine .plain rfl ?_
                  refine .q rfl rfl rfl (val_assign rfl) ?_
                  refine .q rfl rfl rfl (val_assign rfl) ?_
                  refine .nil (cj ?_)
                  refine .ret (fret (res2 rfl rfl rfl) ?_)
                  first | (rw [go_a hc0] at hRR; exact hRR _ _ ⟨_, ⟨⟨_, [], 0⟩, rfl, rfl, .none⟩, H15.sub (.cons .here .nil)⟩) | (rw [go_b hc0 hs23] at hRR; exact hRR _ _ ⟨_, ⟨⟨_, [], 0⟩, rfl, rfl, .none⟩, H15.sub (.cons .here .nil)⟩) | (rw [go_c hc0 hs23 hs36 hc2] at hRR; exact hRR _ _ ⟨_, ⟨⟨_, _, 0⟩, rfl, rfl, .some _ _⟩, H15.sub .nil⟩) | (rw [go_yes hc0 hs23 (by first | exact nn_a hs36 | exact nn_b hc2) hs62 hs72 hs82 hs91 hc3] at hRR; exact hRR _ _ ⟨_, ⟨⟨_, [], _⟩, rfl, rfl, .none⟩, H15.sub (.cons .here (.cons .here .nil))⟩) | (rw [go_no hc0 hs23 (by first | exact nn_a hs36 | exact nn_b hc2) (by first | exact no1 hs62 | exact no2 hs72 | exact no3 hs82 | exact no4 hs91 | exact no5 hc3)] at hRR; exact hRR _ _ ⟨_, ⟨⟨_, [], 0⟩, rfl, rfl, .none⟩, H15.sub (.cons .here .nil)⟩)
theorem goes1_spec (c : Cf) (hm : MayOk c) (br bg bk bn bu : Nat) (r : Rb) (g : Gg) (t : Te) : Sk.Spec Tryz.prog 70 #[ptr br, .agg (encT t).toArray] [gfix c bg bk, kblk bk (KF c), stepsA] [rblk br bg bn r (some ⟨bu, 0, none⟩), gblk2 bu g] (GoPost br bg bn r (goB c r (some g) t)) := by
  refine Spec.of_code (vs := [_, _]) (k0 := [(0, _), (1, _)]) 103 Tryz.func70 rfl Tryz.ntmps70 rfl (.cons (.cons .nil)) fun w X RR hRR H => ?_
  refine .seq ?_
  refine .plain rfl ?_
  refine .box rfl rfl rfl rfl rfl H (fun w1 b1 H1 => ⟨fun _ => trivial, ?_⟩)
  refine .q rfl rfl rfl (val_assign rfl) ?_
  refine .q rfl rfl rfl (val_assign rfl) ?_
  refine .nil (cj ?_)
  refine .seq ?_
  refine .block ?_
  refine .seq ?_
  refine .drawS 8 (.cons (0, true) (.cons (1, true) (.cons (2, true) (.cons (3, true) (.cons (4, true) (.cons (5, true) (.cons (6, true) (.cons (7, true) .nil)))))))) mo (by kernel_rfl) H1 (fun _ _ _ _ _ h => h) (fun w2 H2 => ?_)
  refine .p rfl rfl rfl (val_fieldAddr rfl fa_44_2) ?_
  refine .ps rfl rfl rfl rfl (ld_b rfl ob_3 (.own .here) rfl) ?_
  refine .p rfl rfl rfl (val_move rfl) ?_
  refine .p rfl rfl rfl (val_nilCheck rfl) ?_
  refine .p rfl rfl rfl (val_fieldAddr rfl fa_92_5) ?_
  refine .ps rfl rfl rfl rfl (ld_b rfl ob_3 (.own (.there .here)) rfl) ?_
  refine .p rfl rfl rfl (val_lss rfl rfl rfl) ?_
  refine .p rfl rfl rfl (val_assign rfl) ?_
  refine .nil (cj ?_)
  refine .cond rfl (fun hc0 => ?_) (fun hc0 => ?_)
  · refine .seq ?_
    refine .plain rfl ?_
    refine .q rfl rfl rfl (val_assign rfl) ?_
    refine .q rfl rfl rfl (val_assign rfl) ?_
    refine .nil (cj ?_)
    refine .ret (fret (res2 rfl rfl rfl) ?_)
    first | (rw [go_a hc0] at hRR; exact hRR _ _ ⟨_, ⟨⟨_, [], bu⟩, rfl, rfl, .none⟩, H2.sub (.cons (.there .here) (.cons (.there .here) .nil))⟩) | (rw [go_u hc0] at hRR; exact hRR _ _ ⟨_, ⟨⟨_, [], bu⟩, rfl, rfl, .none⟩, H2.sub (.cons (.there .here) (.cons (.there .here) .nil))⟩)
  · refine .seq ?_
    refine .drawS 15 (.cons (0, true) (.cons (1, true) (.cons (2, true) (.cons (3, true) (.cons (4, true) (.cons (5, true) (.cons (6, true) (.cons (7, true) (.cons (8, true) (.cons (9, true) (.cons (10, true) (.cons (11, true) (.cons (12, true) (.cons (13, true) (.cons (14, true) .nil))))))))))))))) mo (by kernel_rfl) H2 (fun _ _ _ _ _ h => h) (fun w3 H3 => ?_)
    refine .p rfl rfl rfl (val_fieldAddr rfl fa_44_2) ?_
    refine .ps rfl rfl rfl rfl (ld_b rfl ob_3 (.own .here) rfl) ?_
    refine .p rfl rfl rfl (val_move rfl) ?_
    refine .p rfl rfl rfl (val_nilCheck rfl) ?_
    refine .p rfl rfl rfl (val_fieldAddr rfl fa_92_5) ?_
    refine .ps rfl rfl rfl rfl (ld_b rfl ob_3 (.own (.there .here)) rfl) ?_
    refine .p rfl rfl rfl (val_gtr rfl rfl rfl) ?_
    refine .p rfl rfl rfl (val_move rfl) ?_
    refine .case (t := 23) rfl (fun hs23 => ?_) (fun hs23 => ?_)
    · refine .no rfl rfl rfl ?_
      refine .no rfl rfl rfl ?_
      refine .no rfl rfl rfl ?_
      refine .no rfl rfl rfl ?_
      refine .no rfl rfl rfl ?_
      refine .p rfl rfl rfl (val_pick_t rfl rfl) ?_
      refine .p rfl rfl rfl (val_assign rfl) ?_
      refine .nil (cj ?_)
      refine .cond_t rfl ?_
      refine .seq ?_
      refine .plain rfl ?_
      refine .q rfl rfl rfl (val_assign rfl) ?_
      refine .q rfl rfl rfl (val_assign rfl) ?_
      refine .nil (cj ?_)
      refine .ret (fret (res2 rfl rfl rfl) ?_)
      first | (rw [go_a hc0] at hRR; exact hRR _ _ ⟨_, ⟨⟨_, [], bu⟩, rfl, rfl, .none⟩, H3.sub (.cons (.there .here) (.cons (.there .here) .nil))⟩) | (rw [go_u hc0] at hRR; exact hRR _ _ ⟨_, ⟨⟨_, [], bu⟩, rfl, rfl, .none⟩, H3.sub (.cons (.there .here) (.cons (.there .here) .nil))⟩)
    · refine .p rfl rfl rfl (val_move rfl) ?_
      refine .p rfl rfl rfl (val_nilCheck rfl) ?_
      refine .p rfl rfl rfl (val_fieldAddr rfl fa_92_7) ?_
      refine .ps rfl rfl rfl rfl (ld_b rfl ob_90 (.own (.there .here)) rfl) ?_
      refine .p rfl rfl rfl (val_ptr_ne_nil Tryz.underlying90 rfl rfl rfl) ?_
      refine .p rfl rfl rfl (val_pick_f rfl rfl) ?_
      refine .p rfl rfl rfl (val_assign rfl) ?_
      refine .nil (cj ?_)
      refine .cond_t rfl ?_
      refine .seq ?_
      refine .plain rfl ?_
      refine .q rfl rfl rfl (val_assign rfl) ?_
      refine .q rfl rfl rfl (val_assign rfl) ?_
      refine .nil (cj ?_)
      refine .ret (fret (res2 rfl rfl rfl) ?_)
      first | (rw [go_a hc0] at hRR; exact hRR _ _ ⟨_, ⟨⟨_, [], bu⟩, rfl, rfl, .none⟩, H3.sub (.cons (.there .here) (.cons (.there .here) .nil))⟩) | (rw [go_u hc0] at hRR; exact hRR _ _ ⟨_, ⟨⟨_, [], bu⟩, rfl, rfl, .none⟩, H3.sub (.cons (.there .here) (.cons (.there .here) .nil))⟩)
end Go.Proofs.YtmbibkifbehgnaaGreatDoor
namespace Go.Proofs.YtmbibkifbehgnaaGreatDoor
open Go Sk
set_option linter.unusedVariables false
set_option linter.unusedSimpArgs false
structure StR where
  tele : Option Te
  how : Int
  r : Rb
def stopB (r : Rb) (ep : Int) : StR :=
  if ep < r.epoch then ⟨none, 0, r⟩
  else if r.epoch < ep then (if ep = 0 then ⟨none, 0, { r with epoch := ep, num := 0 }⟩ else ⟨some (tellB { r with epoch := ep, num := 0 }), 3, { r with epoch := ep, num := 0 }⟩)
  else if r.epoch = 0 ∨ r.num ≠ 0 then ⟨none, 0, r⟩ else ⟨some (tellB r), 0, r⟩
section
variable {r : Rb} {ep : Int}
theorem st_a (h : decide (ep < r.epoch) = true) : stopB r ep = ⟨none, 0, r⟩ := by unfold stopB; rw [if_pos (of_decide_eq_true h)]
theorem st_b (h : decide (ep < r.epoch) = false) (h2 : decide (r.epoch < ep) = true) (h3 : (ep == 0) = true) : stopB r ep = ⟨none, 0, { r with epoch := ep, num := 0 }⟩ := by
  unfold stopB; rw [if_neg (of_decide_eq_false h), if_pos (of_decide_eq_true h2), if_pos (by simpa using h3)]
theorem st_c (h : decide (ep < r.epoch) = false) (h2 : decide (r.epoch < ep) = true) (h3 : (ep == 0) = false) : stopB r ep = ⟨some (tellB { r with epoch := ep, num := 0 }), 3, { r with epoch := ep, num := 0 }⟩ := by
  unfold stopB; rw [if_neg (of_decide_eq_false h), if_pos (of_decide_eq_true h2), if_neg (by simpa using h3)]
theorem st_d (h : decide (ep < r.epoch) = false) (h2 : decide (r.epoch < ep) = false) (h3 : (r.epoch == 0) = true) : stopB r ep = ⟨none, 0, r⟩ := by
  unfold stopB; rw [if_neg (of_decide_eq_false h), if_neg (of_decide_eq_false h2), if_pos (.inl (by simpa using h3))]
theorem st_e (h : decide (ep < r.epoch) = false) (h2 : decide (r.epoch < ep) = false) (h3 : (r.num != 0) = true) : stopB r ep = ⟨none, 0, r⟩ := by
  unfold stopB; rw [if_neg (of_decide_eq_false h), if_neg (of_decide_eq_false h2), if_pos (.inr (by simpa using h3))]
theorem st_f (h : decide (ep < r.epoch) = false) (h2 : decide (r.epoch < ep) = false) (h3 : (r.epoch == 0) = false) (h4 : (r.num != 0) = false) : stopB r ep = ⟨some (tellB r), 0, r⟩ := by
  have a : ¬ (r.epoch = 0 ∨ r.num ≠ 0) := by simp at h3 h4; simp [h3, h4]
  unfold stopB; rw [if_neg (of_decide_eq_false h), if_neg (of_decide_eq_false h2), if_neg a]
end
abbrev StPost (br bg bn : Nat) (q : StR) : Ending → List As → Prop := fun e F' => ∃ x : HX, e = .returned (.tuple #[x.v, i64 q.how]) ∧ F' = x.fx ++ [rblk br bg bn q.r none] ∧ TeV q.tele x.v x.fx
theorem stops0_spec (br bg bn : Nat) (r : Rb) (ep : Int) : Sk.Spec Tryz.prog 71 #[ptr br, i64 ep] [] [rblk br bg bn r none] (StPost br bg bn (stopB r ep)) := by
  refine Spec.of_code (vs := [_, _]) (k0 := [(0, _), (1, _)]) 60 Tryz.func71 rfl Tryz.ntmps71 rfl (.cons (.cons .nil)) fun w X RR hRR H => ?_
  refine .seq ?_
  refine .plain rfl ?_
  refine .q rfl rfl rfl (val_assign rfl) ?_
  refine .q rfl rfl rfl (val_assign rfl) ?_
  refine .nil (cj ?_)
  refine .seq ?_
  refine .plain rfl ?_
  refine .q rfl rfl rfl (val_assign rfl) ?_
  refine .nil (cj ?_)
  refine .seq ?_
  refine .block ?_
  refine .seq ?_
  refine .block ?_
  refine .seq ?_
  refine .block ?_
  refine .seq ?_
  refine .block ?_
  refine .seq ?_
  refine .seq ?_
  refine .seq ?_
  refine .plain rfl ?_
  refine .q rfl rfl rfl (val_move rfl) ?_
  refine .q rfl rfl rfl (val_move rfl) ?_
  refine .q rfl rfl rfl (val_nilCheck rfl) ?_
  refine .q rfl rfl rfl (val_fieldAddr rfl fa_92_5) ?_
  refine .qs rfl rfl rfl H (ld_b rfl ob_3 (.own .here) rfl) ?_
  refine .q rfl rfl rfl (val_lss rfl rfl rfl) ?_
  refine .q rfl rfl rfl (val_assign rfl) ?_
  refine .nil (cj ?_)
  refine .cond rfl (fun hc0 => ?_) (fun hc0 => ?_)
  · refine .exit (cj ?_)
    refine .seq ?_
    refine .seq ?_
    refine .plain rfl ?_
    refine .q rfl rfl rfl (val_assign rfl) ?_
    refine .q rfl rfl rfl (val_assign rfl) ?_
    refine .nil (cj ?_)
    refine .ret (fret (res2 rfl rfl rfl) ?_)
    first | (exfalso; simp at hc3; done) | (rw [st_a hc0] at hRR; exact hRR _ _ ⟨_, ⟨⟨_, [], 0⟩, rfl, rfl, .none⟩, H.sub (.cons .here .nil)⟩) | (rw [st_b hc0 hc1 hs43] at hRR; exact hRR _ _ ⟨_, ⟨⟨_, [], 0⟩, rfl, rfl, .none⟩, H.sub (.cons .here .nil)⟩) | (rw [st_c hc0 hc1 hs43] at hRR; exact hRR _ _ ⟨_, ⟨⟨_, _, 0⟩, rfl, rfl, .some _ _⟩, H.sub .nil⟩) | (rw [st_d hc0 hc1 hs43] at hRR; exact hRR _ _ ⟨_, ⟨⟨_, [], 0⟩, rfl, rfl, .none⟩, H.sub (.cons .here .nil)⟩) | (rw [st_e hc0 hc1 hc3] at hRR; exact hRR _ _ ⟨_, ⟨⟨_, [], 0⟩, rfl, rfl, .none⟩, H.sub (.cons .here .nil)⟩) | (rw [st_f hc0 hc1 hs43 hc3] at hRR; exact hRR _ _ ⟨_, ⟨⟨_, _, 0⟩, rfl, rfl, .some _ _⟩, H.sub .nil⟩)
  · refine .skip (cj ?_)
    refine .seq ?_
    refine .plain rfl ?_
    refine .q rfl rfl rfl (val_move rfl) ?_
    refine .q rfl rfl rfl (val_move rfl) ?_
    refine .q rfl rfl rfl (val_nilCheck rfl) ?_
    refine .q rfl rfl rfl (val_fieldAddr rfl fa_92_5) ?_
    refine .qs rfl rfl rfl H (ld_b rfl ob_3 (.own .here) rfl) ?_
    refine .q rfl rfl rfl (val_gtr rfl rfl rfl) ?_
    refine .q rfl rfl rfl (val_assign rfl) ?_
    refine .nil (cj ?_)
    refine .cond rfl (fun hc1 => ?_) (fun hc1 => ?_)
    · refine .exit (cj ?_)
      refine .seq ?_
      refine .plain rfl ?_
      refine .q rfl rfl rfl (val_move rfl) ?_
      refine .q rfl rfl rfl (val_move rfl) ?_
      refine .q rfl rfl rfl (val_move rfl) ?_
      refine .q rfl rfl rfl (val_nilCheck rfl) ?_
      refine .q rfl rfl rfl (val_fieldAddr rfl fa_92_5) ?_
      refine .store rfl rfl rfl rfl rfl sz_3 rfl H .here (by repeat constructor) (fun w1 H1 => ⟨fun _ => trivial, ?_⟩)
      refine .q rfl rfl rfl (val_nilCheck rfl) ?_
      refine .q rfl rfl rfl (val_fieldAddr rfl fa_92_6) ?_
      refine .store rfl rfl rfl rfl rfl sz_3 rfl H1 .here (by repeat constructor) (fun w2 H2 => ⟨fun _ => trivial, ?_⟩)
      refine .nil (cj ?_)
      refine .seq ?_
      refine .seq ?_
      refine .plain rfl ?_
      refine .q rfl rfl rfl (val_move rfl) ?_
      refine .q rfl rfl rfl (val_nilCheck rfl) ?_
      refine .q rfl rfl rfl (val_fieldAddr rfl fa_92_7) ?_
      refine .qs rfl rfl rfl H2 (ld_b rfl ob_90 (.own .here) rfl) ?_
      refine .q rfl rfl rfl (val_ptr_ne_nil Tryz.underlying90 rfl rfl rfl) ?_
      refine .nil (cj ?_)
      refine .cond_f rfl ?_
      refine .skip (cj ?_)
      refine .plain rfl ?_
      refine .q rfl rfl rfl (val_assign rfl) ?_
      refine .nil (cj ?_)
      refine .seq ?_
      refine .seq ?_
      refine .plain rfl ?_
      refine .q rfl rfl rfl (val_move rfl) ?_
      refine .q rfl rfl rfl (val_nilCheck rfl) ?_
      refine .q rfl rfl rfl (val_fieldAddr rfl fa_92_5) ?_
      refine .qs rfl rfl rfl H2 (ld_b rfl ob_3 (.own .here) rfl) ?_
      refine .q rfl rfl rfl (val_eql rfl rfl rfl) ?_
      refine .q rfl rfl rfl (val_move rfl) ?_
      refine .case (t := 43) rfl (fun hs43 => ?_) (fun hs43 => ?_)
      · refine .no rfl rfl rfl ?_
        refine .no rfl rfl rfl ?_
        refine .no rfl rfl rfl ?_
        refine .no rfl rfl rfl ?_
        refine .no rfl rfl rfl ?_
        refine .q rfl rfl rfl (val_pick_t rfl rfl) ?_
        refine .q rfl rfl rfl (val_move rfl) ?_
        refine .no rfl rfl rfl ?_
        refine .no rfl rfl rfl ?_
        refine .no rfl rfl rfl ?_
        refine .no rfl rfl rfl ?_
        refine .no rfl rfl rfl ?_
        refine .q rfl rfl rfl (val_pick_t rfl rfl) ?_
        refine .nil (cj ?_)
        refine .cond_t rfl ?_
        refine .seq ?_
        refine .plain rfl ?_
        refine .q rfl rfl rfl (val_assign rfl) ?_
        refine .q rfl rfl rfl (val_assign rfl) ?_
        refine .nil (cj ?_)
        refine .ret (fret (res2 rfl rfl rfl) ?_)
        first | (exfalso; simp at hc3; done) | (rw [st_a hc0] at hRR; exact hRR _ _ ⟨_, ⟨⟨_, [], 0⟩, rfl, rfl, .none⟩, H2.sub (.cons .here .nil)⟩) | (rw [st_b hc0 hc1 hs43] at hRR; exact hRR _ _ ⟨_, ⟨⟨_, [], 0⟩, rfl, rfl, .none⟩, H2.sub (.cons .here .nil)⟩) | (rw [st_c hc0 hc1 hs43] at hRR; exact hRR _ _ ⟨_, ⟨⟨_, _, 0⟩, rfl, rfl, .some _ _⟩, H2.sub .nil⟩) | (rw [st_d hc0 hc1 hs43] at hRR; exact hRR _ _ ⟨_, ⟨⟨_, [], 0⟩, rfl, rfl, .none⟩, H2.sub (.cons .here .nil)⟩) | (rw [st_e hc0 hc1 hc3] at hRR; exact hRR _ _ ⟨_, ⟨⟨_, [], 0⟩, rfl, rfl, .none⟩, H2.sub (.cons .here .nil)⟩) | (rw [st_f hc0 hc1 hs43 hc3] at hRR; exact hRR _ _ ⟨_, ⟨⟨_, _, 0⟩, rfl, rfl, .some _ _⟩, H2.sub .nil⟩)
      · refine .q rfl rfl rfl (val_move rfl) ?_
        refine .q rfl rfl rfl (val_nilCheck rfl) ?_
        refine .q rfl rfl rfl (val_fieldAddr rfl fa_92_7) ?_
        refine .qs rfl rfl rfl H2 (ld_b rfl ob_90 (.own .here) rfl) ?_
        refine .q rfl rfl rfl (val_ptr_ne_nil Tryz.underlying90 rfl rfl rfl) ?_
        refine .q rfl rfl rfl (val_pick_f rfl rfl) ?_
        refine .q rfl rfl rfl (val_move rfl) ?_
        refine .q rfl rfl rfl (val_move rfl) ?_
        refine .q rfl rfl rfl (val_nilCheck rfl) ?_
        refine .q rfl rfl rfl (val_fieldAddr rfl fa_92_6) ?_
        refine .qs rfl rfl rfl H2 (ld_b rfl ob_3 (.own .here) rfl) ?_
        refine .q rfl rfl rfl (val_neq rfl rfl rfl) ?_
        refine .q rfl rfl rfl (val_pick_f rfl rfl) ?_
        refine .nil (cj ?_)
        refine .cond rfl (fun hc3 => ?_) (fun hc3 => ?_)
        · refine .seq ?_
          refine .plain rfl ?_
          refine .q rfl rfl rfl (val_assign rfl) ?_
          refine .q rfl rfl rfl (val_assign rfl) ?_
          refine .nil (cj ?_)
          refine .ret (fret (res2 rfl rfl rfl) ?_)
          first | (exfalso; simp at hc3; done) | (rw [st_a hc0] at hRR; exact hRR _ _ ⟨_, ⟨⟨_, [], 0⟩, rfl, rfl, .none⟩, H2.sub (.cons .here .nil)⟩) | (rw [st_b hc0 hc1 hs43] at hRR; exact hRR _ _ ⟨_, ⟨⟨_, [], 0⟩, rfl, rfl, .none⟩, H2.sub (.cons .here .nil)⟩) | (rw [st_c hc0 hc1 hs43] at hRR; exact hRR _ _ ⟨_, ⟨⟨_, _, 0⟩, rfl, rfl, .some _ _⟩, H2.sub .nil⟩) | (rw [st_d hc0 hc1 hs43] at hRR; exact hRR _ _ ⟨_, ⟨⟨_, [], 0⟩, rfl, rfl, .none⟩, H2.sub (.cons .here .nil)⟩) | (rw [st_e hc0 hc1 hc3] at hRR; exact hRR _ _ ⟨_, ⟨⟨_, [], 0⟩, rfl, rfl, .none⟩, H2.sub (.cons .here .nil)⟩) | (rw [st_f hc0 hc1 hs43 hc3] at hRR; exact hRR _ _ ⟨_, ⟨⟨_, _, 0⟩, rfl, rfl, .some _ _⟩, H2.sub .nil⟩)
        · refine .skip (cj ?_)
          refine .exit (cj ?_)
          refine .seq ?_
          refine .plain rfl ?_
          refine .q rfl rfl rfl (val_move rfl) ?_
          first | (refine .callx rfl rfl rfl en58 (.cons rfl .nil) (tell_spec _ _ _ { r with epoch := ep, num := 0 } _) H2 .nil (.own .here .nil) (fun b3 w3 C3 H3 => ⟨fun _ => trivial, ?_⟩)) | (refine .callx rfl rfl rfl en58 (.cons rfl .nil) (tell_spec _ _ _ _ _) H2 .nil (.own .here .nil) (fun b3 w3 C3 H3 => ⟨fun _ => trivial, ?_⟩))
          refine .q rfl rfl rfl (val_move rfl) ?_
          refine .q rfl rfl rfl (val_assign rfl) ?_
          refine .q rfl rfl rfl (val_assign rfl) ?_
          refine .nil (cj ?_)
          refine .ret (fret (res2 rfl rfl rfl) ?_)
          first | (exfalso; simp at hc3; done) | (rw [st_a hc0] at hRR; exact hRR _ _ ⟨_, ⟨⟨_, [], 0⟩, rfl, rfl, .none⟩, H3.sub (.cons (.there .here) .nil)⟩) | (rw [st_b hc0 hc1 hs43] at hRR; exact hRR _ _ ⟨_, ⟨⟨_, [], 0⟩, rfl, rfl, .none⟩, H3.sub (.cons (.there .here) .nil)⟩) | (rw [st_c hc0 hc1 hs43] at hRR; exact hRR _ _ ⟨_, ⟨⟨_, _, 0⟩, rfl, rfl, .some _ _⟩, H3.sub (.cons .here (.cons .here .nil))⟩) | (rw [st_d hc0 hc1 hs43] at hRR; exact hRR _ _ ⟨_, ⟨⟨_, [], 0⟩, rfl, rfl, .none⟩, H3.sub (.cons (.there .here) .nil)⟩) | (rw [st_e hc0 hc1 hc3] at hRR; exact hRR _ _ ⟨_, ⟨⟨_, [], 0⟩, rfl, rfl, .none⟩, H3.sub (.cons (.there .here) .nil)⟩) | (rw [st_f hc0 hc1 hs43 hc3] at hRR; exact hRR _ _ ⟨_, ⟨⟨_, _, 0⟩, rfl, rfl, .some _ _⟩, H3.sub (.cons .here (.cons .here .nil))⟩)
    · refine .skip (cj ?_)
      refine .exit (cj ?_)
      refine .seq ?_
      refine .seq ?_
      refine .plain rfl ?_
      refine .q rfl rfl rfl (val_move rfl) ?_
      refine .q rfl rfl rfl (val_nilCheck rfl) ?_
      refine .q rfl rfl rfl (val_fieldAddr rfl fa_92_5) ?_
      refine .qs rfl rfl rfl H (ld_b rfl ob_3 (.own .here) rfl) ?_
      refine .q rfl rfl rfl (val_eql rfl rfl rfl) ?_
      refine .q rfl rfl rfl (val_move rfl) ?_
      refine .case (t := 43) rfl (fun hs43 => ?_) (fun hs43 => ?_)
      · refine .no rfl rfl rfl ?_
        refine .no rfl rfl rfl ?_
        refine .no rfl rfl rfl ?_
        refine .no rfl rfl rfl ?_
        refine .no rfl rfl rfl ?_
        refine .q rfl rfl rfl (val_pick_t rfl rfl) ?_
        refine .q rfl rfl rfl (val_move rfl) ?_
        refine .no rfl rfl rfl ?_
        refine .no rfl rfl rfl ?_
        refine .no rfl rfl rfl ?_
        refine .no rfl rfl rfl ?_
        refine .no rfl rfl rfl ?_
        refine .q rfl rfl rfl (val_pick_t rfl rfl) ?_
        refine .nil (cj ?_)
        refine .cond_t rfl ?_
        refine .seq ?_
        refine .plain rfl ?_
        refine .q rfl rfl rfl (val_assign rfl) ?_
        refine .q rfl rfl rfl (val_assign rfl) ?_
        refine .nil (cj ?_)
        refine .ret (fret (res2 rfl rfl rfl) ?_)
        first | (exfalso; simp at hc3; done) | (rw [st_a hc0] at hRR; exact hRR _ _ ⟨_, ⟨⟨_, [], 0⟩, rfl, rfl, .none⟩, H.sub (.cons .here .nil)⟩) | (rw [st_b hc0 hc1 hs43] at hRR; exact hRR _ _ ⟨_, ⟨⟨_, [], 0⟩, rfl, rfl, .none⟩, H.sub (.cons .here .nil)⟩) | (rw [st_c hc0 hc1 hs43] at hRR; exact hRR _ _ ⟨_, ⟨⟨_, _, 0⟩, rfl, rfl, .some _ _⟩, H.sub .nil⟩) | (rw [st_d hc0 hc1 hs43] at hRR; exact hRR _ _ ⟨_, ⟨⟨_, [], 0⟩, rfl, rfl, .none⟩, H.sub (.cons .here .nil)⟩) | (rw [st_e hc0 hc1 hc3] at hRR; exact hRR _ _ ⟨_, ⟨⟨_, [], 0⟩, rfl, rfl, .none⟩, H.sub (.cons .here .nil)⟩) | (rw [st_f hc0 hc1 hs43 hc3] at hRR; exact hRR _ _ ⟨_, ⟨⟨_, _, 0⟩, rfl, rfl, .some _ _⟩, H.sub .nil⟩)
      · refine .q rfl rfl rfl (val_move rfl) ?_
        refine .q rfl rfl rfl (val_nilCheck rfl) ?_
        refine .q rfl rfl rfl (val_fieldAddr rfl fa_92_7) ?_
        refine .qs rfl rfl rfl H (ld_b rfl ob_90 (.own .here) rfl) ?_
        refine .q rfl rfl rfl (val_ptr_ne_nil Tryz.underlying90 rfl rfl rfl) ?_
        refine .q rfl rfl rfl (val_pick_f rfl rfl) ?_
        refine .q rfl rfl rfl (val_move rfl) ?_
        refine .q rfl rfl rfl (val_move rfl) ?_
        refine .q rfl rfl rfl (val_nilCheck rfl) ?_
        refine .q rfl rfl rfl (val_fieldAddr rfl fa_92_6) ?_
        refine .qs rfl rfl rfl H (ld_b rfl ob_3 (.own .here) rfl) ?_
        refine .q rfl rfl rfl (val_neq rfl rfl rfl) ?_
        refine .q rfl rfl rfl (val_pick_f rfl rfl) ?_
        refine .nil (cj ?_)
        refine .cond rfl (fun hc3 => ?_) (fun hc3 => ?_)
        · refine .seq ?_
          refine .plain rfl ?_
          refine .q rfl rfl rfl (val_assign rfl) ?_
          refine .q rfl rfl rfl (val_assign rfl) ?_
          refine .nil (cj ?_)
          refine .ret (fret (res2 rfl rfl rfl) ?_)
          first | (exfalso; simp at hc3; done) | (rw [st_a hc0] at hRR; exact hRR _ _ ⟨_, ⟨⟨_, [], 0⟩, rfl, rfl, .none⟩, H.sub (.cons .here .nil)⟩) | (rw [st_b hc0 hc1 hs43] at hRR; exact hRR _ _ ⟨_, ⟨⟨_, [], 0⟩, rfl, rfl, .none⟩, H.sub (.cons .here .nil)⟩) | (rw [st_c hc0 hc1 hs43] at hRR; exact hRR _ _ ⟨_, ⟨⟨_, _, 0⟩, rfl, rfl, .some _ _⟩, H.sub .nil⟩) | (rw [st_d hc0 hc1 hs43] at hRR; exact hRR _ _ ⟨_, ⟨⟨_, [], 0⟩, rfl, rfl, .none⟩, H.sub (.cons .here .nil)⟩) | (rw [st_e hc0 hc1 hc3] at hRR; exact hRR _ _ ⟨_, ⟨⟨_, [], 0⟩, rfl, rfl, .none⟩, H.sub (.cons .here .nil)⟩) | (rw [st_f hc0 hc1 hs43 hc3] at hRR; exact hRR _ _ ⟨_, ⟨⟨_, _, 0⟩, rfl, rfl, .some _ _⟩, H.sub .nil⟩)
        · refine .skip (cj ?_)
          refine .exit (cj ?_)
          refine .seq ?_
          refine .plain rfl ?_
          refine .q rfl rfl rfl (val_move rfl) ?_
          first | (refine .callx rfl rfl rfl en58 (.cons rfl .nil) (tell_spec _ _ _ { r with epoch := ep, num := 0 } _) H .nil (.own .here .nil) (fun b4 w4 C4 H4 => ⟨fun _ => trivial, ?_⟩)) | (refine .callx rfl rfl rfl en58 (.cons rfl .nil) (tell_spec _ _ _ _ _) H .nil (.own .here .nil) (fun b4 w4 C4 H4 => ⟨fun _ => trivial, ?_⟩))
          refine .q rfl rfl rfl (val_move rfl) ?_
          refine .q rfl rfl rfl (val_assign rfl) ?_
          refine .q rfl rfl rfl (val_assign rfl) ?_
          refine .nil (cj ?_)
          refine .ret (fret (res2 rfl rfl rfl) ?_)
          first | (exfalso; simp at hc3; done) | (rw [st_a hc0] at hRR; exact hRR _ _ ⟨_, ⟨⟨_, [], 0⟩, rfl, rfl, .none⟩, H4.sub (.cons (.there .here) .nil)⟩) | (rw [st_b hc0 hc1 hs43] at hRR; exact hRR _ _ ⟨_, ⟨⟨_, [], 0⟩, rfl, rfl, .none⟩, H4.sub (.cons (.there .here) .nil)⟩) | (rw [st_c hc0 hc1 hs43] at hRR; exact hRR _ _ ⟨_, ⟨⟨_, _, 0⟩, rfl, rfl, .some _ _⟩, H4.sub (.cons .here (.cons .here .nil))⟩) | (rw [st_d hc0 hc1 hs43] at hRR; exact hRR _ _ ⟨_, ⟨⟨_, [], 0⟩, rfl, rfl, .none⟩, H4.sub (.cons (.there .here) .nil)⟩) | (rw [st_e hc0 hc1 hc3] at hRR; exact hRR _ _ ⟨_, ⟨⟨_, [], 0⟩, rfl, rfl, .none⟩, H4.sub (.cons (.there .here) .nil)⟩) | (rw [st_f hc0 hc1 hs43 hc3] at hRR; exact hRR _ _ ⟨_, ⟨⟨_, _, 0⟩, rfl, rfl, .some _ _⟩, H4.sub (.cons .here (.cons .here .nil))⟩)
end Go.Proofs.YtmbibkifbehgnaaGreatDoor
namespace Go.Proofs.YtmbibkifbehgnaaGreatDoor
open Go Sk
set_option linter.unusedVariables false
set_option linter.unusedSimpArgs false
structure Rw where
  i : Int
  pose : Ps
  load : Int
  epoch : Int
  num : Int
  under : Bool
  m : Mv
  left : Int
  gone : Int
  wait : Int
  stopping : Bool
  cut : Bool
abbrev encW (c : Cf) (r : Rw) : List Value := encCf c ++ [i64 r.i, i64 r.pose.x, i64 r.pose.y, .bool r.pose.d, i64 r.load, i64 r.epoch, i64 r.num, .bool r.under, i64 r.m.kind, i64 r.m.dir, i64 r.m.n, i64 r.m.fr.x, i64 r.m.fr.y, .bool r.m.fr.d, i64 r.m.to.x, i64 r.m.to.y, .bool r.m.to.d, i64 r.m.st, i64 r.m.en,
  i64 r.left, i64 r.gone, i64 r.wait, .bool r.stopping, .bool r.cut]
abbrev wblk (b : Nat) (c : Cf) (r : Rw) : As := blk b (encW c r) 50
structure TW where
  m : Mv
  how : Int
  r : Rw
section
variable {r : Rw}
end
end Go.Proofs.YtmbibkifbehgnaaGreatDoor
namespace Go.Proofs.YtmbibkifbehgnaaGreatDoor
open Go Sk
set_option linter.unusedVariables false
set_option linter.unusedSimpArgs false
def tellW (r : Rw) : Te := if r.num = 0 ∧ 0 < r.epoch then ⟨4, r.i, r.epoch, 0, mv0, r.pose, r.load⟩ else ⟨3, r.i, r.epoch, r.num, mv0, ps0, 0⟩
end Go.Proofs.YtmbibkifbehgnaaGreatDoor
namespace Go.Proofs.YtmbibkifbehgnaaGreatDoor
open Go Sk
set_option linter.unusedVariables false
set_option linter.unusedSimpArgs false
structure GoW where
  tele : Option Te
  how : Int
  r : Rw
section
variable {c : Cf} {r : Rw} {t : Te}
end
end Go.Proofs.YtmbibkifbehgnaaGreatDoor
namespace Go.Proofs.YtmbibkifbehgnaaGreatDoor
open Go Sk
set_option linter.unusedVariables false
set_option linter.unusedSimpArgs false
theorem mk_50_0_1_2 (x0_0_ : Int) (x0_1_ : Int) (x0_2_ : Int) (x0_3_A : Option Addr) (x0_3_n : Nat) (x0_3_c : Nat) (x0_4_A : Option Addr) (x0_4_n : Nat) (x0_4_c : Nat) (x0_5_A : Option Addr) (x0_5_n : Nat) (x0_5_c : Nat) (x0_6_A : Option Addr) (x0_6_n : Nat) (x0_6_c : Nat) (x0_7_ : Int) (x0_8_ : Int) (x0_9_ : Int) (x0_10_ : Int) (x0_11_ : Int) (x0_12_ : Int) (x0_13_ : Int) (x0_14_ : Int) (x0_15_ : Bool) (x1_ : Int) (x2_0_0_ : Int) (x2_0_1_ : Int) (x2_1_ : Bool) : Tryz.prog.built 50 [(0, .agg (List.toArray [.int .i64 x0_0_, .int .i64 x0_1_, .int .i64 x0_2_, .slice x0_3_A x0_3_n x0_3_c, .slice x0_4_A x0_4_n x0_4_c, .slice x0_5_A x0_5_n x0_5_c, .slice x0_6_A x0_6_n x0_6_c, .int .i64 x0_7_, .int .i64 x0_8_, .int .i64 x0_9_, .int .i64 x0_10_, .int .i64 x0_11_, .int .i64 x0_12_, .int .i64 x0_13_, .int .i64 x0_14_, .bool x0_15_])), (1, .int .i64 x1_), (2, .agg (List.toArray [.int .i64 x2_0_0_, .int .i64 x2_0_1_, .bool x2_1_]))] = some (List.toArray [.int .i64 x0_0_, .int .i64 x0_1_, .int .i64 x0_2_, .slice x0_3_A x0_3_n x0_3_c, .slice x0_4_A x0_4_n x0_4_c, .slice x0_5_A x0_5_n x0_5_c, .slice x0_6_A x0_6_n x0_6_c, .int .i64 x0_7_, .int .i64 x0_8_, .int .i64 x0_9_, .int .i64 x0_10_, .int .i64 x0_11_, .int .i64 x0_12_, .int .i64 x0_13_, .int .i64 x0_14_, .bool x0_15_, .int .i64 x1_, .int .i64 x2_0_0_, .int .i64 x2_0_1_, .bool x2_1_, .int .i64 0, .int .i64 0, .int .i64 0, .bool false, .int .i64 0, .int .i64 0, .int .i64 0, .int .i64 0, .int .i64 0, .bool false, .int .i64 0, .int .i64 0, .bool false, .int .i64 0, .int .i64 0, .int .i64 0, .int .i64 0, .int .i64 0, .bool false, .bool false]) := by kernel_rfl
def rw0 (i : Int) (p : Ps) : Rw := ⟨i, p, 0, 0, 0, false, mv0, 0, 0, 0, false, false⟩
theorem newW_spec (c : Cf) (hc : c.Fit) (i : Nat) (p : Ps) (hp : c.robots[i]? = some p) : Sk.Spec Tryz.prog 13 #[.agg (encCf c).toArray, i64 (i : Int)] [cr c] [] fun e F' => ∃ b : Nat, e = .returned (ptr b) ∧ F' = [wblk b c (rw0 i p)] ∧ True := by
  have hil := (List.getElem?_eq_some_iff.1 hp).1
  refine Spec.of_code (vs := [_, _]) (k0 := [(0, _), (1, _)]) 14 Tryz.func13 rfl Tryz.ntmps13 rfl (.cons (.cons .nil)) fun w X RR hRR H => ?_
  obtain ⟨b, o, hA⟩ := Has.base (R := [cr c]) (.ro .here) H (nil_of_flat encP_len (by decide) hil)
  refine .seq ?_
  refine .plain rfl ?_
  refine .box rfl rfl rfl rfl rfl H (fun w1 b1 H1 => ⟨fun _ => trivial, ?_⟩)
  refine .q rfl rfl rfl (val_assign rfl) ?_
  refine .nil (cj ?_)
  refine .seq ?_
  refine .drawS 10 (.cons (0, true) (.cons (1, true) (.cons (2, true) (.cons (3, true) (.cons (4, true) (.cons (5, true) (.cons (6, true) (.cons (7, true) (.cons (8, false) (.cons (9, true) .nil)))))))))) mo (by kernel_rfl) H1 (fun _ _ _ _ _ h => h) (fun w2 H2 => ?_)
  refine .ps rfl rfl rfl rfl (ld_w rfl ag_26 (.own .here) rfl) ?_
  refine .p rfl rfl rfl (val_move rfl) ?_
  refine .p rfl rfl rfl (val_fieldAddr rfl fa_26_5) ?_
  refine .ps rfl rfl rfl rfl (ld_b rfl ob_23 (.own .here) rfl) ?_
  refine .p rfl rfl rfl (val_move rfl) ?_
  refine .p rfl rfl rfl (val_ix el_23 hA rfl rfl rfl hil) ?_
  refine .ps rfl rfl rfl rfl (ld_ela rfl ag_40 .base hA (.ro .here) encP_len (by first | assumption | rfl)) ?_
  refine .p rfl rfl rfl (val_mk (.cons rfl (.cons rfl (.cons rfl .nil))) (mk_50_0_1_2 _ _ _ _ _ _ _ _ _ _ _ _ _ _ _ _ _ _ _ _ _ _ _ _ _ _ _ _)) ?_
  refine .box rfl rfl rfl rfl rfl H2 (fun w3 b3 H3 => ⟨fun _ => (H3.sub (.cons (.there .here) .nil)), ?_⟩)
  refine .p rfl rfl rfl (val_assign rfl) ?_
  refine .nil (cj ?_)
  refine .ret (fret (res1 rfl rfl) ?_)
  exact hRR _ _ ⟨_, ⟨_, rfl, rfl, trivial⟩, H3.sub (.cons .here .nil)⟩
end Go.Proofs.YtmbibkifbehgnaaGreatDoor
namespace Go.Proofs.YtmbibkifbehgnaaGreatDoor
open Go Sk
set_option linter.unusedVariables false
set_option linter.unusedSimpArgs false
def brkF (a : Int) : Nat → Int → Int
  | 0, _ => 0
  | f + 1, s => if 0 < s then s + brkF a f (s - a) else 0
/-- how far a robot goes behind a tick of the speed s -/
def brakeN (a s : Int) : Int := brkF a 2001 (s - a)
structure BQ where
  f : Nat
  n : Int
  s : Int
theorem brk_stop {a s : Int} {f : Nat} (h : ¬ 0 < s) : brkF a f s = 0 := by
  cases f with
  | zero => rfl
  | succ f => unfold brkF; rw [if_neg h]
end Go.Proofs.YtmbibkifbehgnaaGreatDoor
namespace Go.Proofs.YtmbibkifbehgnaaGreatDoor
open Go Sk
set_option linter.unusedVariables false
set_option linter.unusedSimpArgs false
def nextF (a r : Int) : Nat → Int → Int
  | 0, q => q
  | f + 1, q => if 1 < q ∧ r - q < brakeN a q then nextF a r f (q - 1) else q
def startQ (a r s v : Int) : Int := let q := if v < s + a then v else s + a; if r < q then r else q
/-- the next speed -/
def nextN (a r s v : Int) : Int := nextF a r 2001 (startQ a r s v)
structure NQ where
  f : Nat
  q : Int
section
variable {a r s v : Int}
theorem nx_stop1 {f : Nat} {q : Int} (h : decide (1 < q) = false) : nextF a r f q = q := by
  cases f with
  | zero => rfl
  | succ f => unfold nextF; rw [if_neg fun e => of_decide_eq_false h e.1]
theorem nx_stop2 {f : Nat} {q : Int} (h : decide (r - q < brakeN a q) = false) : nextF a r f q = q := by
  cases f with
  | zero => rfl
  | succ f => unfold nextF; rw [if_neg fun e => of_decide_eq_false h e.2]
theorem nx_go {f : Nat} {q : Int} (h : decide (1 < q) = true) (h2 : decide (r - q < brakeN a q) = true) : nextF a r (f + 1) q = nextF a r f (q - 1) := by
  conv => lhs; unfold nextF
  rw [if_pos ⟨of_decide_eq_true h, of_decide_eq_true h2⟩]
end
end Go.Proofs.YtmbibkifbehgnaaGreatDoor
namespace Go.Proofs.YtmbibkifbehgnaaGreatDoor
open Go Sk
set_option linter.unusedVariables false
set_option linter.unusedSimpArgs false
theorem nextF_rng {a r : Int} : ∀ (f : Nat) (q : Int), 1 ≤ q → 1 ≤ nextF a r f q ∧ nextF a r f q ≤ q
  | 0, q, h => ⟨h, Int.le_refl _⟩
  | f + 1, q, h => by
    unfold nextF
    split
    · rename_i hc
      have := nextF_rng (a := a) (r := r) f (q - 1) (by omega)
      omega
    · exact ⟨h, Int.le_refl _⟩
theorem nextN_rng {a r s v : Int} (ha : 1 ≤ a) (hr : 1 ≤ r) (hs : 0 ≤ s) (hv : 1 ≤ v) : 1 ≤ nextN a r s v ∧ nextN a r s v ≤ r ∧ nextN a r s v ≤ v := by
  have hq : 1 ≤ startQ a r s v ∧ startQ a r s v ≤ r ∧ startQ a r s v ≤ v := by
    unfold startQ; dsimp only; split <;> split <;> omega
  have := nextF_rng (a := a) (r := r) 2001 _ hq.1
  unfold nextN
  omega
/-- the places behind each tick, from a place with a speed, to an end (fuel f) -/
def profF (a v e : Int) : Nat → Int → Int → List Int
  | 0, _, _ => []
  | f + 1, p, s => if p < e then (p + nextN a (e - p) s v) :: profF a v e f (p + nextN a (e - p) s v) (nextN a (e - p) s v) else []
end Go.Proofs.YtmbibkifbehgnaaGreatDoor
namespace Go.Proofs.YtmbibkifbehgnaaGreatDoor
open Go Sk
set_option linter.unusedVariables false
set_option linter.unusedSimpArgs false
theorem bs_3_1_0 (x0_ : Int) : Tryz.prog.builtSlice 3 1 [(0, .int .i64 x0_)] = some (List.toArray [.int .i64 x0_]) := by kernel_rfl
structure PQ where
  f : Nat
  v : Value
  acc : List Int
  p : Int
  s : Int
/-- a run's places behind each tick -/
def prof (u ac vm n : Int) : List Int := profF ac vm (n * u) (n * u).toNat 0 0
theorem prof_stop {a v e p s : Int} {f : Nat} (h : decide (p < e) = false) : profF a v e f p s = [] := by
  cases f with
  | zero => rfl
  | succ f => unfold profF; rw [if_neg (of_decide_eq_false h)]
theorem row_snocI {v : Value} {acc : List Int} {m : Int} : row v 3 1 (acc ++ [m]).length ((acc ++ [m]).flatMap encI) = row v 3 1 (acc.length + 1) (acc.flatMap encI ++ encI m) := by
  simp
end Go.Proofs.YtmbibkifbehgnaaGreatDoor
namespace Go.Proofs.YtmbibkifbehgnaaGreatDoor
open Go Sk
set_option linter.unusedVariables false
set_option linter.unusedSimpArgs false
theorem profF_le {a v e : Int} (ha : 1 ≤ a) (hv : 1 ≤ v) : ∀ (f : Nat) (p s : Int), 0 ≤ s → ∀ x ∈ profF a v e f p s, p < x ∧ x ≤ e
  | 0, _, _, _ => fun x hx => by cases hx
  | f + 1, p, s, hs => fun x hx => by
    unfold profF at hx
    split at hx
    · rename_i hc
      have hnx := nextN_rng (a := a) (r := e - p) (s := s) (v := v) ha (by omega) hs hv
      rcases List.mem_cons.1 hx with rfl | hx
      · omega
      · have := profF_le ha hv f _ _ (by omega) x hx
        omega
    · cases hx
theorem profF_len {a v e : Int} : ∀ (f : Nat) (p s : Int), (profF a v e f p s).length ≤ f
  | 0, _, _ => Nat.le_refl _
  | f + 1, p, s => by
    unfold profF
    split
    · have := profF_len (a := a) (v := v) (e := e) f (p + nextN a (e - p) s v) (nextN a (e - p) s v)
      simp only [List.length_cons]; omega
    · simp
theorem prof_len {u a v n : Int} (hu : 1 ≤ u ∧ u ≤ 1000) (hn : 1 ≤ n ∧ n ≤ 16) : (prof u a v n).length ≤ 16000 := by
  have h1 : n * u ≤ 16 * 1000 := Int.mul_le_mul hn.2 hu.2 (by omega) (by omega)
  have := profF_len (a := a) (v := v) (e := n * u) (n * u).toNat 0 0
  unfold prof
  omega
theorem prof_pos {u a v n : Int} (hu : 1 ≤ u) (hn : 1 ≤ n) : 0 < (prof u a v n).length := by
  have h : 0 < n * u := Int.mul_pos (by omega) (by omega)
  obtain ⟨k, hk⟩ : ∃ k, (n * u).toNat = k + 1 := ⟨(n * u).toNat - 1, by omega⟩
  unfold prof
  rw [hk, profF, if_pos h]
  simp
/-- the place behind t ticks -/
def atN (u a v n t : Int) : Int := if t < 1 then 0 else if ((prof u a v n).length : Int) ≤ t then n * u else (prof u a v n).getD (t - 1).toNat 0
theorem at_0 {u a v n t : Int} (h : decide (t < 1) = true) : atN u a v n t = 0 := by unfold atN; rw [if_pos (of_decide_eq_true h)]
end Go.Proofs.YtmbibkifbehgnaaGreatDoor
namespace Go.Proofs.YtmbibkifbehgnaaGreatDoor
open Go Sk
set_option linter.unusedVariables false
set_option linter.unusedSimpArgs false
theorem atN_rng {u a v n t : Int} (hu : 1 ≤ u ∧ u ≤ 1000) (ha : 1 ≤ a) (hv : 1 ≤ v) (hn : 1 ≤ n ∧ n ≤ 16) : 0 ≤ atN u a v n t ∧ atN u a v n t ≤ n * u ∧ n * u ≤ 16000 := by
  have h1 : n * u ≤ 16 * 1000 := Int.mul_le_mul hn.2 hu.2 (by omega) (by omega)
  have h2 : 0 < n * u := Int.mul_pos (by omega) (by omega)
  unfold atN
  split
  · omega
  · split
    · omega
    · rename_i h3 h4
      have hx := getD_get (l := prof u a v n) (i := (t - 1).toNat) (by omega) 0
      have := profF_le ha hv _ _ _ (Int.le_refl 0) _ (List.mem_of_getElem? hx)
      omega
def speedN (u a v n t : Int) : Int := if t < 1 then 0 else atN u a v n t - atN u a v n (t - 1)
theorem sp_0 {u a v n t : Int} (h : decide (t < 1) = true) : speedN u a v n t = 0 := by unfold speedN; rw [if_pos (of_decide_eq_true h)]
theorem sp_1 {u a v n t : Int} (h : decide (t < 1) = false) : speedN u a v n t = atN u a v n t - atN u a v n (t - 1) := by unfold speedN; rw [if_neg (of_decide_eq_false h)]
end Go.Proofs.YtmbibkifbehgnaaGreatDoor
namespace Go.Proofs.YtmbibkifbehgnaaGreatDoor
open Go Sk
set_option linter.unusedVariables false
set_option linter.unusedSimpArgs false
theorem brkF_rng {a : Int} (ha : 0 ≤ a) : ∀ (f : Nat) (s : Int), s ≤ 1000 → 0 ≤ brkF a f s ∧ brkF a f s ≤ 1000 * (f : Int)
  | 0, s, _ => by simp [brkF]
  | f + 1, s, h => by
    unfold brkF
    split
    · have := brkF_rng ha f (s - a) (by omega)
      omega
    · omega
theorem brakeN_rng {a s : Int} (ha : 1 ≤ a) (hs : s ≤ 1000) : 0 ≤ brakeN a s ∧ brakeN a s ≤ 2001000 := by
  have := brkF_rng (a := a) (by omega) 2001 (s - a) (by omega)
  unfold brakeN; omega
theorem profF_up {a v e : Int} (ha : 1 ≤ a) (hv : 1 ≤ v) : ∀ (f : Nat) (p s : Int), 0 ≤ s → (profF a v e f p s).Pairwise (· < ·)
  | 0, _, _, _ => List.Pairwise.nil
  | f + 1, p, s, hs => by
    unfold profF
    split
    · have hnx := nextN_rng (a := a) (r := e - p) (s := s) (v := v) ha (by omega) hs hv
      exact List.pairwise_cons.2 ⟨fun x hx => (profF_le ha hv f _ _ (by omega) x hx).1, profF_up ha hv f _ _ (by omega)⟩
    · exact List.Pairwise.nil
theorem profF_step {a v e : Int} (ha : 1 ≤ a) (hv : 1 ≤ v) : ∀ (f : Nat) (p s : Int), 0 ≤ s → (∀ x, (profF a v e f p s)[0]? = some x → x - p ≤ v) ∧ ∀ (i : Nat) (x y : Int), (profF a v e f p s)[i]? = some x → (profF a v e f p s)[i + 1]? = some y → y - x ≤ v
  | 0, _, _, _ => ⟨fun x hx => (by simp [profF] at hx), fun i x y hx => (by simp [profF] at hx)⟩
  | f + 1, p, s, hs => by
    unfold profF
    split
    · have hnx := nextN_rng (a := a) (r := e - p) (s := s) (v := v) ha (by omega) hs hv
      have ih := profF_step (e := e) ha hv f (p + nextN a (e - p) s v) (nextN a (e - p) s v) (by omega)
      refine ⟨fun x hx => ?_, fun i x y hx hy => ?_⟩
      · have : p + nextN a (e - p) s v = x := by simpa using hx
        omega
      · cases i with
        | zero =>
          have h1 : p + nextN a (e - p) s v = x := by simpa using hx
          have h2 := ih.1 y (by simpa using hy)
          omega
        | succ i => exact ih.2 i x y (by simpa using hx) (by simpa using hy)
    · exact ⟨fun x hx => (by simp at hx), fun i x y hx => (by simp at hx)⟩
theorem speedN_rng {u a v n t : Int} (hu : 1 ≤ u ∧ u ≤ 1000) (ha : 1 ≤ a) (hv : 1 ≤ v) (hn : 1 ≤ n ∧ n ≤ 16) (h1 : 1 ≤ t) (h2 : t < ((prof u a v n).length : Int)) : 1 ≤ speedN u a v n t ∧ speedN u a v n t ≤ v := by
  have hup := profF_up (a := a) (v := v) (e := n * u) ha hv (n * u).toNat 0 0 (Int.le_refl 0)
  have hst := profF_step (a := a) (v := v) (e := n * u) ha hv (n * u).toNat 0 0 (Int.le_refl 0)
  have hx := getD_get (l := prof u a v n) (i := (t - 1).toNat) (by omega) 0
  unfold speedN
  rw [if_neg (by omega)]
  have e1 : atN u a v n t = (prof u a v n).getD (t - 1).toNat 0 := by unfold atN; rw [if_neg (by omega), if_neg (by omega)]
  rw [e1]
  by_cases h : t - 1 < 1
  · have e2 : atN u a v n (t - 1) = 0 := by unfold atN; rw [if_pos h]
    have e3 : (t - 1).toNat = 0 := by omega
    rw [e2]; rw [e3] at hx ⊢
    have := hst.1 _ hx
    have h9 := (profF_le ha hv _ _ _ (Int.le_refl 0) _ (List.mem_of_getElem? hx)).1
    omega
  · have e2 : atN u a v n (t - 1) = (prof u a v n).getD (t - 1 - 1).toNat 0 := by unfold atN; rw [if_neg h, if_neg (by omega)]
    have hy := getD_get (l := prof u a v n) (i := (t - 1 - 1).toNat) (by omega) 0
    have e4 : (t - 1).toNat = (t - 1 - 1).toNat + 1 := by omega
    rw [e2]
    rw [e4] at hx ⊢
    have h5 := hst.2 _ _ _ hy hx
    obtain ⟨l1, g1⟩ := List.getElem?_eq_some_iff.1 hx
    obtain ⟨l2, g2⟩ := List.getElem?_eq_some_iff.1 hy
    have h6 := List.pairwise_iff_getElem.1 hup _ _ l2 l1 (Nat.lt_succ_self _)
    rw [← g1, ← g2] at h5 ⊢
    have h7 : (prof u a v n)[(t - 1 - 1).toNat] < (prof u a v n)[(t - 1 - 1).toNat + 1] := h6
    omega
end Go.Proofs.YtmbibkifbehgnaaGreatDoor
namespace Go.Proofs.YtmbibkifbehgnaaGreatDoor
open Go Sk
set_option linter.unusedVariables false
set_option linter.unusedSimpArgs false
/-- how many ticks it takes to fall, from a place with a speed, to an end -/
def fallF (a e : Int) : Nat → Int → Int → Nat
  | 0, _, _ => 0
  | f + 1, p, s => if p < e then fallF a e f (p + nextN a (e - p) s s) (nextN a (e - p) s s) + 1 else 0
def stopCells (u a v n t : Int) : Int := (atN u a v n t + brakeN a (speedN u a v n t) + u - 1) / u
def stopN (u a v n t : Int) : Int × Int :=
  if t < 1 then (0, 0) else if ((prof u a v n).length : Int) ≤ t then (n, 0)
  else (stopCells u a v n t, ((fallF a (stopCells u a v n t * u) (stopCells u a v n t * u - atN u a v n t).toNat (atN u a v n t) (speedN u a v n t) : Nat) : Int))
theorem so_0 {u a v n t : Int} (h : decide (t < 1) = true) : stopN u a v n t = (0, 0) := by unfold stopN; rw [if_pos (of_decide_eq_true h)]
theorem so_1 {u a v n t : Int} (h : decide (t < 1) = false) (h2 : decide (((prof u a v n).length : Int) ≤ t) = true) : stopN u a v n t = (n, 0) := by unfold stopN; rw [if_neg (of_decide_eq_false h), if_pos (of_decide_eq_true h2)]
theorem so_2 {u a v n t : Int} (h : decide (t < 1) = false) (h2 : decide (((prof u a v n).length : Int) ≤ t) = false) : stopN u a v n t = (stopCells u a v n t, ((fallF a (stopCells u a v n t * u) (stopCells u a v n t * u - atN u a v n t).toNat (atN u a v n t) (speedN u a v n t) : Nat) : Int)) := by
  unfold stopN; rw [if_neg (of_decide_eq_false h), if_neg (of_decide_eq_false h2)]
end Go.Proofs.YtmbibkifbehgnaaGreatDoor
namespace Go.Proofs.YtmbibkifbehgnaaGreatDoor
open Go Sk
set_option linter.unusedVariables false
set_option linter.unusedSimpArgs false
structure SQ where
  f : Nat
  n : Nat
  p : Int
  s : Int
end Go.Proofs.YtmbibkifbehgnaaGreatDoor
namespace Go.Proofs.YtmbibkifbehgnaaGreatDoor
open Go Sk
set_option linter.unusedVariables false
set_option linter.unusedSimpArgs false
theorem ag_44  : aggB Tryz.prog 44 19 = true := by kernel_rfl
theorem el_70  : elB Tryz.prog 70 19 = true := by kernel_rfl
end Go.Proofs.YtmbibkifbehgnaaGreatDoor
namespace Go.Proofs.YtmbibkifbehgnaaGreatDoor
open Go Sk
set_option linter.unusedVariables false
set_option linter.unusedSimpArgs false
theorem en55 : Enters Tryz.prog 55 := fun args w => by kernel_rfl
theorem en59 : Enters Tryz.prog 59 := fun args w => by kernel_rfl
def nowM : Option Gg → Mv
  | none => mv0
  | some g => g.move
def sameB (r : Rb) (g : Option Gg) (q : Rw) : Bool :=
  decide (r.pose = q.pose) && ((r.load == q.load) && ((r.epoch == q.epoch) && (decide (nowM g = q.m) && ((g.isSome == q.under) && decide (tellB r = tellW q)))))
end Go.Proofs.YtmbibkifbehgnaaGreatDoor
namespace Go.Proofs.YtmbibkifbehgnaaGreatDoor.Sk
open Go
set_option linter.unusedVariables false
set_option linter.unusedSimpArgs false
/-! ### 1. A block that is no cells; assertions in one -/
def obj (b : Nat) (o : Obj) : As where
  on X w := (∀ k, X k ↔ k = b) ∧ w.heap[b]? = some o
  loc X w w' h hk := ⟨h.1, (hk b ((h.1 b).2 rfl)).trans h.2⟩
  lt X w h k hk := by
    obtain rfl := (h.1 k).1 hk
    exact (Array.getElem?_eq_some_iff.1 h.2).1
def sep (L : List As) : As where
  on X w := Own L X w
  loc X w w' h hk := Own.loc h hk
  lt X w h := Own.lt h
theorem Own.split : ∀ {L F : List As} {X : Nat → Prop} {w : World}, Own (L ++ F) X w → ∃ X1 X2, Own L X1 w ∧ Own F X2 w ∧ (∀ k, X1 k → ¬ X2 k) ∧ ∀ k, X k ↔ X1 k ∨ X2 k
  | [], F, X, w, h => ⟨fun _ => False, X, fun _ h => h, h, fun _ h => h.elim, fun k => by simp⟩
  | f :: L, F, X, w, ⟨Y1, Y2, h1, h2, h3, h4⟩ => by
    obtain ⟨Z1, Z2, g1, g2, g3, g4⟩ := Own.split h2
    refine ⟨fun k => Y1 k ∨ Z1 k, Z2, ⟨Y1, Z1, h1, g1, fun k hk hz => h3 k hk ((g4 k).2 (.inl hz)), fun k => Iff.rfl⟩, g2, ?_, fun k => ?_⟩
    · rintro k (hk | hk) hz
      · exact h3 k hk ((g4 k).2 (.inr hz))
      · exact g3 k hk hz
    · rw [h4 k, g4 k]
      exact ⟨fun h => by rcases h with h | h | h <;> simp [h], fun h => by rcases h with (h | h) | h <;> simp [h]⟩
theorem Own.sepIn {L F : List As} {X : Nat → Prop} {w : World} (h : Own (L ++ F) X w) : Own (sep L :: F) X w := Own.split h
theorem Own.sepOut {L F : List As} {X : Nat → Prop} {w : World} (h : Own (sep L :: F) X w) : Own (L ++ F) X w := by
  obtain ⟨X1, X2, h1, h2, h3, h4⟩ := h
  have e : X = fun k => X1 k ∨ X2 k := funext fun k => propext (h4 k)
  rw [e]
  exact Own.append h1 h2 h3
section
variable {w0 w : World} {M : Nat → Prop} {R F : List As}
theorem St.map {G : List As} (H : St w0 w M R F) (h : ∀ X, Own F X w → Own G X w) : St w0 w M R G := by
  obtain ⟨⟨X, h1, h2, h3⟩, h4⟩ := H
  exact ⟨⟨X, h X h1, h2, h3⟩, h4⟩
theorem St.sepIn {L : List As} (H : St w0 w M R (L ++ F)) : St w0 w M R (sep L :: F) := H.map fun _ h => h.sepIn
theorem St.sepOut {L : List As} (H : St w0 w M R (sep L :: F)) : St w0 w M R (L ++ F) := H.map fun _ h => h.sepOut
theorem St.newObj (H : St w0 w M R F) (o : Obj) : St w0 (w.alloc o) M R (obj w.heap.size o :: F) := by
  obtain ⟨⟨X, h1, h2, h3⟩, h4⟩ := H
  have hold : ∀ k, k < w.heap.size → (w.alloc o).heap[k]? = w.heap[k]? := fun k hk => by
    show (w.heap.push _)[k]? = _
    rw [Array.getElem?_push, if_neg (by omega)]
  refine ⟨⟨fun k => k = w.heap.size ∨ X k, ⟨fun k => k = w.heap.size, X, ⟨fun k => Iff.rfl, ?_⟩, Own.loc h1 fun k hk => hold k (Own.lt h1 k hk), ?_, fun k => Iff.rfl⟩, ?_, ?_⟩, ?_⟩
  · show (w.heap.push _)[w.heap.size]? = _
    simp
  · rintro k rfl hx
    exact absurd (Own.lt h1 _ hx) (by omega)
  · intro r hr
    obtain ⟨Y, hY, hd⟩ := h2 r hr
    refine ⟨Y, r.loc Y w _ hY fun k hk => hold k (r.lt Y w hY k hk), ?_⟩
    rintro k hk (rfl | hx)
    · exact absurd (r.lt Y w hY _ hk) (by omega)
    · exact hd k hk hx
  · rintro k (rfl | hx)
    · exact .inr h4.size
    · exact h3 k hx
  · exact h4.step (N := fun _ => False) ⟨rfl, rfl, rfl, by simp, fun k hk _ => hold k hk⟩ (fun _ h => h.elim)
theorem St.putObj {b : Nat} {o : Obj} {F' : List As} (H : St w0 w M R F) (hat : At F (obj b o) F') (o' : Obj) : w.heap[b]? = some o ∧ St w0 (w.putObj b o') M R (obj b o' :: F') := by
  obtain ⟨⟨X, h1, h2, h3⟩, h4⟩ := H
  obtain ⟨X1, X2, ⟨g1, g1'⟩, g2, g3, g4⟩ := Own.pick hat h1
  have hold : ∀ k, k ≠ b → (w.putObj b o').heap[k]? = w.heap[k]? := fun k hk => World.putObj_heap_other hk
  have hx1 : X1 b := (g1 b).2 rfl
  refine ⟨g1', ⟨X, ⟨X1, X2, ⟨g1, World.putObj_heap_same (Array.getElem?_eq_some_iff.1 g1').1⟩, Own.loc g2 fun k hk => hold k (fun e => g3 b hx1 (e ▸ hk)), g3, g4⟩, ?_, h3⟩, ?_⟩
  · intro r hr
    obtain ⟨Y, hY, hd⟩ := h2 r hr
    exact ⟨Y, r.loc Y w _ hY fun k hk => hold k (fun e => hd k hk ((g4 k).2 (.inl (e ▸ hx1)))), hd⟩
  · refine h4.step (N := fun k => k = b) ⟨rfl, rfl, rfl, by simp, fun k _ hk => hold k hk⟩ ?_
    rintro k rfl
    exact h3 _ ((g4 _).2 (.inl hx1))
theorem At.mk {f : As} : ∀ {F : List As}, f ∈ F → ∃ F', At F f F'
  | g :: F, h => by
    rcases List.mem_cons.1 h with rfl | h
    · exact ⟨F, .here⟩
    · obtain ⟨F', h'⟩ := At.mk h
      exact ⟨g :: F', .there h'⟩
theorem Sub.all {R F : List As} : ∀ {Q : List As}, (∀ q ∈ Q, q ∈ R) → Sub R F Q
  | [], _ => .nil
  | q :: Q, h => by
    obtain ⟨R', h'⟩ := At.mk (h q List.mem_cons_self)
    exact .ro h' (Sub.all fun q hq => h q (List.mem_cons_of_mem _ hq))
end
/-! ### 2. In a round's frame -/
def WR (l : Nat) : Fence := Fence.wide.inRound l
section
variable {P : Program} {l n : Nat} {ops : Array Oper} {Q : Exit → Act → World → Prop}
theorem calls_inR {f : FuncId} {args : Array Value} {w : World} {R : Ending → World → Prop} (h : Calls P f args w R) : CallsIn (WR l) n P f args w R := (callsIn_wide (n := n)).2 h
theorem rows_inR {row : String} {args : Array Value} {w : World} {R : Value → World → Prop} (h : Rows P row args w R) : RowsIn (WR l) n P row args w R := fun c cs _ => by
  obtain ⟨v, w', r, s⟩ := h c cs
  exact ⟨v, w', r, stepsIn_wide.2 s⟩
theorem op_inR {o : Oper} {a : Act} {w : World} {K : Act → World → Prop} (hd : ∀ c, o.op ≠ .defer c) (h : o.wp P a w K Q) : o.wpIn (WR l) n P a w K Q := by
  refine ⟨fun _ _ => trivial, ?_⟩
  rw [Oper.semAt_eq _ _ _ hd]
  unfold Oper.wp at h
  generalize (execOp a.eval o).run P w = r at *
  have hn : (WR l).depth.isSome = true → 1 ≤ n := fun h => by simp [WR, Fence.wide, Fence.inRound] at h
  cases r with
  | ok x w' =>
    cases x <;> simp only [Oper.upon, Oper.uponIn] at h ⊢ <;>
      first
        | exact h
        | exact ⟨hn, calls_inR h⟩
        | exact ⟨hn, rows_inR h⟩
        | exact h.elim
  | halt x w' => cases x <;> simp only [Oper.upon, Oper.uponIn] at h ⊢ <;> exact h
def noDefer (ops : Array Oper) : Bool := ops.all fun o => match o.op with
  | .defer _ => false
  | _ => true
theorem noDefer_spec (h : noDefer ops = true) {i : Nat} {o : Oper} (hi : ops[i]? = some o) : ∀ c, o.op ≠ .defer c := by
  intro c hc
  obtain ⟨h1, h2⟩ := Array.getElem?_eq_some_iff.1 hi
  have := (Array.all_eq_true.1 h) i h1
  rw [h2, hc] at this
  cases this
theorem ops_inR (hd : noDefer ops = true) (hQ : ∀ a w, ¬ Q .outgrown a w) : ∀ (is : List Nat) (a : Act) (w : World), wpOps P ops Q is a w → wpOpsIn (WR l) n P ops Q is a w
  | [], a, w, h => h
  | i :: rest, a, w, h => by
    simp only [wpOps, wpOpsIn] at h ⊢
    cases ho : ops[i]? with
    | none => simp only [ho] at h ⊢; exact ops_inR hd hQ rest a w h
    | some o =>
      simp only [ho] at h ⊢
      by_cases hw : Region.wanted o (yielded ops a.tmps) = true
      · simp only [hw, if_true] at h ⊢
        rcases h with h | ⟨_, a', w', h⟩
        · exact Oper.wpIn_mono (fun a w => ops_inR hd hQ rest a w) (op_inR (noDefer_spec hd ho) h)
        · exact absurd h (hQ _ _)
      · simp only [hw, if_false, Bool.false_eq_true] at h ⊢
        exact ⟨fun _ _ => trivial, ops_inR hd hQ rest _ w h⟩
theorem wpOp_inR (hd : noDefer ops = true) (hQ : ∀ a w, ¬ Q .outgrown a w) {i : Nat} {K K' : Act → World → Prop} (hK : ∀ a w, K a w → K' a w) {a : Act} {w : World} (h : wpOp P ops Q i K a w) : wpOpIn (WR l) n P ops Q i K' a w := by
  unfold wpOp at h
  unfold wpOpIn
  cases ho : ops[i]? with
  | none => simp only [ho] at h ⊢; exact hK _ _ h
  | some o =>
    simp only [ho] at h ⊢
    by_cases hw : Region.wanted o (yielded ops a.tmps) = true
    · simp only [hw, if_true] at h ⊢
      rcases h with h | ⟨_, a', w', h⟩
      · exact Oper.wpIn_mono hK (op_inR (noDefer_spec hd ho) h)
      · exact absurd h (hQ _ _)
    · simp only [hw, if_false, Bool.false_eq_true] at h ⊢
      exact ⟨fun _ _ => trivial, hK _ _ h⟩
theorem any_inR (hd : noDefer ops = true) (hQ : ∀ a w, ¬ Q .outgrown a w) : ∀ (fuel : Nat) (listed : Array Bool) (a : Act) (w : World), wpAny P .any ops Q fuel listed a w → wpAnyIn (WR l) n P .any ops Q fuel listed a w
  | 0, _, _, _, h => h
  | fuel + 1, listed, a, w, h => ⟨h.1, fun i hi => wpOp_inR hd hQ (fun a w => any_inR hd hQ fuel _ a w) (h.2 i hi)⟩
/-- A piece of code, in a round of loop l. -/
def CJR (l : Nat) (P : Program) (nt : NT) (c : Code) (Q : Exit → Act → World → Prop) (k : L) (w : World) : Prop := ∀ a, Kn nt k a → c.wpIn (WR l) 0 P Q a w
variable {nt : NT} {k : L} {w : World}
theorem CJR.skip (h : ∀ a, Kn nt k a → Q .normal a w) : CJR l P nt .skip Q k w := fun a ha => wpIn_skip (h a ha)
theorem CJR.block {id : Nat} {c : Code} (h : CJR l P nt c (Exit.inBlock id Q) k w) : CJR l P nt (.block id c) Q k w := fun a ha => wpIn_block (h a ha)
theorem CJR.plain {id : Nat} {t : Tr} (hl : ord 0 ops.size = t) (hd : noDefer ops = true) (hQ : ∀ a w, ¬ Q .outgrown a w) (h : RJ P nt ops Q (fun _ => True) 0 t k w) : CJR l P nt (.region id ops false) Q k w := fun a ha => by
  subst hl
  have := wpC_ops _ _ _ _ (h a ha)
  rw [← List.range_eq_range'] at this
  exact wpIn_region (ops_inR hd hQ _ _ _ this)
theorem CJR.drawS {id : Nat} {w0 : World} {M : Nat → Prop} {R F : List As} (n : Nat) (t : Tr) (hm : P.follows .mixedOrders = true)
    (hb : (Region.noSelect ops && tailB ops n && (canon ops n ops.size (Array.replicate ops.size false) == some t)) = true) (hd : noDefer ops = true) (hQo : ∀ a w, ¬ Q .outgrown a w) (H : St w0 w M R F)
    (hQ : ∀ c a d v w, Q (.panic c) (a.put d v) w → Q (.panic c) a w)
    (h : ∀ w', St w0 w' M R F → RJ P nt ops Q (fun w' => St w0 w' M R F) n t k w') : CJR l P nt (.region id ops true) Q k w := fun a ha => by
  simp only [Bool.and_eq_true, beq_iff_eq] at hb
  refine wpIn_region_any hm (any_inR hd hQo _ _ _ _ ?_)
  exact wpT_any (S := fun w' => St w0 w' M R F) (n := n) _ _ _ _ (canon_sound hb.1.1 hb.1.2 hQ _ _ _ _ _ hb.2 (fun _ _ _ => H.drew) (h _ H.drew a ha))
end
/-! ### 3. Yield -/
/-- A call of a loop's yield, as a contract. -/
def YieldAt (P : Program) (l : Nat) (args : Array Value) (W : World) (R : Ending → World → Prop) : Prop :=
  ∃ fn tmps assign body, (Instr.yield l args).run P W = .ok (.round l fn tmps assign body) W ∧ RoundIn Fence.wide 0 P l fn tmps assign body W R
def SpecY (P : Program) (l : Nat) (args : Array Value) (R F : List As) (Post : Ending → List As → Prop) : Prop :=
  ∀ (w : World) (X : Nat → Prop), Own F X w → Ro R X w → YieldAt P l args w fun e w' => ∃ F' X', Post e F' ∧ Own F' X' w' ∧ Ext X w w' ∧ ∀ k, X' k → X k ∨ w.heap.size ≤ k
theorem YieldAt.mono {P : Program} {l : Nat} {args : Array Value} {W : World} {R R' : Ending → World → Prop} (h : YieldAt P l args W R) (hr : ∀ e w, R e w → R' e w) : YieldAt P l args W R' := by
  obtain ⟨fn, tmps, assign, body, hy, hR⟩ := h
  exact ⟨fn, tmps, assign, body, hy, hR.mono hr⟩
theorem SpecY.use {P : Program} {l : Nat} {args : Array Value} {Rc Fc : List As} {Post : Ending → List As → Prop} (hs : SpecY P l args Rc Fc Post)
    {w0 w : World} {M : Nat → Prop} {R F Fr : List As} (H : St w0 w M R F) (hF : Ats F Fc Fr) (hR : Sub R Fr Rc) :
    YieldAt P l args w fun e w' => ∃ F', Post e F' ∧ St w0 w' M R (F' ++ Fr) := by
  obtain ⟨⟨X, h1, h2, h3⟩, h4⟩ := H
  obtain ⟨X1, X2, g1, g2, g3, g4⟩ := Own.picks hF h1
  have hro : Ro Rc X1 w := fun r hr => by
    rcases hR.mem r hr with hr | hr
    · obtain ⟨Y, hY, hd⟩ := h2 r hr
      exact ⟨Y, hY, fun k hk hx => hd k hk ((g4 k).2 (.inl hx))⟩
    · obtain ⟨Y, hY, hs⟩ := Own.mem hr g2
      exact ⟨Y, hY, fun k hk hx => g3 k hx (hs k hk)⟩
  refine (hs w X1 g1 hro).mono fun e w' ⟨F', X', hp, hown, hext, hX'⟩ => ⟨F', hp, ⟨⟨fun k => X' k ∨ X2 k, ?_, ?_, ?_⟩, ?_⟩⟩
  · refine Own.append hown (Own.loc g2 fun k hk => hext.block k (Own.lt g2 k hk) (fun hx => g3 k hx hk)) fun k hk hx => ?_
    rcases hX' k hk with h | h
    · exact g3 k h hx
    · exact absurd (Own.lt g2 k hx) (by omega)
  · intro r hr
    obtain ⟨Y, hY, hd⟩ := h2 r hr
    have hlt := r.lt Y w hY
    refine ⟨Y, r.loc Y w w' hY fun k hk => hext.block k (hlt k hk) (fun hx => hd k hk ((g4 k).2 (.inl hx))), fun k hk hx => ?_⟩
    rcases hx with hx | hx
    · rcases hX' k hx with h | h
      · exact hd k hk ((g4 k).2 (.inl h))
      · exact absurd (hlt k hk) (by omega)
    · exact hd k hk ((g4 k).2 (.inr hx))
  · intro k hk
    rcases hk with hk | hk
    · rcases hX' k hk with h | h
      · exact h3 k ((g4 k).2 (.inl h))
      · exact .inr (Nat.le_trans h4.size h)
    · exact h3 k ((g4 k).2 (.inr hk))
  · exact h4.step hext fun k hk => h3 k ((g4 k).2 (.inl hk))
/-- The rest of a region that does not draw and holds a call of yield. -/
def RI (P : Program) (nt : NT) (ops : Array Oper) (Q : Exit → Act → World → Prop) (l : List Nat) (k : L) (w : World) : Prop := ∀ a, Kn nt k a → wpOpsIn Fence.wide 0 P ops Q l a w
section
variable {P : Program} {nt : NT} {ops : Array Oper} {Q : Exit → Act → World → Prop} {k : L} {w : World} {i d : Nat} {op : Op} {ty : TypeId} {pos : String} {af : Array Edge} {g : Option (Nat × Bool)} {v : Value} {is : List Nat}
theorem CJ.plainIn {id : Nat} {is : List Nat} (hl : List.range ops.size = is) (h : RI P nt ops Q is k w) : CJ P nt (.region id ops false) Q k w := fun a ha => (wpIn_wide (n := 0)).1 (wpIn_region (by rw [hl]; exact h a ha))
theorem RI.nil (h : ∀ a, Kn nt k a → Q .normal a w) : RI P nt ops Q [] k w := h
theorem RI.q {S : World → Prop} (ho : ops[i]? = some (Oper.mk (some d) op ty pos af g)) (hg : gd ops k g = some true) (hd : Nat.blt d nt.n = true) (hS : S w) (hv : ValS P nt S k op v) (h : RI P nt ops Q is ((d, v) :: k) w) : RI P nt ops Q (i :: is) k w := fun a ha => by
  simp only [wpOpsIn, ho]
  have hw := gd_wanted (o := Oper.mk (some d) op ty pos af g) hg ha
  simp only [hw, if_true]
  refine ⟨fun _ _ => trivial, ?_⟩
  have : (Oper.semAt Fence.wide.round a.eval (Oper.mk (some d) op ty pos af g)).run P w = .ok (.value v) w := hv a ha _ _ _ _ _ w hS
  rw [this, Oper.uponIn_value]
  exact h _ (ha.put hd v)
theorem RI.y {l : Nat} {x : Operand} {xs : List Operand} {ats : Array TypeId} {vs : List Value} {Rc Fc R F Fr G : List As} {w0 : World} {M : Nat → Prop}
    (ho : ops[i]? = some (Oper.mk (some d) (.call ⟨.value x, xs.toArray, ats⟩) ty pos af g)) (hg : gd ops k g = some true) (hd : Nat.blt d nt.n = true)
    (hx : ev k x = some (.func (.yield l) #[] #[])) (hvs : Evs k xs vs) (hs : SpecY P l vs.toArray Rc Fc (fun e F' => e = .returned v ∧ F' = G)) (H : St w0 w M R F) (hF : Ats F Fc Fr) (hR : Sub R Fr Rc)
    (h : ∀ w', St w0 w' M R (G ++ Fr) → RI P nt ops Q is ((d, v) :: k) w') : RI P nt ops Q (i :: is) k w := fun a ha => by
  simp only [wpOpsIn, ho]
  have hw := gd_wanted (o := Oper.mk (some d) (.call ⟨.value x, xs.toArray, ats⟩) ty pos af g) hg ha
  simp only [hw, if_true]
  refine ⟨fun _ _ => trivial, ?_⟩
  obtain ⟨fn, tmps, assign, body, hy, hR⟩ := hs.use H hF hR
  have hrun : (Oper.semAt Fence.wide.round a.eval (Oper.mk (some d) (.call ⟨.value x, xs.toArray, ats⟩) ty pos af g)).run P w = .ok (.round l fn tmps assign body) w := by
    have h1 : (xs.toArray.map a.eval) = vs.toArray := eval_args ha hvs.map
    show (execOp a.eval (Oper.mk (some d) (.call ⟨.value x, xs.toArray, ats⟩) ty pos af g)).run P w = _
    simp only [execOp, resolve, h1, ha.ev hx, Deferred.ofValue]
    simpa [go_sem, invoke] using hy
  rw [hrun, Oper.uponIn_round]
  refine ⟨fun h => by simp [Fence.wide] at h, hR.mono fun e w' hp => ?_⟩
  obtain ⟨F', ⟨rfl, rfl⟩, H'⟩ := hp
  exact h w' H' _ (ha.put hd v)
end
end Go.Proofs.YtmbibkifbehgnaaGreatDoor.Sk
namespace Go.Proofs.YtmbibkifbehgnaaGreatDoor.Sk
open Go
set_option linter.unusedVariables false
set_option linter.unusedSimpArgs false
theorem Ats.refl : ∀ (F : List As), Ats F F []
  | [] => .nil
  | f :: F => .cons .here (Ats.refl F)
theorem Ats.tail {f : As} : ∀ (F : List As), Ats (f :: F) F [f]
  | [] => .nil
  | x :: F => .cons (.there .here) (Ats.tail F)
theorem St.tail {w0 w : World} {M : Nat → Prop} {R F : List As} {f : As} (H : St w0 w M R (f :: F)) : St w0 w M R F := H.sub (Ats.tail F)
/-- What a part of what is owned turns into; the rest is as it was. -/
theorem St.frame {w0 w : World} {M : Nat → Prop} {R F Fc Fr Rc : List As} (H : St w0 w M R F) (hF : Ats F Fc Fr) (hR : Sub R Fr Rc) :
    ∃ X1, Own Fc X1 w ∧ Ro Rc X1 w ∧ ∀ (w' : World) (F' : List As) (X' : Nat → Prop), Own F' X' w' → Ext X1 w w' → (∀ k, X' k → X1 k ∨ w.heap.size ≤ k) → St w0 w' M R (F' ++ Fr) := by
  obtain ⟨⟨X, h1, h2, h3⟩, h4⟩ := H
  obtain ⟨X1, X2, g1, g2, g3, g4⟩ := Own.picks hF h1
  have hro : Ro Rc X1 w := fun r hr => by
    rcases hR.mem r hr with hr | hr
    · obtain ⟨Y, hY, hd⟩ := h2 r hr
      exact ⟨Y, hY, fun k hk hx => hd k hk ((g4 k).2 (.inl hx))⟩
    · obtain ⟨Y, hY, hs⟩ := Own.mem hr g2
      exact ⟨Y, hY, fun k hk hx => g3 k hx (hs k hk)⟩
  refine ⟨X1, g1, hro, fun w' F' X' hown hext hX' => ⟨⟨fun k => X' k ∨ X2 k, ?_, ?_, ?_⟩, ?_⟩⟩
  · refine Own.append hown (Own.loc g2 fun k hk => hext.block k (Own.lt g2 k hk) (fun hx => g3 k hx hk)) fun k hk hx => ?_
    rcases hX' k hk with h | h
    · exact g3 k h hx
    · exact absurd (Own.lt g2 k hx) (by omega)
  · intro r hr
    obtain ⟨Y, hY, hd⟩ := h2 r hr
    have hlt := r.lt Y w hY
    refine ⟨Y, r.loc Y w w' hY fun k hk => hext.block k (hlt k hk) (fun hx => hd k hk ((g4 k).2 (.inl hx))), fun k hk hx => ?_⟩
    rcases hx with hx | hx
    · rcases hX' k hx with h | h
      · exact hd k hk ((g4 k).2 (.inl h))
      · exact absurd (hlt k hk) (by omega)
    · exact hd k hk ((g4 k).2 (.inr hx))
  · intro k hk
    rcases hk with hk | hk
    · rcases hX' k hk with h | h
      · exact h3 k ((g4 k).2 (.inl h))
      · exact .inr (Nat.le_trans h4.size h)
    · exact h3 k ((g4 k).2 (.inr hk))
  · exact h4.step hext fun k hk => h3 k ((g4 k).2 (.inl hk))
/-- A region that draws, in a round; S: of what is owned only a part. -/
theorem CJR.drawS2 {P : Program} {nt : NT} {lp : Nat} {Q : Exit → Act → World → Prop} {k : L} {w : World} {id : Nat} {ops : Array Oper} {w0 : World} {M : Nat → Prop} {R F F0 F1 : List As} (n : Nat) (t : Tr) (hm : P.follows .mixedOrders = true)
    (hb : (Region.noSelect ops && tailB ops n && (canon ops n ops.size (Array.replicate ops.size false) == some t)) = true) (hd : noDefer ops = true) (hQo : ∀ a w, ¬ Q .outgrown a w) (H : St w0 w M R F) (hat : Ats F F0 F1)
    (hQ : ∀ c a d v w, Q (.panic c) (a.put d v) w → Q (.panic c) a w)
    (h : ∀ w', St w0 w' M R F → RJ P nt ops Q (fun w' => St w0 w' M R F0) n t k w') : CJR lp P nt (.region id ops true) Q k w := fun a ha => by
  simp only [Bool.and_eq_true, beq_iff_eq] at hb
  refine wpIn_region_any hm (any_inR hd hQo _ _ _ _ ?_)
  exact wpT_any (S := fun w' => St w0 w' M R F0) (n := n) _ _ _ _ (canon_sound hb.1.1 hb.1.2 hQ _ _ _ _ _ hb.2 (fun _ _ _ => (H.sub hat).drew) (h _ H.drew a ha))
/-! ### 1. The statement -/
/-- A function value that yields the numbers xs; Fg: its own memory; C: what it asks of the caller's. -/
def SeqOk (P : Program) (gf : FuncId) (lb : List Value) (Fg : List As) (C : As → Prop) (xs : List Int) : Prop :=
  ∀ (l : Nat) (Jf : List Int → As) (Ry : List As), (∀ pre, C (Jf pre)) →
    (∀ pre x, (pre ++ [x]) <+: xs → SpecY P l [Value.int .i64 x].toArray Ry [Jf pre] (fun e F' => e = .returned (.bool true) ∧ F' = [Jf (pre ++ [x])])) →
    Sk.Spec P gf (.func (.yield l) #[] #[] :: lb).toArray Ry (Jf [] :: Fg) (fun e F' => e = .returned (.tuple #[]) ∧ F' = [Jf xs])
/-- a round's end -/
def RQ (w0 : World) (X : Nat → Prop) (R F : List As) : Exit → Act → World → Prop
  | .normal, _, w' => St w0 w' X R F
  | _, _, _ => False
theorem CJ.range {P : Program} {m : Nat} {k : L} {w0 w : World} {M : Nat → Prop} {R Fg : List As} {Q : Exit → Act → World → Prop} {g : Operand} {p : Nat} {assign body : Code} {gf : FuncId} {lb : List Value} {C : As → Prop} {xs : List Int}
    (I : List Int → List As) (k1 : Int → L) (hg : ev k g = some (.func (.func gf) #[] lb.toArray)) (hen : Enters P gf) (hp : Nat.blt p m = true) (hseq : SeqOk P gf lb Fg C xs) (H : St w0 w M R (I [] ++ Fg))
    (hC : ∀ L pre, C (sep (L ++ I pre)))
    (hassign : ∀ l x w', CJR l P ⟨m, []⟩ assign (fun e a w'' => e = .normal ∧ w'' = w' ∧ Kn ⟨m, []⟩ (k1 x) a) ((p, .int .i64 x) :: k) w')
    (hbody : ∀ l pre x w1 w2 X, (pre ++ [x]) <+: xs → St w1 w2 X R (I pre) → CJR l P ⟨m, []⟩ body (RQ w1 X R (I (pre ++ [x]))) (k1 x) w2)
    (hdone : ∀ w' D, St w0 w' M R (obj D (.deferred (some [])) :: I xs) → ∀ a, Kn ⟨m, [{ target := .collected D, args := #[] }]⟩ k a → Q .normal a w') :
    CJ P ⟨m, []⟩ (.rangeFunc g #[p] assign body) Q k w := by
  rintro ⟨tmps, ds⟩ ha
  obtain rfl : ds = [] := ha.defers
  refine (wpIn_wide (n := 0)).1 (wpIn_rangeFunc fun fn _ => ?_)
  let rec0 : Loop := { state := .ready, pending := none, fn, tmps, params := #[p], assign, body, defers := w.heap.size }
  let Jf : List Int → As := fun pre => sep ([obj (w.heap.size + 1) (.loop rec0), obj w.heap.size (.deferred (some []))] ++ I pre)
  have H1 := (H.newObj (.deferred (some []))).newObj (.loop rec0)
  have hsz : (w.alloc (.deferred (some []))).heap.size = w.heap.size + 1 := by simp
  rw [hsz] at H1
  have HJ : St w0 ((w.alloc (.deferred (some []))).alloc (.loop rec0)) M R (Jf [] :: Fg) := St.sepIn H1
  have hY : ∀ pre x, (pre ++ [x]) <+: xs → SpecY P (w.heap.size + 1) [Value.int .i64 x].toArray R [Jf pre] (fun e F' => e = .returned (.bool true) ∧ F' = [Jf (pre ++ [x])]) := by
    intro pre x hpx W X hOwn hRo
    have hO : Own (obj (w.heap.size + 1) (.loop rec0) :: obj w.heap.size (.deferred (some [])) :: I pre) X W := by
      have := Own.sepOut hOwn
      simpa using this
    have hS : St W W X R (obj (w.heap.size + 1) (.loop rec0) :: obj w.heap.size (.deferred (some [])) :: I pre) := St.start hO hRo
    obtain ⟨hl, hS2⟩ := hS.putObj .here (.loop { rec0 with state := .busy })
    refine ⟨fn, tmps.setIfInBounds p (.int .i64 x), assign, body, by rw [run_yield hl rfl]; simp [rec0], roundIn_of_wpIn trivial ?_⟩
    have hk : Kn ⟨m, []⟩ ((p, .int .i64 x) :: k) { tmps := tmps.setIfInBounds p (.int .i64 x), defers := [] } := ha.put hp _
    refine wpIn_mono (hassign (w.heap.size + 1) x W _ hk) ?_
    rintro e a w'' ⟨rfl, rfl, hk1⟩
    refine ⟨_, run_beginRound hl rfl, ?_⟩
    obtain ⟨X1, g1, g2, g3⟩ := hS2.frame (Fc := I pre) (Fr := [obj (w.heap.size + 1) (.loop { rec0 with state := .busy }), obj w.heap.size (.deferred (some []))]) (Rc := R) (by
      have : ∀ (F : List As) (f g : As), Ats (f :: g :: F) F [f, g] := by
        intro F f g
        induction F with
        | nil => exact .nil
        | cons x F ih => exact .cons (.there (.there .here)) ih
      exact this _ _ _) (Sub.all fun q hq => hq)
    refine wpIn_mono (hbody (w.heap.size + 1) pre x _ _ X1 hpx (St.start g1 g2) _ hk1) ?_
    intro e a' w3 hq
    cases e <;> simp only [RQ] at hq
    obtain ⟨X', h1, h2, h3⟩ := hq.done
    have hS3 := g3 w3 _ X' h1 h2 h3
    have hS4 : St w'' w3 X R (obj (w.heap.size + 1) (.loop { rec0 with state := .busy }) :: obj w.heap.size (.deferred (some [])) :: I (pre ++ [x])) := hS3.map fun Z hZ => by
      obtain ⟨Z1, Z2, i1, i2, i3, i4⟩ := Own.split hZ
      have e : Z = fun k => Z2 k ∨ Z1 k := funext fun k => propext ((i4 k).trans or_comm)
      rw [e]
      exact Own.append i2 i1 fun k hk h => i3 k h hk
    obtain ⟨hl3, hS5⟩ := hS4.putObj .here (.loop rec0)
    refine ⟨.bool true, w3.putObj (w.heap.size + 1) (.loop rec0), ?_, ?_⟩
    · rw [run_endRound none hl3]; rfl
    · have hS6 : St w'' (w3.putObj (w.heap.size + 1) (.loop rec0)) X R [Jf (pre ++ [x])] := St.sepIn (by simpa using hS5)
      obtain ⟨X'', j1, j2, j3⟩ := hS6.done
      exact ⟨_, X'', ⟨rfl, rfl⟩, j1, j2, j3⟩
  have hcall := (hseq (w.heap.size + 1) Jf R (fun pre => hC _ pre) hY).use HJ (Ats.refl _) (Sub.all fun q hq => hq)
  let w1 : World := (w.alloc (.deferred (some []))).alloc (.loop rec0)
  refine ⟨w.heap.size + 1, [{ target := .collected w.heap.size, args := #[] }], w1, { target := .fn (.func gf) lb.toArray, args := #[.func (.yield (w.heap.size + 1)) #[] #[]] }, w1, gf, (.func (.yield (w.heap.size + 1)) #[] #[] :: lb).toArray, w1, run_enterLoop_outer fn tmps #[p] assign body, ?_, fun _ _ => trivial, ?_, fun h => by simp [Fence.wide] at h, ?_⟩
  · simp only [rangeCall, resolve, ha.ev hg, Deferred.ofValue]
    simp [go_sem, Act.eval]
  · have h2 := hen (#[.func (.yield (w.heap.size + 1)) #[] #[]] ++ lb.toArray) ((w.alloc (.deferred (some []))).alloc (.loop rec0))
    simp only [invoke]
    simpa using h2
  · refine callsIn_wide.2 (hcall.mono fun e w' ⟨F', hp', H'⟩ => ?_)
    obtain ⟨rfl, rfl⟩ := hp'
    have H2 : St w0 w' M R (obj (w.heap.size + 1) (.loop rec0) :: obj w.heap.size (.deferred (some [])) :: I xs) := by
      have := St.sepOut (F := []) (by simpa using H')
      simpa using this
    obtain ⟨hl, H3⟩ := H2.putObj .here (.loop { rec0 with state := .exhausted })
    refine ⟨none, _, run_endLoop hl (by simp [rec0]), ?_⟩
    exact hdone _ w.heap.size H3.tail _ ⟨ha.size, rfl, ha.known⟩
/-! ### 2. Functions that leave with marks and deferred calls -/
def FPostM (P : Program) (fn : Func) (R : Ending → World → Prop) : Exit → Act → World → Prop
  | .normal, a, w | .ret, a, w => LeavesInM Fence.wide 0 P fn a.tmps R a.defers .returning w
  | _, _, _ => False
theorem Spec.of_codeM {P : Program} {f : FuncId} {fn : Func} {c : Code} {vs : List Value} {k0 : L} {R F : List As} {Post : Ending → List As → Prop} (nt : Nat)
    (hf : P.funcs[f]? = some fn) (hb : fn.body = some c) (hn : fn.ntmps = nt) (hl : Nat.ble vs.length nt = true) (hk : ArgK 0 vs k0)
    (h : ∀ w X RR, (∀ e w', (∃ F', Post e F' ∧ St w w' X R F') → RR e w') → St w w X R F → CJ P ⟨nt, []⟩ c (FPostM P fn RR) k0 w) : Spec P f vs.toArray R F Post := by
  intro w X hF hR
  have hle : vs.length ≤ nt := by simpa using hl
  have hmain := h w X (fun e w' => ∃ F' X', Post e F' ∧ Own F' X' w' ∧ Ext X w w' ∧ ∀ k, X' k → X k ∨ w.heap.size ≤ k) (fun e w' ⟨F', hp, hs⟩ => by
    obtain ⟨X', h1, h2, h3⟩ := hs.done
    exact ⟨F', X', hp, h1, h2, h3⟩) (St.start hF hR) { tmps := vs.toArray ++ Array.replicate (fn.ntmps - vs.toArray.size) undef, defers := [] } ⟨by simp; omega, rfl, fun t v ht => by
      have := (hk.look t v ht).2
      simp only [Nat.sub_zero] at this
      have hlt : t < vs.length := (List.getElem?_eq_some_iff.1 this).1
      show (vs.toArray ++ Array.replicate (fn.ntmps - vs.toArray.size) undef)[t]? = some v
      rw [Array.getElem?_append_left (by simpa using hlt)]
      simpa using this⟩
  refine (callsIn_wide (n := 0)).1 (callsIn_of_wp_marks hf hb trivial (wpIn_mono ((wpIn_wide (n := 0)).2 hmain) fun e a w' hq => ?_))
  cases e <;> simp only [FPostM] at hq <;> first | exact hq.elim | exact hq
section
variable {P : Program} {m : Nat} {fn : Func} {k : L} {w w0 : World} {M : Nat → Prop} {R0 F : List As} {R : Ending → World → Prop} {v : Value}
theorem Res.kn {ds : List Deferred} {a : Act} (ha : Kn ⟨m, ds⟩ k a) (hr : Res P ⟨m, []⟩ fn k w v) : (results fn a.tmps).run P w = .ok v w := hr { tmps := a.tmps, defers := [] } ⟨ha.size, rfl, ha.known⟩
theorem leaves_mark {D : Nat} {F' : List As} (H : St w0 w M R0 F) (hat : At F (obj D (.deferred (some []))) F') (hr : ∀ w', Res P ⟨m, []⟩ fn k w' v) (h : ∀ w', St w0 w' M R0 F' → R (.returned v) w') :
    ∀ a, Kn ⟨m, [{ target := .collected D, args := #[] }]⟩ k a → LeavesInM Fence.wide 0 P fn a.tmps R a.defers .returning w := by
  intro a ha
  obtain ⟨hl, H'⟩ := H.putObj hat (.deferred none)
  rw [show a.defers = [{ target := .collected D, args := #[] }] from ha.defers]
  refine ⟨by simp, .inl ⟨D, _, rfl, run_takeDeferred hl, ?_⟩⟩
  refine ⟨v, Res.kn ha (hr _), h _ H'.tail⟩
theorem mret {D : Nat} {F' : List As} (H : St w0 w M R0 F) (hat : At F (obj D (.deferred (some []))) F') (hr : ∀ w', Res P ⟨m, []⟩ fn k w' v) (h : ∀ w', St w0 w' M R0 F' → R (.returned v) w') :
    ∀ a, Kn ⟨m, [{ target := .collected D, args := #[] }]⟩ k a → FPostM P fn R .ret a w := leaves_mark H hat hr h
theorem mend {D : Nat} {F' : List As} (H : St w0 w M R0 F) (hat : At F (obj D (.deferred (some []))) F') (hr : ∀ w', Res P ⟨m, []⟩ fn k w' v) (h : ∀ w', St w0 w' M R0 F' → R (.returned v) w') :
    ∀ a, Kn ⟨m, [{ target := .collected D, args := #[] }]⟩ k a → FPostM P fn R .normal a w := leaves_mark H hat hr h
theorem mret0 (hr : Res P ⟨m, []⟩ fn k w v) (h : R (.returned v) w) : ∀ a, Kn ⟨m, []⟩ k a → FPostM P fn R .ret a w := fun a ha => by
  show LeavesInM Fence.wide 0 P fn a.tmps R a.defers .returning w
  rw [show a.defers = [] from ha.defers]
  exact ⟨v, hr a ha, h⟩
end
end Go.Proofs.YtmbibkifbehgnaaGreatDoor.Sk
namespace Go.Proofs.YtmbibkifbehgnaaGreatDoor.Sk
open Go
set_option linter.unusedVariables false
set_option linter.unusedSimpArgs false
section
variable {P : Program} {nt : NT} {ops : Array Oper} {Q : Exit → Act → World → Prop} {S : World → Prop} {n i d : Nat} {k : L} {R F : List As} {M : Nat → Prop} {w0 w : World} {ty : TypeId} {pos : String} {af : Array Edge} {g : Option (Nat × Bool)} {l : Tr}
theorem Spl_cell {cs : List Value} {o : Nat} {v : Value} (h : o < cs.length) : Spl cs o [v] (cs.set o v) := by
  have h1 := Spl_at (xs := cs) (ys := [v]) (o := o) (by simp; omega)
  have e : cs.take o ++ [v] ++ cs.drop (o + [v].length) = cs.set o v := by
    rw [List.set_eq_take_append_cons_drop, if_pos h]
    simp
  rw [e] at h1
  exact h1
theorem lt_of_some {α : Type} {l : List α} {i : Nat} {x : α} (h : l[i]? = some x) : i < l.length := (List.getElem?_eq_some_iff.1 h).1
/-- One cell of an owned block is set. -/
theorem St.setCell {b o : Nat} {cs : List Value} {T : TypeId} {x v : Value} {F' : List As} (H : St w0 w M R F) (hat : At F (blk b cs T) F') (ho : cs[o]? = some x) :
    w.cell? ⟨b, o, none⟩ = some x ∧ w.frozen? ⟨b, o, none⟩ = false ∧ St w0 (w.setCell ⟨b, o, none⟩ v) M R (blk b (cs.set o v) T :: F') := by
  have hb : w.heap[b]? = some (.cells cs.toArray T (0, 0)) := by
    obtain ⟨⟨X, hX, _⟩, _⟩ := H
    obtain ⟨X1, X2, ⟨_, g⟩, _⟩ := Own.pick hat hX
    exact g
  have hst := H.store hat (Spl_cell (v := v) (lt_of_some ho))
  have e : w.setRow b (cs.set o v).toArray = w.setCell ⟨b, o, none⟩ v := by
    unfold World.setRow World.setCell
    congr 1
    refine Array.ext_getElem? fun j => ?_
    rw [Array.getElem?_modify, Array.getElem?_modify]
    by_cases hj : b = j
    · subst hj
      simp [hb]
    · rw [if_neg hj, if_neg hj]
  rw [e] at hst
  exact ⟨by simp [World.cell?, hb, ho], by simp [World.frozen?, hb], hst⟩
theorem Has.cell {b o : Nat} {cs : List Value} {T : TypeId} {x : Value} (h : Has R F (blk b cs T)) (H : St w0 w M R F) (ho : cs[o]? = some x) : w.cell? ⟨b, o, none⟩ = some x := by
  obtain ⟨Y, hY⟩ := h.get H
  simp [World.cell?, hY.2, ho]
theorem ld_unsafe {src dst t : TypeId} {X : Operand} {b o : Nat} {cs : List Value} {T : TypeId} {x : Value} (hs : P.underlying src = some (.pointer t)) (hd : P.underlying dst = some .unsafePointer) (hsz : (P.info? t).map (fun i => decide (i.size = 0)) = some false)
    (hX : ev k X = some (.pointer (some ⟨b, o, none⟩))) (hf : Has R F (blk b cs T)) (ho : cs[o]? = some x) : ValS P nt (fun w => St w0 w M R F) k (.convert src dst X) (.pointer (some ⟨b, o, none⟩)) := fun a ha d ty pos af g w H => by
  have h := run_convert_to_unsafe (P := P) hs hd hsz (hf.cell H ho)
  simp only [execOp, ha.ev hX, Sem.run_bind, h]; rfl
/-- A call that the model answers at once. -/
theorem RJ.ext {f : FuncId} {xs : List Operand} {ats : Array TypeId} {vs : List Value} {w' : World} {v : Value}
    (ho : ops[i]? = some (Oper.mk (some d) (.call ⟨.value (.func f), xs.toArray, ats⟩) ty pos af g)) (hg : gd ops k g = some true) (hd : Nat.blt d nt.n = true) (hvs : Evs k xs vs)
    (hrun : (callFunc f vs.toArray).run P w = .ok (.value v) w') (hS : i < n → S w') (h : RJ P nt ops Q S n l ((d, v) :: k) w') : RJ P nt ops Q S n (.cons (i, false) l) k w :=
  RJ.act ho hg hd (fun a ha => by
    have h1 : (xs.toArray.map a.eval) = vs.toArray := eval_args ha hvs.map
    simp only [execOp, resolve, h1, Act.eval, Deferred.ofValue]
    simpa [go_sem, invoke] using hrun) hS h
theorem val_makeFunc {fn : Fn} {xs ys : List Operand} {us vs : List Value} (hx : Evs k xs us) (hy : Evs k ys vs) : Val P nt k (.makeFunc fn xs.toArray ys.toArray) (.func fn us.toArray vs.toArray) := fun a ha d ty pos af g w => by
  simp only [execOp, eval_args ha hx.map, eval_args ha hy.map]; rfl
/-- A call of a function value that was made of a function and what it captured. -/
theorem RJ.callv {f : FuncId} {x : Operand} {xs : List Operand} {ats : Array TypeId} {vs us : List Value} {Rc Fc Fr : List As} {Post : Ending → List As → Prop}
    (ho : ops[i]? = some (Oper.mk (some d) (.call ⟨.value x, xs.toArray, ats⟩) ty pos af g)) (hg : gd ops k g = some true) (hd : Nat.blt d nt.n = true) (hx : ev k x = some (.func (.func f) #[] us.toArray)) (hf : Enters P f) (hvs : Evs k xs vs)
    (hs : Sk.Spec P f (vs ++ us).toArray Rc Fc Post) (H : St w0 w M R F) (hF : Ats F Fc Fr) (hR : Sub R Fr Rc)
    (hret : ∀ e F', Post e F' → ∃ v, e = .returned v)
    (h : ∀ v F' w', Post (.returned v) F' → St w0 w' M R (F' ++ Fr) → (i < n → S w') ∧ RJ P nt ops Q S n l ((d, v) :: k) w') : RJ P nt ops Q S n (.cons (i, false) l) k w :=
  fun a ha => ⟨_, ho, .inr (.inl ⟨gd_wanted (o := Oper.mk (some d) (.call ⟨.value x, xs.toArray, ats⟩) ty pos af g) hg ha, rfl, by
    have hrun : (execOp a.eval (Oper.mk (some d) (.call ⟨.value x, xs.toArray, ats⟩) ty pos af g)).run P w = .ok (.enter f (vs ++ us).toArray) w := by
      have h1 : (xs.toArray.map a.eval) = vs.toArray := eval_args ha hvs.map
      have h2 := hf (vs.toArray ++ us.toArray) w
      simp only [execOp, resolve, h1, ha.ev hx, Deferred.ofValue]
      simpa [go_sem, invoke] using h2
    simp only [Oper.wp, hrun, Oper.upon_enter]
    refine (hs.use H hF hR).mono fun e w' ⟨F', hp, H'⟩ => ?_
    obtain ⟨v, rfl⟩ := hret e F' hp
    have := h v F' w' hp H'
    exact ⟨this.1, this.2 _ (ha.put hd v)⟩⟩)⟩
/-- A call is deferred. -/
theorem RJ.defer {ds : List Deferred} {m : Nat} {f : FuncId} {xs : List Operand} {ats : Array TypeId} {vs : List Value}
    (ho : ops[i]? = some (Oper.mk none (.defer ⟨.value (.func f), xs.toArray, ats⟩) ty pos af g)) (hg : gd ops k g = some true) (hvs : Evs k xs vs) (hS : i < n → S w)
    (h : RJ P ⟨m, { target := .fn (.func f) #[], args := vs.toArray } :: ds⟩ ops Q S n l k w) : RJ P ⟨m, ds⟩ ops Q S n (.cons (i, false) l) k w :=
  fun a ha => ⟨_, ho, .inr (.inl ⟨gd_wanted (o := Oper.mk none (.defer ⟨.value (.func f), xs.toArray, ats⟩) ty pos af g) hg ha, rfl, by
    have hrun : (execOp a.eval (Oper.mk none (.defer ⟨.value (.func f), xs.toArray, ats⟩) ty pos af g)).run P w = .ok (.defer { target := .fn (.func f) #[], args := vs.toArray }) w := by
      have h1 : (xs.toArray.map a.eval) = vs.toArray := eval_args ha hvs.map
      simp only [execOp, resolve, h1, Act.eval, Deferred.ofValue]
      simp [go_sem]
    simp only [Oper.wp, hrun, Oper.upon_defer]
    refine ⟨hS, h _ ⟨ha.size, ?_, ha.known⟩⟩
    show _ :: a.defers = _
    rw [show a.defers = ds from ha.defers]⟩)⟩
end
/-- What is told by one of ι. -/
def exAs {ι : Type} (f : ι → List As) : As where
  on X w := ∃ i, Own (f i) X w
  loc X w w' h hk := by
    obtain ⟨i, h⟩ := h
    exact ⟨i, Own.loc h hk⟩
  lt X w h := by
    obtain ⟨i, h⟩ := h
    exact Own.lt h
theorem St.exIn {ι : Type} {f : ι → List As} {w0 w : World} {M : Nat → Prop} {R F : List As} (i : ι) (H : St w0 w M R (f i ++ F)) : St w0 w M R (exAs f :: F) := H.map fun X h => by
  obtain ⟨X1, X2, h1, h2, h3, h4⟩ := Own.split h
  exact ⟨X1, X2, ⟨i, h1⟩, h2, h3, h4⟩
theorem St.exOut {ι : Type} {f : ι → List As} {w0 w : World} {M : Nat → Prop} {R F : List As} (H : St w0 w M R (exAs f :: F)) : ∃ i, St w0 w M R (f i ++ F) := by
  obtain ⟨⟨X, ⟨X1, X2, ⟨i, h1⟩, h2, h3, h4⟩, hR, hM⟩, he⟩ := H
  have e : X = fun k => X1 k ∨ X2 k := funext fun k => propext (h4 k)
  exact ⟨i, ⟨X, by rw [e]; exact Own.append h1 h2 h3, hR, hM⟩, he⟩
theorem St.rowVal {w0 w : World} {M : Nat → Prop} {R F F' : List As} {v : Value} {e : TypeId} {sz n : Nat} {xs : List Value} (H : St w0 w M R F) (hat : At F (row v e sz n xs) F') : ∃ A cap, v = .slice A n cap := by
  obtain ⟨Y, hrow, _⟩ := H.has (.inr hat.mem)
  rcases hrow.2 with ⟨rfl, rfl⟩ | ⟨g, cap, cur, rfl, _⟩
  · exact ⟨none, 0, rfl⟩
  · exact ⟨_, cap, rfl⟩
theorem sep_mem {L : List As} {f : As} (h : f ∈ L) {X : Nat → Prop} {w : World} (hs : (sep L).on X w) : ∃ Y, f.on Y w := by
  obtain ⟨Y, hY, _⟩ := Own.mem h hs
  exact ⟨Y, hY⟩
/-- The contract of a function that is called as a deferred one. -/
def SpecD (P : Program) (f : FuncId) (args : Array Value) (R F : List As) (Post : Ending → List As → Prop) : Prop :=
  ∀ (w : World) (X : Nat → Prop), Own F X w → Ro R X w → CallsDIn Fence.wide 0 P f args .returning w fun e u' w' => u' = .returning ∧ ∃ F' X', Post e F' ∧ Own F' X' w' ∧ Ext X w w' ∧ ∀ k, X' k → X k ∨ w.heap.size ≤ k
theorem SpecD.of_code {P : Program} {f : FuncId} {fn : Func} {c : Code} {vs : List Value} {k0 : L} {R F : List As} {Post : Ending → List As → Prop} (nt : Nat)
    (hf : P.funcs[f]? = some fn) (hb : fn.body = some c) (hn : fn.ntmps = nt) (hl : Nat.ble vs.length nt = true) (hk : ArgK 0 vs k0)
    (h : ∀ w X RR, (∀ e w', (∃ F', Post e F' ∧ St w w' X R F') → RR e w') → St w w X R F → CJ P ⟨nt, []⟩ c (FPost P fn RR) k0 w) : SpecD P f vs.toArray R F Post := by
  intro w X hF hR
  have hle : vs.length ≤ nt := by simpa using hl
  have hmain := h w X (fun e w' => ∃ F' X', Post e F' ∧ Own F' X' w' ∧ Ext X w w' ∧ ∀ k, X' k → X k ∨ w.heap.size ≤ k) (fun e w' ⟨F', hp, hs⟩ => by
    obtain ⟨X', h1, h2, h3⟩ := hs.done
    exact ⟨F', X', hp, h1, h2, h3⟩) (St.start hF hR) { tmps := vs.toArray ++ Array.replicate (fn.ntmps - vs.toArray.size) undef, defers := [] } ⟨by simp; omega, rfl, fun t v ht => by
      have := (hk.look t v ht).2
      simp only [Nat.sub_zero] at this
      have hlt : t < vs.length := (List.getElem?_eq_some_iff.1 this).1
      show (vs.toArray ++ Array.replicate (fn.ntmps - vs.toArray.size) undef)[t]? = some v
      rw [Array.getElem?_append_left (by simpa using hlt)]
      simpa using this⟩
  refine callsDIn_of_wp hf hb trivial (wpIn_mono ((wpIn_wide (n := 0)).2 hmain) fun e a w' hq => ?_)
  cases e <;> simp only [FPost] at hq <;> first | exact hq.elim | exact hq
theorem Ext.trans_of {M N : Nat → Prop} {a b c : World} (h : Ext M a b) (k : Ext N b c) (hN : ∀ i, N i → M i ∨ a.heap.size ≤ i) : Ext M a c := h.step k hN
theorem leaves_call {P : Program} {fn : Func} {tmps : Array Value} {RR : Ending → World → Prop} {ds : List Deferred} {f : FuncId} {vs : List Value} {w0 w : World} {M : Nat → Prop} {R F Rc Fc Fr G : List As}
    (hf : Enters P f) (hs : SpecD P f vs.toArray Rc Fc (fun e F' => e = .returned (.tuple #[]) ∧ F' = G)) (H : St w0 w M R F) (hF : Ats F Fc Fr) (hR : Sub R Fr Rc)
    (h : ∀ w', St w0 w' M R (G ++ Fr) → LeavesInM Fence.wide 0 P fn tmps RR ds .returning w') : LeavesInM Fence.wide 0 P fn tmps RR ({ target := .fn (.func f) #[], args := vs.toArray } :: ds) .returning w := by
  obtain ⟨X1, g1, g2, g3⟩ := H.frame hF hR
  refine ⟨by simp, .inr ⟨fun h => by simp [Fence.wide] at h, .func f, #[], f, vs.toArray, rfl, ?_, fun _ _ => trivial, ?_⟩⟩
  · have := hf vs.toArray w
    simpa [invoke] using this
  · obtain ⟨hF', hc⟩ := hs w X1 g1 g2
    refine ⟨hF', fun c cs hu hr => ?_⟩
    obtain ⟨e, u', w', fr, ⟨rfl, F', X', ⟨rfl, rfl⟩, h1, h2, h3⟩, rest⟩ := hc c cs hu hr
    exact ⟨_, _, w', fr, h w' (g3 w' _ X' h1 h2 h3), rest⟩
/-- the end of a function that has no result -/
theorem fendM {P : Program} {m : Nat} {fn : Func} {ds : List Deferred} {k : L} {RR : Ending → World → Prop} {w : World} (h : ∀ tmps, LeavesInM Fence.wide 0 P fn tmps RR ds .returning w) : ∀ a, Kn ⟨m, ds⟩ k a → FPostM P fn RR .normal a w := fun a ha => by
  show LeavesInM Fence.wide 0 P fn a.tmps RR a.defers .returning w
  rw [show a.defers = ds from ha.defers]
  exact h a.tmps
theorem leaves_nil {P : Program} {fn : Func} {tmps : Array Value} {RR : Ending → World → Prop} {w : World} (hf : fn.results = #[]) (h : RR (.returned (.tuple #[])) w) : LeavesInM Fence.wide 0 P fn tmps RR [] .returning w :=
  ⟨.tuple #[], by simp [results, hf, go_sem], h⟩
end Go.Proofs.YtmbibkifbehgnaaGreatDoor.Sk
namespace Go.Proofs.YtmbibkifbehgnaaGreatDoor
open Go Sk
set_option linter.unusedVariables false
set_option linter.unusedSimpArgs false
theorem fa_147_1 (b o : Nat) (w : World) : (Instr.fieldAt 147 (.pointer (some ⟨b, o, none⟩)) 1).run Tryz.prog w = .ok (.pointer (some ⟨b, o + 1, none⟩)) w := by kernel_rfl
theorem fa_147_2 (b o : Nat) (w : World) : (Instr.fieldAt 147 (.pointer (some ⟨b, o, none⟩)) 2).run Tryz.prog w = .ok (.pointer (some ⟨b, o + 2, none⟩)) w := by kernel_rfl
theorem en147 : Enters Tryz.prog 147 := fun args w => by kernel_rfl
/-- what of a Kin is read -/
structure KRd (K : As) (bn : Nat) (u a v : Int) : Prop where
  c0 : ∀ Y w, K.on Y w → w.cell? ⟨bn, 0, none⟩ = some (i64 u)
  c1 : ∀ Y w, K.on Y w → w.cell? ⟨bn, 1, none⟩ = some (i64 a)
  c2 : ∀ Y w, K.on Y w → w.cell? ⟨bn, 2, none⟩ = some (i64 v)
theorem brakeK_spec (K : As) (bn : Nat) (u a v s : Int) (hK : KRd K bn u a v) (ha : 1 ≤ a ∧ a ≤ 1000) (hs : 0 ≤ s ∧ s ≤ v ∧ v ≤ 1000) : Sk.Spec Tryz.prog 147 #[ptr bn, i64 s] [K] [] fun e F' => e = .returned (i64 (brakeN a s)) ∧ F' = [] := by
  refine Spec.of_code (vs := [_, _]) (k0 := [(0, _), (1, _)]) 40 Tryz.func147 rfl Tryz.ntmps147 rfl (.cons (.cons .nil)) fun w X RR hRR H => ?_
  refine .seq ?_
  refine .plain rfl ?_
  refine .q rfl rfl rfl (val_assign rfl) ?_
  refine .nil (cj ?_)
  refine .seq ?_
  refine .seq ?_
  refine .plain rfl ?_
  refine .q rfl rfl rfl (val_move rfl) ?_
  refine .q rfl rfl rfl (val_ptr_eq_nil Tryz.underlying87 rfl rfl rfl) ?_
  refine .q rfl rfl rfl (val_move rfl) ?_
  refine .q rfl rfl rfl (val_move rfl) ?_
  refine .q rfl rfl rfl (val_nilCheck rfl) ?_
  refine .q rfl rfl rfl (val_fieldAddr rfl fa_147_1) ?_
  refine .qs rfl rfl rfl H (ld_one rfl ob_3 (.ro .here) hK.c1) ?_
  refine .q rfl rfl rfl (val_lss rfl rfl rfl) ?_
  refine .q rfl rfl rfl (val_pick_f rfl rfl) ?_
  refine .nil (cj ?_)
  refine .cond rfl (fun hc0 => ?_) (fun hc0 => ?_)
  · exfalso; have h9 := of_decide_eq_true hc0; omega
  · refine .skip (cj ?_)
    refine .seq ?_
    refine .plain rfl ?_
    refine .q rfl rfl rfl (val_assign rfl) ?_
    refine .nil (cj ?_)
    refine .seq ?_
    refine .seq ?_
    refine .drawS 13 (.cons (0, true) (.cons (1, true) (.cons (2, true) (.cons (3, true) (.cons (4, true) (.cons (5, true) (.cons (6, true) (.cons (7, true) (.cons (8, true) (.cons (9, true) (.cons (10, true) (.cons (11, true) (.cons (12, true) .nil))))))))))))) mo (by kernel_rfl) H (fun _ _ _ _ _ h => h) (fun w1 H1 => ?_)
    refine .p rfl rfl rfl (val_move rfl) ?_
    refine .p rfl rfl rfl (val_move rfl) ?_
    refine .p rfl rfl rfl (val_nilCheck rfl) ?_
    refine .p rfl rfl rfl (val_fieldAddr rfl fa_147_2) ?_
    refine .ps rfl rfl rfl rfl (ld_one rfl ob_3 (.ro .here) hK.c2) ?_
    refine .p rfl rfl rfl (val_min (z := s) rfl rfl (by omega)) ?_
    refine .p rfl rfl rfl (val_max (z := s) rfl rfl (by omega)) ?_
    refine .p rfl rfl rfl (val_move rfl) ?_
    refine .p rfl rfl rfl (val_nilCheck rfl) ?_
    refine .p rfl rfl rfl (val_fieldAddr rfl fa_147_1) ?_
    refine .ps rfl rfl rfl rfl (ld_one rfl ob_3 (.ro .here) hK.c1) ?_
    refine .p rfl rfl rfl (val_sub rfl rfl (w64_of (by omega))) ?_
    refine .p rfl rfl rfl (val_assign rfl) ?_
    refine .nil (cj ?_)
    refine .block ?_
    refine .loop (ι := BQ) (fun q => [(0, ptr bn), (5, i64 q.n), (6, i64 q.s)]) (fun q w' => St w w' X [K] [] ∧ q.s ≤ q.f ∧ q.f ≤ 2001 ∧ 0 ≤ q.n ∧ q.n ≤ 2000 * (2001 - (q.f : Int)) ∧ -3000 ≤ q.s ∧ q.s ≤ 2000 ∧ q.n + brkF a q.f q.s = brakeN a s) (fun q => q.f) ⟨2001, 0, s - a⟩ (by repeat (first | exact Pick.nil | refine Pick.cons rfl ?_)) ⟨H1, (show s - a ≤ ((2001 : Nat) : Int) by omega), Nat.le_refl _, Int.le_refl _, (show (0 : Int) ≤ 2000 * (2001 - ((2001 : Nat) : Int)) by omega), (show -3000 ≤ s - a by omega), (show s - a ≤ 2000 by omega), Int.zero_add _⟩ ?_
    rintro q w5 ⟨H2, h1, h2, h3, h4, h5, h6, h7⟩
    refine .seq ?_
    refine .seq ?_
    refine .plain rfl ?_
    refine .q rfl rfl rfl (val_move rfl) ?_
    refine .q rfl rfl rfl (val_gtr rfl rfl rfl) ?_
    refine .nil (cj ?_)
    refine .cond rfl (fun hc1 => ?_) (fun hc1 => ?_)
    · have hpos := of_decide_eq_true hc1
      obtain ⟨f, hf⟩ : ∃ f, q.f = f + 1 := ⟨q.f - 1, by omega⟩
      have h8 : (q.n + q.s) + brkF a f (q.s - a) = brakeN a s := by rw [← h7, hf, brkF, if_pos hpos]; omega
      refine .skip (cj ?_)
      refine .seq ?_
      refine .block ?_
      refine .plain rfl ?_
      refine .q rfl rfl rfl (val_move rfl) ?_
      refine .q rfl rfl rfl (val_move rfl) ?_
      refine .q rfl rfl rfl (val_add rfl rfl (w64_of (by omega))) ?_
      refine .q rfl rfl rfl (val_assign rfl) ?_
      refine .nil (cj ?_)
      refine .plain rfl ?_
      refine .q rfl rfl rfl (val_move rfl) ?_
      refine .q rfl rfl rfl (val_move rfl) ?_
      refine .q rfl rfl rfl (val_nilCheck rfl) ?_
      refine .q rfl rfl rfl (val_fieldAddr rfl fa_147_1) ?_
      refine .qs rfl rfl rfl H2 (ld_one rfl ob_3 (.ro .here) hK.c1) ?_
      refine .q rfl rfl rfl (val_sub rfl rfl (w64_of (by omega))) ?_
      refine .q rfl rfl rfl (val_assign rfl) ?_
      refine .nil ?_
      intro act0 hact0; change Exists _
      refine ⟨⟨f, q.n + q.s, q.s - a⟩, Pick.kn (by repeat (first | exact Pick.nil | refine Pick.cons rfl ?_)) hact0, ⟨H2, (show q.s - a ≤ (f : Int) by omega), (show f ≤ 2001 by omega), (show 0 ≤ q.n + q.s by omega), (show q.n + q.s ≤ 2000 * (2001 - (f : Int)) by omega), (show -3000 ≤ q.s - a by omega), (show q.s - a ≤ 2000 by omega), h8⟩, (show f < q.f by omega)⟩
    · have hz := of_decide_eq_false hc1
      rw [brk_stop hz, Int.add_zero] at h7
      refine .exit (cj ?_)
      refine .seq ?_
      refine .plain rfl ?_
      refine .q rfl rfl rfl (val_move rfl) ?_
      refine .q rfl rfl rfl (val_assign rfl) ?_
      refine .nil (cj ?_)
      refine .ret (fret (res1 rfl rfl) ?_)
      refine hRR _ _ ⟨_, ⟨?_, rfl⟩, H2.sub .nil⟩
      rw [h7]
theorem startQ_min {a r s v : Int} : min (min (s + a) v) r = startQ a r s v := by
  unfold startQ; dsimp only; split <;> split <;> omega
theorem nextK_spec (K : As) (bn : Nat) (u a vm r s v : Int) (hK : KRd K bn u a vm) (ha : 1 ≤ a ∧ a ≤ 1000) (hr : -1000000000 ≤ r ∧ r ≤ 1000000000) (hs : 0 ≤ s ∧ s ≤ 1000) (hv : 0 ≤ v ∧ v ≤ vm ∧ vm ≤ 1000) : Sk.Spec Tryz.prog 159 #[ptr bn, i64 r, i64 s, i64 v] [K] [] fun e F' => e = .returned (i64 (nextN a r s v)) ∧ F' = [] := by
  refine Spec.of_code (vs := [_, _, _, _]) (k0 := [(0, _), (1, _), (2, _), (3, _)]) 33 Tryz.func159 rfl Tryz.ntmps159 rfl (.cons (.cons (.cons (.cons .nil)))) fun w X RR hRR H => ?_
  refine .seq ?_
  refine .plain rfl ?_
  refine .q rfl rfl rfl (val_assign rfl) ?_
  refine .nil (cj ?_)
  refine .seq ?_
  refine .plain rfl ?_
  refine .q rfl rfl rfl (val_move rfl) ?_
  refine .q rfl rfl rfl (val_move rfl) ?_
  refine .q rfl rfl rfl (val_nilCheck rfl) ?_
  refine .q rfl rfl rfl (val_fieldAddr rfl fa_147_1) ?_
  refine .qs rfl rfl rfl H (ld_one rfl ob_3 (.ro .here) hK.c1) ?_
  refine .q rfl rfl rfl (val_add rfl rfl (w64_of (by omega))) ?_
  refine .q rfl rfl rfl (val_move rfl) ?_
  refine .q rfl rfl rfl (val_move rfl) ?_
  refine .q rfl rfl rfl (val_min3 rfl rfl rfl startQ_min) ?_
  refine .q rfl rfl rfl (val_assign rfl) ?_
  refine .nil (cj ?_)
  refine .seq ?_
  refine .block ?_
  have hqb : -1000000000 ≤ startQ a r s v ∧ startQ a r s v ≤ v := by unfold startQ; dsimp only; split <;> split <;> omega
  refine .loop (ι := NQ) (fun q => [(0, ptr bn), (1, i64 r), (9, i64 q.q)]) (fun q w' => St w w' X [K] [] ∧ q.q ≤ q.f ∧ q.f ≤ 2001 ∧ -1000000000 ≤ q.q ∧ q.q ≤ v ∧ nextF a r q.f q.q = nextN a r s v) (fun q => q.f) ⟨2001, startQ a r s v⟩ (by repeat (first | exact Pick.nil | refine Pick.cons rfl ?_)) ⟨H, (show startQ a r s v ≤ ((2001 : Nat) : Int) by omega), Nat.le_refl _, hqb.1, hqb.2, rfl⟩ ?_
  rintro q w5 ⟨H1, h1, h2, h3, h4, h7⟩
  refine .seq ?_
  refine .seq ?_
  refine .plain rfl ?_
  refine .q rfl rfl rfl (val_move rfl) ?_
  refine .q rfl rfl rfl (val_gtr rfl rfl rfl) ?_
  refine .q rfl rfl rfl (val_move rfl) ?_
  refine .case (t := 21) rfl (fun hs21 => ?_) (fun hs21 => ?_)
  · refine .q rfl rfl rfl (val_move rfl) ?_
    refine .q rfl rfl rfl (val_move rfl) ?_
    have hpos0 := of_decide_eq_true hs21
    refine .call1 rfl rfl rfl en147 (.cons rfl (.cons rfl .nil)) (brakeK_spec _ _ _ _ _ _ hK ha (by omega)) H1 .nil (.ro .here .nil) (fun w2 H2 => ⟨fun _ => trivial, ?_⟩)
    refine .q rfl rfl rfl (val_move rfl) ?_
    refine .q rfl rfl rfl (val_move rfl) ?_
    refine .q rfl rfl rfl (val_sub rfl rfl (w64_of (by omega))) ?_
    refine .q rfl rfl rfl (val_gtr rfl rfl rfl) ?_
    refine .q rfl rfl rfl (val_pick_t rfl rfl) ?_
    refine .nil (cj ?_)
    refine .cond rfl (fun hc0 => ?_) (fun hc0 => ?_)
    · have hpos := of_decide_eq_true hs21
      obtain ⟨f, hf⟩ : ∃ f, q.f = f + 1 := ⟨q.f - 1, by omega⟩
      have h8 : nextF a r f (q.q - 1) = nextN a r s v := by rw [← h7, hf, nx_go hs21 hc0]
      refine .skip (cj ?_)
      refine .block ?_
      refine .plain rfl ?_
      refine .q rfl rfl rfl (val_move rfl) ?_
      refine .q rfl rfl rfl (val_sub rfl rfl (w64_of (by omega))) ?_
      refine .q rfl rfl rfl (val_assign rfl) ?_
      refine .nil ?_
      intro act0 hact0; change Exists _
      refine ⟨⟨f, q.q - 1⟩, Pick.kn (by repeat (first | exact Pick.nil | refine Pick.cons rfl ?_)) hact0, ⟨H2, (show q.q - 1 ≤ (f : Int) by omega), (show f ≤ 2001 by omega), (show -1000000000 ≤ q.q - 1 by omega), (show q.q - 1 ≤ v by omega), h8⟩, (show f < q.f by omega)⟩
    · refine .exit (cj ?_)
      refine .seq ?_
      refine .plain rfl ?_
      refine .q rfl rfl rfl (val_move rfl) ?_
      refine .q rfl rfl rfl (val_assign rfl) ?_
      refine .nil (cj ?_)
      refine .ret (fret (res1 rfl rfl) ?_)
      refine hRR _ _ ⟨_, ⟨?_, rfl⟩, H2.sub .nil⟩
      first | rw [← h7, nx_stop1 hs21] | rw [← h7, nx_stop2 hc0]
  · refine .no rfl rfl rfl ?_
    refine .no rfl rfl rfl ?_
    refine .no rfl rfl rfl ?_
    refine .no rfl rfl rfl ?_
    refine .no rfl rfl rfl ?_
    refine .no rfl rfl rfl ?_
    refine .no rfl rfl rfl ?_
    refine .q rfl rfl rfl (val_pick_f rfl rfl) ?_
    refine .nil (cj ?_)
    refine .cond_f rfl ?_
    refine .exit (cj ?_)
    refine .seq ?_
    refine .plain rfl ?_
    refine .q rfl rfl rfl (val_move rfl) ?_
    refine .q rfl rfl rfl (val_assign rfl) ?_
    refine .nil (cj ?_)
    refine .ret (fret (res1 rfl rfl) ?_)
    refine hRR _ _ ⟨_, ⟨?_, rfl⟩, H1.sub .nil⟩
    first | rw [← h7, nx_stop1 hs21] | rw [← h7, nx_stop2 hc0]
end Go.Proofs.YtmbibkifbehgnaaGreatDoor
namespace Go.Proofs.YtmbibkifbehgnaaGreatDoor
open Go Sk
set_option linter.unusedVariables false
set_option linter.unusedSimpArgs false
theorem en159 : Enters Tryz.prog 159 := fun args w => by kernel_rfl
theorem ob_87  : oneB Tryz.prog 87 = true := by kernel_rfl
/-- the places behind each tick; falls: never faster -/
def seqF (a e : Int) (falls : Bool) : Nat → Int → Int → Int → List Int
  | 0, _, _, _ => []
  | f + 1, m, p, s => if p < e then (p + nextN a (e - p) s m) :: seqF a e falls f (bif falls then nextN a (e - p) s m else m) (p + nextN a (e - p) s m) (nextN a (e - p) s m) else []
theorem seq_stop {a e m p s : Int} {b : Bool} {f : Nat} (h : decide (p < e) = false) : seqF a e b f m p s = [] := by
  cases f with
  | zero => rfl
  | succ f => unfold seqF; rw [if_neg (of_decide_eq_false h)]
theorem seq_go {a e m p s : Int} {b : Bool} {f : Nat} (h : decide (p < e) = true) : seqF a e b (f + 1) m p s = (p + nextN a (e - p) s m) :: seqF a e b f (bif b then nextN a (e - p) s m else m) (p + nextN a (e - p) s m) (nextN a (e - p) s m) := by
  conv => lhs; unfold seqF
  rw [if_pos (of_decide_eq_true h)]
/-- the variables that the function has caught -/
structure VB where
  k : Nat
  f : Nat
  s : Nat
  p : Nat
  e : Nat
abbrev vbs (x : VB) : List Value := [ptr x.k, ptr x.f, ptr x.s, ptr x.p, ptr x.e]
abbrev vbF (x : VB) (bn : Nat) (b : Bool) (s p e : Int) : List As := [blk x.k [ptr bn] 87, blk x.f [.bool b] 4, blk x.s [i64 s] 3, blk x.p [i64 p] 3, blk x.e [i64 e] 3]
theorem steps_spec (bn : Nat) (p s e : Int) (b : Bool) (R : List As) : Sk.Spec Tryz.prog 148 #[ptr bn, i64 p, i64 s, i64 e, .bool b] R [] fun q F' => ∃ x : VB, q = .returned (.func (.func 158) #[] (vbs x).toArray) ∧ F' = vbF x bn b s p e ∧ True := by
  refine Spec.of_code (vs := [_, _, _, _, _]) (k0 := [(0, _), (1, _), (2, _), (3, _), (4, _)]) 12 Tryz.func148 rfl Tryz.ntmps148 rfl (.cons (.cons (.cons (.cons (.cons .nil))))) fun w X RR hRR H => ?_
  refine .seq ?_
  refine .plain rfl ?_
  refine .box rfl rfl rfl rfl rfl H (fun w1 b1 H1 => ⟨fun _ => trivial, ?_⟩)
  refine .box rfl rfl rfl rfl rfl H1 (fun w2 b2 H2 => ⟨fun _ => trivial, ?_⟩)
  refine .box rfl rfl rfl rfl rfl H2 (fun w3 b3 H3 => ⟨fun _ => trivial, ?_⟩)
  refine .box rfl rfl rfl rfl rfl H3 (fun w4 b4 H4 => ⟨fun _ => trivial, ?_⟩)
  refine .box rfl rfl rfl rfl rfl H4 (fun w5 b5 H5 => ⟨fun _ => trivial, ?_⟩)
  refine .q rfl rfl rfl (val_assign rfl) ?_
  refine .nil (cj ?_)
  refine .seq ?_
  refine .plain rfl ?_
  refine .q rfl rfl rfl (val_makeFunc .nil (.cons rfl (.cons rfl (.cons rfl (.cons rfl (.cons rfl .nil)))))) ?_
  refine .q rfl rfl rfl (val_assign rfl) ?_
  refine .nil (cj ?_)
  refine .ret (fret (res1 rfl rfl) ?_)
  exact hRR _ _ ⟨_, ⟨⟨_, _, _, _, _⟩, rfl, rfl, trivial⟩, H5.sub (.cons (.there (.there (.there (.there .here)))) (.cons .here (.cons (.there .here) (.cons (.there .here) (.cons .here .nil)))))⟩
structure ZQ where
  f : Nat
  m : Int
  p : Int
  s : Int
  pre : List Int
theorem stepsK_seq (x : VB) (bn : Nat) (u a vm p s e : Int) (b : Bool) (f0 : Nat) (ha : 1 ≤ a ∧ a ≤ 1000) (hv : 1 ≤ vm ∧ vm ≤ 1000) (hs : 0 ≤ s ∧ s ≤ vm) (hb : b = true → 1 ≤ s) (hp : 0 ≤ p ∧ e ≤ 1000000000) (hf : e - p ≤ f0) (h0 : p ≤ 1000000000) :
    SeqOk Tryz.prog 158 (vbs x) (vbF x bn b s p e) (fun K => KRd K bn u a vm) (seqF a e b f0 (bif b then s else vm) p s) := by
  intro l Jf Ry hC hY
  refine Spec.of_code (vs := [_, _, _, _, _, _]) (k0 := [(0, _), (1, _), (2, _), (3, _), (4, _), (5, _)]) 33 Tryz.func158 rfl Tryz.ntmps158 rfl (.cons (.cons (.cons (.cons (.cons (.cons .nil)))))) fun w X RR hRR H => ?_
  refine .seq ?_
  refine .plain rfl ?_
  refine .qs rfl rfl rfl H (ld_b rfl ob_87 (.own (.there .here)) rfl) ?_
  refine .q rfl rfl rfl (val_nilCheck rfl) ?_
  refine .q rfl rfl rfl (val_fieldAddr rfl fa_147_2) ?_
  refine .qs rfl rfl rfl H (ld_one rfl ob_3 (.own .here) (hC _).c2) ?_
  refine .q rfl rfl rfl (val_assign rfl) ?_
  refine .nil (cj ?_)
  refine .seq ?_
  refine .seq ?_
  refine .plain rfl ?_
  refine .qs rfl rfl rfl H (ld_b rfl ob_4 (.own (.there (.there .here))) rfl) ?_
  refine .nil (cj ?_)
  refine .cond rfl (fun hc0 => ?_) (fun hc0 => ?_)
  · have hm : (bif b then s else vm) = s := by rw [hc0]; rfl
    have hb9 := hb hc0
    have hmr : 1 ≤ s ∧ s ≤ vm ∧ s ≤ 1000 := by omega
    refine .plain rfl ?_
    refine .qs rfl rfl rfl H (ld_b rfl ob_3 (.own (.there (.there (.there .here)))) rfl) ?_
    refine .q rfl rfl rfl (val_assign rfl) ?_
    refine .nil (cj ?_)
    refine .block ?_
    refine .loop (ι := ZQ) (fun q => [(0, .func (.yield l) #[] #[]), (1, ptr x.k), (2, ptr x.f), (3, ptr x.s), (4, ptr x.p), (5, ptr x.e), (7, i64 q.m)]) (fun q w' => St w w' X Ry (Jf q.pre :: vbF x bn b q.s q.p e) ∧ (1 ≤ q.m ∧ q.m ≤ vm ∧ q.m ≤ 1000) ∧ 0 ≤ q.s ∧ q.s ≤ 1000 ∧ 0 ≤ q.p ∧ q.p ≤ 1000000000 ∧ e - q.p ≤ q.f ∧ q.pre ++ seqF a e b q.f q.m q.p q.s = seqF a e b f0 (bif b then s else vm) p s) (fun q => q.f) ⟨f0, _, p, s, []⟩ (by repeat (first | exact Pick.nil | refine Pick.cons rfl ?_)) ⟨H, hmr, hs.1, (show s ≤ 1000 by omega), hp.1, h0, hf, by rw [hm]; rfl⟩ ?_
    rintro q w6 ⟨H1, ⟨g1, g2, g2b⟩, g3, g4, g5, g6, g7, g9⟩
    refine .seq ?_
    refine .seq ?_
    refine .plain rfl ?_
    refine .qs rfl rfl rfl H1 (ld_b rfl ob_3 (.own (.there (.there (.there (.there .here))))) rfl) ?_
    refine .qs rfl rfl rfl H1 (ld_b rfl ob_3 (.own (.there (.there (.there (.there (.there .here)))))) rfl) ?_
    refine .q rfl rfl rfl (val_lss rfl rfl rfl) ?_
    refine .nil (cj ?_)
    refine .cond rfl (fun hc1 => ?_) (fun hc1 => ?_)
    · have hpos := of_decide_eq_true hc1
      obtain ⟨f, hf2⟩ : ∃ f, q.f = f + 1 := ⟨q.f - 1, by omega⟩
      have hnx := nextN_rng (a := a) (r := e - q.p) (s := q.s) (v := q.m) ha.1 (by omega) g3 g1
      have h8 : (q.pre ++ [q.p + nextN a (e - q.p) q.s q.m]) ++ seqF a e b f (bif b then nextN a (e - q.p) q.s q.m else q.m) (q.p + nextN a (e - q.p) q.s q.m) (nextN a (e - q.p) q.s q.m) = seqF a e b f0 (bif b then s else vm) p s := by rw [← g9, hf2, seq_go hc1, List.append_assoc]; rfl
      have hpx : (q.pre ++ [q.p + nextN a (e - q.p) q.s q.m]) <+: seqF a e b f0 (bif b then s else vm) p s := ⟨_, h8⟩
      refine .skip (cj ?_)
      refine .block ?_
      refine .seq ?_
      refine .plain rfl ?_
      refine .qs rfl rfl rfl H1 (ld_b rfl ob_87 (.own (.there .here)) rfl) ?_
      refine .qs rfl rfl rfl H1 (ld_b rfl ob_3 (.own (.there (.there (.there (.there (.there .here)))))) rfl) ?_
      refine .qs rfl rfl rfl H1 (ld_b rfl ob_3 (.own (.there (.there (.there (.there .here))))) rfl) ?_
      refine .q rfl rfl rfl (val_sub rfl rfl (w64_of (by omega))) ?_
      refine .qs rfl rfl rfl H1 (ld_b rfl ob_3 (.own (.there (.there (.there .here)))) rfl) ?_
      refine .q rfl rfl rfl (val_move rfl) ?_
      refine .call1 rfl rfl rfl en159 (.cons rfl (.cons rfl (.cons rfl (.cons rfl .nil)))) (nextK_spec (Jf q.pre) bn u a vm _ _ _ (hC _) ha (by omega) (by omega) (by omega)) H1 .nil (.own .here .nil) (fun w2 H2 => ⟨fun _ => trivial, ?_⟩)
      refine .store rfl rfl rfl rfl rfl sz_3 rfl H2 (.there (.there (.there .here))) (by repeat constructor) (fun w3 H3 => ⟨fun _ => trivial, ?_⟩)
      refine .nil (cj ?_)
      refine .seq ?_
      refine .seq ?_
      refine .plain rfl ?_
      refine .qs rfl rfl rfl H3 (ld_b rfl ob_4 (.own (.there (.there (.there .here)))) rfl) ?_
      refine .nil (cj ?_)
      refine .cond rfl (fun hc2 => ?_) (fun hc2 => ?_)
      · have hbm : (bif b then nextN a (e - q.p) q.s q.m else q.m) = nextN a (e - q.p) q.s q.m := by rw [hc2]; rfl
        rw [hbm] at h8
        let m9 : Int := nextN a (e - q.p) q.s q.m
        have hm9 : m9 = nextN a (e - q.p) q.s q.m := rfl
        refine .plain rfl ?_
        refine .qs rfl rfl rfl H3 (ld_b rfl ob_3 (.own .here) rfl) ?_
        refine .q rfl rfl rfl (val_assign rfl) ?_
        refine .nil (cj ?_)
        refine .seq ?_
        refine .plain rfl ?_
        refine .qs rfl rfl rfl H3 (ld_b rfl ob_3 (.own (.there (.there (.there (.there .here))))) rfl) ?_
        refine .qs rfl rfl rfl H3 (ld_b rfl ob_3 (.own .here) rfl) ?_
        refine .q rfl rfl rfl (val_add rfl rfl (w64_of (by omega))) ?_
        refine .store rfl rfl rfl rfl rfl sz_3 rfl H3 (.there (.there (.there (.there .here)))) (by repeat constructor) (fun w4 H4 => ⟨fun _ => trivial, ?_⟩)
        refine .nil (cj ?_)
        refine .seq ?_
        refine .plainIn rfl ?_
        refine .q (S := fun w' => St _ w' _ _ _) rfl rfl rfl H4 (fun a ha d t p af g w _ => val_move rfl a ha d t p af g w) ?_
        refine .q (S := fun w' => St _ w' _ _ _) rfl rfl rfl H4 (ld_b rfl ob_3 (.own .here) rfl) ?_
        refine .y rfl rfl rfl rfl (.cons rfl .nil) (hY q.pre _ hpx) H4 (.cons (.there (.there .here)) .nil) (Sub.all fun q hq => hq) (fun w5 H5 => ?_)
        refine .q (S := fun w' => St _ w' _ _ _) rfl rfl rfl H5 (fun a ha d t p af g w _ => val_not rfl rfl a ha d t p af g w) ?_
        refine .nil (cj ?_)
        refine .cond_f rfl ?_
        refine .skip ?_
        intro act0 hact0; change Exists _
        refine ⟨⟨f, m9, q.p + nextN a (e - q.p) q.s q.m, nextN a (e - q.p) q.s q.m, q.pre ++ [q.p + nextN a (e - q.p) q.s q.m]⟩, Pick.kn (by repeat (first | exact Pick.nil | refine Pick.cons rfl ?_)) hact0, ⟨H5.sub (.cons .here (.cons (.there (.there .here)) (.cons (.there (.there .here)) (.cons (.there .here) (.cons .here (.cons .here .nil)))))), ⟨(show 1 ≤ m9 by omega), (show m9 ≤ vm by omega), (show m9 ≤ 1000 by omega)⟩, (show 0 ≤ nextN a (e - q.p) q.s q.m by omega), (show nextN a (e - q.p) q.s q.m ≤ 1000 by omega), (show 0 ≤ q.p + nextN a (e - q.p) q.s q.m by omega), (show q.p + nextN a (e - q.p) q.s q.m ≤ 1000000000 by omega), (show e - (q.p + nextN a (e - q.p) q.s q.m) ≤ (f : Int) by omega), h8⟩, (show f < q.f by omega)⟩
      · have hbm : (bif b then nextN a (e - q.p) q.s q.m else q.m) = q.m := by rw [hc2]; rfl
        rw [hbm] at h8
        let m9 : Int := q.m
        have hm9 : m9 = q.m := rfl
        refine .skip (cj ?_)
        refine .seq ?_
        refine .plain rfl ?_
        refine .qs rfl rfl rfl H3 (ld_b rfl ob_3 (.own (.there (.there (.there (.there .here))))) rfl) ?_
        refine .qs rfl rfl rfl H3 (ld_b rfl ob_3 (.own .here) rfl) ?_
        refine .q rfl rfl rfl (val_add rfl rfl (w64_of (by omega))) ?_
        refine .store rfl rfl rfl rfl rfl sz_3 rfl H3 (.there (.there (.there (.there .here)))) (by repeat constructor) (fun w6 H6 => ⟨fun _ => trivial, ?_⟩)
        refine .nil (cj ?_)
        refine .seq ?_
        refine .plainIn rfl ?_
        refine .q (S := fun w' => St _ w' _ _ _) rfl rfl rfl H6 (fun a ha d t p af g w _ => val_move rfl a ha d t p af g w) ?_
        refine .q (S := fun w' => St _ w' _ _ _) rfl rfl rfl H6 (ld_b rfl ob_3 (.own .here) rfl) ?_
        refine .y rfl rfl rfl rfl (.cons rfl .nil) (hY q.pre _ hpx) H6 (.cons (.there (.there .here)) .nil) (Sub.all fun q hq => hq) (fun w7 H7 => ?_)
        refine .q (S := fun w' => St _ w' _ _ _) rfl rfl rfl H7 (fun a ha d t p af g w _ => val_not rfl rfl a ha d t p af g w) ?_
        refine .nil (cj ?_)
        refine .cond_f rfl ?_
        refine .skip ?_
        intro act0 hact0; change Exists _
        refine ⟨⟨f, m9, q.p + nextN a (e - q.p) q.s q.m, nextN a (e - q.p) q.s q.m, q.pre ++ [q.p + nextN a (e - q.p) q.s q.m]⟩, Pick.kn (by repeat (first | exact Pick.nil | refine Pick.cons rfl ?_)) hact0, ⟨H7.sub (.cons .here (.cons (.there (.there .here)) (.cons (.there (.there .here)) (.cons (.there .here) (.cons .here (.cons .here .nil)))))), ⟨(show 1 ≤ m9 by omega), (show m9 ≤ vm by omega), (show m9 ≤ 1000 by omega)⟩, (show 0 ≤ nextN a (e - q.p) q.s q.m by omega), (show nextN a (e - q.p) q.s q.m ≤ 1000 by omega), (show 0 ≤ q.p + nextN a (e - q.p) q.s q.m by omega), (show q.p + nextN a (e - q.p) q.s q.m ≤ 1000000000 by omega), (show e - (q.p + nextN a (e - q.p) q.s q.m) ≤ (f : Int) by omega), h8⟩, (show f < q.f by omega)⟩
    · rw [seq_stop hc1, List.append_nil] at g9
      refine .exit (fend (res0 rfl) ?_)
      rw [← g9] at hRR; exact hRR _ _ ⟨_, ⟨rfl, rfl⟩, H1.sub (.cons .here .nil)⟩
  · have hm : (bif b then s else vm) = vm := by rw [hc0]; rfl
    have hmr : 1 ≤ vm ∧ vm ≤ vm ∧ vm ≤ 1000 := by omega
    refine .skip (cj ?_)
    refine .block ?_
    refine .loop (ι := ZQ) (fun q => [(0, .func (.yield l) #[] #[]), (1, ptr x.k), (2, ptr x.f), (3, ptr x.s), (4, ptr x.p), (5, ptr x.e), (7, i64 q.m)]) (fun q w' => St w w' X Ry (Jf q.pre :: vbF x bn b q.s q.p e) ∧ (1 ≤ q.m ∧ q.m ≤ vm ∧ q.m ≤ 1000) ∧ 0 ≤ q.s ∧ q.s ≤ 1000 ∧ 0 ≤ q.p ∧ q.p ≤ 1000000000 ∧ e - q.p ≤ q.f ∧ q.pre ++ seqF a e b q.f q.m q.p q.s = seqF a e b f0 (bif b then s else vm) p s) (fun q => q.f) ⟨f0, _, p, s, []⟩ (by repeat (first | exact Pick.nil | refine Pick.cons rfl ?_)) ⟨H, hmr, hs.1, (show s ≤ 1000 by omega), hp.1, h0, hf, by rw [hm]; rfl⟩ ?_
    rintro q w6 ⟨H8, ⟨g1, g2, g2b⟩, g3, g4, g5, g6, g7, g9⟩
    refine .seq ?_
    refine .seq ?_
    refine .plain rfl ?_
    refine .qs rfl rfl rfl H8 (ld_b rfl ob_3 (.own (.there (.there (.there (.there .here))))) rfl) ?_
    refine .qs rfl rfl rfl H8 (ld_b rfl ob_3 (.own (.there (.there (.there (.there (.there .here)))))) rfl) ?_
    refine .q rfl rfl rfl (val_lss rfl rfl rfl) ?_
    refine .nil (cj ?_)
    refine .cond rfl (fun hc1 => ?_) (fun hc1 => ?_)
    · have hpos := of_decide_eq_true hc1
      obtain ⟨f, hf2⟩ : ∃ f, q.f = f + 1 := ⟨q.f - 1, by omega⟩
      have hnx := nextN_rng (a := a) (r := e - q.p) (s := q.s) (v := q.m) ha.1 (by omega) g3 g1
      have h8 : (q.pre ++ [q.p + nextN a (e - q.p) q.s q.m]) ++ seqF a e b f (bif b then nextN a (e - q.p) q.s q.m else q.m) (q.p + nextN a (e - q.p) q.s q.m) (nextN a (e - q.p) q.s q.m) = seqF a e b f0 (bif b then s else vm) p s := by rw [← g9, hf2, seq_go hc1, List.append_assoc]; rfl
      have hpx : (q.pre ++ [q.p + nextN a (e - q.p) q.s q.m]) <+: seqF a e b f0 (bif b then s else vm) p s := ⟨_, h8⟩
      refine .skip (cj ?_)
      refine .block ?_
      refine .seq ?_
      refine .plain rfl ?_
      refine .qs rfl rfl rfl H8 (ld_b rfl ob_87 (.own (.there .here)) rfl) ?_
      refine .qs rfl rfl rfl H8 (ld_b rfl ob_3 (.own (.there (.there (.there (.there (.there .here)))))) rfl) ?_
      refine .qs rfl rfl rfl H8 (ld_b rfl ob_3 (.own (.there (.there (.there (.there .here))))) rfl) ?_
      refine .q rfl rfl rfl (val_sub rfl rfl (w64_of (by omega))) ?_
      refine .qs rfl rfl rfl H8 (ld_b rfl ob_3 (.own (.there (.there (.there .here)))) rfl) ?_
      refine .q rfl rfl rfl (val_move rfl) ?_
      refine .call1 rfl rfl rfl en159 (.cons rfl (.cons rfl (.cons rfl (.cons rfl .nil)))) (nextK_spec (Jf q.pre) bn u a vm _ _ _ (hC _) ha (by omega) (by omega) (by omega)) H8 .nil (.own .here .nil) (fun w9 H9 => ⟨fun _ => trivial, ?_⟩)
      refine .store rfl rfl rfl rfl rfl sz_3 rfl H9 (.there (.there (.there .here))) (by repeat constructor) (fun w10 H10 => ⟨fun _ => trivial, ?_⟩)
      refine .nil (cj ?_)
      refine .seq ?_
      refine .seq ?_
      refine .plain rfl ?_
      refine .qs rfl rfl rfl H10 (ld_b rfl ob_4 (.own (.there (.there (.there .here)))) rfl) ?_
      refine .nil (cj ?_)
      refine .cond rfl (fun hc2 => ?_) (fun hc2 => ?_)
      · have hbm : (bif b then nextN a (e - q.p) q.s q.m else q.m) = nextN a (e - q.p) q.s q.m := by rw [hc2]; rfl
        rw [hbm] at h8
        let m9 : Int := nextN a (e - q.p) q.s q.m
        have hm9 : m9 = nextN a (e - q.p) q.s q.m := rfl
        refine .plain rfl ?_
        refine .qs rfl rfl rfl H10 (ld_b rfl ob_3 (.own .here) rfl) ?_
        refine .q rfl rfl rfl (val_assign rfl) ?_
        refine .nil (cj ?_)
        refine .seq ?_
        refine .plain rfl ?_
        refine .qs rfl rfl rfl H10 (ld_b rfl ob_3 (.own (.there (.there (.there (.there .here))))) rfl) ?_
        refine .qs rfl rfl rfl H10 (ld_b rfl ob_3 (.own .here) rfl) ?_
        refine .q rfl rfl rfl (val_add rfl rfl (w64_of (by omega))) ?_
        refine .store rfl rfl rfl rfl rfl sz_3 rfl H10 (.there (.there (.there (.there .here)))) (by repeat constructor) (fun w11 H11 => ⟨fun _ => trivial, ?_⟩)
        refine .nil (cj ?_)
        refine .seq ?_
        refine .plainIn rfl ?_
        refine .q (S := fun w' => St _ w' _ _ _) rfl rfl rfl H11 (fun a ha d t p af g w _ => val_move rfl a ha d t p af g w) ?_
        refine .q (S := fun w' => St _ w' _ _ _) rfl rfl rfl H11 (ld_b rfl ob_3 (.own .here) rfl) ?_
        refine .y rfl rfl rfl rfl (.cons rfl .nil) (hY q.pre _ hpx) H11 (.cons (.there (.there .here)) .nil) (Sub.all fun q hq => hq) (fun w12 H12 => ?_)
        refine .q (S := fun w' => St _ w' _ _ _) rfl rfl rfl H12 (fun a ha d t p af g w _ => val_not rfl rfl a ha d t p af g w) ?_
        refine .nil (cj ?_)
        refine .cond_f rfl ?_
        refine .skip ?_
        intro act0 hact0; change Exists _
        refine ⟨⟨f, m9, q.p + nextN a (e - q.p) q.s q.m, nextN a (e - q.p) q.s q.m, q.pre ++ [q.p + nextN a (e - q.p) q.s q.m]⟩, Pick.kn (by repeat (first | exact Pick.nil | refine Pick.cons rfl ?_)) hact0, ⟨H12.sub (.cons .here (.cons (.there (.there .here)) (.cons (.there (.there .here)) (.cons (.there .here) (.cons .here (.cons .here .nil)))))), ⟨(show 1 ≤ m9 by omega), (show m9 ≤ vm by omega), (show m9 ≤ 1000 by omega)⟩, (show 0 ≤ nextN a (e - q.p) q.s q.m by omega), (show nextN a (e - q.p) q.s q.m ≤ 1000 by omega), (show 0 ≤ q.p + nextN a (e - q.p) q.s q.m by omega), (show q.p + nextN a (e - q.p) q.s q.m ≤ 1000000000 by omega), (show e - (q.p + nextN a (e - q.p) q.s q.m) ≤ (f : Int) by omega), h8⟩, (show f < q.f by omega)⟩
      · have hbm : (bif b then nextN a (e - q.p) q.s q.m else q.m) = q.m := by rw [hc2]; rfl
        rw [hbm] at h8
        let m9 : Int := q.m
        have hm9 : m9 = q.m := rfl
        refine .skip (cj ?_)
        refine .seq ?_
        refine .plain rfl ?_
        refine .qs rfl rfl rfl H10 (ld_b rfl ob_3 (.own (.there (.there (.there (.there .here))))) rfl) ?_
        refine .qs rfl rfl rfl H10 (ld_b rfl ob_3 (.own .here) rfl) ?_
        refine .q rfl rfl rfl (val_add rfl rfl (w64_of (by omega))) ?_
        refine .store rfl rfl rfl rfl rfl sz_3 rfl H10 (.there (.there (.there (.there .here)))) (by repeat constructor) (fun w13 H13 => ⟨fun _ => trivial, ?_⟩)
        refine .nil (cj ?_)
        refine .seq ?_
        refine .plainIn rfl ?_
        refine .q (S := fun w' => St _ w' _ _ _) rfl rfl rfl H13 (fun a ha d t p af g w _ => val_move rfl a ha d t p af g w) ?_
        refine .q (S := fun w' => St _ w' _ _ _) rfl rfl rfl H13 (ld_b rfl ob_3 (.own .here) rfl) ?_
        refine .y rfl rfl rfl rfl (.cons rfl .nil) (hY q.pre _ hpx) H13 (.cons (.there (.there .here)) .nil) (Sub.all fun q hq => hq) (fun w14 H14 => ?_)
        refine .q (S := fun w' => St _ w' _ _ _) rfl rfl rfl H14 (fun a ha d t p af g w _ => val_not rfl rfl a ha d t p af g w) ?_
        refine .nil (cj ?_)
        refine .cond_f rfl ?_
        refine .skip ?_
        intro act0 hact0; change Exists _
        refine ⟨⟨f, m9, q.p + nextN a (e - q.p) q.s q.m, nextN a (e - q.p) q.s q.m, q.pre ++ [q.p + nextN a (e - q.p) q.s q.m]⟩, Pick.kn (by repeat (first | exact Pick.nil | refine Pick.cons rfl ?_)) hact0, ⟨H14.sub (.cons .here (.cons (.there (.there .here)) (.cons (.there (.there .here)) (.cons (.there .here) (.cons .here (.cons .here .nil)))))), ⟨(show 1 ≤ m9 by omega), (show m9 ≤ vm by omega), (show m9 ≤ 1000 by omega)⟩, (show 0 ≤ nextN a (e - q.p) q.s q.m by omega), (show nextN a (e - q.p) q.s q.m ≤ 1000 by omega), (show 0 ≤ q.p + nextN a (e - q.p) q.s q.m by omega), (show q.p + nextN a (e - q.p) q.s q.m ≤ 1000000000 by omega), (show e - (q.p + nextN a (e - q.p) q.s q.m) ≤ (f : Int) by omega), h8⟩, (show f < q.f by omega)⟩
    · rw [seq_stop hc1, List.append_nil] at g9
      refine .exit (fend (res0 rfl) ?_)
      rw [← g9] at hRR; exact hRR _ _ ⟨_, ⟨rfl, rfl⟩, H8.sub (.cons .here .nil)⟩
end Go.Proofs.YtmbibkifbehgnaaGreatDoor
namespace Go.Proofs.YtmbibkifbehgnaaGreatDoor
open Go Sk
set_option linter.unusedVariables false
set_option linter.unusedSimpArgs false
theorem fa_136_1 (b o : Nat) (w : World) : (Instr.fieldAt 136 (.pointer (some ⟨b, o, none⟩)) 1).run Tryz.prog w = .ok (.pointer (some ⟨b, o + 0, none⟩)) w := by kernel_rfl
theorem fa_138_0 (b o : Nat) (w : World) : (Instr.fieldAt 138 (.pointer (some ⟨b, o, none⟩)) 0).run Tryz.prog w = .ok (.pointer (some ⟨b, o + 0, none⟩)) w := by kernel_rfl
theorem fa_140_1 (b o : Nat) (w : World) : (Instr.fieldAt 140 (.pointer (some ⟨b, o, none⟩)) 1).run Tryz.prog w = .ok (.pointer (some ⟨b, o + 0, none⟩)) w := by kernel_rfl
theorem en169 : Enters Tryz.prog 169 := fun args w => by kernel_rfl
theorem en170 : Enters Tryz.prog 170 := fun args w => by kernel_rfl
theorem en172 : Enters Tryz.prog 172 := fun args w => by kernel_rfl
theorem ob_21  : oneB Tryz.prog 21 = true := by kernel_rfl
theorem disable_run (w : World) : (callFunc 173 [].toArray).run Tryz.prog w = .ok (.value (.tuple #[])) w := run_call_mark0 Tryz.func173 (by kernel_rfl) (by kernel_rfl) (by kernel_rfl) .disable (by kernel_rfl) w
theorem enable_run (w : World) : (callFunc 175 [].toArray).run Tryz.prog w = .ok (.value (.tuple #[])) w := run_call_mark0 Tryz.func175 (by kernel_rfl) (by kernel_rfl) (by kernel_rfl) .enable (by kernel_rfl) w
theorem acquire_run (a : Addr) (w : World) : (callFunc 176 [.pointer (some a)].toArray).run Tryz.prog w = .ok (.value (.tuple #[])) w := run_call_marked Tryz.func176 (by kernel_rfl) (by kernel_rfl) (by kernel_rfl) .acquire (by kernel_rfl) a w
theorem merge_run (a : Addr) (w : World) : (callFunc 178 [.pointer (some a)].toArray).run Tryz.prog w = .ok (.value (.tuple #[])) w := run_call_marked Tryz.func178 (by kernel_rfl) (by kernel_rfl) (by kernel_rfl) .releaseMerge (by kernel_rfl) a w
theorem load_run {a : Addr} {x : Int} {w : World} (hc : w.cell? a = some (.int .u32 x)) : (callFunc 165 [.pointer (some a)].toArray).run Tryz.prog w = .ok (.value (.int .u32 x)) w := run_call_load Tryz.func165 (by kernel_rfl) (by kernel_rfl) (by kernel_rfl) .u32 (by kernel_rfl) hc
theorem store_run {a : Addr} {y : Int} {u : Value} {w : World} (hc : w.cell? a = some u) (hz : w.frozen? a = false) : (callFunc 171 [.pointer (some a), .int .u32 y].toArray).run Tryz.prog w = .ok (.value (.tuple #[])) (w.setCell a (.int .u32 y)) := run_call_store Tryz.func171 (by kernel_rfl) (by kernel_rfl) (by kernel_rfl) (by kernel_rfl) hc hz
theorem cas_run {a : Addr} {x y : Int} {w : World} (hc : w.cell? a = some (.int .i32 x)) (hz : w.frozen? a = false) : (callFunc 174 [.pointer (some a), .int .i32 x, .int .i32 y].toArray).run Tryz.prog w = .ok (.value (.bool true)) (w.setCell a (.int .i32 y)) := run_call_cas_hit Tryz.func174 (by kernel_rfl) (by kernel_rfl) (by kernel_rfl) .i32 (by kernel_rfl) hc hz
theorem add_run {a : Addr} {w : World} (hc : w.cell? a = some (.int .i32 1)) (hz : w.frozen? a = false) : (callFunc 179 [.pointer (some a), .int .i32 (-1)].toArray).run Tryz.prog w = .ok (.value (.int .i32 0)) (w.setCell a (.int .i32 0)) := run_call_add Tryz.func179 (by kernel_rfl) (by kernel_rfl) (by kernel_rfl) .i32 (by kernel_rfl) hc hz (by simp [go_sem]; rfl)
section
variable (b o : Nat) (cs : List Value) (T : TypeId)
theorem flag_spec (d : Int) (h : cs[o]? = some (.int .u32 d)) : Sk.Spec Tryz.prog 163 #[.pointer (some ⟨b, o, none⟩)] [blk b cs T] [] fun e F' => e = .returned (.bool (d != 0)) ∧ F' = [] := by
  refine Spec.of_code (vs := [_]) (k0 := [(0, _)]) 8 Tryz.func163 rfl Tryz.ntmps163 rfl (.cons .nil) fun w X RR hRR H => ?_
  refine .seq ?_
  refine .plain rfl ?_
  refine .q rfl rfl rfl (val_assign rfl) ?_
  refine .nil (cj ?_)
  refine .seq ?_
  refine .plain rfl ?_
  refine .q rfl rfl rfl (val_move rfl) ?_
  refine .q rfl rfl rfl (val_nilCheck rfl) ?_
  refine .q rfl rfl rfl (val_fieldAddr rfl fa_136_1) ?_
  refine .ext rfl rfl rfl (.cons rfl .nil) (load_run (Has.cell (.ro .here) H h)) (fun _ => trivial) ?_
  refine .q rfl rfl rfl (val_neq rfl rfl rfl) ?_
  refine .q rfl rfl rfl (val_assign rfl) ?_
  refine .nil (cj ?_)
  refine .ret (fret (res1 rfl rfl) ?_)
  refine hRR _ _ ⟨_, ⟨?_, rfl⟩, H.sub .nil⟩
  rfl
theorem b32_spec : Sk.Spec Tryz.prog 172 #[.bool true] [] [] fun e F' => e = .returned (.int .u32 1) ∧ F' = [] := by
  refine Spec.of_code (vs := [_]) (k0 := [(0, _)]) 4 Tryz.func172 rfl Tryz.ntmps172 rfl (.cons .nil) fun w X RR hRR H => ?_
  refine .seq ?_
  refine .plain rfl ?_
  refine .q rfl rfl rfl (val_assign rfl) ?_
  refine .nil (cj ?_)
  refine .seq ?_
  refine .seq ?_
  refine .plain rfl ?_
  refine .q rfl rfl rfl (val_move rfl) ?_
  refine .nil (cj ?_)
  refine .cond_t rfl ?_
  refine .seq ?_
  refine .plain rfl ?_
  refine .q rfl rfl rfl (val_assign rfl) ?_
  refine .nil (cj ?_)
  refine .ret (fret (res1 rfl rfl) ?_)
  refine hRR _ _ ⟨_, ⟨?_, rfl⟩, H.sub .nil⟩
  rfl
theorem setFlag_spec (d : Int) (h : cs[o]? = some (.int .u32 d)) : SpecD Tryz.prog 168 #[.pointer (some ⟨b, o, none⟩), .bool true] [] [blk b cs T] fun e F' => e = .returned (.tuple #[]) ∧ F' = [blk b (cs.set o (.int .u32 1)) T] := by
  refine SpecD.of_code (vs := [_, _]) (k0 := [(0, _), (1, _)]) 10 Tryz.func168 rfl Tryz.ntmps168 rfl (.cons (.cons .nil)) fun w X RR hRR H => ?_
  refine .drawS2 6 (.cons (0, true) (.cons (1, true) (.cons (2, true) (.cons (3, true) (.cons (4, false) (.cons (5, false) .nil)))))) mo (by kernel_rfl) H .nil (fun _ _ _ _ _ h => h) (fun w1 H1 => ?_)
  refine .p rfl rfl rfl (val_move rfl) ?_
  refine .p rfl rfl rfl (val_nilCheck rfl) ?_
  refine .p rfl rfl rfl (val_fieldAddr rfl fa_136_1) ?_
  refine .p rfl rfl rfl (val_move rfl) ?_
  refine .call1 rfl rfl rfl en172 (.cons rfl .nil) b32_spec H1 .nil .nil (fun w2 H2 => ⟨fun _ => (H2.sub .nil), ?_⟩)
  obtain ⟨hc9, hz9, HS9⟩ := St.setCell (v := .int .u32 1) H2 .here h
  refine .ext rfl rfl rfl (.cons rfl (.cons rfl .nil)) (store_run hc9 hz9) (fun _ => (HS9.sub .nil)) ?_
  refine .nil (fend (res0 rfl) ?_)
  refine hRR _ _ ⟨_, ⟨?_, rfl⟩, HS9.sub (.cons .here .nil)⟩
  rfl
theorem lock_spec (h : cs[o]? = some (.int .i32 0)) : Sk.Spec Tryz.prog 169 #[.pointer (some ⟨b, o, none⟩)] [] [blk b cs T] fun e F' => e = .returned (.tuple #[]) ∧ F' = [blk b (cs.set o (.int .i32 1)) T] := by
  have h9 : (cs.set o (.int .i32 1))[o]? = some (.int .i32 1) := by simp [lt_of_some h]
  refine Spec.of_code (vs := [_]) (k0 := [(0, _)]) 13 Tryz.func169 rfl Tryz.ntmps169 rfl (.cons .nil) fun w X RR hRR H => ?_
  refine .seq ?_
  refine .plain rfl ?_
  refine .ext rfl rfl rfl .nil (disable_run _) (fun _ => trivial) ?_
  refine .nil (cj ?_)
  refine .seq ?_
  refine .seq ?_
  refine .plain rfl ?_
  refine .q rfl rfl rfl (val_move rfl) ?_
  refine .q rfl rfl rfl (val_nilCheck rfl) ?_
  refine .q rfl rfl rfl (val_fieldAddr rfl fa_138_0) ?_
  obtain ⟨hc9, hz9, HS9⟩ := St.setCell (v := .int .i32 1) H .here h
  refine .ext rfl rfl rfl (.cons rfl (.cons rfl (.cons rfl .nil))) (cas_run hc9 hz9) (fun _ => trivial) ?_
  refine .nil (cj ?_)
  refine .cond_t rfl ?_
  refine .seq ?_
  refine .cond_t rfl ?_
  refine .seq ?_
  refine .plain rfl ?_
  refine .ext rfl rfl rfl .nil (enable_run _) (fun _ => trivial) ?_
  refine .nil (cj ?_)
  refine .plain rfl ?_
  refine .q rfl rfl rfl (val_move rfl) ?_
  refine .qs rfl rfl rfl HS9 (ld_unsafe Tryz.underlying234 Tryz.underlying238 (by kernel_rfl) rfl (.own .here) h9) ?_
  refine .ext rfl rfl rfl (.cons rfl .nil) (acquire_run _ _) (fun _ => trivial) ?_
  refine .nil (cj ?_)
  refine .ret (fret (res0 rfl) ?_)
  refine hRR _ _ ⟨_, ⟨?_, rfl⟩, HS9.sub (.cons .here .nil)⟩
  rfl
theorem unlock_spec (h : cs[o]? = some (.int .i32 1)) : Sk.Spec Tryz.prog 170 #[.pointer (some ⟨b, o, none⟩)] [] [blk b cs T] fun e F' => e = .returned (.tuple #[]) ∧ F' = [blk b (cs.set o (.int .i32 0)) T] := by
  refine Spec.of_code (vs := [_]) (k0 := [(0, _)]) 21 Tryz.func170 rfl Tryz.ntmps170 rfl (.cons .nil) fun w X RR hRR H => ?_
  refine .seq ?_
  refine .cond_t rfl ?_
  refine .seq ?_
  refine .plain rfl ?_
  refine .q rfl rfl rfl (val_move rfl) ?_
  refine .q rfl rfl rfl (val_nilCheck rfl) ?_
  refine .q rfl rfl rfl (val_fieldAddr rfl fa_138_0) ?_
  refine .qs rfl rfl rfl H (ld_b rfl ob_21 (.own .here) h) ?_
  refine .nil (cj ?_)
  refine .seq ?_
  refine .plain rfl ?_
  refine .q rfl rfl rfl (val_move rfl) ?_
  refine .qs rfl rfl rfl H (ld_unsafe Tryz.underlying234 Tryz.underlying238 (by kernel_rfl) rfl (.own .here) h) ?_
  refine .ext rfl rfl rfl (.cons rfl .nil) (merge_run _ _) (fun _ => trivial) ?_
  refine .nil (cj ?_)
  refine .plain rfl ?_
  refine .ext rfl rfl rfl .nil (disable_run _) (fun _ => trivial) ?_
  refine .nil (cj ?_)
  refine .seq ?_
  refine .plain rfl ?_
  refine .q rfl rfl rfl (val_move rfl) ?_
  refine .q rfl rfl rfl (val_nilCheck rfl) ?_
  refine .q rfl rfl rfl (val_fieldAddr rfl fa_138_0) ?_
  obtain ⟨hc9, hz9, HS9⟩ := St.setCell (v := .int .i32 0) H .here h
  refine .ext rfl rfl rfl (.cons rfl (.cons rfl .nil)) (add_run hc9 hz9) (fun _ => trivial) ?_
  refine .q rfl rfl rfl (val_assign rfl) ?_
  refine .nil (cj ?_)
  refine .seq ?_
  refine .seq ?_
  refine .plain rfl ?_
  refine .q rfl rfl rfl (val_move rfl) ?_
  refine .q rfl rfl rfl (val_neq rfl rfl rfl) ?_
  refine .nil (cj ?_)
  refine .cond_f rfl ?_
  refine .skip (cj ?_)
  refine .plain rfl ?_
  refine .ext rfl rfl rfl .nil (enable_run _) (fun _ => trivial) ?_
  refine .nil (fend (res0 rfl) ?_)
  refine hRR _ _ ⟨_, ⟨?_, rfl⟩, HS9.sub (.cons .here .nil)⟩
  rfl
theorem mlock_spec (h : cs[o]? = some (.int .i32 0)) : Sk.Spec Tryz.prog 166 #[.pointer (some ⟨b, o, none⟩)] [] [blk b cs T] fun e F' => e = .returned (.tuple #[]) ∧ F' = [blk b (cs.set o (.int .i32 1)) T] := by
  refine Spec.of_code (vs := [_]) (k0 := [(0, _)]) 6 Tryz.func166 rfl Tryz.ntmps166 rfl (.cons .nil) fun w X RR hRR H => ?_
  refine .plain rfl ?_
  refine .q rfl rfl rfl (val_move rfl) ?_
  refine .q rfl rfl rfl (val_nilCheck rfl) ?_
  refine .q rfl rfl rfl (val_fieldAddr rfl fa_140_1) ?_
  refine .call1 rfl rfl rfl en169 (.cons rfl .nil) (lock_spec b o cs T h) H (.cons .here .nil) .nil (fun w1 H1 => ⟨fun _ => trivial, ?_⟩)
  refine .nil (fend (res0 rfl) ?_)
  refine hRR _ _ ⟨_, ⟨?_, rfl⟩, H1.sub (.cons .here .nil)⟩
  rfl
theorem munlock_spec (h : cs[o]? = some (.int .i32 1)) : SpecD Tryz.prog 167 #[.pointer (some ⟨b, o, none⟩)] [] [blk b cs T] fun e F' => e = .returned (.tuple #[]) ∧ F' = [blk b (cs.set o (.int .i32 0)) T] := by
  refine SpecD.of_code (vs := [_]) (k0 := [(0, _)]) 6 Tryz.func167 rfl Tryz.ntmps167 rfl (.cons .nil) fun w X RR hRR H => ?_
  refine .plain rfl ?_
  refine .q rfl rfl rfl (val_move rfl) ?_
  refine .q rfl rfl rfl (val_nilCheck rfl) ?_
  refine .q rfl rfl rfl (val_fieldAddr rfl fa_140_1) ?_
  refine .call1 rfl rfl rfl en170 (.cons rfl .nil) (unlock_spec b o cs T h) H (.cons .here .nil) .nil (fun w1 H1 => ⟨fun _ => trivial, ?_⟩)
  refine .nil (fend (res0 rfl) ?_)
  refine hRR _ _ ⟨_, ⟨?_, rfl⟩, H1.sub (.cons .here .nil)⟩
  rfl
end
end Go.Proofs.YtmbibkifbehgnaaGreatDoor
namespace Go.Proofs.YtmbibkifbehgnaaGreatDoor
open Go Sk
set_option linter.unusedVariables false
set_option linter.unusedSimpArgs false
theorem fa_144_1 (b o : Nat) (w : World) : (Instr.fieldAt 144 (.pointer (some ⟨b, o, none⟩)) 1).run Tryz.prog w = .ok (.pointer (some ⟨b, o + 3, none⟩)) w := by kernel_rfl
theorem fa_147_0 (b o : Nat) (w : World) : (Instr.fieldAt 147 (.pointer (some ⟨b, o, none⟩)) 0).run Tryz.prog w = .ok (.pointer (some ⟨b, o + 0, none⟩)) w := by kernel_rfl
theorem en148 : Enters Tryz.prog 148 := fun args w => by kernel_rfl
theorem en158 : Enters Tryz.prog 158 := fun args w => by kernel_rfl
theorem ob_224  : oneB Tryz.prog 224 = true := by kernel_rfl
theorem sz_27  : (Tryz.prog.info? 27).map (·.size) = some 1 := by kernel_rfl
theorem seq_prof {a e v : Int} : ∀ (f : Nat) (p s : Int), seqF a e false f v p s = profF a v e f p s
  | 0, _, _ => rfl
  | f + 1, p, s => by
    unfold seqF profF
    split
    · rw [show (bif false then nextN a (e - p) s v else v) = v from rfl, seq_prof f]
    · rfl
theorem seq_prof0 {u a vm n : Int} : seqF a (n * u) false (n * u).toNat vm 0 0 = prof u a vm n := seq_prof _ _ _
/-- the places of a run under way -/
abbrev plF (bn o : Nat) (cs : List Value) (l : List Int) (v : Value) : List As := [blk bn (cs.set (o + 3) v) 147, row v 3 1 l.length (l.flatMap encI)]
theorem krd_blk {bn : Nat} {cs : List Value} {T : TypeId} {u a v : Int} (h0 : cs[0]? = some (i64 u)) (h1 : cs[1]? = some (i64 a)) (h2 : cs[2]? = some (i64 v)) : KRd (blk bn cs T) bn u a v :=
  ⟨fun Y w hb => by simp [World.cell?, hb.2, h0], fun Y w hb => by simp [World.cell?, hb.2, h1], fun Y w hb => by simp [World.cell?, hb.2, h2]⟩
theorem krd_sep {L : List As} {K : As} {bn : Nat} {u a v : Int} (h : KRd K bn u a v) (hm : K ∈ L) : KRd (sep L) bn u a v :=
  ⟨fun Y w hb => by obtain ⟨Z, hZ⟩ := sep_mem hm hb; exact h.c0 Z w hZ, fun Y w hb => by obtain ⟨Z, hZ⟩ := sep_mem hm hb; exact h.c1 Z w hZ, fun Y w hb => by obtain ⟨Z, hZ⟩ := sep_mem hm hb; exact h.c2 Z w hZ⟩
theorem krd_ex {ι : Type} {f : ι → List As} {g : ι → As} {bn : Nat} {u a v : Int} (h : ∀ i, KRd (g i) bn u a v) (hm : ∀ i, g i ∈ f i) : KRd (exAs f) bn u a v :=
  ⟨fun Y w hb => by obtain ⟨i, hb⟩ := hb; exact (krd_sep (h i) (hm i)).c0 Y w hb, fun Y w hb => by obtain ⟨i, hb⟩ := hb; exact (krd_sep (h i) (hm i)).c1 Y w hb, fun Y w hb => by obtain ⟨i, hb⟩ := hb; exact (krd_sep (h i) (hm i)).c2 Y w hb⟩
theorem set_same {α : Type} {l : List α} {i : Nat} {x : α} (h : l[i]? = some x) : l.set i x = l := by
  obtain ⟨h1, h2⟩ := List.getElem?_eq_some_iff.1 h
  rw [← h2]; exact List.set_getElem_self h1
theorem places1_spec (bk b2 br bn o : Nat) (cs : List Value) (u a vm n : Int) (hu : 1 ≤ u ∧ u ≤ 1000) (ha : 1 ≤ a ∧ a ≤ 1000) (hv : 1 ≤ vm ∧ vm ≤ 1000) (hn : 1 ≤ n ∧ n ≤ 16)
    (h0 : cs[0]? = some (i64 u)) (h1 : cs[1]? = some (i64 a)) (h2 : cs[2]? = some (i64 vm)) (hp : cs[o + 3]? = some (.slice none 0 0)) :
    Sk.Spec Tryz.prog 162 #[ptr bk, ptr b2, ptr br] [blk bk [ptr bn] 87, blk b2 [i64 n] 3, blk br [.pointer (some ⟨bn, o, none⟩)] 224] [blk bn cs 147]
      fun e F' => ∃ v, e = .returned (.tuple #[]) ∧ F' = plF bn o cs (prof u a vm n) v ∧ True := by
  have he : 1 ≤ n * u ∧ n * u ≤ 16000 := by
    have g1 : n * u ≤ 16 * 1000 := Int.mul_le_mul hn.2 hu.2 (by omega) (by omega)
    have g2 : 0 < n * u := Int.mul_pos (by omega) (by omega)
    omega
  have hwe : w64 (n * u) = n * u := w64_of (by omega)
  have hlt := lt_of_some hp
  have hset : ∀ v, (cs.set (o + 3) v)[o + 3]? = some v := fun v => by simp [hlt]
  have hK : ∀ v, KRd (blk bn (cs.set (o + 3) v) 147) bn u a vm := fun v => krd_blk (by rw [List.getElem?_set_ne (by omega)]; exact h0) (by rw [List.getElem?_set_ne (by omega)]; exact h1) (by rw [List.getElem?_set_ne (by omega)]; exact h2)
  have hKI : ∀ (L : List As) (pre : List Int), KRd (sep (L ++ [exAs (plF bn o cs pre)])) bn u a vm := fun L pre => krd_sep (krd_ex (f := plF bn o cs pre) hK fun v => List.mem_cons_self) (by simp)
  have hle : (prof u a vm n).length ≤ 16000 := prof_len hu hn
  refine Spec.of_codeM (vs := [_, _, _]) (k0 := [(0, _), (1, _), (2, _)]) 23 Tryz.func162 rfl Tryz.ntmps162 rfl (.cons (.cons (.cons .nil))) fun w X RR hRR H => ?_
  refine .seq ?_
  refine .drawS 8 (.cons (0, true) (.cons (1, true) (.cons (2, true) (.cons (3, true) (.cons (4, true) (.cons (5, true) (.cons (6, true) (.cons (7, false) .nil)))))))) mo (by kernel_rfl) H (fun _ _ _ _ _ h => h) (fun w1 H1 => ?_)
  refine .ps rfl rfl rfl rfl (ld_b rfl ob_87 (.ro .here) rfl) ?_
  refine .ps rfl rfl rfl rfl (ld_b rfl ob_3 (.ro (.there .here)) rfl) ?_
  refine .ps rfl rfl rfl rfl (ld_b rfl ob_87 (.ro .here) rfl) ?_
  refine .p rfl rfl rfl (val_nilCheck rfl) ?_
  refine .p rfl rfl rfl (val_fieldAddr rfl fa_147_0) ?_
  refine .ps rfl rfl rfl rfl (ld_b rfl ob_3 (.own .here) h0) ?_
  refine .p rfl rfl rfl (val_mul rfl rfl hwe) ?_
  refine .callx rfl rfl rfl en148 (.cons rfl (.cons rfl (.cons rfl (.cons rfl (.cons rfl .nil))))) (steps_spec _ _ _ _ _ _) H1 .nil .nil (fun x2 w2 C2 H2 => ⟨fun _ => (H2.sub (.cons (.there (.there (.there (.there (.there .here))))) .nil)), ?_⟩)
  refine .nil (cj ?_)
  refine .block ?_
  have HX1 := H2.rowNil 3 1
  have HX2 := HX1.sub (.cons (.there (.there (.there (.there (.there (.there .here)))))) (.cons .here (.cons .here (.cons .here (.cons .here (.cons .here (.cons .here .nil)))))))
  rw [← set_same hp] at HX2
  have HX3 := St.exIn (f := plF bn o cs []) _ HX2
  refine .range (fun pre => [exAs (plF bn o cs pre)]) (fun x => [(0, ptr bk), (1, ptr b2), (2, ptr br), (3, i64 x)]) rfl en158 rfl (stepsK_seq _ bn u a vm 0 0 (n * u) false (n * u).toNat ha hv (by omega) (fun h => by cases h) (by omega) (by omega) (by omega)) HX3 hKI ?_ ?_ ?_
  · intro l9 x9 w9
    refine .plain rfl (by kernel_rfl) (fun _ _ h => by cases h.1) ?_
    refine .q rfl rfl rfl (val_assign rfl) ?_
    refine .nil ?_
    intro a9 ha9
    exact ⟨rfl, rfl, Pick.kn (by repeat (first | exact Pick.nil | refine Pick.cons rfl ?_)) ha9⟩
  · intro l9 pre9 x9 w8 w9 X9 hpx HB
    obtain ⟨v9, HB⟩ := HB.exOut
    have HB : St w8 w9 X9 _ (plF bn o cs pre9 v9) := HB
    have hpl : pre9.length + 1 ≤ 16000 := by
      have h9 := hpx.length_le
      rw [show (seqF a (n * u) false (n * u).toNat (bif false then 0 else vm) 0 0) = prof u a vm n from seq_prof0] at h9
      simp at h9; omega
    refine .block ?_
    refine .drawS2 8 (.cons (0, true) (.cons (1, true) (.cons (2, true) (.cons (3, true) (.cons (4, true) (.cons (5, true) (.cons (6, false) (.cons (7, false) (.cons (8, true) (.cons (9, true) (.cons (10, false) .nil))))))))))) mo (by kernel_rfl) (by kernel_rfl) (fun _ _ h => h) HB (.cons .here .nil) (fun _ _ _ _ _ h => h) (fun w3 H3 => ?_)
    refine .ps rfl rfl rfl rfl (ld_b rfl ob_224 (.ro (.there (.there .here))) rfl) ?_
    refine .ps rfl rfl rfl rfl (ld_b rfl ob_224 (.ro (.there (.there .here))) rfl) ?_
    refine .p rfl rfl rfl (val_nilCheck rfl) ?_
    refine .p rfl rfl rfl (val_fieldAddr rfl fa_144_1) ?_
    refine .ps rfl rfl rfl rfl (ld_b rfl ob_27 (.own .here) (hset _)) ?_
    refine .p rfl rfl rfl (val_move rfl) ?_
    refine .lit rfl rfl rfl Tryz.underlying27 (.cons rfl .nil) (bs_3_1_0 _) H3 (fun w4 b4 H4 => ⟨fun _ => (H4.sub (.cons (.there .here) .nil)), ?_⟩)
    refine .append rfl rfl rfl (ap_27) rfl rfl H4 (.there (.there .here)) (Has.srcBlk (.own .here) H4) rfl (by simp [Value.oneCell']) (by simp only [maxLen]; omega) (by first | omega | (dsimp only; omega)) (fun v5 w5 H5 => ⟨fun _ => (H5.sub (.cons (.there (.there .here)) .nil)), ?_⟩)
    refine .p rfl rfl rfl (val_nilCheck rfl) ?_
    refine .p rfl rfl rfl (val_fieldAddr rfl fa_144_1) ?_
    obtain ⟨A9, c9, rfl⟩ := St.rowVal H5 .here
    refine .store rfl rfl rfl rfl rfl sz_27 rfl H5 (.there (.there .here)) (Spl_cell (by rw [List.length_set]; exact hlt)) (fun w6 H6 => ⟨fun h => absurd h (by decide), ?_⟩)
    refine .nil ?_
    intro a9 _
    refine St.exIn (.slice A9 (pre9.length + 1) c9) ?_
    rw [List.set_set] at H6
    show St w8 _ X9 _ [blk bn (cs.set (o + 3) _) 147, row _ 3 1 (pre9 ++ [x9]).length ((pre9 ++ [x9]).flatMap encI)]
    rw [row_snocI]
    exact H6.sub (.cons .here (.cons .here .nil))
  · intro w9 D9 HD
    refine id (mend HD .here (fun w7 => res0 rfl) (fun w7 H7 => ?_))
    obtain ⟨v9, H9⟩ := H7.exOut
    rw [show (seqF a (n * u) false (n * u).toNat (bif false then 0 else vm) 0 0) = prof u a vm n from seq_prof0] at H9
    exact hRR _ _ ⟨_, ⟨v9, rfl, rfl, trivial⟩, H9⟩
end Go.Proofs.YtmbibkifbehgnaaGreatDoor
