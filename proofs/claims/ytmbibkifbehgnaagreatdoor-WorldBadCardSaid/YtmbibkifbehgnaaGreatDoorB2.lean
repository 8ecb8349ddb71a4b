/-
  My walks and plain laws, part 2 of 5, joined by a program of my own: L1, L2, L3, L4, L5, SkMap, L6, L7, L8, L9, C1, K1, K2, K3, K4, K5, Q1, Q2, Q3, Q4, Q5, Q6, Q7, Q8, Q11, Q12, Q13, Q14, Q15, W1, W2, W3.
-/
import Derived.MapKept
import Derived.WideLaws
import Derived.Test.YtmbibkifbehgnaaGreatDoorB1
namespace Go.Proofs.YtmbibkifbehgnaaGreatDoor
open Go Sk
set_option linter.unusedVariables false
set_option linter.unusedSimpArgs false
theorem en118 : Enters Tryz.prog 118 := fun args w => by kernel_rfl
theorem ap_193  : apB Tryz.prog 193 4 1 1 = true := by kernel_rfl
theorem el_193  : elB Tryz.prog 193 1 = true := by kernel_rfl
theorem mk_183_0_1_2 (x0_ : Int) (x1_ : Int) (x2_A : Option Addr) (x2_n : Nat) (x2_c : Nat) : Tryz.prog.built 183 [(0, .int .i64 x0_), (1, .int .i64 x1_), (2, .slice x2_A x2_n x2_c)] = some (List.toArray [.int .i64 x0_, .int .i64 x1_, .slice x2_A x2_n x2_c]) := by kernel_rfl
theorem sz_4  : (Tryz.prog.info? 4).map (·.size) = some 1 := by kernel_rfl
theorem ze_3  : (Tryz.prog.info? 3).bind (·.zero) = some (.int .i64 0) := by kernel_rfl
theorem ze_4  : (Tryz.prog.info? 4).bind (·.zero) = some (.bool false) := by kernel_rfl
theorem one_encC {l : List Cl} : ∀ u ∈ l.flatMap encC, u.oneCell' = true := by
  intro u hu
  obtain ⟨b, _, hb⟩ := List.mem_flatMap.1 hu
  rcases (by simpa using hb : u = i64 b.x ∨ u = i64 b.y) with rfl | rfl <;> rfl
theorem zs_len {z : Array Value} {n : Nat} : (madeCells z n).toList.length = n := by simp [madeCells]
theorem listC_spec (A : Option Addr) (cap : Nat) (l : List Cl) (hl : l.length ≤ 1000) (hn : A = none → l.length = 0 ∧ cap = 0) : Sk.Spec Tryz.prog 118 #[.slice A l.length cap] [arr A (l.flatMap encC)] [] fun e F' => ∃ v, e = .returned v ∧ F' = [row v 38 2 l.length (l.flatMap encC)] ∧ True := by
  refine Spec.of_code (vs := [_]) (k0 := [(0, _)]) 14 Tryz.func118 rfl Tryz.ntmps118 rfl (.cons .nil) fun w X RR hRR H => ?_
  refine .seq ?_
  refine .plain rfl ?_
  refine .q rfl rfl rfl (val_assign rfl) ?_
  refine .nil (cj ?_)
  refine .seq ?_
  refine .seq ?_
  refine .plain rfl ?_
  refine .q rfl rfl rfl (val_move rfl) ?_
  refine .q rfl rfl rfl (val_len Tryz.underlying22 rfl) ?_
  refine .q rfl rfl rfl (val_eql rfl rfl rfl) ?_
  refine .nil (cj ?_)
  refine .cond rfl (fun hc0 => ?_) (fun hc0 => ?_)
  · have hl0 : l = [] := List.eq_nil_of_length_eq_zero (by simpa using hc0)
    refine .seq ?_
    refine .plain rfl ?_
    refine .q rfl rfl rfl (val_assign rfl) ?_
    refine .nil (cj ?_)
    refine .ret (fret (res1 rfl rfl) ?_)
    refine hRR _ _ ⟨_, ⟨_, rfl, rfl, trivial⟩, ?_⟩
    first | (subst hl0; exact (H.rowNil 38 2).sub (.cons .here .nil)) | (have h9 := H.blkRow (sz := 2) (n := l.length) (cap := l.length) .here (flat_len encC_len _) (Nat.le_refl _) (by simp only [maxLen]; omega); rw [List.take_of_length_le (by rw [flat_len encC_len]; exact Nat.le_refl _)] at h9; exact h9)
  · refine .skip (cj ?_)
    refine .seq ?_
    refine .plain rfl ?_
    refine .q rfl rfl rfl (val_move rfl) ?_
    refine .q rfl rfl rfl (val_len Tryz.underlying22 rfl) ?_
    refine .mk rfl rfl rfl ap_22 ze_38 rfl rfl (Nat.le_refl _) (by omega) (by simp only [maxLen]; omega) rfl H (fun w1 b1 H1 => ⟨fun _ => trivial, ?_⟩)
    refine .q rfl rfl rfl (val_assign rfl) ?_
    refine .nil (cj ?_)
    refine .seq ?_
    refine .plain rfl ?_
    refine .q rfl rfl rfl (val_move rfl) ?_
    refine .q rfl rfl rfl (val_move rfl) ?_
    refine .copy rfl rfl rfl ap_22 rfl rfl H1 .here (Has.srcArr (.ro .here) hn H1) (flat_len encC_len _) (zs_len) one_encC (fun w2 H2 => ⟨fun _ => trivial, ?_⟩)
    refine .nil (cj ?_)
    refine .seq ?_
    refine .plain rfl ?_
    refine .q rfl rfl rfl (val_move rfl) ?_
    refine .q rfl rfl rfl (val_assign rfl) ?_
    refine .nil (cj ?_)
    refine .ret (fret (res1 rfl rfl) ?_)
    refine hRR _ _ ⟨_, ⟨_, rfl, rfl, trivial⟩, ?_⟩
    first | (subst hl0; exact (H2.rowNil 38 2).sub (.cons .here .nil)) | (have h9 := H2.blkRow (sz := 2) (n := l.length) (cap := l.length) .here (flat_len encC_len _) (Nat.le_refl _) (by simp only [maxLen]; omega); rw [List.take_of_length_le (by rw [flat_len encC_len]; exact Nat.le_refl _)] at h9; exact h9)
/-! ### the kinds that laid leaves -/
abbrev items (c : Cf) : List Cl := c.blocked ++ c.ports
def numI (c : Cf) (x : Cl) : Nat := (x.y * c.w + x.x).toNat
def area (c : Cf) : Nat := (c.w * c.h).toNat
def valI (c : Cf) (j : Nat) : Int := if j < c.blocked.length then -1 else (j : Int) - (c.blocked.length : Int) + 1
def layK (c : Cf) : Nat → List Int
  | 0 => List.replicate (area c) 0
  | j + 1 => (layK c j).set (numI c ((items c).getD j ⟨0, 0⟩)) (valI c j)
def seenK (c : Cf) : Nat → List Bool
  | 0 => List.replicate (area c) false
  | j + 1 => (seenK c j).set (numI c ((items c).getD j ⟨0, 0⟩)) true
theorem layK_len (c : Cf) : ∀ j, (layK c j).length = area c
  | 0 => by simp [layK]
  | j + 1 => by rw [layK, List.length_set, layK_len c j]
theorem seenK_len (c : Cf) : ∀ j, (seenK c j).length = area c
  | 0 => by simp [seenK]
  | j + 1 => by rw [seenK, List.length_set, seenK_len c j]
theorem seenK_get (c : Cf) {i : Nat} (hi : i < area c) : ∀ j, (∀ j', j' < j → numI c ((items c).getD j' ⟨0, 0⟩) ≠ i) → (seenK c j)[i]? = some false
  | 0, _ => by simp [seenK, hi]
  | j + 1, h => by
    rw [seenK, List.getElem?_set_ne (h j (Nat.lt_succ_self _))]
    exact seenK_get c hi j fun j' hj' => h j' (by omega)
theorem items_in {c : Cf} (hm : MayOk c) {j : Nat} {x : Cl} (h : (items c)[j]? = some x) : inR c x.x x.y = true := by
  rcases Nat.lt_or_ge j c.blocked.length with hj | hj
  · rw [List.getElem?_append_left hj] at h
    exact (hm.blocked j x h).1
  · rw [List.getElem?_append_right hj] at h
    exact (hm.ports _ x h).1
theorem items_nodup {c : Cf} (hm : MayOk c) : (items c).Nodup := by
  rw [List.nodup_append]
  refine ⟨List.nodup_iff_count.2 fun a => ?_, List.nodup_iff_count.2 fun a => ?_, fun a ha b hb e => ?_⟩
  · by_cases h : a ∈ c.blocked
    · obtain ⟨i, hi⟩ := List.getElem?_of_mem h
      exact (hm.blocked i a hi).2.1
    · rw [List.count_eq_zero_of_not_mem h]; omega
  · by_cases h : a ∈ c.ports
    · obtain ⟨i, hi⟩ := List.getElem?_of_mem h
      exact (hm.ports i a hi).2.1
    · rw [List.count_eq_zero_of_not_mem h]; omega
  · subst e
    obtain ⟨i, hi⟩ := List.getElem?_of_mem ha
    have := (hm.blocked i a hi).2.2
    exact absurd hb (List.count_eq_zero.1 this)
theorem inR_iff {c : Cf} {x y : Int} (h : inR c x y = true) : (0 ≤ x ∧ x < c.w) ∧ (0 ≤ y ∧ y < c.h) := by
  simp [inR] at h; omega
theorem numI_inj {c : Cf} {a b : Cl} (ha : inR c a.x a.y = true) (hb : inR c b.x b.y = true) (h : numI c a = numI c b) : a = b := by
  obtain ⟨h1, h2⟩ := inR_iff ha
  obtain ⟨h3, h4⟩ := inR_iff hb
  have e1 : 0 ≤ a.y * c.w := Int.mul_nonneg h2.1 (by omega)
  have e2 : 0 ≤ b.y * c.w := Int.mul_nonneg h4.1 (by omega)
  have e3 : a.y * c.w + a.x = b.y * c.w + b.x := by
    unfold numI at h; omega
  have hw : 0 < c.w := by omega
  have hy : a.y = b.y := by
    have q1 : (a.y * c.w + a.x) / c.w = a.y := by
      rw [Int.add_comm, Int.add_mul_ediv_right _ _ (by omega), Int.ediv_eq_zero_of_lt h1.1 h1.2]; omega
    have q2 : (b.y * c.w + b.x) / c.w = b.y := by
      rw [Int.add_comm, Int.add_mul_ediv_right _ _ (by omega), Int.ediv_eq_zero_of_lt h3.1 h3.2]; omega
    rw [← q1, ← q2, e3]
  have hx : a.x = b.x := by rw [hy] at e3; omega
  cases a; cases b; simp_all
theorem seen_no {c : Cf} (hm : MayOk c) {j : Nat} {x : Cl} (h : (items c)[j]? = some x) (hi : numI c x < area c) : (seenK c j)[numI c x]? = some false := by
  refine seenK_get c hi j fun j' hj' e => ?_
  have hj := (List.getElem?_eq_some_iff.1 h).1
  have h' := getD_get (l := items c) (i := j') (by omega) ⟨0, 0⟩
  have := numI_inj (items_in hm h') (items_in hm h) e
  rw [this] at h'
  have h1 := List.pairwise_iff_getElem.1 (items_nodup hm) j' j (by omega) hj hj'
  obtain ⟨_, e1⟩ := List.getElem?_eq_some_iff.1 h
  obtain ⟨_, e2⟩ := List.getElem?_eq_some_iff.1 h'
  exact h1 (e2.trans e1.symm)
theorem area_le {c : Cf} (hn : NumOk c) : (area c : Int) = c.w * c.h ∧ area c ≤ 256 ∧ 1 ≤ area c := by
  have h1 : c.w * c.h ≤ 16 * 16 := Int.mul_le_mul hn.w.2 hn.h.2 (by have := hn.h.1; omega) (by omega)
  have h2 : 0 < c.w * c.h := Int.mul_pos (by have := hn.w.1; omega) (by have := hn.h.1; omega)
  unfold area
  omega
theorem numI_lt {c : Cf} (hn : NumOk c) {x y : Int} (h : inR c x y = true) : numI c ⟨x, y⟩ < area c ∧ ∀ K : List Int, K.length = area c → numB ⟨c.w, c.h, K⟩ x y = ((numI c ⟨x, y⟩ : Nat) : Int) := by
  obtain ⟨h1, h2⟩ := inR_iff h
  have ha := area_le hn
  have hm := mul_lt h1.1 h1.2 h2.1 h2.2
  have e : (numI c ⟨x, y⟩ : Int) = y * c.w + x := by
    have e0 : numI c ⟨x, y⟩ = (y * c.w + x).toNat := rfl
    omega
  refine ⟨by omega, fun K hK => ?_⟩
  have hg : Gd.Ok ⟨c.w, c.h, K⟩ := ⟨hn.w.1, hn.w.2, hn.h.1, hn.h.2, by rw [hK]; exact ha.1⟩
  rw [(numB_in hg h1 h2).1, e]
theorem nodup_lt : ∀ (n : Nat) (l : List Nat), l.Nodup → (∀ x ∈ l, x < n) → l.length ≤ n
  | 0, l, _, h => by
    cases l with
    | nil => simp
    | cons x l => exact absurd (h x List.mem_cons_self) (Nat.not_lt_zero _)
  | n + 1, l, hd, h => by
    have h1 := nodup_lt n (l.erase n) (hd.erase n) fun x hx => by
      have h2 := (hd.mem_erase_iff).1 hx
      have := h x h2.2
      omega
    by_cases hm : n ∈ l
    · rw [List.length_erase_of_mem hm] at h1; omega
    · rw [List.erase_of_not_mem hm] at h1; omega
theorem blocked_le {c : Cf} (hm : MayOk c) : c.blocked.length ≤ area c := by
  have h := nodup_lt (area c) (c.blocked.map (numI c)) (by
    have hd := items_nodup hm
    rw [List.nodup_append] at hd
    refine List.pairwise_map.2 (List.Pairwise.imp_of_mem ?_ hd.1)
    intro a b ha hb hne e
    obtain ⟨i, hi⟩ := List.getElem?_of_mem ha
    obtain ⟨j, hj⟩ := List.getElem?_of_mem hb
    exact hne (numI_inj (hm.blocked i a hi).1 (hm.blocked j b hj).1 e)) (by
    intro x hx
    obtain ⟨a, ha, rfl⟩ := List.mem_map.1 hx
    obtain ⟨i, hi⟩ := List.getElem?_of_mem ha
    exact (numI_lt hm.num (hm.blocked i a hi).1).1)
  simpa using h
structure LI where
  bg : Nat
  bk : Nat
abbrev kblk (b : Nat) (K : List Int) : As := blk b (K.map (Value.int .i64)) 3
abbrev sblk (b : Nat) (S : List Bool) : As := blk b (S.map Value.bool) 4
theorem gblk_set {bg : Nat} {A : Option Addr} {cap : Nat} {w h : Int} {K : List Int} {i : Nat} {v : Int} : gblk bg A cap ⟨w, h, K.set i v⟩ = gblk bg A cap ⟨w, h, K⟩ := by simp [gblk]
theorem lay0 (c : Cf) (b5 b6 b7 : Nat) : [gblk b6 (some ⟨b5, 0, none⟩) (area c) ⟨c.w, c.h, layK c 0⟩, kblk b5 (layK c 0), sblk b7 (seenK c 0)] =
    [blk b6 [i64 c.w, i64 c.h, .slice (some ⟨b5, 0, none⟩) (area c) (area c)] 183, blk b5 (List.replicate (area c) (i64 0)) 3, blk b7 (List.replicate (area c) (.bool false)) 4] := by
  simp only [layK, seenK, gblk, kblk, sblk, List.length_replicate, List.map_replicate]
theorem lay_b {c : Cf} {b5 b6 b7 j : Nat} {x : Cl} (hx : (items c)[j]? = some x) (h : j < c.blocked.length) : [gblk b6 (some ⟨b5, 0, none⟩) (area c) ⟨c.w, c.h, layK c (j + 1)⟩, kblk b5 (layK c (j + 1)), sblk b7 (seenK c (j + 1))] =
    [gblk b6 (some ⟨b5, 0, none⟩) (area c) ⟨c.w, c.h, layK c j⟩, kblk b5 ((layK c j).set (numI c x) (-1)), sblk b7 ((seenK c j).set (numI c x) true)] := by
  have e : (items c).getD j ⟨0, 0⟩ = x := by rw [List.getD_eq_getElem?_getD, hx]; rfl
  rw [layK, seenK, e, gblk_set, valI, if_pos h]
theorem lay_p {c : Cf} {b5 b6 b7 j : Nat} {x : Cl} (hx : (items c)[j]? = some x) (h : ¬ j < c.blocked.length) : [gblk b6 (some ⟨b5, 0, none⟩) (area c) ⟨c.w, c.h, layK c (j + 1)⟩, kblk b5 (layK c (j + 1)), sblk b7 (seenK c (j + 1))] =
    [gblk b6 (some ⟨b5, 0, none⟩) (area c) ⟨c.w, c.h, layK c j⟩, kblk b5 (((layK c j).set (numI c x) (-1)).set (numI c x) ((j : Int) - (c.blocked.length : Int) + 1)), sblk b7 ((seenK c j).set (numI c x) true)] := by
  have e : (items c).getD j ⟨0, 0⟩ = x := by rw [List.getD_eq_getElem?_getD, hx]; rfl
  rw [layK, seenK, e, gblk_set, valI, if_neg h, List.set_set]
theorem stF {w0 w : World} {M : Nat → Prop} {R : List As} {a b d a' b' d' e : As} (h : [a, b, d] = [a', b', d']) (H : St w0 w M R [a', b', d', e]) : St w0 w M R [a, b, d, e] := by
  obtain ⟨rfl, rfl, rfl⟩ : a = a' ∧ b = b' ∧ d = d' := by simpa using h
  exact H
theorem laid_spec (c : Cf) (hc : c.Fit) (hm : MayOk c) : Sk.Spec Tryz.prog 98 #[.agg (encCf c).toArray] [cb c, cp c] [] fun e F' => ∃ x : LI, e = .returned (.tuple #[ptr x.bg, .bool true]) ∧ F' = [gblk x.bg (some ⟨x.bk, 0, none⟩) (area c) ⟨c.w, c.h, layK c (items c).length⟩, kblk x.bk (layK c (items c).length)] ∧ True := by
  have hn := hm.num
  obtain ⟨ha, ha2, ha1⟩ := area_le hn
  have hw := hn.w
  have hh := hn.h
  have hbl := hm.bl
  have hpl := hm.pl
  have hbn := hc.bn
  have hpn := hc.pn
  have hwh : w64 (c.w * c.h) = ((area c : Nat) : Int) := by rw [ha]; exact w64_of (by omega)
  have hlb : (c.blocked.length : Int) ≤ (area c : Int) := by have := blocked_le hm; omega
  refine Spec.of_code (vs := [_]) (k0 := [(0, _)]) 105 Tryz.func98 rfl Tryz.ntmps98 rfl (.cons .nil) fun w X RR hRR H => ?_
  refine .seq ?_
  refine .plain rfl ?_
  refine .box rfl rfl rfl rfl rfl H (fun w1 b1 H1 => ⟨fun _ => trivial, ?_⟩)
  refine .q rfl rfl rfl (val_assign rfl) ?_
  refine .q rfl rfl rfl (val_assign rfl) ?_
  refine .nil (cj ?_)
  refine .seq ?_
  refine .seq ?_
  refine .plain rfl ?_
  refine .q rfl rfl rfl (val_fieldAddr rfl fa_26_0) ?_
  refine .qs rfl rfl rfl H1 (ld_b rfl ob_3 (.own .here) rfl) ?_
  refine .call1 rfl rfl rfl en97 (.cons rfl (.cons rfl (.cons rfl .nil))) (within_spec _ _ _) H1 .nil .nil (fun w2 H2 => ⟨fun _ => trivial, ?_⟩)
  refine .q rfl rfl rfl (val_not rfl rfl) ?_
  refine .q rfl rfl rfl (val_move rfl) ?_
  refine .case (t := 13) rfl (fun hs13 => ?_) (fun hs13 => ?_)
  · exfalso; simp [withinB] at hs13; omega
  · refine .q rfl rfl rfl (val_fieldAddr rfl fa_26_1) ?_
    refine .qs rfl rfl rfl H2 (ld_b rfl ob_3 (.own .here) rfl) ?_
    refine .call1 rfl rfl rfl en97 (.cons rfl (.cons rfl (.cons rfl .nil))) (within_spec _ _ _) H2 .nil .nil (fun w3 H3 => ⟨fun _ => trivial, ?_⟩)
    refine .q rfl rfl rfl (val_not rfl rfl) ?_
    refine .q rfl rfl rfl (val_pick_f rfl rfl) ?_
    refine .q rfl rfl rfl (val_move rfl) ?_
    refine .case (t := 19) rfl (fun hs19 => ?_) (fun hs19 => ?_)
    · exfalso; simp [withinB] at hs19; omega
    · refine .q rfl rfl rfl (val_fieldAddr rfl fa_26_4) ?_
      refine .qs rfl rfl rfl H3 (ld_b rfl ob_22 (.own .here) rfl) ?_
      refine .q rfl rfl rfl (val_len Tryz.underlying22 rfl) ?_
      refine .q rfl rfl rfl (val_gtr rfl rfl rfl) ?_
      refine .q rfl rfl rfl (val_pick_f rfl rfl) ?_
      refine .q rfl rfl rfl (val_move rfl) ?_
      refine .case (t := 25) rfl (fun hs25 => ?_) (fun hs25 => ?_)
      · exfalso; simp at hs25; omega
      · refine .q rfl rfl rfl (val_fieldAddr rfl fa_26_3) ?_
        refine .qs rfl rfl rfl H3 (ld_b rfl ob_22 (.own .here) rfl) ?_
        refine .q rfl rfl rfl (val_len Tryz.underlying22 rfl) ?_
        refine .q rfl rfl rfl (val_fieldAddr rfl fa_26_0) ?_
        refine .qs rfl rfl rfl H3 (ld_b rfl ob_3 (.own .here) rfl) ?_
        refine .q rfl rfl rfl (val_fieldAddr rfl fa_26_1) ?_
        refine .qs rfl rfl rfl H3 (ld_b rfl ob_3 (.own .here) rfl) ?_
        refine .q rfl rfl rfl (val_mul rfl rfl hwh) ?_
        refine .q rfl rfl rfl (val_gtr rfl rfl rfl) ?_
        refine .q rfl rfl rfl (val_pick_f rfl rfl) ?_
        refine .nil (cj ?_)
        refine .cond rfl (fun hc0 => ?_) (fun hc0 => ?_)
        · exfalso; have h9 := of_decide_eq_true hc0; omega
        · refine .skip (cj ?_)
          refine .seq ?_
          refine .drawS 13 (.cons (0, true) (.cons (1, true) (.cons (2, true) (.cons (3, true) (.cons (4, true) (.cons (5, true) (.cons (6, true) (.cons (7, true) (.cons (8, true) (.cons (9, false) (.cons (10, true) (.cons (11, false) (.cons (12, true) .nil))))))))))))) mo (by kernel_rfl) H3 (fun _ _ _ _ _ h => h) (fun w4 H4 => ?_)
          refine .p rfl rfl rfl (val_fieldAddr rfl fa_26_0) ?_
          refine .ps rfl rfl rfl rfl (ld_b rfl ob_3 (.own .here) rfl) ?_
          refine .p rfl rfl rfl (val_fieldAddr rfl fa_26_1) ?_
          refine .ps rfl rfl rfl rfl (ld_b rfl ob_3 (.own .here) rfl) ?_
          refine .p rfl rfl rfl (val_fieldAddr rfl fa_26_0) ?_
          refine .ps rfl rfl rfl rfl (ld_b rfl ob_3 (.own .here) rfl) ?_
          refine .p rfl rfl rfl (val_fieldAddr rfl fa_26_1) ?_
          refine .ps rfl rfl rfl rfl (ld_b rfl ob_3 (.own .here) rfl) ?_
          refine .p rfl rfl rfl (val_mul rfl rfl hwh) ?_
          refine .mk rfl rfl rfl ap_27 ze_3 rfl rfl (Nat.le_refl _) (by omega) (by simp only [maxLen]; omega) (made_one _ _) H4 (fun w5 b5 H5 => ⟨fun _ => (H5.sub (.cons (.there .here) .nil)), ?_⟩)
          refine .p rfl rfl rfl (val_mk (.cons rfl (.cons rfl (.cons rfl .nil))) (mk_183_0_1_2 _ _ _ _ _)) ?_
          refine .box rfl rfl rfl rfl rfl H5 (fun w6 b6 H6 => ⟨fun _ => (H6.sub (.cons (.there (.there .here)) .nil)), ?_⟩)
          refine .p rfl rfl rfl (val_assign rfl) ?_
          refine .nil (cj ?_)
          refine .seq ?_
          refine .plain rfl ?_
          refine .q rfl rfl rfl (val_fieldAddr rfl fa_26_0) ?_
          refine .qs rfl rfl rfl H6 (ld_b rfl ob_3 (.own (.there (.there .here))) rfl) ?_
          refine .q rfl rfl rfl (val_fieldAddr rfl fa_26_1) ?_
          refine .qs rfl rfl rfl H6 (ld_b rfl ob_3 (.own (.there (.there .here))) rfl) ?_
          refine .q rfl rfl rfl (val_mul rfl rfl hwh) ?_
          refine .mk rfl rfl rfl ap_193 ze_4 rfl rfl (Nat.le_refl _) (by omega) (by simp only [maxLen]; omega) (made_one _ _) H6 (fun w7 b7 H7 => ⟨fun _ => trivial, ?_⟩)
          refine .q rfl rfl rfl (val_assign rfl) ?_
          refine .nil (cj ?_)
          refine .seq ?_
          refine .seq ?_
          refine .drawS 8 (.cons (0, true) (.cons (1, true) (.cons (3, true) (.cons (4, true) (.cons (7, true) (.cons (2, false) (.cons (5, false) (.cons (6, true) .nil)))))))) mo (by kernel_rfl) H7 (fun _ _ _ _ _ h => h) (fun w8 H8 => ?_)
          refine .p rfl rfl rfl (val_fieldAddr rfl fa_26_3) ?_
          refine .ps rfl rfl rfl rfl (ld_b rfl ob_22 (.own (.there (.there (.there .here)))) rfl) ?_
          refine .p rfl rfl rfl (val_fieldAddr rfl fa_26_4) ?_
          refine .ps rfl rfl rfl rfl (ld_b rfl ob_22 (.own (.there (.there (.there .here)))) rfl) ?_
          refine .p rfl rfl rfl (val_move rfl) ?_
          refine .callx rfl rfl rfl en118 (.cons rfl .nil) (listC_spec _ _ _ (by omega) (by assumption)) H8 .nil (.ro .here .nil) (fun v9 w9 C9 H9 => ⟨fun _ => (H9.sub (.cons (.there .here) (.cons (.there .here) (.cons (.there .here) (.cons (.there .here) .nil))))), ?_⟩)
          refine .append rfl rfl rfl (ap_22) rfl rfl H9 .here (Has.srcArr (.ro (.there .here)) hpn H9) (flat_len encC_len _) one_encC (by simp only [maxLen]; omega) (by first | omega | (dsimp only; omega)) (fun v10 w10 H10 => ⟨fun _ => (H10.sub (.cons (.there .here) (.cons (.there .here) (.cons (.there .here) (.cons (.there .here) .nil))))), ?_⟩)
          obtain ⟨A9, cap9, hv9, hn9, H11⟩ := St.rowArr H10 .here
          rw [hv9]
          refine .p rfl rfl rfl (val_len Tryz.underlying22 rfl) ?_
          refine .nil (cj ?_)
          refine .block ?_
          refine .loop (ι := Nat) (fun j => [(1, ptr b1), (4, ptr b6), (5, .slice (some ⟨b7, 0, none⟩) (area c) (area c)), (59, .slice A9 (c.blocked.length + c.ports.length) cap9), (60, i64 ((c.blocked.length + c.ports.length : Nat) : Int)), (61, i64 (j : Int))]) (fun j w' => St w w' X [arr A9 ((items c).flatMap encC), cb c, cp c] [gblk b6 (some ⟨b5, 0, none⟩) (area c) ⟨c.w, c.h, layK c j⟩, kblk b5 (layK c j), sblk b7 (seenK c j), blk b1 (encCf c) 26] ∧ j ≤ (items c).length) (fun j => (items c).length - j) 0 (by repeat (first | exact Pick.nil | refine Pick.cons rfl ?_)) ⟨by rw [show (items c).flatMap encC = c.blocked.flatMap encC ++ c.ports.flatMap encC from List.flatMap_append]; exact stF (lay0 c b5 b6 b7) (H11.sub (.cons (.there .here) (.cons (.there .here) (.cons .here (.cons .here .nil))))), Nat.zero_le _⟩ ?_
          rintro j w7 ⟨H12, hj⟩
          refine .seq ?_
          refine .plain rfl ?_
          refine .q rfl rfl rfl (val_lss rfl rfl rfl) ?_
          refine .nil (cj ?_)
          refine .seq ?_
          refine .cond rfl (fun hc1 => ?_) (fun hc1 => ?_)
          · have hjl2 : j < c.blocked.length + c.ports.length := by simp only [decide_eq_true_eq] at hc1; omega
            have hjl : j < (items c).length := by simp only [List.length_append]; omega
            have hx := getD_get hjl ⟨0, 0⟩
            obtain ⟨b, o, hB⟩ := Has.base (.ro .here) H12 (nil_of_flat encC_len (by decide) hjl)
            have hin := items_in hm hx
            obtain ⟨hlt, hnb⟩ := numI_lt hn hin
            have hnum := hnb (layK c j) (layK_len c j)
            have hsn := seen_no hm hx hlt
            have hlts : numI c ((items c).getD j ⟨0, 0⟩) < (seenK c j).length := by rw [seenK_len]; exact hlt
            have hltk : numI c ((items c).getD j ⟨0, 0⟩) < (layK c j).length := by rw [layK_len]; exact hlt
            refine .skip (cj ?_)
            refine .seq ?_
            refine .block ?_
            refine .seq ?_
            refine .plain rfl ?_
            refine .q rfl rfl rfl (val_move rfl) ?_
            refine .q rfl rfl rfl (val_ix el_22 hB rfl rfl rfl hjl2) ?_
            refine .qs rfl rfl rfl H12 (ld_ela rfl ag_38 .base hB (.ro .here) encC_len (by first | assumption | rfl)) ?_
            refine .alloc rfl rfl rfl ze_38 rfl H12 (fun w13 b13 H13 => ⟨fun _ => trivial, ?_⟩)
            refine .q rfl rfl rfl (val_assign rfl) ?_
            refine .store rfl rfl rfl rfl rfl sz_38 rfl H13 .here (by repeat constructor) (fun w14 H14 => ⟨fun _ => trivial, ?_⟩)
            refine .nil (cj ?_)
            refine .seq ?_
            refine .plain rfl ?_
            refine .q rfl rfl rfl (val_move rfl) ?_
            refine .qs rfl rfl rfl H14 (ld_w rfl ag_38 (.own .here) rfl) ?_
            refine .call1 rfl rfl rfl en86 (.cons rfl (.cons rfl .nil)) (number_spec _ _ _ _ _) H14 .nil (.own (.there .here) .nil) (fun w15 H15 => ⟨fun _ => trivial, ?_⟩)
            refine .q rfl rfl rfl (val_assign rfl) ?_
            refine .nil (cj ?_)
            refine .seq ?_
            refine .seq ?_
            refine .plain rfl ?_
            refine .q rfl rfl rfl (val_move rfl) ?_
            refine .q rfl rfl rfl (val_lss rfl rfl rfl) ?_
            refine .q rfl rfl rfl (val_move rfl) ?_
            refine .case (t := 71) rfl (fun hs71 => ?_) (fun hs71 => ?_)
            · exfalso; rw [hnum] at hs71; simp at hs71; omega
            · refine .q rfl rfl rfl (val_move rfl) ?_
              refine .q rfl rfl rfl (val_move rfl) ?_
              refine .q rfl rfl rfl (val_ix el_193 rfl rfl rfl hnum hlt) ?_
              refine .qs rfl rfl rfl H15 (ld_b rfl ob_4 (.own (.there (.there (.there .here)))) (ix_map (by first | assumption | rfl))) ?_
              refine .q rfl rfl rfl (val_pick_f rfl rfl) ?_
              refine .nil (cj ?_)
              refine .cond rfl (fun hc2 => ?_) (fun hc2 => ?_)
              · cases hc2
              · refine .skip (cj ?_)
                refine .seq ?_
                refine .plain rfl ?_
                refine .q rfl rfl rfl (val_move rfl) ?_
                refine .q rfl rfl rfl (val_move rfl) ?_
                refine .q rfl rfl rfl (val_ix el_193 rfl rfl rfl hnum hlt) ?_
                refine .store rfl rfl rfl rfl rfl sz_4 rfl H15 (.there (.there (.there .here))) (Spl_set hlts) (fun w16 H16 => ⟨fun _ => trivial, ?_⟩)
                refine .nil (cj ?_)
                refine .seq ?_
                refine .plain rfl ?_
                refine .q rfl rfl rfl (val_move rfl) ?_
                refine .q rfl rfl rfl (val_nilCheck rfl) ?_
                refine .q rfl rfl rfl (val_fieldAddr rfl fa_183_2) ?_
                refine .qs rfl rfl rfl H16 (ld_b rfl ob_27 (.own (.there (.there .here))) rfl) ?_
                refine .q rfl rfl rfl (val_move rfl) ?_
                refine .q rfl rfl rfl (val_ix el_27 rfl rfl rfl hnum hltk) ?_
                refine .store rfl rfl rfl rfl rfl sz_3 rfl H16 (.there (.there (.there .here))) (Spl_set hltk) (fun w17 H17 => ⟨fun _ => trivial, ?_⟩)
                refine .nil (cj ?_)
                refine .seq ?_
                refine .plain rfl ?_
                refine .q rfl rfl rfl (val_move rfl) ?_
                refine .q rfl rfl rfl (val_fieldAddr rfl fa_26_3) ?_
                refine .qs rfl rfl rfl H17 (ld_b rfl ob_22 (.own (.there (.there (.there (.there .here))))) rfl) ?_
                refine .q rfl rfl rfl (val_len Tryz.underlying22 rfl) ?_
                refine .q rfl rfl rfl (val_geq rfl rfl rfl) ?_
                refine .nil (cj ?_)
                refine .cond rfl (fun hc3 => ?_) (fun hc3 => ?_)
                · have hge := of_decide_eq_true hc3
                  have hstep := lay_p (b5 := b5) (b6 := b6) (b7 := b7) hx (by omega)
                  refine .drawS 12 (.cons (0, true) (.cons (1, true) (.cons (2, true) (.cons (3, true) (.cons (4, true) (.cons (5, true) (.cons (6, true) (.cons (7, true) (.cons (8, true) (.cons (9, true) (.cons (10, true) (.cons (11, true) (.cons (12, false) .nil))))))))))))) mo (by kernel_rfl) H17 (fun _ _ _ _ _ h => h) (fun w18 H18 => ?_)
                  refine .p rfl rfl rfl (val_move rfl) ?_
                  refine .p rfl rfl rfl (val_nilCheck rfl) ?_
                  refine .p rfl rfl rfl (val_fieldAddr rfl fa_183_2) ?_
                  refine .ps rfl rfl rfl rfl (ld_b rfl ob_27 (.own (.there (.there (.there .here)))) rfl) ?_
                  refine .p rfl rfl rfl (val_move rfl) ?_
                  refine .p rfl rfl rfl (val_move rfl) ?_
                  refine .p rfl rfl rfl (val_fieldAddr rfl fa_26_3) ?_
                  refine .ps rfl rfl rfl rfl (ld_b rfl ob_22 (.own (.there (.there (.there (.there .here))))) rfl) ?_
                  refine .p rfl rfl rfl (val_len Tryz.underlying22 rfl) ?_
                  refine .p rfl rfl rfl (val_sub rfl rfl (w64_of (by omega))) ?_
                  refine .p rfl rfl rfl (val_add rfl rfl (w64_of (by omega))) ?_
                  refine .p rfl rfl rfl (val_ix el_27 rfl rfl rfl hnum hltk) ?_
                  refine .store rfl rfl rfl rfl rfl sz_3 rfl H18 .here (Spl_set (by rw [List.length_set]; exact hltk)) (fun w19 H19 => ⟨fun h => absurd h (by decide), ?_⟩)
                  refine .nil (cj ?_)
                  refine .plain rfl ?_
                  refine .q rfl rfl rfl (val_add rfl rfl (z := ((j + 1 : Nat) : Int)) (w64_of (by omega))) ?_
                  refine .q rfl rfl rfl (val_move rfl) ?_
                  refine .nil ?_
                  intro act0 hact0; change Exists _
                  refine ⟨(j + 1), Pick.kn (by repeat (first | exact Pick.nil | refine Pick.cons rfl ?_)) hact0, ⟨stF hstep (H19.sub (.cons (.there (.there (.there .here))) (.cons .here (.cons .here (.cons (.there .here) .nil))))), hjl⟩, (by omega)⟩
                · have hge := of_decide_eq_false hc3
                  have hstep := lay_b (b5 := b5) (b6 := b6) (b7 := b7) hx (by omega)
                  refine .skip (cj ?_)
                  refine .plain rfl ?_
                  refine .q rfl rfl rfl (val_add rfl rfl (z := ((j + 1 : Nat) : Int)) (w64_of (by omega))) ?_
                  refine .q rfl rfl rfl (val_move rfl) ?_
                  refine .nil ?_
                  intro act0 hact0; change Exists _
                  refine ⟨(j + 1), Pick.kn (by repeat (first | exact Pick.nil | refine Pick.cons rfl ?_)) hact0, ⟨stF hstep (H17.sub (.cons (.there (.there (.there .here))) (.cons .here (.cons .here (.cons (.there .here) .nil))))), hjl⟩, (by omega)⟩
          · have hjl : j = (items c).length := by simp only [decide_eq_false_iff_not] at hc1; simp only [List.length_append] at hj ⊢; omega
            subst hjl
            refine .exit (cj ?_)
            refine .seq ?_
            refine .plain rfl ?_
            refine .q rfl rfl rfl (val_move rfl) ?_
            refine .q rfl rfl rfl (val_assign rfl) ?_
            refine .q rfl rfl rfl (val_assign rfl) ?_
            refine .nil (cj ?_)
            refine .ret (fret (res2 rfl rfl rfl) ?_)
            refine hRR _ _ ⟨_, ⟨⟨b6, b5⟩, rfl, rfl, trivial⟩, (H12.rest (.ro (.there .here) (.ro (.there (.there .here)) .nil))).sub (.cons .here (.cons .here .nil))⟩
end Go.Proofs.YtmbibkifbehgnaaGreatDoor
namespace Go.Proofs.YtmbibkifbehgnaaGreatDoor
open Go Sk
set_option linter.unusedVariables false
set_option linter.unusedSimpArgs false
def cellN (c : Cf) (n : Nat) : Cl := ⟨(n : Int) % c.w, (n : Int) / c.w⟩
/-- a cell's kind behind laid -/
def kA (c : Cf) (x : Cl) : Int := if x ∈ c.blocked then -1 else portFrom c.ports x.x x.y + 1
theorem cellN_in {c : Cf} (hn : NumOk c) {n : Nat} (h : n < area c) : inR c (cellN c n).x (cellN c n).y = true ∧ numI c (cellN c n) = n := by
  obtain ⟨ha, _, _⟩ := area_le hn
  have hw : 0 < c.w := by have := hn.w.1; omega
  have h1 := Int.emod_nonneg (n : Int) (show c.w ≠ 0 by omega)
  have h2 := Int.emod_lt_of_pos (n : Int) hw
  have h3 : (0 : Int) ≤ (n : Int) / c.w := Int.ediv_nonneg (by omega) (by omega)
  have h4 : (n : Int) / c.w < c.h := by
    refine Int.ediv_lt_of_lt_mul hw ?_
    rw [Int.mul_comm]; omega
  have h5 : (n : Int) / c.w * c.w + (n : Int) % c.w = n := by
    have := Int.mul_ediv_add_emod (n : Int) c.w
    rw [Int.mul_comm] at this; exact this
  refine ⟨?_, ?_⟩
  · simp only [inR, cellN, Bool.and_eq_true, decide_eq_true_eq]; exact ⟨⟨⟨decide_eq_true h1, decide_eq_true h3⟩, decide_eq_true h2⟩, decide_eq_true h4⟩
  · unfold numI cellN
    dsimp only
    omega
theorem cellN_num {c : Cf} (hn : NumOk c) {x : Cl} (h : inR c x.x x.y = true) : cellN c (numI c x) = x := by
  have h1 := (numI_lt hn h).1
  have h2 := cellN_in hn h1
  exact numI_inj h2.1 h h2.2
theorem lay_zero (c : Cf) {n : Nat} (hn : n < area c) : ∀ j, (∀ j', j' < j → numI c ((items c).getD j' ⟨0, 0⟩) ≠ n) → (layK c j)[n]? = some 0
  | 0, _ => by simp [layK, hn]
  | j + 1, h => by
    rw [layK, List.getElem?_set_ne (h j (Nat.lt_succ_self _))]
    exact lay_zero c hn j fun j' hj' => h j' (by omega)
theorem lay_val (c : Cf) {n i : Nat} (hn : n < area c) (hi : numI c ((items c).getD i ⟨0, 0⟩) = n) : ∀ j, i < j → (∀ j', i < j' → j' < j → numI c ((items c).getD j' ⟨0, 0⟩) ≠ n) → (layK c j)[n]? = some (valI c i)
  | 0, h, _ => absurd h (Nat.not_lt_zero _)
  | j + 1, h, hl => by
    rcases Nat.lt_or_ge i j with hij | hij
    · rw [layK, List.getElem?_set_ne (hl j hij (Nat.lt_succ_self _))]
      exact lay_val c hn hi j hij fun j' h1 h2 => hl j' h1 (by omega)
    · obtain rfl : i = j := by omega
      rw [layK, hi, List.getElem?_set_self (by rw [layK_len]; exact hn)]
theorem item_ne {c : Cf} (hm : MayOk c) {i j : Nat} (hi : i < (items c).length) (hj : j < (items c).length) (h : i ≠ j) : numI c ((items c).getD i ⟨0, 0⟩) ≠ numI c ((items c).getD j ⟨0, 0⟩) := by
  have h1 := getD_get hi (⟨0, 0⟩ : Cl)
  have h2 := getD_get hj (⟨0, 0⟩ : Cl)
  intro e
  have e2 := numI_inj (items_in hm h1) (items_in hm h2) e
  obtain ⟨_, e3⟩ := List.getElem?_eq_some_iff.1 h1
  obtain ⟨_, e4⟩ := List.getElem?_eq_some_iff.1 h2
  rcases Nat.lt_or_gt_of_ne h with hlt | hlt
  · exact List.pairwise_iff_getElem.1 (items_nodup hm) i j hi hj hlt (by rw [e3, e4, e2])
  · exact List.pairwise_iff_getElem.1 (items_nodup hm) j i hj hi hlt (by rw [e3, e4, e2])
theorem lay_item {c : Cf} (hm : MayOk c) {i : Nat} {x : Cl} (hx : (items c)[i]? = some x) : (layK c (items c).length)[numI c x]? = some (valI c i) := by
  have hi := (List.getElem?_eq_some_iff.1 hx).1
  have e : (items c).getD i ⟨0, 0⟩ = x := by rw [List.getD_eq_getElem?_getD, hx]; rfl
  have hlt := (numI_lt hm.num (items_in hm hx)).1
  refine lay_val c hlt (by rw [e]) _ hi fun j' h1 h2 => ?_
  have := item_ne hm h2 hi (by omega)
  rwa [e] at this
theorem lay_all {c : Cf} (hm : MayOk c) : layK c (items c).length = (List.range (area c)).map fun n => kA c (cellN c n) := by
  apply List.ext_getElem?
  intro n
  by_cases hn : n < area c
  · rw [List.getElem?_map, List.getElem?_range hn]
    obtain ⟨hin, hnum⟩ := cellN_in hm.num hn
    by_cases hb : cellN c n ∈ c.blocked
    · obtain ⟨i, hi⟩ := List.getElem?_of_mem hb
      have hil := (List.getElem?_eq_some_iff.1 hi).1
      have h1 := lay_item hm (i := i) (x := cellN c n) (by rw [List.getElem?_append_left hil, hi])
      rw [hnum] at h1
      rw [h1, valI, if_pos hil]
      simp [kA, hb]
    · by_cases hp : cellN c n ∈ c.ports
      · obtain ⟨i, hi⟩ := List.getElem?_of_mem hp
        have hil := (List.getElem?_eq_some_iff.1 hi).1
        have h1 := lay_item hm (i := c.blocked.length + i) (x := cellN c n) (by rw [List.getElem?_append_right (by omega)]; simpa using hi)
        rw [hnum] at h1
        have hnd := (List.nodup_append.1 (items_nodup hm)).2.1
        have h2 : portFrom c.ports (cellN c n).x (cellN c n).y = (i : Int) := portFrom_some hi rfl fun j hj e => by
          obtain ⟨hjl, e1⟩ := List.getElem?_eq_some_iff.1 e
          obtain ⟨_, e2⟩ := List.getElem?_eq_some_iff.1 hi
          exact List.pairwise_iff_getElem.1 hnd j i hjl hil hj (e1.trans e2.symm)
        rw [h1, valI, if_neg (by omega)]
        simp only [kA, hb, if_false, h2, Option.map_some]
        congr 1; omega
      · have h1 : (layK c (items c).length)[n]? = some 0 := lay_zero c hn _ fun j' hj' e => by
          have h2 := getD_get hj' (⟨0, 0⟩ : Cl)
          have h3 := cellN_num hm.num (items_in hm h2)
          rw [e] at h3
          rw [← h3] at h2
          have := List.mem_of_getElem? h2
          rcases List.mem_append.1 this with h | h
          · exact hb h
          · exact hp h
        rw [h1]
        have h2 : portFrom c.ports (cellN c n).x (cellN c n).y = -1 := portFrom_none fun j hj e => hp (List.mem_of_getElem? e)
        simp [kA, hb, h2]
  · rw [List.getElem?_eq_none (by rw [layK_len]; omega), List.getElem?_eq_none (by simpa using hn)]
end Go.Proofs.YtmbibkifbehgnaaGreatDoor
namespace Go.Proofs.YtmbibkifbehgnaaGreatDoor
open Go Sk
set_option linter.unusedVariables false
set_option linter.unusedSimpArgs false
/-- kinds, by cell -/
abbrev kinds (c : Cf) (f : Nat → Int) : List Int := (List.range (area c)).map f
theorem kinds_len (c : Cf) (f : Nat → Int) : (kinds c f).length = area c := by simp [kinds]
theorem kinds_get (c : Cf) (f : Nat → Int) {n : Nat} (h : n < area c) : (kinds c f)[n]? = some (f n) := by simp [kinds, List.getElem?_range h]
theorem kinds_set (c : Cf) (f g : Nat → Int) {n : Nat} {v : Int} (h : n < area c) (hv : g n = v) (ho : ∀ m, m < area c → m ≠ n → g m = f m) : (kinds c f).set n v = kinds c g := by
  apply List.ext_getElem?
  intro m
  by_cases hm : m < area c
  · by_cases hmn : m = n
    · subst hmn
      rw [List.getElem?_set_self (by rw [kinds_len]; exact hm), kinds_get c g hm, hv]
    · rw [List.getElem?_set_ne (by omega), kinds_get c f hm, kinds_get c g hm, ho m hm hmn]
  · rw [List.getElem?_eq_none (by rw [List.length_set, kinds_len]; omega), List.getElem?_eq_none (by rw [kinds_len]; omega)]
abbrev flags (c : Cf) (f : Nat → Bool) : List Bool := (List.range (area c)).map f
theorem flags_len (c : Cf) (f : Nat → Bool) : (flags c f).length = area c := by simp [flags]
theorem flags_get (c : Cf) (f : Nat → Bool) {n : Nat} (h : n < area c) : (flags c f)[n]? = some (f n) := by simp [flags, List.getElem?_range h]
theorem flags_set (c : Cf) (f g : Nat → Bool) {n : Nat} {v : Bool} (h : n < area c) (hv : g n = v) (ho : ∀ m, m < area c → m ≠ n → g m = f m) : (flags c f).set n v = flags c g := by
  apply List.ext_getElem?
  intro m
  by_cases hm : m < area c
  · by_cases hmn : m = n
    · subst hmn
      rw [List.getElem?_set_self (by rw [flags_len]; exact hm), flags_get c g hm, hv]
    · rw [List.getElem?_set_ne (by omega), flags_get c f hm, flags_get c g hm, ho m hm hmn]
  · rw [List.getElem?_eq_none (by rw [List.length_set, flags_len]; omega), List.getElem?_eq_none (by rw [flags_len]; omega)]
/-- kinds are told blocked where the config says so -/
structure KRel (c : Cf) (K : List Int) : Prop where
  len : K.length = area c
  get : ∀ n, n < area c → ∃ k, K[n]? = some k ∧ (k = -1 ↔ cellN c n ∈ c.blocked)
theorem KRel.ok {c : Cf} {K : List Int} (h : KRel c K) (hn : NumOk c) : Gd.Ok ⟨c.w, c.h, K⟩ := ⟨hn.w.1, hn.w.2, hn.h.1, hn.h.2, by rw [h.len]; exact (area_le hn).1⟩
theorem num_in {c : Cf} {K : List Int} (h : KRel c K) (hn : NumOk c) {x y : Int} (hi : inR c x y = true) : numB ⟨c.w, c.h, K⟩ x y = ((numI c ⟨x, y⟩ : Nat) : Int) := (numI_lt hn hi).2 K h.len
theorem num_out {c : Cf} {K : List Int} (h : KRel c K) (hn : NumOk c) {x y : Int} (hi : inR c x y = false) : numB ⟨c.w, c.h, K⟩ x y = -1 := by
  refine numB_out (h.ok hn) fun hc => ?_
  simp only at hc
  have : inR c x y = true := by simp [inR]; omega
  rw [this] at hi; cases hi
theorem kind_in {c : Cf} {K : List Int} (h : KRel c K) (hn : NumOk c) {x y : Int} (hi : inR c x y = true) {k : Int} (hk : K[numI c ⟨x, y⟩]? = some k) : kindB ⟨c.w, c.h, K⟩ x y = k := by
  have e := num_in h hn hi
  unfold kindB
  rw [e, if_neg (by omega), Int.toNat_natCast, List.getD_eq_getElem?_getD, hk]; rfl
theorem open_eq {c : Cf} {K : List Int} (h : KRel c K) (hn : NumOk c) (x y : Int) : openB ⟨c.w, c.h, K⟩ x y = openR c x y := by
  cases hi : inR c x y with
  | false => simp [openB, openR, num_out h hn hi, hi]
  | true =>
    obtain ⟨hlt, _⟩ := numI_lt hn hi
    obtain ⟨k, hk, hb⟩ := h.get _ hlt
    rw [cellN_num hn (x := ⟨x, y⟩) hi] at hb
    have e := kind_in h hn hi hk
    have e2 := num_in h hn hi
    unfold openB openR
    rw [e, e2, hi]
    by_cases hm : (⟨x, y⟩ : Cl) ∈ c.blocked
    · have hc : 0 < c.blocked.count ⟨x, y⟩ := List.count_pos_iff.2 hm
      have hk1 := hb.2 hm
      simp [hk1]; omega
    · have hc : c.blocked.count ⟨x, y⟩ = 0 := List.count_eq_zero.2 hm
      have hk1 : k ≠ -1 := fun e => hm (hb.1 e)
      simp [hc, hk1]
theorem openR_in {c : Cf} {x y : Int} (h : openR c x y = true) : inR c x y = true := by
  simp only [openR, Bool.and_eq_true] at h; exact h.1
theorem w64_in {c : Cf} (hn : NumOk c) {x y : Int} (h : inR c x y = true) : w64 (x + 0) = x ∧ w64 (y + 0) = y ∧ w64 (x + 1) = x + 1 ∧ w64 (y + 1) = y + 1 := by
  obtain ⟨h1, h2⟩ := inR_iff h
  have := hn.w; have := hn.h
  exact ⟨by rw [Int.add_zero]; exact w64_of (by omega), by rw [Int.add_zero]; exact w64_of (by omega), w64_of (by omega), w64_of (by omega)⟩
theorem cell2_eq {c : Cf} (hn : NumOk c) {p : Ps} (h : inR c p.x p.y = true) : cell2 p = cell2R p := by
  obtain ⟨h1, h2, _, _⟩ := w64_in hn h
  unfold cell2 cell2R
  rw [h1, h2]
theorem fits_eq {c : Cf} {K : List Int} (h : KRel c K) (hn : NumOk c) (p : Ps) : fitsB ⟨c.w, c.h, K⟩ p = fitsR c p := by
  unfold fitsB fitsR
  rw [open_eq h hn]
  cases ho : openR c p.x p.y with
  | false => rfl
  | true => rw [open_eq h hn, cell2_eq hn (openR_in ho)]
/-- a cell's kind behind the first part of robots; done: it was looked at -/
def kM (c : Cf) (done : Bool) (x : Cl) : Int := if (done && (kA c x == 0) && !besideR c x.x x.y) = true then -2 else kA c x
theorem kA_ge {c : Cf} (x : Cl) : kA c x = -1 ∧ x ∈ c.blocked ∨ 0 ≤ kA c x ∧ x ∉ c.blocked := by
  unfold kA
  split
  · exact .inl ⟨rfl, by assumption⟩
  · refine .inr ⟨?_, by assumption⟩
    unfold portFrom
    split <;> omega
theorem kA_port {c : Cf} {x : Cl} (h : 0 < kA c x) : x ∈ c.ports := by
  unfold kA at h
  split at h
  · omega
  · by_cases hp : x ∈ c.ports
    · exact hp
    · rw [portFrom_none fun j hj e => hp (List.mem_of_getElem? e)] at h; omega
theorem kM_blocked {c : Cf} {d : Bool} {x : Cl} : kM c d x = -1 ↔ x ∈ c.blocked := by
  unfold kM
  rcases kA_ge (c := c) x with ⟨h1, h2⟩ | ⟨h1, h2⟩
  · simp [h1, h2]
  · constructor
    · intro h; split at h <;> omega
    · intro h; exact absurd h h2
def kR (c : Cf) (cs : List Cl) (x : Cl) : Int := if x ∈ cs then -2 else kM c true x
theorem kM_rel (c : Cf) (hn : NumOk c) (d : Nat → Bool) : KRel c (kinds c fun n => kM c (d n) (cellN c n)) := ⟨kinds_len c _, fun n h => ⟨_, kinds_get c _ h, kM_blocked⟩⟩
theorem kR_rel (c : Cf) (hn : NumOk c) (cs : List Cl) (h : ∀ x ∈ cs, x ∉ c.blocked) : KRel c (kinds c fun n => kR c cs (cellN c n)) := ⟨kinds_len c _, fun n hlt => ⟨_, kinds_get c _ hlt, by
  unfold kR
  split
  · rename_i hm
    exact ⟨fun e => by omega, fun e => absurd e (h _ hm)⟩
  · exact kM_blocked⟩⟩
theorem beside_of_fits {c : Cf} (hn : NumOk c) {x y : Int} (h : fitsR c ⟨x, y, false⟩ = true ∨ fitsR c ⟨x, y, true⟩ = true) : besideR c x y = true := by
  unfold besideR
  rcases h with h | h
  · simp only [fitsR, cell2R, Bool.and_eq_true] at h
    have := h.2
    simp at this
    simp [this]
  · simp only [fitsR, cell2R, Bool.and_eq_true] at h
    have := h.2
    simp at this
    simp [this]
theorem fits_of_beside {c : Cf} {x y : Int} (ho : openR c x y = true) (h : besideR c x y = true) : fitsR c ⟨x, y, false⟩ = true ∨ fitsR c ⟨x, y, true⟩ = true := by
  unfold besideR at h
  simp only [Bool.or_eq_true] at h
  rcases h with h | h
  · left; simp [fitsR, cell2R, ho, h]
  · right; simp [fitsR, cell2R, ho, h]
end Go.Proofs.YtmbibkifbehgnaaGreatDoor
namespace Go.Proofs.YtmbibkifbehgnaaGreatDoor
open Go Sk
set_option linter.unusedVariables false
set_option linter.unusedSimpArgs false
abbrev gfix (c : Cf) (bg bk : Nat) : As := blk bg [i64 c.w, i64 c.h, .slice (some ⟨bk, 0, none⟩) (area c) (area c)] 183
theorem fitsK_spec (c : Cf) (hn : NumOk c) (bg bk : Nat) (K : List Int) (hK : KRel c K) (x y : Int) (d : Bool) : Sk.Spec Tryz.prog 119 #[ptr bg, .agg #[i64 x, i64 y, .bool d]] [gfix c bg bk, kblk bk K, stepsA] [] fun e F' => e = .returned (.bool (fitsR c ⟨x, y, d⟩)) ∧ F' = [] := by
  have h := fits_spec bg (some ⟨bk, 0, none⟩) (area c) ⟨c.w, c.h, K⟩ (hK.ok hn) x y d
  rw [fits_eq hK hn] at h
  have e : gblk bg (some ⟨bk, 0, none⟩) (area c) ⟨c.w, c.h, K⟩ = gfix c bg bk := by simp only [gblk, gfix, hK.len]
  rw [e] at h
  exact Spec.tell h (.cons .here (Tells.refl _) (.cons (.there .here) Tells.blk (.cons (.there (.there .here)) (Tells.refl _) .nil)))
theorem kstep_same {c : Cf} {i : Nat} (h : kM c true (cellN c i) = kA c (cellN c i)) : kinds c (fun n => kM c (decide (n < i + 1)) (cellN c n)) = kinds c (fun n => kM c (decide (n < i)) (cellN c n)) := by
  refine List.map_congr_left fun n hn => ?_
  by_cases hni : n = i
  · subst hni
    rw [decide_eq_true (Nat.lt_succ_self n), h, decide_eq_false (Nat.lt_irrefl n)]
    rfl
  · rw [show decide (n < i + 1) = decide (n < i) from decide_eq_decide.2 (by omega)]
theorem kstep_set {c : Cf} {i : Nat} (hi : i < area c) (h : kM c true (cellN c i) = -2) : kinds c (fun n => kM c (decide (n < i + 1)) (cellN c n)) = (kinds c (fun n => kM c (decide (n < i)) (cellN c n))).set i (-2) := by
  refine (kinds_set c _ _ hi ?_ fun m hm hne => ?_).symm
  · rw [decide_eq_true (Nat.lt_succ_self i), h]
  · rw [show decide (m < i + 1) = decide (m < i) from decide_eq_decide.2 (by omega)]
theorem kM_b {c : Cf} {x : Cl} (h : (kA c x == -1) = true) : kM c true x = kA c x := by
  have : kA c x = -1 := by simpa using h
  simp [kM, this]
theorem kM_f {c : Cf} (hn : NumOk c) {x : Cl} (h : fitsR c ⟨x.x, x.y, false⟩ = true ∨ fitsR c ⟨x.x, x.y, true⟩ = true) : kM c true x = kA c x := by
  have := beside_of_fits hn h
  simp [kM, this]
theorem no_beside {c : Cf} (hn : NumOk c) {x : Cl} (hin : inR c x.x x.y = true) (hb : (kA c x == -1) = false) (h1 : fitsR c ⟨x.x, x.y, false⟩ = false) (h2 : fitsR c ⟨x.x, x.y, true⟩ = false) : besideR c x.x x.y = false := by
  cases h : besideR c x.x x.y with
  | false => rfl
  | true =>
    have hnb : x ∉ c.blocked := by
      rcases kA_ge (c := c) x with ⟨e, _⟩ | ⟨_, e⟩
      · rw [e] at hb; simp at hb
      · exact e
    have ho : openR c x.x x.y = true := by
      have : c.blocked.count ⟨x.x, x.y⟩ = 0 := List.count_eq_zero.2 hnb
      simp [openR, hin, this]
    rcases fits_of_beside ho h with h | h
    · rw [h1] at h; cases h
    · rw [h2] at h; cases h
theorem kM_o {c : Cf} (hn : NumOk c) {x : Cl} (hin : inR c x.x x.y = true) (hb : (kA c x == -1) = false) (h1 : fitsR c ⟨x.x, x.y, false⟩ = false) (h2 : fitsR c ⟨x.x, x.y, true⟩ = false) (h3 : decide (0 < kA c x) = false) : kM c true x = -2 := by
  have h4 := no_beside hn hin hb h1 h2
  have h5 : kA c x = 0 := by
    have := of_decide_eq_false h3
    rcases kA_ge (c := c) x with ⟨e, _⟩ | ⟨e, _⟩
    · rw [e] at hb; simp at hb
    · omega
  simp [kM, h5, h4]
theorem no_port {c : Cf} (hm : MayOk c) {x : Cl} (hin : inR c x.x x.y = true) (hb : (kA c x == -1) = false) (h1 : fitsR c ⟨x.x, x.y, false⟩ = false) (h2 : fitsR c ⟨x.x, x.y, true⟩ = false) (h3 : decide (0 < kA c x) = true) : False := by
  have h4 := no_beside hm.num hin hb h1 h2
  obtain ⟨i, hi⟩ := List.getElem?_of_mem (kA_port (of_decide_eq_true h3))
  have := (hm.ports i x hi).2.2.2
  rw [this] at h4; cases h4
theorem tmod_w {n : Nat} {w : Int} : (n : Int).tmod w = (n : Int) % w := Int.tmod_eq_emod_of_nonneg (by omega)
theorem tdiv_w {n : Nat} {w : Int} (h1 : 1 ≤ w) (hn : n ≤ 256) : w64 ((n : Int).tdiv w) = (n : Int) / w := by
  rw [Int.tdiv_eq_ediv_of_nonneg (by omega)]
  have h2 : (0 : Int) ≤ (n : Int) / w := Int.ediv_nonneg (by omega) (by omega)
  have h3 : (n : Int) / w ≤ n := Int.ediv_le_self _ (by omega)
  exact w64_of (by omega)
theorem kend {c : Cf} : kinds c (fun n => kM c (decide (n < area c)) (cellN c n)) = kinds c (fun n => kR c [] (cellN c n)) := by
  refine List.map_congr_left fun n hn => ?_
  rw [decide_eq_true (List.mem_range.1 hn)]
  simp [kR]
theorem tk0 {c : Cf} : flags c (fun n => decide (cellN c n ∈ ([] : List Cl))) = List.replicate (area c) false := by
  apply List.ext_getElem
  · simp [flags]
  · intro i h1 h2; simp [flags]
theorem cell_ne {c : Cf} (hn : NumOk c) {x : Cl} (hx : inR c x.x x.y = true) {m : Nat} (hm : m < area c) (h : m ≠ numI c x) : cellN c m ≠ x := fun e => h (by rw [← e]; exact (cellN_in hn hm).2.symm)
theorem kr_set {c : Cf} (hn : NumOk c) {cs : List Cl} {x : Cl} (hx : inR c x.x x.y = true) : (kinds c fun n => kR c cs (cellN c n)).set (numI c x) (-2) = kinds c fun n => kR c (cs ++ [x]) (cellN c n) := by
  refine kinds_set c _ _ (numI_lt hn hx).1 ?_ fun m hm hne => ?_
  · rw [cellN_num hn hx]; simp [kR]
  · have := cell_ne hn hx hm hne
    simp [kR, this]
theorem tk_set {c : Cf} (hn : NumOk c) {cs : List Cl} {x : Cl} (hx : inR c x.x x.y = true) : (flags c fun n => decide (cellN c n ∈ cs)).set (numI c x) true = flags c fun n => decide (cellN c n ∈ cs ++ [x]) := by
  refine flags_set c _ _ (numI_lt hn hx).1 ?_ fun m hm hne => ?_
  · rw [cellN_num hn hx]; simp
  · have := cell_ne hn hx hm hne
    simp [this]
theorem cell_new {c : Cf} (hm : MayOk c) {t s : Nat} {p : Ps} {x : Cl} (hp : c.robots[t]? = some p) (hx : (cellsL p)[s]? = some x) : x ∉ cellsTo c t ++ (cellsL p).take s := by
  have hnd : (c.robots.flatMap cellsL).Nodup := List.nodup_iff_count.2 fun a => by
    by_cases h : a ∈ c.robots.flatMap cellsL
    · obtain ⟨i, hi⟩ := List.getElem?_of_mem h
      exact hm.cells i a hi
    · rw [List.count_eq_zero_of_not_mem h]; omega
  have ht := (List.getElem?_eq_some_iff.1 hp).1
  have e1 : c.robots.flatMap cellsL = cellsTo c t ++ (cellsL p ++ (c.robots.drop (t + 1)).flatMap cellsL) := by
    have : c.robots = c.robots.take t ++ p :: c.robots.drop (t + 1) := by
      rw [← (List.getElem?_eq_some_iff.1 hp).2, List.getElem_cons_drop, List.take_append_drop]
    conv => lhs; rw [this]
    simp [cellsTo]
  have hs := (List.getElem?_eq_some_iff.1 hx).1
  have e2 : cellsL p = (cellsL p).take s ++ x :: (cellsL p).drop (s + 1) := by
    rw [← (List.getElem?_eq_some_iff.1 hx).2, List.getElem_cons_drop, List.take_append_drop]
  rw [e1, e2, ← List.append_assoc, ← List.append_assoc, List.append_assoc (cellsTo c t ++ _)] at hnd
  have h3 := (List.nodup_append.1 hnd).2.2
  intro hmem
  exact h3 x hmem x (by simp) rfl
theorem cell_noport {c : Cf} (hm : MayOk c) {t s : Nat} {p : Ps} {x : Cl} (hp : c.robots[t]? = some p) (hx : (cellsL p)[s]? = some x) (h : decide (0 < kM c true x) = true) : False := by
  have h1 : 0 < kA c x := by
    have := of_decide_eq_true h
    unfold kM at this
    split at this <;> omega
  obtain ⟨i, hi⟩ := List.getElem?_of_mem (kA_port h1)
  have h2 := (hm.ports i x hi).2.2.1
  have h3 : homeR c x.x x.y = true := any_some hp (decide_eq_true (by
    have := List.count_pos_iff.2 (List.mem_of_getElem? hx)
    have e : (⟨x.x, x.y⟩ : Cl) = x := rfl
    rw [e]; omega))
  rw [h2] at h3; cases h3
theorem cell_in {c : Cf} (hm : MayOk c) {t s : Nat} {p : Ps} {x : Cl} (hp : c.robots[t]? = some p) (hx : (cellsL p)[s]? = some x) : inR c x.x x.y = true ∧ x ∉ c.blocked := by
  have h := hm.robots t p hp
  simp only [fitsR, Bool.and_eq_true] at h
  have key : ∀ y : Cl, openR c y.x y.y = true → inR c y.x y.y = true ∧ y ∉ c.blocked := fun y hy => by
    refine ⟨openR_in hy, fun hb => ?_⟩
    have := List.count_pos_iff.2 hb
    simp only [openR, Bool.and_eq_true, beq_iff_eq] at hy
    have e : (⟨y.x, y.y⟩ : Cl) = y := rfl
    rw [e] at hy
    omega
  match s, hx with
  | 0, hx => obtain rfl : (⟨p.x, p.y⟩ : Cl) = x := by simpa using hx
             exact key _ h.1
  | 1, hx => obtain rfl : cell2R p = x := by simpa using hx
             exact key _ h.2
theorem cells_free {c : Cf} (hm : MayOk c) : ∀ x ∈ c.robots.flatMap cellsL, x ∉ c.blocked := fun x hx => by
  obtain ⟨p, hp, hxp⟩ := List.mem_flatMap.1 hx
  obtain ⟨t, ht⟩ := List.getElem?_of_mem hp
  obtain ⟨s, hs⟩ := List.getElem?_of_mem hxp
  exact (cell_in hm ht hs).2
theorem cellsK_spec {c : Cf} (hn : NumOk c) {v : Value} {p : Ps} (hin : inR c p.x p.y = true) : Sk.Spec Tryz.prog 120 #[v, .agg #[i64 p.x, i64 p.y, .bool p.d]] [stepsA] [] fun e F' => ∃ b : Nat, e = .returned (.slice (some ⟨b, 0, none⟩) 2 2) ∧ F' = [blk b ((cellsL p).flatMap encC) 38] ∧ True := by
  have h := cells_spec v p.x p.y p.d
  have e : cell2 ⟨p.x, p.y, p.d⟩ = cell2R p := cell2_eq hn hin
  simp only [cellsA, e] at h
  exact h
theorem kr_rel {c : Cf} (hm : MayOk c) {t : Nat} {l : List Cl} (hl : ∀ x ∈ l, x ∉ c.blocked) : KRel c (kinds c fun n => kR c (cellsTo c t ++ l) (cellN c n)) :=
  kR_rel c hm.num _ fun x hx => by
    rcases List.mem_append.1 hx with h | h
    · obtain ⟨p, hp, hxp⟩ := List.mem_flatMap.1 h
      exact cells_free hm x (List.mem_flatMap.2 ⟨p, List.mem_of_mem_take hp, hxp⟩)
    · exact hl x h
theorem kr_get {c : Cf} (hn : NumOk c) {cs : List Cl} {x : Cl} (hx : inR c x.x x.y = true) (h : x ∉ cs) : (kinds c fun n => kR c cs (cellN c n))[numI c x]? = some (kM c true x) := by
  rw [kinds_get c _ (numI_lt hn hx).1, cellN_num hn hx]; simp [kR, h]
theorem tk_get {c : Cf} (hn : NumOk c) {cs : List Cl} {x : Cl} (hx : inR c x.x x.y = true) (h : x ∉ cs) : (flags c fun n => decide (cellN c n ∈ cs))[numI c x]? = some false := by
  rw [flags_get c _ (numI_lt hn hx).1, cellN_num hn hx]; simp [h]
end Go.Proofs.YtmbibkifbehgnaaGreatDoor
namespace Go.Proofs.YtmbibkifbehgnaaGreatDoor
open Go Sk
set_option linter.unusedVariables false
set_option linter.unusedSimpArgs false
theorem mk_40_0 (x0_0_ : Int) (x0_1_ : Int) : Tryz.prog.built 40 [(0, .agg (List.toArray [.int .i64 x0_0_, .int .i64 x0_1_]))] = some (List.toArray [.int .i64 x0_0_, .int .i64 x0_1_, .bool false]) := by kernel_rfl
theorem robots_spec (c : Cf) (hc : c.Fit) (hm : MayOk c) (bg bk : Nat) : Sk.Spec Tryz.prog 99 #[ptr bg, .slice c.rA c.robots.length c.rc] [cr c, stepsA] [gfix c bg bk, kblk bk (kinds c fun n => kA c (cellN c n))]
    (fun e F' => e = .returned (.bool true) ∧ F' = [gfix c bg bk, kblk bk (kinds c fun n => kR c (c.robots.flatMap cellsL) (cellN c n))]) := by
  have hn := hm.num
  obtain ⟨ha, ha2, ha1⟩ := area_le hn
  have hw0 : c.w ≠ 0 := by have := hn.w.1; omega
  have hw1 := hn.w.1
  have hrl := hm.rl
  refine Spec.of_code (vs := [_, _]) (k0 := [(0, _), (1, _)]) 125 Tryz.func99 rfl Tryz.ntmps99 rfl (.cons (.cons .nil)) fun w X RR hRR H => ?_
  refine .seq ?_
  refine .plain rfl ?_
  refine .q rfl rfl rfl (val_assign rfl) ?_
  refine .nil (cj ?_)
  refine .seq ?_
  refine .seq ?_
  refine .plain rfl ?_
  refine .q rfl rfl rfl (val_move rfl) ?_
  refine .q rfl rfl rfl (val_len Tryz.underlying23 rfl) ?_
  refine .q rfl rfl rfl (val_gtr rfl rfl rfl) ?_
  refine .nil (cj ?_)
  refine .cond rfl (fun hc0 => ?_) (fun hc0 => ?_)
  · exfalso; have h9 := of_decide_eq_true hc0; omega
  · refine .skip (cj ?_)
    refine .seq ?_
    refine .seq ?_
    refine .plain rfl ?_
    refine .q rfl rfl rfl (val_move rfl) ?_
    refine .q rfl rfl rfl (val_nilCheck rfl) ?_
    refine .q rfl rfl rfl (val_fieldAddr rfl fa_183_2) ?_
    refine .qs rfl rfl rfl H (ld_b rfl ob_27 (.own .here) rfl) ?_
    refine .q rfl rfl rfl (val_len Tryz.underlying27 rfl) ?_
    refine .q rfl rfl rfl (val_move rfl) ?_
    refine .nil (cj ?_)
    refine .block ?_
    refine .loop (ι := Nat) (fun i => [(0, ptr bg), (1, .slice c.rA c.robots.length c.rc), (20, i64 ((area c : Nat) : Int)), (21, i64 (i : Int))]) (fun i w' => St w w' X [cr c, stepsA] [gfix c bg bk, kblk bk (kinds c fun n => kM c (decide (n < i)) (cellN c n))] ∧ i ≤ area c) (fun i => area c - i) 0 (by repeat (first | exact Pick.nil | refine Pick.cons rfl ?_)) ⟨by rw [show (kinds c fun n => kM c (decide (n < 0)) (cellN c n)) = kinds c fun n => kA c (cellN c n) from List.map_congr_left fun n _ => by simp [kM]]; exact H, Nat.zero_le _⟩ ?_
    rintro i w5 ⟨H1, hi⟩
    refine .seq ?_
    refine .plain rfl ?_
    refine .q rfl rfl rfl (val_lss rfl rfl rfl) ?_
    refine .nil (cj ?_)
    refine .seq ?_
    refine .cond rfl (fun hc1 => ?_) (fun hc1 => ?_)
    · have hil : i < area c := by simp only [decide_eq_true_eq] at hc1; omega
      obtain ⟨hin, hnum⟩ := cellN_in hn hil
      have hrel := kM_rel c hn (fun n => decide (n < i))
      have hki : (kinds c fun n => kM c (decide (n < i)) (cellN c n))[i]? = some (kA c (cellN c i)) := by rw [kinds_get c _ hil, decide_eq_false (Nat.lt_irrefl i)]; rfl
      have hkl : i < (kinds c fun n => kM c (decide (n < i)) (cellN c n)).length := by rw [kinds_len]; exact hil
      refine .skip (cj ?_)
      refine .seq ?_
      refine .block ?_
      refine .seq ?_
      refine .plain rfl ?_
      refine .q rfl rfl rfl (val_move rfl) ?_
      refine .q rfl rfl rfl (val_assign rfl) ?_
      refine .nil (cj ?_)
      refine .seq ?_
      refine .drawS 15 (.cons (0, true) (.cons (1, true) (.cons (2, true) (.cons (3, true) (.cons (4, true) (.cons (5, true) (.cons (6, true) (.cons (7, true) (.cons (8, true) (.cons (9, true) (.cons (10, true) (.cons (11, true) (.cons (12, true) (.cons (13, true) (.cons (14, false) (.cons (15, false) .nil)))))))))))))))) mo (by kernel_rfl) H1 (fun _ _ _ _ _ h => h) (fun w2 H2 => ?_)
      refine .p rfl rfl rfl (val_move rfl) ?_
      refine .p rfl rfl rfl (val_move rfl) ?_
      refine .p rfl rfl rfl (val_nilCheck rfl) ?_
      refine .p rfl rfl rfl (val_fieldAddr rfl fa_183_0) ?_
      refine .ps rfl rfl rfl rfl (ld_b rfl ob_3 (.own .here) rfl) ?_
      refine .p rfl rfl rfl (val_rem rfl rfl hw0 tmod_w) ?_
      refine .p rfl rfl rfl (val_move rfl) ?_
      refine .p rfl rfl rfl (val_move rfl) ?_
      refine .p rfl rfl rfl (val_nilCheck rfl) ?_
      refine .p rfl rfl rfl (val_fieldAddr rfl fa_183_0) ?_
      refine .ps rfl rfl rfl rfl (ld_b rfl ob_3 (.own .here) rfl) ?_
      refine .p rfl rfl rfl (val_quo rfl rfl hw0 (tdiv_w hw1 (by omega))) ?_
      refine .p rfl rfl rfl (val_mk (.cons rfl (.cons rfl .nil)) (mk_38_0_1 _ _)) ?_
      refine .p rfl rfl rfl (val_mk (.cons rfl .nil) (mk_40_0 _ _)) ?_
      refine .alloc rfl rfl rfl ze_40 rfl H2 (fun w3 b3 H3 => ⟨fun _ => (H3.sub (.cons (.there .here) (.cons (.there .here) .nil))), ?_⟩)
      refine .store rfl rfl rfl rfl rfl sz_40 rfl H3 .here (by repeat constructor) (fun w4 H4 => ⟨fun h => absurd h (by decide), ?_⟩)
      refine .nil (cj ?_)
      refine .seq ?_
      refine .seq ?_
      refine .plain rfl ?_
      refine .q rfl rfl rfl (val_move rfl) ?_
      refine .q rfl rfl rfl (val_nilCheck rfl) ?_
      refine .q rfl rfl rfl (val_fieldAddr rfl fa_183_2) ?_
      refine .qs rfl rfl rfl H4 (ld_b rfl ob_27 (.own (.there .here)) rfl) ?_
      refine .q rfl rfl rfl (val_move rfl) ?_
      refine .q rfl rfl rfl (val_ix el_27 rfl rfl rfl rfl hil) ?_
      refine .qs rfl rfl rfl H4 (ld_b rfl ob_3 (.own (.there (.there .here))) (ix_map (by first | assumption | rfl))) ?_
      refine .q rfl rfl rfl (val_eql rfl rfl rfl) ?_
      refine .q rfl rfl rfl (val_move rfl) ?_
      refine .case (t := 46) rfl (fun hs46 => ?_) (fun hs46 => ?_)
      · refine .no rfl rfl rfl ?_
        refine .no rfl rfl rfl ?_
        refine .no rfl rfl rfl ?_
        refine .q rfl rfl rfl (val_pick_t rfl rfl) ?_
        refine .q rfl rfl rfl (val_move rfl) ?_
        refine .no rfl rfl rfl ?_
        refine .no rfl rfl rfl ?_
        refine .no rfl rfl rfl ?_
        refine .no rfl rfl rfl ?_
        refine .no rfl rfl rfl ?_
        refine .q rfl rfl rfl (val_pick_t rfl rfl) ?_
        refine .nil (cj ?_)
        refine .cond_t rfl ?_
        refine .exit (cj ?_)
        refine .plain rfl ?_
        refine .q rfl rfl rfl (val_add rfl rfl (z := ((i + 1 : Nat) : Int)) (w64_of (by omega))) ?_
        refine .q rfl rfl rfl (val_move rfl) ?_
        refine .nil ?_
        intro act0 hact0; change Exists _
        refine ⟨(i + 1), Pick.kn (by repeat (first | exact Pick.nil | refine Pick.cons rfl ?_)) hact0, ⟨by first | (rw [kstep_same (kM_b hs46)]; exact H4.sub (.cons (.there .here) (.cons (.there .here) .nil))) | (rw [kstep_same (kM_f hn (.inl hs51))]; exact H4.sub (.cons (.there .here) (.cons (.there .here) .nil))) | (rw [kstep_same (kM_f hn (.inr hc2))]; exact H4.sub (.cons (.there .here) (.cons (.there .here) .nil))) | (rw [kstep_set hil (kM_o hn hin hs46 hs51 hc2 hc3)]; exact H4.sub (.cons (.there .here) (.cons (.there .here) .nil))), hil⟩, (by omega)⟩
      · refine .q rfl rfl rfl (val_move rfl) ?_
        refine .qs rfl rfl rfl H4 (ld_w rfl ag_40 (.own .here) rfl) ?_
        refine .call1 rfl rfl rfl en119 (.cons rfl (.cons rfl .nil)) (fitsK_spec c hn _ _ _ hrel _ _ _) H4 .nil (.own (.there .here) (.own (.there (.there .here)) (.ro (.there .here) .nil))) (fun w5 H5 => ⟨fun _ => trivial, ?_⟩)
        refine .q rfl rfl rfl (val_pick_f rfl rfl) ?_
        refine .q rfl rfl rfl (val_move rfl) ?_
        refine .case (t := 51) rfl (fun hs51 => ?_) (fun hs51 => ?_)
        · refine .no rfl rfl rfl ?_
          refine .no rfl rfl rfl ?_
          refine .no rfl rfl rfl ?_
          refine .no rfl rfl rfl ?_
          refine .no rfl rfl rfl ?_
          refine .q rfl rfl rfl (val_pick_t rfl rfl) ?_
          refine .nil (cj ?_)
          refine .cond_t rfl ?_
          refine .exit (cj ?_)
          refine .plain rfl ?_
          refine .q rfl rfl rfl (val_add rfl rfl (z := ((i + 1 : Nat) : Int)) (w64_of (by omega))) ?_
          refine .q rfl rfl rfl (val_move rfl) ?_
          refine .nil ?_
          intro act0 hact0; change Exists _
          refine ⟨(i + 1), Pick.kn (by repeat (first | exact Pick.nil | refine Pick.cons rfl ?_)) hact0, ⟨by first | (rw [kstep_same (kM_b hs46)]; exact H5.sub (.cons (.there .here) (.cons (.there .here) .nil))) | (rw [kstep_same (kM_f hn (.inl hs51))]; exact H5.sub (.cons (.there .here) (.cons (.there .here) .nil))) | (rw [kstep_same (kM_f hn (.inr hc2))]; exact H5.sub (.cons (.there .here) (.cons (.there .here) .nil))) | (rw [kstep_set hil (kM_o hn hin hs46 hs51 hc2 hc3)]; exact H5.sub (.cons (.there .here) (.cons (.there .here) .nil))), hil⟩, (by omega)⟩
        · refine .q rfl rfl rfl (val_move rfl) ?_
          refine .q rfl rfl rfl (val_fieldAddr rfl fa_40_0) ?_
          refine .qs rfl rfl rfl H5 (ld_blks rfl ag_38 (.own .here) (by repeat constructor)) ?_
          refine .q rfl rfl rfl (val_mk (.cons rfl (.cons rfl .nil)) (mk_40_0_1 _ _ _)) ?_
          refine .call1 rfl rfl rfl en119 (.cons rfl (.cons rfl .nil)) (fitsK_spec c hn _ _ _ hrel _ _ _) H5 .nil (.own (.there .here) (.own (.there (.there .here)) (.ro (.there .here) .nil))) (fun w6 H6 => ⟨fun _ => trivial, ?_⟩)
          refine .q rfl rfl rfl (val_pick_f rfl rfl) ?_
          refine .nil (cj ?_)
          refine .cond rfl (fun hc2 => ?_) (fun hc2 => ?_)
          · refine .exit (cj ?_)
            refine .plain rfl ?_
            refine .q rfl rfl rfl (val_add rfl rfl (z := ((i + 1 : Nat) : Int)) (w64_of (by omega))) ?_
            refine .q rfl rfl rfl (val_move rfl) ?_
            refine .nil ?_
            intro act0 hact0; change Exists _
            refine ⟨(i + 1), Pick.kn (by repeat (first | exact Pick.nil | refine Pick.cons rfl ?_)) hact0, ⟨by first | (rw [kstep_same (kM_b hs46)]; exact H6.sub (.cons (.there .here) (.cons (.there .here) .nil))) | (rw [kstep_same (kM_f hn (.inl hs51))]; exact H6.sub (.cons (.there .here) (.cons (.there .here) .nil))) | (rw [kstep_same (kM_f hn (.inr hc2))]; exact H6.sub (.cons (.there .here) (.cons (.there .here) .nil))) | (rw [kstep_set hil (kM_o hn hin hs46 hs51 hc2 hc3)]; exact H6.sub (.cons (.there .here) (.cons (.there .here) .nil))), hil⟩, (by omega)⟩
          · refine .skip (cj ?_)
            refine .seq ?_
            refine .seq ?_
            refine .plain rfl ?_
            refine .q rfl rfl rfl (val_move rfl) ?_
            refine .q rfl rfl rfl (val_nilCheck rfl) ?_
            refine .q rfl rfl rfl (val_fieldAddr rfl fa_183_2) ?_
            refine .qs rfl rfl rfl H6 (ld_b rfl ob_27 (.own (.there .here)) rfl) ?_
            refine .q rfl rfl rfl (val_move rfl) ?_
            refine .q rfl rfl rfl (val_ix el_27 rfl rfl rfl rfl hil) ?_
            refine .qs rfl rfl rfl H6 (ld_b rfl ob_3 (.own (.there (.there .here))) (ix_map (by first | assumption | rfl))) ?_
            refine .q rfl rfl rfl (val_gtr rfl rfl rfl) ?_
            refine .nil (cj ?_)
            refine .cond rfl (fun hc3 => ?_) (fun hc3 => ?_)
            · exact (no_port hm hin hs46 hs51 hc2 hc3).elim
            · refine .skip (cj ?_)
              refine .plain rfl ?_
              refine .q rfl rfl rfl (val_move rfl) ?_
              refine .q rfl rfl rfl (val_nilCheck rfl) ?_
              refine .q rfl rfl rfl (val_fieldAddr rfl fa_183_2) ?_
              refine .qs rfl rfl rfl H6 (ld_b rfl ob_27 (.own (.there .here)) rfl) ?_
              refine .q rfl rfl rfl (val_move rfl) ?_
              refine .q rfl rfl rfl (val_ix el_27 rfl rfl rfl rfl hil) ?_
              refine .store rfl rfl rfl rfl rfl sz_3 rfl H6 (.there (.there .here)) (Spl_set hkl) (fun w7 H7 => ⟨fun _ => trivial, ?_⟩)
              refine .nil (cj ?_)
              refine .plain rfl ?_
              refine .q rfl rfl rfl (val_add rfl rfl (z := ((i + 1 : Nat) : Int)) (w64_of (by omega))) ?_
              refine .q rfl rfl rfl (val_move rfl) ?_
              refine .nil ?_
              intro act0 hact0; change Exists _
              refine ⟨(i + 1), Pick.kn (by repeat (first | exact Pick.nil | refine Pick.cons rfl ?_)) hact0, ⟨by first | (rw [kstep_same (kM_b hs46)]; exact H7.sub (.cons (.there (.there .here)) (.cons .here .nil))) | (rw [kstep_same (kM_f hn (.inl hs51))]; exact H7.sub (.cons (.there (.there .here)) (.cons .here .nil))) | (rw [kstep_same (kM_f hn (.inr hc2))]; exact H7.sub (.cons (.there (.there .here)) (.cons .here .nil))) | (rw [kstep_set hil (kM_o hn hin hs46 hs51 hc2 hc3)]; exact H7.sub (.cons (.there (.there .here)) (.cons .here .nil))), hil⟩, (by omega)⟩
    · have hia : i = area c := by simp only [decide_eq_false_iff_not] at hc1; omega
      subst hia
      refine .exit (cj ?_)
      refine .seq ?_
      refine .plain rfl ?_
      refine .q rfl rfl rfl (val_move rfl) ?_
      refine .q rfl rfl rfl (val_nilCheck rfl) ?_
      refine .q rfl rfl rfl (val_fieldAddr rfl fa_183_2) ?_
      refine .qs rfl rfl rfl H1 (ld_b rfl ob_27 (.own .here) rfl) ?_
      refine .q rfl rfl rfl (val_len Tryz.underlying27 rfl) ?_
      refine .mk rfl rfl rfl ap_193 ze_4 rfl rfl (Nat.le_refl _) (by omega) (by simp only [maxLen]; omega) (made_one _ _) H1 (fun w8 b8 H8 => ⟨fun _ => trivial, ?_⟩)
      refine .q rfl rfl rfl (val_assign rfl) ?_
      refine .nil (cj ?_)
      refine .seq ?_
      refine .seq ?_
      refine .plain rfl ?_
      refine .q rfl rfl rfl (val_move rfl) ?_
      refine .q rfl rfl rfl (val_len Tryz.underlying23 rfl) ?_
      refine .q rfl rfl rfl (val_move rfl) ?_
      refine .nil (cj ?_)
      refine .block ?_
      refine .loop (ι := Nat) (fun t => [(0, ptr bg), (7, .slice (some ⟨b8, 0, none⟩) (area c) (area c)), (79, .slice c.rA c.robots.length c.rc), (80, i64 ((c.robots.length : Nat) : Int)), (81, i64 (t : Int))]) (fun t w' => St w w' X [cr c, stepsA] [gfix c bg bk, kblk bk (kinds c fun n => kR c (cellsTo c t) (cellN c n)), sblk b8 (flags c fun n => decide (cellN c n ∈ cellsTo c t))] ∧ t ≤ c.robots.length) (fun t => c.robots.length - t) 0 (by repeat (first | exact Pick.nil | refine Pick.cons rfl ?_)) ⟨by rw [show (flags c fun n => decide (cellN c n ∈ cellsTo c 0)) = List.replicate (area c) false from tk0]; rw [kend] at H8; simp only [sblk, List.map_replicate]; exact H8.sub (.cons (.there .here) (.cons (.there .here) (.cons .here .nil))), Nat.zero_le _⟩ ?_
      rintro t w6 ⟨H9, ht⟩
      refine .seq ?_
      refine .plain rfl ?_
      refine .q rfl rfl rfl (val_lss rfl rfl rfl) ?_
      refine .nil (cj ?_)
      refine .seq ?_
      refine .cond rfl (fun hc4 => ?_) (fun hc4 => ?_)
      · have htl : t < c.robots.length := by simp only [decide_eq_true_eq] at hc4; omega
        obtain ⟨p, hx⟩ : ∃ p, c.robots[t]? = some p := ⟨_, List.getElem?_eq_getElem htl⟩
        obtain ⟨b, o, hA⟩ := Has.base (.ro .here) H9 (nil_of_flat encP_len (by decide) htl)
        have hrel2 := kr_rel hm (t := t) (l := []) (fun x hx => by cases hx)
        rw [List.append_nil] at hrel2
        have hpin : inR c p.x p.y = true := (cell_in hm (s := 0) hx rfl).1
        refine .skip (cj ?_)
        refine .seq ?_
        refine .block ?_
        refine .seq ?_
        refine .plain rfl ?_
        refine .q rfl rfl rfl (val_ix el_23 hA rfl rfl rfl htl) ?_
        refine .qs rfl rfl rfl H9 (ld_ela rfl ag_40 .base hA (.ro .here) encP_len (by first | assumption | rfl)) ?_
        refine .alloc rfl rfl rfl ze_40 rfl H9 (fun w10 b10 H10 => ⟨fun _ => trivial, ?_⟩)
        refine .store rfl rfl rfl rfl rfl sz_40 rfl H10 .here (by repeat constructor) (fun w11 H11 => ⟨fun _ => trivial, ?_⟩)
        refine .nil (cj ?_)
        refine .seq ?_
        refine .seq ?_
        refine .plain rfl ?_
        refine .q rfl rfl rfl (val_move rfl) ?_
        refine .qs rfl rfl rfl H11 (ld_w rfl ag_40 (.own .here) rfl) ?_
        refine .call1 rfl rfl rfl en119 (.cons rfl (.cons rfl .nil)) (fitsK_spec c hn _ _ _ hrel2 _ _ _) H11 .nil (.own (.there .here) (.own (.there (.there .here)) (.ro (.there .here) .nil))) (fun w12 H12 => ⟨fun _ => trivial, ?_⟩)
        refine .q rfl rfl rfl (val_not rfl rfl) ?_
        refine .nil (cj ?_)
        refine .cond rfl (fun hc5 => ?_) (fun hc5 => ?_)
        · exfalso; rw [hm.robots t p hx] at hc5; cases hc5
        · refine .skip (cj ?_)
          refine .seq ?_
          refine .plain rfl ?_
          refine .q rfl rfl rfl (val_move rfl) ?_
          refine .qs rfl rfl rfl H12 (ld_w rfl ag_40 (.own .here) rfl) ?_
          refine .callx rfl rfl rfl en120 (.cons rfl (.cons rfl .nil)) (cellsK_spec hn hpin) H12 .nil (.ro (.there .here) .nil) (fun b13 w13 C13 H13 => ⟨fun _ => trivial, ?_⟩)
          have H14 := H13.blkArr .here
          refine .q rfl rfl rfl (val_len Tryz.underlying22 rfl) ?_
          refine .q rfl rfl rfl (val_move rfl) ?_
          refine .nil (cj ?_)
          refine .block ?_
          refine .loop (ι := Nat) (fun s => [(0, ptr bg), (7, .slice (some ⟨b8, 0, none⟩) (area c) (area c)), (79, .slice c.rA c.robots.length c.rc), (80, i64 ((c.robots.length : Nat) : Int)), (81, i64 (t : Int)), (91, .slice (some ⟨b13, 0, none⟩) 2 2), (92, i64 ((2 : Nat) : Int)), (93, i64 (s : Int))]) (fun s w' => St w w' X [arr (some ⟨b13, 0, none⟩) ((cellsL p).flatMap encC), cr c, stepsA] [gfix c bg bk, kblk bk (kinds c fun n => kR c (cellsTo c t ++ (cellsL p).take s) (cellN c n)), sblk b8 (flags c fun n => decide (cellN c n ∈ cellsTo c t ++ (cellsL p).take s))] ∧ s ≤ 2) (fun s => 2 - s) 0 (by repeat (first | exact Pick.nil | refine Pick.cons rfl ?_)) ⟨by rw [List.take_zero, List.append_nil]; exact H14.sub (.cons (.there .here) (.cons (.there .here) (.cons (.there .here) .nil))), Nat.zero_le _⟩ ?_
          rintro s w7 ⟨H15, hs⟩
          refine .seq ?_
          refine .plain rfl ?_
          refine .q rfl rfl rfl (val_lss rfl rfl rfl) ?_
          refine .nil (cj ?_)
          refine .seq ?_
          refine .cond rfl (fun hc6 => ?_) (fun hc6 => ?_)
          · have hs2 : s < 2 := by simp only [decide_eq_true_eq] at hc6; omega
            obtain ⟨x, hx2⟩ : ∃ x, (cellsL p)[s]? = some x := ⟨_, List.getElem?_eq_getElem (by simpa using hs2)⟩
            obtain ⟨hin2, hnb2⟩ := cell_in hm hx hx2
            have hnew := cell_new hm hx hx2
            obtain ⟨hlt, hnb⟩ := numI_lt hn hin2
            have hnum2 : numB ⟨c.w, c.h, []⟩ x.x x.y = ((numI c x : Nat) : Int) := hnb (kinds c fun n => 0) (kinds_len c _)
            have htk := tk_get hn hin2 hnew
            have hkr := kr_get hn hin2 hnew
            have hltk : numI c x < (kinds c fun n => kR c (cellsTo c t ++ (cellsL p).take s) (cellN c n)).length := by rw [kinds_len]; exact hlt
            have hltt : numI c x < (flags c fun n => decide (cellN c n ∈ cellsTo c t ++ (cellsL p).take s)).length := by rw [flags_len]; exact hlt
            refine .skip (cj ?_)
            refine .seq ?_
            refine .block ?_
            refine .seq ?_
            refine .plain rfl ?_
            refine .q rfl rfl rfl (val_ix el_22 rfl rfl rfl rfl hs2) ?_
            refine .qs rfl rfl rfl H15 (ld_ela rfl ag_38 .base rfl (.ro .here) encC_len (by first | assumption | rfl)) ?_
            refine .alloc rfl rfl rfl ze_38 rfl H15 (fun w16 b16 H16 => ⟨fun _ => trivial, ?_⟩)
            refine .store rfl rfl rfl rfl rfl sz_38 rfl H16 .here (by repeat constructor) (fun w17 H17 => ⟨fun _ => trivial, ?_⟩)
            refine .nil (cj ?_)
            refine .seq ?_
            refine .plain rfl ?_
            refine .q rfl rfl rfl (val_move rfl) ?_
            refine .qs rfl rfl rfl H17 (ld_w rfl ag_38 (.own .here) rfl) ?_
            refine .call1 rfl rfl rfl en86 (.cons rfl (.cons rfl .nil)) (number_spec _ _ ⟨c.w, c.h, []⟩ _ _) H17 .nil (.own (.there .here) .nil) (fun w18 H18 => ⟨fun _ => trivial, ?_⟩)
            refine .q rfl rfl rfl (val_assign rfl) ?_
            refine .nil (cj ?_)
            refine .seq ?_
            refine .seq ?_
            refine .plain rfl ?_
            refine .q rfl rfl rfl (val_move rfl) ?_
            refine .q rfl rfl rfl (val_move rfl) ?_
            refine .q rfl rfl rfl (val_ix el_193 rfl rfl rfl hnum2 hlt) ?_
            refine .qs rfl rfl rfl H18 (ld_b rfl ob_4 (.own (.there (.there (.there .here)))) (ix_map (by first | assumption | rfl))) ?_
            refine .q rfl rfl rfl (val_move rfl) ?_
            refine .case (t := 104) rfl (fun hs104 => ?_) (fun hs104 => ?_)
            · cases hs104
            · refine .q rfl rfl rfl (val_move rfl) ?_
              refine .q rfl rfl rfl (val_nilCheck rfl) ?_
              refine .q rfl rfl rfl (val_fieldAddr rfl fa_183_2) ?_
              refine .qs rfl rfl rfl H18 (ld_b rfl ob_27 (.own (.there .here)) rfl) ?_
              refine .q rfl rfl rfl (val_move rfl) ?_
              refine .q rfl rfl rfl (val_ix el_27 rfl rfl rfl hnum2 hlt) ?_
              refine .qs rfl rfl rfl H18 (ld_b rfl ob_3 (.own (.there (.there .here))) (ix_map (by first | assumption | rfl))) ?_
              refine .q rfl rfl rfl (val_gtr rfl rfl rfl) ?_
              refine .q rfl rfl rfl (val_pick_f rfl rfl) ?_
              refine .nil (cj ?_)
              refine .cond rfl (fun hc7 => ?_) (fun hc7 => ?_)
              · exact (cell_noport hm hx hx2 hc7).elim
              · refine .skip (cj ?_)
                refine .seq ?_
                refine .plain rfl ?_
                refine .q rfl rfl rfl (val_move rfl) ?_
                refine .q rfl rfl rfl (val_move rfl) ?_
                refine .q rfl rfl rfl (val_ix el_193 rfl rfl rfl hnum2 hlt) ?_
                refine .store rfl rfl rfl rfl rfl sz_4 rfl H18 (.there (.there (.there .here))) (Spl_set hltt) (fun w19 H19 => ⟨fun _ => trivial, ?_⟩)
                refine .nil (cj ?_)
                refine .plain rfl ?_
                refine .q rfl rfl rfl (val_move rfl) ?_
                refine .q rfl rfl rfl (val_nilCheck rfl) ?_
                refine .q rfl rfl rfl (val_fieldAddr rfl fa_183_2) ?_
                refine .qs rfl rfl rfl H19 (ld_b rfl ob_27 (.own (.there (.there .here))) rfl) ?_
                refine .q rfl rfl rfl (val_move rfl) ?_
                refine .q rfl rfl rfl (val_ix el_27 rfl rfl rfl hnum2 hlt) ?_
                refine .store rfl rfl rfl rfl rfl sz_3 rfl H19 (.there (.there (.there .here))) (Spl_set hltk) (fun w20 H20 => ⟨fun _ => trivial, ?_⟩)
                refine .nil (cj ?_)
                refine .plain rfl ?_
                refine .q rfl rfl rfl (val_add rfl rfl (z := ((s + 1 : Nat) : Int)) (w64_of (by omega))) ?_
                refine .q rfl rfl rfl (val_move rfl) ?_
                refine .nil ?_
                intro act0 hact0; change Exists _
                refine ⟨(s + 1), Pick.kn (by repeat (first | exact Pick.nil | refine Pick.cons rfl ?_)) hact0, ⟨by rw [take_snoc hx2, ← List.append_assoc, ← kr_set hn hin2, ← tk_set hn hin2]; exact H20.sub (.cons (.there (.there (.there .here))) (.cons .here (.cons .here .nil))), hs2⟩, (by omega)⟩
          · have hs2 : s = 2 := by simp only [decide_eq_false_iff_not] at hc6; omega
            subst hs2
            rw [show (cellsL p).take 2 = cellsL p from rfl] at H15
            refine .exit (cj ?_)
            refine .plain rfl ?_
            refine .q rfl rfl rfl (val_add rfl rfl (z := ((t + 1 : Nat) : Int)) (w64_of (by omega))) ?_
            refine .q rfl rfl rfl (val_move rfl) ?_
            refine .nil ?_
            intro act0 hact0; change Exists _
            refine ⟨(t + 1), Pick.kn (by repeat (first | exact Pick.nil | refine Pick.cons rfl ?_)) hact0, ⟨by rw [cellsTo_succ hx]; exact (H15.rest (.ro (.there .here) (.ro (.there (.there .here)) .nil))).sub (.cons .here (.cons .here (.cons .here .nil))), htl⟩, (by omega)⟩
      · have hta : t = c.robots.length := by simp only [decide_eq_false_iff_not] at hc4; omega
        have hca : cellsTo c t = c.robots.flatMap cellsL := by rw [hta]; simp [cellsTo]
        rw [hca] at H9
        refine .exit (cj ?_)
        refine .seq ?_
        refine .plain rfl ?_
        refine .q rfl rfl rfl (val_assign rfl) ?_
        refine .nil (cj ?_)
        refine .ret (fret (res1 rfl rfl) ?_)
        refine hRR _ _ ⟨_, ⟨rfl, rfl⟩, H9.sub (.cons .here (.cons .here .nil))⟩
end Go.Proofs.YtmbibkifbehgnaaGreatDoor
namespace Go.Proofs.YtmbibkifbehgnaaGreatDoor.Sk
open Go Go.MapKept
set_option linter.unusedVariables false
set_option linter.unusedSimpArgs false
/-- Block b holds a map with just these keys, in this order. -/
def mapA (b : Nat) (ks : List Int) : As where
  on X w := (∀ k, X k ↔ k = b) ∧ ∃ es clock, w.heap[b]? = some (.map es clock) ∧ es.toList.map (·.key) = ks.map (Value.int .i64)
  loc X w w' h hk := ⟨h.1, by
    obtain ⟨h0, es, clock, h1, h2⟩ := h
    exact ⟨es, clock, (hk b ((h0 b).2 rfl)).trans h1, h2⟩⟩
  lt X w h k hk := by
    obtain rfl := (h.1 k).1 hk
    obtain ⟨_, es, clock, h1, _⟩ := h
    exact (Array.getElem?_eq_some_iff.1 h1).1
section
variable {P : Program} {nt : NT} {ops : Array Oper} {Q : Exit → Act → World → Prop} {S : World → Prop} {n i d : Nat} {k : L} {R F : List As} {M : Nat → Prop} {w0 w : World} {ty : TypeId} {pos : String} {af : Array Edge} {g : Option (Nat × Bool)} {l : Tr}
theorem St.newMap {w : World} (H : St w0 w M R F) : St w0 (w.alloc (.map #[] 0)) M R (mapA w.heap.size [] :: F) := by
  obtain ⟨⟨X, h1, h2, h3⟩, h4⟩ := H
  have hold : ∀ k, k < w.heap.size → (w.alloc (.map #[] 0)).heap[k]? = w.heap[k]? := fun k hk => by
    show (w.heap.push _)[k]? = _
    rw [Array.getElem?_push, if_neg (by omega)]
  refine ⟨⟨fun k => k = w.heap.size ∨ X k, ⟨fun k => k = w.heap.size, X, ⟨fun k => Iff.rfl, #[], 0, ?_, rfl⟩, Own.loc h1 fun k hk => hold k (Own.lt h1 k hk), ?_, fun k => Iff.rfl⟩, ?_, ?_⟩, ?_⟩
  · show (w.heap.push _)[w.heap.size]? = _
    simp
  · rintro k rfl hx
    exact absurd (Own.lt h1 _ hx) (by omega)
  · intro r hr
    obtain ⟨Y, hY, hd⟩ := h2 r hr
    refine ⟨Y, r.loc Y w _ hY fun k hk => hold k (r.lt Y w hY k hk), ?_⟩
    rintro k hk (rfl | hx)
    · exact absurd (r.lt Y w hY _ hk) (by omega)
    · exact hd k hk hx
  · rintro k (rfl | hx)
    · exact .inr h4.size
    · exact h3 k hx
  · exact h4.step (N := fun _ => False) ⟨rfl, rfl, rfl, by simp, fun k hk _ => hold k hk⟩ (fun _ h => h.elim)
theorem RJ.newMap {t : TypeId} (ho : ops[i]? = some (Oper.mk (some d) (.makeMap t none) ty pos af g)) (hg : gd ops k g = some true) (hd : Nat.blt d nt.n = true) (H : St w0 w M R F)
    (h : ∀ w' b, St w0 w' M R (mapA b [] :: F) → (i < n → S w') ∧ RJ P nt ops Q S n l ((d, .map (some b)) :: k) w') : RJ P nt ops Q S n (.cons (i, false) l) k w := by
  have := h _ _ H.newMap
  exact RJ.act ho hg hd (fun a ha => by simp only [execOp, Option.map_none, Instr.makeMap]; rfl) this.1 this.2
theorem absent {x : Int} {es : List MapEntry} {ks : List Int} (he : es.map (·.key) = ks.map (Value.int .i64)) (hx : x ∉ ks) : Instr.findNow (.int .i64) (.int .i64 x) es 0 = some none := by
  have hk : ∀ e ∈ es, IsKey (.int .i64) e.key ∧ e.key ≠ .int .i64 x := fun e hm => by
    have : e.key ∈ ks.map (Value.int .i64) := by rw [← he]; exact List.mem_map.2 ⟨e, hm, rfl⟩
    obtain ⟨y, hy, e1⟩ := List.mem_map.1 this
    rw [← e1]
    exact ⟨rfl, fun e2 => by cases e2; exact hx hy⟩
  rcases findNow_spec (d := .int .i64) (k := .int .i64 x) rfl es 0 (fun e hm => (hk e hm).1) with ⟨h, _⟩ | ⟨j, e, _, h2, h3⟩
  · exact h
  · exact absurd h3 (hk e (List.mem_of_getElem? h2)).2
theorem ld_absent {t kt et : TypeId} {X Y : Operand} {b : Nat} {ks : List Int} {x : Int} {z : Value} (ht : P.underlying t = some (.map kt et)) (hk : P.underlying kt = some (.int .i64)) (hz : (P.info? et).bind (·.zero) = some z) (hX : ev k X = some (.map (some b))) (hY : ev k Y = some (.int .i64 x)) (hf : Has R F (mapA b ks)) (hx : x ∉ ks) :
    ValS P nt (fun w => St w0 w M R F) k (.lookup t X Y false) z := fun a ha d ty pos af g w H => by
  obtain ⟨Yf, _, es, clock, h1, h2⟩ := hf.get H
  have hc := run_checkKey (P := P) (w := w) hk (show IsKey (.int .i64) (.int .i64 x) from rfl) es.isEmpty 9999
  have hff := run_findKey (P := P) (w := w) hk (absent h2 hx)
  have hzz : (zeroValue et).run P w = .ok z w := by
    cases hi : P.info? et with
    | none => simp [hi] at hz
    | some inf =>
      have hz' : inf.zero = some z := by simpa [hi] using hz
      simp [zeroValue, typeInfo, hi, hz', go_sem]
  simp only [execOp, ha.ev hX, ha.ev hY, Sem.run_bind, Instr.lookup, run_underlying ht, Result.andThen_ok, MapKept.run_getObj_map h1, Sem.run_pure, hc, hff, hzz, Bool.false_eq_true, if_false]
theorem ld_maplen {t kt et : TypeId} {X : Operand} {b : Nat} {ks : List Int} (ht : P.underlying t = some (.map kt et)) (hX : ev k X = some (.map (some b))) (hf : Has R F (mapA b ks)) :
    ValS P nt (fun w => St w0 w M R F) k (.call ⟨.builtin .len, #[X], #[t]⟩) (.int .i64 (ks.length : Int)) := fun a ha d ty pos af g w H => by
  obtain ⟨Yf, _, es, clock, h1, h2⟩ := hf.get H
  have hl : es.size = ks.length := by
    have := congrArg List.length h2
    simpa using this
  have := run_len_map (P := P) w t ty b es clock (by simp [Program.mapKeyOf, Program.mapElemOf, ht]) h1
  simp only [execOp, resolve, List.map_toArray, List.map_cons, List.map_nil, ha.ev hX, invoke, builtin, Sem.run_bind, Sem.run_pure, Result.andThen_ok, this, hl]; rfl
theorem RJ.setMap {t kt et : TypeId} {X Y Z : Operand} {b : Nat} {ks : List Int} {x : Int} {v : Value} {F' : List As} (ho : ops[i]? = some (Oper.mk none (.mapUpdate t X Y Z) ty pos af g)) (hg : gd ops k g = some true) (ht : P.underlying t = some (.map kt et)) (hk : P.underlying kt = some (.int .i64))
    (hX : ev k X = some (.map (some b))) (hY : ev k Y = some (.int .i64 x)) (hZ : ev k Z = some v) (H : St w0 w M R F) (hat : At F (mapA b ks) F') (hx : x ∉ ks)
    (h : ∀ w', St w0 w' M R (mapA b (ks ++ [x]) :: F') → (i < n → S w') ∧ RJ P nt ops Q S n l k w') : RJ P nt ops Q S n (.cons (i, false) l) k w := by
  obtain ⟨⟨A, h1, h2, h3⟩, h4⟩ := H
  obtain ⟨X1, X2, ⟨g1, es, clock, g1', ge⟩, g2, g3, g4⟩ := Own.pick hat h1
  have hx1 : X1 b := (g1 b).2 rfl
  obtain ⟨hs1, hs2⟩ := heap_set (o' := Obj.map (es.push { key := .int .i64 x, val := v, born := clock }) (clock + 1)) g1'
  have hSt : St w0 { w with heap := w.heap.setIfInBounds b (.map (es.push { key := .int .i64 x, val := v, born := clock }) (clock + 1)) } M R (mapA b (ks ++ [x]) :: F') := by
    refine ⟨⟨A, ⟨X1, X2, ⟨g1, _, _, hs1, by simp [ge]⟩, Own.loc g2 fun k hk => hs2 k (fun e => g3 b hx1 (e ▸ hk)), g3, g4⟩, ?_, h3⟩, ?_⟩
    · intro r hr
      obtain ⟨Y, hY, hd⟩ := h2 r hr
      exact ⟨Y, r.loc Y w _ hY fun k hk => hs2 k (fun e => hd k hk ((g4 k).2 (.inl (e ▸ hx1)))), hd⟩
    · refine h4.step (N := fun k => k = b) ⟨rfl, rfl, rfl, by simp, fun k _ hk => hs2 k hk⟩ ?_
      rintro k rfl
      exact h3 _ ((g4 _).2 (.inl hx1))
  have := h _ hSt
  refine RJ.act0 ho hg (fun a ha => ?_) this.1 this.2
  have hc := run_checkKey (P := P) (w := w) hk (show IsKey (.int .i64) (.int .i64 x) from rfl) false 9999
  have hff := run_findKey (P := P) (w := w) hk (absent ge hx)
  simp only [execOp, ha.ev hX, ha.ev hY, ha.ev hZ, Sem.run_bind, Instr.mapUpdate, run_underlying ht, Result.andThen_ok, MapKept.run_getObj_map g1', hc, hff, MapKept.run_setObj_map _ g1', Sem.run_pure]
end
end Go.Proofs.YtmbibkifbehgnaaGreatDoor.Sk
namespace Go.Proofs.YtmbibkifbehgnaaGreatDoor
open Go Sk
set_option linter.unusedVariables false
set_option linter.unusedSimpArgs false
abbrev KF (c : Cf) : List Int := kinds c fun n => kR c (c.robots.flatMap cellsL) (cellN c n)
theorem KF_rel {c : Cf} (hm : MayOk c) : KRel c (KF c) := kR_rel c hm.num _ (cells_free hm)
theorem home_iff {c : Cf} {x : Cl} : homeR c x.x x.y = true ↔ x ∈ c.robots.flatMap cellsL := by
  have e : (⟨x.x, x.y⟩ : Cl) = x := rfl
  unfold homeR
  rw [List.any_eq_true, List.mem_flatMap]
  constructor
  · rintro ⟨p, hp, h⟩
    have := of_decide_eq_true h
    rw [e] at this
    exact ⟨p, hp, List.count_pos_iff.1 (by omega)⟩
  · rintro ⟨p, hp, h⟩
    have := List.count_pos_iff.2 h
    exact ⟨p, hp, decide_eq_true (by rw [e]; omega)⟩
theorem stacked_eq {c : Cf} (hm : MayOk c) (x y : Int) : stackedB ⟨c.w, c.h, KF c⟩ x y = stackedR c x y := by
  have hn := hm.num
  have hr := KF_rel hm
  cases hi : inR c x y with
  | false => simp [stackedB, stackedR, openR, num_out hr hn hi, hi]
  | true =>
    obtain ⟨hlt, _⟩ := numI_lt hn hi
    have hk : (KF c)[numI c ⟨x, y⟩]? = some (kR c (c.robots.flatMap cellsL) ⟨x, y⟩) := by rw [kinds_get c _ hlt, cellN_num hn (x := ⟨x, y⟩) hi]
    have e := kind_in hr hn hi hk
    have e2 := num_in hr hn hi
    unfold stackedB stackedR
    rw [e, e2]
    have h0 : decide ((0 : Int) ≤ ((numI c ⟨x, y⟩ : Nat) : Int)) = true := decide_eq_true (by omega)
    rw [h0, Bool.true_and]
    by_cases hh : (⟨x, y⟩ : Cl) ∈ c.robots.flatMap cellsL
    · have h1 : homeR c x y = true := home_iff (x := ⟨x, y⟩) |>.2 hh
      simp only [kR, if_pos hh, h1]; simp
    · have h1 : homeR c x y = false := by
        cases h : homeR c x y with
        | false => rfl
        | true => exact absurd (home_iff (x := ⟨x, y⟩) |>.1 h) hh
      simp only [kR, if_neg hh, h1]
      by_cases hb : (⟨x, y⟩ : Cl) ∈ c.blocked
      · have hc := List.count_pos_iff.2 hb
        have : openR c x y = false := by simp [openR]; intro _; omega
        rw [this, show kM c true ⟨x, y⟩ = -1 from kM_blocked.2 hb]; rfl
      · have hc : c.blocked.count ⟨x, y⟩ = 0 := List.count_eq_zero.2 hb
        have ho : openR c x y = true := by simp [openR, hi, hc]
        have ek : kA c ⟨x, y⟩ = portFrom c.ports x y + 1 := by simp [kA, hb]
        have hge := kA_ge (c := c) ⟨x, y⟩
        rw [ho, Bool.true_and]
        unfold kM
        rw [ek]
        cases hbs : besideR c x y with
        | true =>
          rcases hge with ⟨_, h2⟩ | ⟨h2, _⟩
          · exact absurd h2 hb
          · rw [ek] at h2
            simp only [Bool.not_true, Bool.and_false, Bool.false_eq_true, if_false, Bool.not_false, Bool.and_true]
            rw [Bool.eq_iff_iff]; simp; omega
        | false =>
          simp only [Bool.and_false]
          rcases hge with ⟨_, h2⟩ | ⟨h2, _⟩
          · exact absurd h2 hb
          · rw [ek] at h2
            split
            · rfl
            · rename_i h9
              simp at h9
              simp [h9]
theorem stackedK_spec (c : Cf) (hm : MayOk c) (bg bk : Nat) (x y : Int) : Sk.Spec Tryz.prog 112 #[ptr bg, .agg #[i64 x, i64 y]] [gfix c bg bk, kblk bk (KF c)] [] fun e F' => e = .returned (.bool (stackedR c x y)) ∧ F' = [] := by
  have h := stacked_spec bg (some ⟨bk, 0, none⟩) (area c) ⟨c.w, c.h, KF c⟩ ((KF_rel hm).ok hm.num) x y
  rw [stacked_eq hm] at h
  have e : gblk bg (some ⟨bk, 0, none⟩) (area c) ⟨c.w, c.h, KF c⟩ = gfix c bg bk := by simp only [gblk, gfix, (KF_rel hm).len]
  rw [e] at h
  exact Spec.tell h (.cons .here (Tells.refl _) (.cons (.there .here) Tells.blk .nil))
abbrev atsTo (c : Cf) (i : Nat) : List Cl := (c.stacks.take i).map fun s => ⟨s.x, s.y⟩
theorem atsTo_succ {c : Cf} {i : Nat} {s : Sk1} (h : c.stacks[i]? = some s) : atsTo c (i + 1) = atsTo c i ++ [⟨s.x, s.y⟩] := by
  simp [atsTo, take_snoc h]
theorem at_new {c : Cf} (hm : MayOk c) {i : Nat} {s : Sk1} (h : c.stacks[i]? = some s) : (⟨s.x, s.y⟩ : Cl) ∉ atsTo c i := by
  intro hmem
  obtain ⟨t, ht, e⟩ := List.mem_map.1 hmem
  obtain ⟨k, hk⟩ := List.getElem?_of_mem ht
  rw [List.getElem?_take] at hk
  split at hk
  · rename_i hlt
    exact hm.bins.apart i k s t hlt h hk e
  · cases hk
theorem all_pre {c : Cf} {i : Nat} {s : Sk1} (h : c.stacks[i]? = some s) : ∃ r, c.stacks.flatMap (·.bins) = allTo c i ++ (s.bins ++ r) := by
  have : c.stacks = c.stacks.take i ++ s :: c.stacks.drop (i + 1) := by
    rw [← (List.getElem?_eq_some_iff.1 h).2, List.getElem_cons_drop, List.take_append_drop]
  refine ⟨(c.stacks.drop (i + 1)).flatMap (·.bins), ?_⟩
  conv => lhs; rw [this]
  simp [allTo]
theorem bin_at {c : Cf} {i k : Nat} {s : Sk1} {b : Int} (h : c.stacks[i]? = some s) (hb : s.bins[k]? = some b) : (c.stacks.flatMap (·.bins))[(allTo c i).length + k]? = some b := by
  obtain ⟨r, e⟩ := all_pre h
  have hk := (List.getElem?_eq_some_iff.1 hb).1
  rw [e, List.getElem?_append_right (by omega), Nat.add_sub_cancel_left, List.getElem?_append_left hk, hb]
theorem bin_new {c : Cf} (hm : MayOk c) {i k : Nat} {s : Sk1} {b : Int} (h : c.stacks[i]? = some s) (hb : s.bins[k]? = some b) : b ∉ allTo c i ++ s.bins.take k := by
  intro hmem
  obtain ⟨r, e⟩ := all_pre h
  have hk := (List.getElem?_eq_some_iff.1 hb).1
  obtain ⟨j, hj⟩ := List.getElem?_of_mem hmem
  have hjl := (List.getElem?_eq_some_iff.1 hj).1
  simp only [List.length_append, List.length_take] at hjl
  have hj2 : (c.stacks.flatMap (·.bins))[j]? = some b := by
    rw [e, ← hj]
    rcases Nat.lt_or_ge j (allTo c i).length with h1 | h1
    · rw [List.getElem?_append_left h1, List.getElem?_append_left h1]
    · rw [List.getElem?_append_right h1, List.getElem?_append_right h1, List.getElem?_append_left (by omega), List.getElem?_take, if_pos (by omega)]
  exact hm.bins.twice _ j b b (by omega) (bin_at h hb) hj2 rfl
end Go.Proofs.YtmbibkifbehgnaaGreatDoor
namespace Go.Proofs.YtmbibkifbehgnaaGreatDoor
open Go Sk
set_option linter.unusedVariables false
set_option linter.unusedSimpArgs false
theorem en112 : Enters Tryz.prog 112 := fun args w => by kernel_rfl
theorem ag_114  : aggB Tryz.prog 114 3 = true := by kernel_rfl
theorem sz_114  : (Tryz.prog.info? 114).map (·.size) = some 3 := by kernel_rfl
theorem ze_114  : (Tryz.prog.info? 114).bind (·.zero) = some (.agg (List.toArray [.int .i64 0, .int .i64 0, .slice none 0 0])) := by kernel_rfl
theorem ts0 {c : Cf} : flags c (fun n => decide (cellN c n ∈ atsTo c 0)) = List.replicate (area c) false := tk0
theorem stacks_spec (c : Cf) (hc : c.Fit) (hm : MayOk c) (bg bk : Nat) : Sk.Spec Tryz.prog 100 #[ptr bg, .slice c.sA c.stacks.length c.sc, i64 c.height] [gfix c bg bk, kblk bk (KF c), cs c, binsA c] [] (fun e F' => e = .returned (.bool true) ∧ F' = []) := by
  have hn := hm.num
  obtain ⟨ha, ha2, ha1⟩ := area_le hn
  have hl := hc.s
  simp only [maxLen] at hl
  refine Spec.of_code (vs := [_, _, _]) (k0 := [(0, _), (1, _), (2, _)]) 78 Tryz.func100 rfl Tryz.ntmps100 rfl (.cons (.cons (.cons .nil))) fun w X RR hRR H => ?_
  refine .seq ?_
  refine .plain rfl ?_
  refine .q rfl rfl rfl (val_assign rfl) ?_
  refine .nil (cj ?_)
  refine .seq ?_
  refine .plain rfl ?_
  refine .q rfl rfl rfl (val_move rfl) ?_
  refine .q rfl rfl rfl (val_nilCheck rfl) ?_
  refine .q rfl rfl rfl (val_fieldAddr rfl fa_183_2) ?_
  refine .qs rfl rfl rfl H (ld_b rfl ob_27 (.ro .here) rfl) ?_
  refine .q rfl rfl rfl (val_len Tryz.underlying27 rfl) ?_
  refine .mk rfl rfl rfl ap_193 ze_4 rfl rfl (Nat.le_refl _) (by omega) (by simp only [maxLen]; omega) (made_one _ _) H (fun w1 b1 H1 => ⟨fun _ => trivial, ?_⟩)
  refine .q rfl rfl rfl (val_assign rfl) ?_
  refine .nil (cj ?_)
  refine .seq ?_
  refine .plain rfl ?_
  refine .newMap rfl rfl rfl H1 (fun w2 b2 H2 => ⟨fun _ => trivial, ?_⟩)
  refine .q rfl rfl rfl (val_assign rfl) ?_
  refine .nil (cj ?_)
  refine .seq ?_
  refine .seq ?_
  refine .plain rfl ?_
  refine .q rfl rfl rfl (val_move rfl) ?_
  refine .q rfl rfl rfl (val_len Tryz.underlying24 rfl) ?_
  refine .q rfl rfl rfl (val_move rfl) ?_
  refine .nil (cj ?_)
  refine .block ?_
  refine .loop (ι := Nat) (fun i => [(0, ptr bg), (1, .slice c.sA c.stacks.length c.sc), (2, i64 c.height), (7, .slice (some ⟨b1, 0, none⟩) (area c) (area c)), (8, .map (some b2)), (20, .slice c.sA c.stacks.length c.sc), (21, i64 ((c.stacks.length : Nat) : Int)), (22, i64 (i : Int))]) (fun i w' => St w w' X [gfix c bg bk, kblk bk (KF c), cs c, binsA c] [sblk b1 (flags c fun n => decide (cellN c n ∈ atsTo c i)), mapA b2 (allTo c i)] ∧ i ≤ c.stacks.length) (fun i => c.stacks.length - i) 0 (by repeat (first | exact Pick.nil | refine Pick.cons rfl ?_)) ⟨by rw [ts0]; simp only [sblk, List.map_replicate]; exact H2.sub (.cons (.there .here) (.cons .here .nil)), Nat.zero_le _⟩ ?_
  rintro i w5 ⟨H3, hi⟩
  refine .seq ?_
  refine .plain rfl ?_
  refine .q rfl rfl rfl (val_lss rfl rfl rfl) ?_
  refine .nil (cj ?_)
  refine .seq ?_
  refine .cond rfl (fun hc0 => ?_) (fun hc0 => ?_)
  · have hil : i < c.stacks.length := by simp only [decide_eq_true_eq] at hc0; omega
    obtain ⟨s, hs⟩ : ∃ s, c.stacks[i]? = some s := ⟨_, List.getElem?_eq_getElem hil⟩
    obtain ⟨b, o, hA⟩ := Has.base (.ro (.there (.there .here))) H3 (nil_of_flat encS_len (by decide) hil)
    obtain ⟨HB, hnil⟩ := binsA_more (.there (.there (.there .here))) H3 hs
    have hst := hm.bins.st i s hs
    have hsb : s.bins.length ≤ maxLen := hc.k s (List.mem_of_getElem? hs)
    simp only [maxLen] at hsb
    have hin : inR c s.x s.y = true := by have h9 := hst.1; simp only [stackedR, Bool.and_eq_true] at h9; exact openR_in h9.1.1.1
    obtain ⟨hlt, hnb⟩ := numI_lt hn hin
    have hnum2 : numB ⟨c.w, c.h, []⟩ s.x s.y = ((numI c ⟨s.x, s.y⟩ : Nat) : Int) := hnb (kinds c fun n => 0) (kinds_len c _)
    have htk := tk_get (x := ⟨s.x, s.y⟩) hn hin (at_new hm hs)
    have hltt : numI c ⟨s.x, s.y⟩ < (flags c fun n => decide (cellN c n ∈ atsTo c i)).length := by rw [flags_len]; exact hlt
    refine .skip (cj ?_)
    refine .seq ?_
    refine .block ?_
    refine .seq ?_
    refine .plain rfl ?_
    refine .q rfl rfl rfl (val_ix el_24 hA rfl rfl rfl hil) ?_
    refine .qs rfl rfl rfl HB (ld_ela rfl ag_114 .base hA (.ro (.there (.there (.there .here)))) encS_len (by first | assumption | rfl)) ?_
    refine .alloc rfl rfl rfl ze_114 rfl HB (fun w4 b4 H4 => ⟨fun _ => trivial, ?_⟩)
    refine .store rfl rfl rfl rfl rfl sz_114 rfl H4 .here (by repeat constructor) (fun w5 H5 => ⟨fun _ => trivial, ?_⟩)
    refine .nil (cj ?_)
    refine .seq ?_
    refine .seq ?_
    refine .plain rfl ?_
    refine .q rfl rfl rfl (val_move rfl) ?_
    refine .q rfl rfl rfl (val_fieldAddr rfl fa_114_0) ?_
    refine .qs rfl rfl rfl H5 (ld_blks rfl ag_38 (.own .here) (by repeat constructor)) ?_
    refine .call1 rfl rfl rfl en112 (.cons rfl (.cons rfl .nil)) (stackedK_spec c hm _ _ _ _) H5 .nil (.ro (.there .here) (.ro (.there (.there .here)) .nil)) (fun w6 H6 => ⟨fun _ => trivial, ?_⟩)
    refine .q rfl rfl rfl (val_not rfl rfl) ?_
    refine .q rfl rfl rfl (val_move rfl) ?_
    refine .case (t := 31) rfl (fun hs31 => ?_) (fun hs31 => ?_)
    · rw [hst.1] at hs31; cases hs31
    · refine .q rfl rfl rfl (val_move rfl) ?_
      refine .q rfl rfl rfl (val_move rfl) ?_
      refine .q rfl rfl rfl (val_fieldAddr rfl fa_114_0) ?_
      refine .qs rfl rfl rfl H6 (ld_blks rfl ag_38 (.own .here) (by repeat constructor)) ?_
      refine .call1 rfl rfl rfl en86 (.cons rfl (.cons rfl .nil)) (number_spec _ _ ⟨c.w, c.h, []⟩ _ _) H6 .nil (.ro (.there .here) .nil) (fun w7 H7 => ⟨fun _ => trivial, ?_⟩)
      refine .q rfl rfl rfl (val_ix el_193 rfl rfl rfl hnum2 hlt) ?_
      refine .qs rfl rfl rfl H7 (ld_b rfl ob_4 (.own (.there .here)) (ix_map (by first | assumption | rfl))) ?_
      refine .q rfl rfl rfl (val_pick_f rfl rfl) ?_
      refine .q rfl rfl rfl (val_move rfl) ?_
      refine .case (t := 40) rfl (fun hs40 => ?_) (fun hs40 => ?_)
      · cases hs40
      · refine .q rfl rfl rfl (val_fieldAddr rfl fa_114_1) ?_
        refine .qs rfl rfl rfl H7 (ld_b rfl ob_27 (.own .here) rfl) ?_
        refine .q rfl rfl rfl (val_len Tryz.underlying27 rfl) ?_
        refine .q rfl rfl rfl (val_move rfl) ?_
        refine .q rfl rfl rfl (val_gtr rfl rfl rfl) ?_
        refine .q rfl rfl rfl (val_pick_f rfl rfl) ?_
        refine .nil (cj ?_)
        refine .cond rfl (fun hc1 => ?_) (fun hc1 => ?_)
        · exfalso; have h9 := of_decide_eq_true hc1; omega
        · refine .skip (cj ?_)
          refine .seq ?_
          refine .plain rfl ?_
          refine .q rfl rfl rfl (val_move rfl) ?_
          refine .q rfl rfl rfl (val_move rfl) ?_
          refine .q rfl rfl rfl (val_fieldAddr rfl fa_114_0) ?_
          refine .qs rfl rfl rfl H7 (ld_blks rfl ag_38 (.own .here) (by repeat constructor)) ?_
          refine .call1 rfl rfl rfl en86 (.cons rfl (.cons rfl .nil)) (number_spec _ _ ⟨c.w, c.h, []⟩ _ _) H7 .nil (.ro (.there .here) .nil) (fun w8 H8 => ⟨fun _ => trivial, ?_⟩)
          refine .q rfl rfl rfl (val_ix el_193 rfl rfl rfl hnum2 hlt) ?_
          refine .store rfl rfl rfl rfl rfl sz_4 rfl H8 (.there .here) (Spl_set hltt) (fun w9 H9 => ⟨fun _ => trivial, ?_⟩)
          refine .nil (cj ?_)
          refine .seq ?_
          refine .plain rfl ?_
          refine .q rfl rfl rfl (val_fieldAddr rfl fa_114_1) ?_
          refine .qs rfl rfl rfl H9 (ld_b rfl ob_27 (.own (.there .here)) rfl) ?_
          refine .q rfl rfl rfl (val_len Tryz.underlying27 rfl) ?_
          refine .q rfl rfl rfl (val_move rfl) ?_
          refine .nil (cj ?_)
          refine .block ?_
          refine .loop (ι := Nat) (fun k => [(0, ptr bg), (1, .slice c.sA c.stacks.length c.sc), (2, i64 c.height), (7, .slice (some ⟨b1, 0, none⟩) (area c) (area c)), (8, .map (some b2)), (20, .slice c.sA c.stacks.length c.sc), (21, i64 ((c.stacks.length : Nat) : Int)), (22, i64 (i : Int)), (54, .slice s.A s.bins.length s.cap), (55, i64 ((s.bins.length : Nat) : Int)), (56, i64 (k : Int))]) (fun k w' => St w w' X [arr s.A (s.bins.flatMap encI), gfix c bg bk, kblk bk (KF c), cs c, binsA c] [sblk b1 ((flags c fun n => decide (cellN c n ∈ atsTo c i)).set (numI c ⟨s.x, s.y⟩) true), mapA b2 (allTo c i ++ s.bins.take k)] ∧ k ≤ s.bins.length) (fun k => s.bins.length - k) 0 (by repeat (first | exact Pick.nil | refine Pick.cons rfl ?_)) ⟨by rw [List.take_zero, List.append_nil]; exact H9.sub (.cons .here (.cons (.there .here) .nil)), Nat.zero_le _⟩ ?_
          rintro k w6 ⟨H10, hk⟩
          refine .seq ?_
          refine .plain rfl ?_
          refine .q rfl rfl rfl (val_lss rfl rfl rfl) ?_
          refine .nil (cj ?_)
          refine .seq ?_
          refine .cond rfl (fun hc2 => ?_) (fun hc2 => ?_)
          · have hkl : k < s.bins.length := by simp only [decide_eq_true_eq] at hc2; omega
            obtain ⟨b, hx2⟩ : ∃ b, s.bins[k]? = some b := ⟨_, List.getElem?_eq_getElem hkl⟩
            obtain ⟨b9, o9, hB⟩ := Has.base (.ro .here) H10 (nil_of_flat encI_len (by decide) hkl)
            have hbn := hm.bins.num _ b (bin_at hs hx2)
            have hnew := bin_new hm hs hx2
            have hfew : (allTo c i ++ s.bins.take k).length < 512 := by have h1 := (List.getElem?_eq_some_iff.1 (bin_at hs hx2)).1; have h2 := hm.bins.few; rw [List.length_append, List.length_take]; omega
            refine .skip (cj ?_)
            refine .seq ?_
            refine .block ?_
            refine .seq ?_
            refine .plain rfl ?_
            refine .q rfl rfl rfl (val_ix el_27 hB rfl rfl rfl hkl) ?_
            refine .qs rfl rfl rfl H10 (ld_el rfl ob_3 .base hB (.ro .here) encI_len (by first | assumption | rfl) rfl) ?_
            refine .q rfl rfl rfl (val_assign rfl) ?_
            refine .nil (cj ?_)
            refine .seq ?_
            refine .seq ?_
            refine .plain rfl ?_
            refine .q rfl rfl rfl (val_move rfl) ?_
            refine .call1 rfl rfl rfl en97 (.cons rfl (.cons rfl (.cons rfl .nil))) (within_spec _ _ _) H10 .nil .nil (fun w11 H11 => ⟨fun _ => trivial, ?_⟩)
            refine .q rfl rfl rfl (val_not rfl rfl) ?_
            refine .q rfl rfl rfl (val_move rfl) ?_
            refine .case (t := 63) rfl (fun hs63 => ?_) (fun hs63 => ?_)
            · exfalso; simp [withinB] at hs63; omega
            · refine .q rfl rfl rfl (val_move rfl) ?_
              refine .q rfl rfl rfl (val_move rfl) ?_
              refine .qs rfl rfl rfl H11 (ld_absent Tryz.underlying196 Tryz.underlying3 ze_3 rfl rfl (.own (.there .here)) hnew) ?_
              refine .q rfl rfl rfl (val_gtr rfl rfl rfl) ?_
              refine .q rfl rfl rfl (val_pick_f rfl rfl) ?_
              refine .q rfl rfl rfl (val_move rfl) ?_
              refine .case (t := 69) rfl (fun hs69 => ?_) (fun hs69 => ?_)
              · exfalso; simp at hs69
              · refine .q rfl rfl rfl (val_move rfl) ?_
                refine .qs rfl rfl rfl H11 (ld_maplen Tryz.underlying196 rfl (.own (.there .here))) ?_
                refine .q rfl rfl rfl (val_eql rfl rfl rfl) ?_
                refine .q rfl rfl rfl (val_pick_f rfl rfl) ?_
                refine .nil (cj ?_)
                refine .cond rfl (fun hc3 => ?_) (fun hc3 => ?_)
                · exfalso; have h9 := eq_of_beq hc3; omega
                · refine .skip (cj ?_)
                  refine .plain rfl ?_
                  refine .q rfl rfl rfl (val_move rfl) ?_
                  refine .q rfl rfl rfl (val_move rfl) ?_
                  refine .setMap rfl rfl Tryz.underlying196 Tryz.underlying3 rfl rfl rfl H11 (.there .here) hnew (fun w12 H12 => ⟨fun _ => trivial, ?_⟩)
                  refine .nil (cj ?_)
                  refine .plain rfl ?_
                  refine .q rfl rfl rfl (val_add rfl rfl (z := ((k + 1 : Nat) : Int)) (w64_of (by omega))) ?_
                  refine .q rfl rfl rfl (val_move rfl) ?_
                  refine .nil ?_
                  intro act0 hact0; change Exists _
                  refine ⟨(k + 1), Pick.kn (by repeat (first | exact Pick.nil | refine Pick.cons rfl ?_)) hact0, ⟨by rw [take_snoc hx2, ← List.append_assoc]; exact H12.sub (.cons (.there .here) (.cons .here .nil)), hkl⟩, (by omega)⟩
          · have hkl : k = s.bins.length := by simp only [decide_eq_false_iff_not] at hc2; omega
            subst hkl
            rw [List.take_length] at H10
            refine .exit (cj ?_)
            refine .plain rfl ?_
            refine .q rfl rfl rfl (val_add rfl rfl (z := ((i + 1 : Nat) : Int)) (w64_of (by omega))) ?_
            refine .q rfl rfl rfl (val_move rfl) ?_
            refine .nil ?_
            intro act0 hact0; change Exists _
            refine ⟨(i + 1), Pick.kn (by repeat (first | exact Pick.nil | refine Pick.cons rfl ?_)) hact0, ⟨by rw [atsTo_succ hs, allTo_succ hs, ← tk_set hn hin]; exact (H10.rest (.ro (.there .here) (.ro (.there (.there .here)) (.ro (.there (.there (.there .here))) (.ro (.there (.there (.there (.there .here)))) .nil))))).sub (.cons .here (.cons .here .nil)), hil⟩, (by omega)⟩
  · refine .exit (cj ?_)
    refine .seq ?_
    refine .plain rfl ?_
    refine .q rfl rfl rfl (val_assign rfl) ?_
    refine .nil (cj ?_)
    refine .ret (fret (res1 rfl rfl) ?_)
    refine hRR _ _ ⟨_, ⟨rfl, rfl⟩, H3.sub .nil⟩
end Go.Proofs.YtmbibkifbehgnaaGreatDoor
namespace Go.Proofs.YtmbibkifbehgnaaGreatDoor
open Go Sk
set_option linter.unusedVariables false
set_option linter.unusedSimpArgs false
theorem en72 : Enters Tryz.prog 72 := fun args w => by kernel_rfl
theorem en98 : Enters Tryz.prog 98 := fun args w => by kernel_rfl
theorem en99 : Enters Tryz.prog 99 := fun args w => by kernel_rfl
theorem en100 : Enters Tryz.prog 100 := fun args w => by kernel_rfl
theorem bs_3_6_0_1_2_3_4_5 (x0_ : Int) (x1_ : Int) (x2_ : Int) (x3_ : Int) (x4_ : Int) (x5_ : Int) : Tryz.prog.builtSlice 3 6 [(0, .int .i64 x0_), (1, .int .i64 x1_), (2, .int .i64 x2_), (3, .int .i64 x3_), (4, .int .i64 x4_), (5, .int .i64 x5_)] = some (List.toArray [.int .i64 x0_, .int .i64 x1_, .int .i64 x2_, .int .i64 x3_, .int .i64 x4_, .int .i64 x5_]) := by kernel_rfl
abbrev six (c : Cf) : List Int := [c.unit, c.accel, c.speed, c.turn, c.hoist, c.resend]
theorem six_ok {c : Cf} (hn : NumOk c) {i : Nat} {v : Int} (h : (six c)[i]? = some v) : 1 ≤ v ∧ v ≤ 1000 := by
  have := List.mem_of_getElem? h
  simp only [six, List.mem_cons, List.not_mem_nil, or_false] at this
  rcases this with rfl | rfl | rfl | rfl | rfl | rfl
  · exact hn.unit
  · exact hn.accel
  · exact hn.speed
  · exact hn.turn
  · exact hn.hoist
  · exact hn.resend
theorem laid2_spec (c : Cf) (hc : c.Fit) (hm : MayOk c) : Sk.Spec Tryz.prog 98 #[.agg (encCf c).toArray] [cb c, cp c] [] fun e F' => ∃ x : LI, e = .returned (.tuple #[ptr x.bg, .bool true]) ∧ F' = [gfix c x.bg x.bk, kblk x.bk (kinds c fun n => kA c (cellN c n))] ∧ True := by
  have h := laid_spec c hc hm
  rw [lay_all hm] at h
  simp only [gblk, List.length_map, List.length_range] at h
  exact h
theorem made_spec (c : Cf) (hc : c.Fit) (hm : MayOk c) : Sk.Spec Tryz.prog 72 #[.agg (encCf c).toArray] [cb c, cp c, cr c, cs c, binsA c, stepsA] [] fun e F' => ∃ x : LI, e = .returned (ptr x.bg) ∧ F' = [gfix c x.bg x.bk, kblk x.bk (KF c)] ∧ True := by
  have hn := hm.num
  have h1 := hn.height
  have h2 := hn.queue
  have h3 := hn.budget
  refine Spec.of_code (vs := [_]) (k0 := [(0, _)]) 69 Tryz.func72 rfl Tryz.ntmps72 rfl (.cons .nil) fun w X RR hRR H => ?_
  refine .seq ?_
  refine .plain rfl ?_
  refine .box rfl rfl rfl rfl rfl H (fun w1 b1 H1 => ⟨fun _ => trivial, ?_⟩)
  refine .q rfl rfl rfl (val_assign rfl) ?_
  refine .nil (cj ?_)
  refine .seq ?_
  refine .seq ?_
  refine .plain rfl ?_
  refine .q rfl rfl rfl (val_fieldAddr rfl fa_26_7) ?_
  refine .qs rfl rfl rfl H1 (ld_b rfl ob_3 (.own .here) rfl) ?_
  refine .q rfl rfl rfl (val_fieldAddr rfl fa_26_8) ?_
  refine .qs rfl rfl rfl H1 (ld_b rfl ob_3 (.own .here) rfl) ?_
  refine .q rfl rfl rfl (val_fieldAddr rfl fa_26_9) ?_
  refine .qs rfl rfl rfl H1 (ld_b rfl ob_3 (.own .here) rfl) ?_
  refine .q rfl rfl rfl (val_fieldAddr rfl fa_26_10) ?_
  refine .qs rfl rfl rfl H1 (ld_b rfl ob_3 (.own .here) rfl) ?_
  refine .q rfl rfl rfl (val_fieldAddr rfl fa_26_11) ?_
  refine .qs rfl rfl rfl H1 (ld_b rfl ob_3 (.own .here) rfl) ?_
  refine .q rfl rfl rfl (val_fieldAddr rfl fa_26_13) ?_
  refine .qs rfl rfl rfl H1 (ld_b rfl ob_3 (.own .here) rfl) ?_
  refine .lit rfl rfl rfl Tryz.underlying27 (.cons rfl (.cons rfl (.cons rfl (.cons rfl (.cons rfl (.cons rfl .nil)))))) (bs_3_6_0_1_2_3_4_5 _ _ _ _ _ _) H1 (fun w2 b2 H2 => ⟨fun _ => trivial, ?_⟩)
  refine .q rfl rfl rfl (val_len Tryz.underlying27 rfl) ?_
  refine .q rfl rfl rfl (val_move rfl) ?_
  refine .nil (cj ?_)
  refine .block ?_
  refine .loop (ι := Nat) (fun i => [(1, ptr b1), (19, .slice (some ⟨b2, 0, none⟩) 6 6), (20, i64 ((6 : Nat) : Int)), (21, i64 (i : Int))]) (fun i w' => St w w' X [arr (some ⟨b2, 0, none⟩) ((six c).flatMap encI), cb c, cp c, cr c, cs c, binsA c, stepsA] [blk b1 (encCf c) 26] ∧ i ≤ 6) (fun i => 6 - i) 0 (by repeat (first | exact Pick.nil | refine Pick.cons rfl ?_)) ⟨St.sub (H2.blkArr .here) (.cons .here .nil), Nat.zero_le _⟩ ?_
  rintro i w5 ⟨H3, hi⟩
  refine .seq ?_
  refine .plain rfl ?_
  refine .q rfl rfl rfl (val_lss rfl rfl rfl) ?_
  refine .nil (cj ?_)
  refine .seq ?_
  refine .cond rfl (fun hc0 => ?_) (fun hc0 => ?_)
  · have hil : i < 6 := by simp only [decide_eq_true_eq] at hc0; omega
    obtain ⟨v, hx⟩ : ∃ v, (six c)[i]? = some v := ⟨_, List.getElem?_eq_getElem (by simpa using hil)⟩
    have hv := six_ok hn hx
    refine .skip (cj ?_)
    refine .seq ?_
    refine .block ?_
    refine .seq ?_
    refine .plain rfl ?_
    refine .q rfl rfl rfl (val_ix el_27 rfl rfl rfl rfl hil) ?_
    refine .qs rfl rfl rfl H3 (ld_el rfl ob_3 .base rfl (.ro .here) encI_len (by first | assumption | rfl) rfl) ?_
    refine .q rfl rfl rfl (val_assign rfl) ?_
    refine .nil (cj ?_)
    refine .seq ?_
    refine .plain rfl ?_
    refine .q rfl rfl rfl (val_move rfl) ?_
    refine .call1 rfl rfl rfl en97 (.cons rfl (.cons rfl (.cons rfl .nil))) (within_spec _ _ _) H3 .nil .nil (fun w4 H4 => ⟨fun _ => trivial, ?_⟩)
    refine .q rfl rfl rfl (val_not rfl rfl) ?_
    refine .nil (cj ?_)
    refine .cond rfl (fun hc1 => ?_) (fun hc1 => ?_)
    · exfalso; simp [withinB] at hc1; omega
    · refine .skip (cj ?_)
      refine .plain rfl ?_
      refine .q rfl rfl rfl (val_add rfl rfl (z := ((i + 1 : Nat) : Int)) (w64_of (by omega))) ?_
      refine .q rfl rfl rfl (val_move rfl) ?_
      refine .nil ?_
      intro act0 hact0; change Exists _
      refine ⟨(i + 1), Pick.kn (by repeat (first | exact Pick.nil | refine Pick.cons rfl ?_)) hact0, ⟨H4, hil⟩, (by omega)⟩
  · refine .exit (cj ?_)
    refine .seq ?_
    refine .seq ?_
    refine .plain rfl ?_
    refine .q rfl rfl rfl (val_fieldAddr rfl fa_26_2) ?_
    refine .qs rfl rfl rfl H3 (ld_b rfl ob_3 (.own .here) rfl) ?_
    refine .call1 rfl rfl rfl en97 (.cons rfl (.cons rfl (.cons rfl .nil))) (within_spec _ _ _) H3 .nil .nil (fun w5 H5 => ⟨fun _ => trivial, ?_⟩)
    refine .q rfl rfl rfl (val_not rfl rfl) ?_
    refine .q rfl rfl rfl (val_move rfl) ?_
    refine .case (t := 33) rfl (fun hs33 => ?_) (fun hs33 => ?_)
    · exfalso; simp [withinB] at hs33; omega
    · refine .q rfl rfl rfl (val_fieldAddr rfl fa_26_12) ?_
      refine .qs rfl rfl rfl H5 (ld_b rfl ob_3 (.own .here) rfl) ?_
      refine .call1 rfl rfl rfl en97 (.cons rfl (.cons rfl (.cons rfl .nil))) (within_spec _ _ _) H5 .nil .nil (fun w6 H6 => ⟨fun _ => trivial, ?_⟩)
      refine .q rfl rfl rfl (val_not rfl rfl) ?_
      refine .q rfl rfl rfl (val_pick_f rfl rfl) ?_
      refine .q rfl rfl rfl (val_move rfl) ?_
      refine .case (t := 39) rfl (fun hs39 => ?_) (fun hs39 => ?_)
      · exfalso; simp [withinB] at hs39; omega
      · refine .q rfl rfl rfl (val_fieldAddr rfl fa_26_14) ?_
        refine .qs rfl rfl rfl H6 (ld_b rfl ob_3 (.own .here) rfl) ?_
        refine .call1 rfl rfl rfl en97 (.cons rfl (.cons rfl (.cons rfl .nil))) (within_spec _ _ _) H6 .nil .nil (fun w7 H7 => ⟨fun _ => trivial, ?_⟩)
        refine .q rfl rfl rfl (val_not rfl rfl) ?_
        refine .q rfl rfl rfl (val_pick_f rfl rfl) ?_
        refine .nil (cj ?_)
        refine .cond rfl (fun hc2 => ?_) (fun hc2 => ?_)
        · exfalso; simp [withinB] at hc2; omega
        · refine .skip (cj ?_)
          refine .seq ?_
          refine .plain rfl ?_
          refine .qs rfl rfl rfl H7 (ld_w rfl ag_26 (.own .here) rfl) ?_
          refine .callx rfl rfl rfl en98 (.cons rfl .nil) (laid2_spec c hc hm) H7 .nil (.ro (.there .here) (.ro (.there (.there .here)) .nil)) (fun x8 w8 C8 H8 => ⟨fun _ => trivial, ?_⟩)
          refine .q rfl rfl rfl (val_move rfl) ?_
          refine .q rfl rfl rfl (val_extract rfl rfl) ?_
          refine .q rfl rfl rfl (val_extract rfl rfl) ?_
          refine .q rfl rfl rfl (val_assign rfl) ?_
          refine .q rfl rfl rfl (val_assign rfl) ?_
          refine .nil (cj ?_)
          refine .seq ?_
          refine .seq ?_
          refine .plain rfl ?_
          refine .q rfl rfl rfl (val_move rfl) ?_
          refine .q rfl rfl rfl (val_not rfl rfl) ?_
          refine .q rfl rfl rfl (val_move rfl) ?_
          refine .case (t := 52) rfl (fun hs52 => ?_) (fun hs52 => ?_)
          · exfalso; simp at hs52
          · refine .q rfl rfl rfl (val_move rfl) ?_
            refine .q rfl rfl rfl (val_fieldAddr rfl fa_26_5) ?_
            refine .qs rfl rfl rfl H8 (ld_b rfl ob_23 (.own (.there (.there .here))) rfl) ?_
            refine .call1 rfl rfl rfl en99 (.cons rfl (.cons rfl .nil)) (robots_spec c hc hm _ _) H8 (.cons .here (.cons .here .nil)) (.ro (.there (.there (.there .here))) (.ro (.there (.there (.there (.there (.there (.there .here)))))) .nil)) (fun w9 H9 => ⟨fun _ => trivial, ?_⟩)
            refine .q rfl rfl rfl (val_not rfl rfl) ?_
            refine .q rfl rfl rfl (val_pick_f rfl rfl) ?_
            refine .q rfl rfl rfl (val_move rfl) ?_
            refine .case (t := 59) rfl (fun hs59 => ?_) (fun hs59 => ?_)
            · exfalso; simp at hs59
            · refine .q rfl rfl rfl (val_move rfl) ?_
              refine .q rfl rfl rfl (val_fieldAddr rfl fa_26_6) ?_
              refine .qs rfl rfl rfl H9 (ld_b rfl ob_24 (.own (.there (.there .here))) rfl) ?_
              refine .q rfl rfl rfl (val_fieldAddr rfl fa_26_2) ?_
              refine .qs rfl rfl rfl H9 (ld_b rfl ob_3 (.own (.there (.there .here))) rfl) ?_
              refine .call1 rfl rfl rfl en100 (.cons rfl (.cons rfl (.cons rfl .nil))) (stacks_spec c hc hm _ _) H9 .nil (.own .here (.own (.there .here) (.ro (.there (.there (.there (.there .here)))) (.ro (.there (.there (.there (.there (.there .here))))) .nil)))) (fun w10 H10 => ⟨fun _ => trivial, ?_⟩)
              refine .q rfl rfl rfl (val_not rfl rfl) ?_
              refine .q rfl rfl rfl (val_pick_f rfl rfl) ?_
              refine .nil (cj ?_)
              refine .cond rfl (fun hc3 => ?_) (fun hc3 => ?_)
              · exfalso; simp at hc3
              · refine .skip (cj ?_)
                refine .seq ?_
                refine .plain rfl ?_
                refine .q rfl rfl rfl (val_move rfl) ?_
                refine .q rfl rfl rfl (val_assign rfl) ?_
                refine .nil (cj ?_)
                refine .ret (fret (res1 rfl rfl) ?_)
                refine hRR _ _ ⟨_, ⟨_, rfl, rfl, trivial⟩, (H10.rest (.ro (.there .here) (.ro (.there (.there .here)) (.ro (.there (.there (.there .here))) (.ro (.there (.there (.there (.there .here)))) (.ro (.there (.there (.there (.there (.there .here))))) (.ro (.there (.there (.there (.there (.there (.there .here)))))) .nil))))))).sub (.cons .here (.cons .here .nil))⟩
theorem gnew_spec (c : Cf) (hc : c.Fit) (hm : MayOk c) : Sk.Spec Tryz.prog 36 #[.agg (encCf c).toArray] [cb c, cp c, cr c, cs c, binsA c, stepsA] [] fun e F' => ∃ x : LI, e = .returned (.tuple #[ptr x.bg, i64 0]) ∧ F' = [gfix c x.bg x.bk, kblk x.bk (KF c)] ∧ True := by
  refine Spec.of_code (vs := [_]) (k0 := [(0, _)]) 10 Tryz.func36 rfl Tryz.ntmps36 rfl (.cons .nil) fun w X RR hRR H => ?_
  refine .seq ?_
  refine .plain rfl ?_
  refine .box rfl rfl rfl rfl rfl H (fun w1 b1 H1 => ⟨fun _ => trivial, ?_⟩)
  refine .q rfl rfl rfl (val_assign rfl) ?_
  refine .q rfl rfl rfl (val_assign rfl) ?_
  refine .nil (cj ?_)
  refine .seq ?_
  refine .plain rfl ?_
  refine .qs rfl rfl rfl H1 (ld_w rfl ag_26 (.own .here) rfl) ?_
  refine .callx rfl rfl rfl en72 (.cons rfl .nil) (made_spec c hc hm) H1 .nil (.ro .here (.ro (.there .here) (.ro (.there (.there .here)) (.ro (.there (.there (.there .here))) (.ro (.there (.there (.there (.there .here)))) (.ro (.there (.there (.there (.there (.there .here))))) .nil)))))) (fun x2 w2 C2 H2 => ⟨fun _ => trivial, ?_⟩)
  refine .q rfl rfl rfl (val_assign rfl) ?_
  refine .nil (cj ?_)
  refine .seq ?_
  refine .seq ?_
  refine .plain rfl ?_
  refine .q rfl rfl rfl (val_move rfl) ?_
  refine .q rfl rfl rfl (val_ptr_eq_nil Tryz.underlying84 rfl rfl rfl) ?_
  refine .nil (cj ?_)
  refine .cond_f rfl ?_
  refine .skip (cj ?_)
  refine .seq ?_
  refine .plain rfl ?_
  refine .q rfl rfl rfl (val_move rfl) ?_
  refine .q rfl rfl rfl (val_assign rfl) ?_
  refine .q rfl rfl rfl (val_assign rfl) ?_
  refine .nil (cj ?_)
  refine .ret (fret (res2 rfl rfl rfl) ?_)
  refine hRR _ _ ⟨_, ⟨_, rfl, rfl, trivial⟩, H2.sub (.cons .here (.cons .here .nil))⟩
end Go.Proofs.YtmbibkifbehgnaaGreatDoor
namespace Go.Proofs.YtmbibkifbehgnaaGreatDoor
open Go Sk
set_option linter.unusedVariables false
set_option linter.unusedSimpArgs false
theorem w64_mul0 {k : Nat} : w64 ((k : Int) * 0) = 0 := by rw [Int.mul_zero]; exact w64_of (by omega)
theorem w64_mul1 {k : Nat} (h : k ≤ 17) : w64 ((k : Int) * 1) = k := by rw [Int.mul_one]; exact w64_of (by omega)
theorem w64_muln {k : Nat} (h : k ≤ 17) : w64 ((k : Int) * -1) = -k := by rw [Int.mul_neg, Int.mul_one]; exact w64_of (by omega)
theorem shift_eq {c : Cf} (hn : NumOk c) {p : Ps} (hp : inR c p.x p.y = true) {dir : Int} (hd : withinB dir 0 3 = true) {k : Nat} (hk : k ≤ 16) : shiftR p dir (k : Int) = shiftS p dir (k : Int) := by
  have hok : shiftOk dir (k : Int) = true := by
    have : withinB (k : Int) 0 16 = true := by simp [withinB]; omega
    simp [shiftOk, this, hd]
  obtain ⟨h1, h2⟩ := wi hd
  obtain ⟨e1, e2, _, _⟩ := w64_in hn hp
  rw [shiftR, if_pos hok]
  unfold shiftP shiftS
  have hdir : dir = 0 ∨ dir = 1 ∨ dir = 2 ∨ dir = 3 := by omega
  rcases hdir with rfl | rfl | rfl | rfl
  · have a : stepsL.getD (Int.toNat 0) ⟨0, 0⟩ = ⟨0, -1⟩ := rfl
    rw [a]; dsimp only
    rw [w64_mul0, w64_muln (by omega), e1, ← Int.sub_eq_add_neg]; simp
  · have a : stepsL.getD (Int.toNat 1) ⟨0, 0⟩ = ⟨1, 0⟩ := rfl
    rw [a]; dsimp only
    rw [w64_mul0, w64_mul1 (by omega), e2]; simp
  · have a : stepsL.getD (Int.toNat 2) ⟨0, 0⟩ = ⟨0, 1⟩ := rfl
    rw [a]; dsimp only
    rw [w64_mul0, w64_mul1 (by omega), e1]; simp
  · have a : stepsL.getD (Int.toNat 3) ⟨0, 0⟩ = ⟨-1, 0⟩ := rfl
    rw [a]; dsimp only
    rw [w64_mul0, w64_muln (by omega), e2, ← Int.sub_eq_add_neg]; simp
theorem shift_zero {c : Cf} (hn : NumOk c) {p : Ps} (hp : inR c p.x p.y = true) (dir : Int) : shiftS p dir ((0 : Nat) : Int) = p := by
  obtain ⟨e1, e2, _, _⟩ := w64_in hn hp
  have e3 : w64 (p.x - 0) = p.x := by rw [Int.sub_zero, ← Int.add_zero p.x]; simpa using e1
  have e4 : w64 (p.y - 0) = p.y := by rw [Int.sub_zero, ← Int.add_zero p.y]; simpa using e2
  unfold shiftS
  simp only [Int.natCast_zero] at *
  rw [e1, e2, e3, e4]
  split <;> first | rfl | (split <;> first | rfl | (split <;> first | rfl | (split <;> rfl)))
theorem shiftOk_le {dir : Int} (hd : withinB dir 0 3 = true) {k : Nat} (hk : k ≤ 16) : shiftOk dir (k : Int) = true := by
  have : withinB (k : Int) 0 16 = true := by simp [withinB]; omega
  simp [shiftOk, this, hd]
theorem run_eq {c : Cf} {K : List Int} (hK : KRel c K) (hn : NumOk c) {fr : Ps} (hp : inR c fr.x fr.y = true) {dir : Int} (hd : withinB dir 0 3 = true) : ∀ n, n ≤ 16 → runB ⟨c.w, c.h, K⟩ fr dir (n + 1) = (fitsR c fr && fitR c fr dir n)
  | 0, _ => by
    have h1 := shift_eq hn hp hd (k := 0) (by omega)
    rw [shift_zero hn hp] at h1
    simp only [runB, fitR, Bool.true_and, Bool.and_true, shiftOk_le hd (k := 0) (by omega), h1, fits_eq hK hn]
  | n + 1, h => by
    have ih := run_eq hK hn hp hd n (by omega)
    rw [runB, ih, shiftOk_le hd h, shift_eq hn hp hd h, fits_eq hK hn, fitR, Bool.true_and, Bool.and_assoc]
theorem all_open {c : Cf} {K : List Int} (hK : KRel c K) (hn : NumOk c) (l : List Cl) : l.all (fun x => openB ⟨c.w, c.h, K⟩ x.x x.y) = l.all (fun x => openR c x.x x.y) := by
  congr 1
  funext x
  exact open_eq hK hn _ _
theorem legal_eq {c : Cf} {K : List Int} (hK : KRel c K) (hn : NumOk c) (m : Mv) : legalB ⟨c.w, c.h, K⟩ m = legalR c m := by
  unfold legalB legalR
  rw [fits_eq hK hn]
  cases hf : fitsR c m.fr with
  | false => simp
  | true =>
    have hp : inR c m.fr.x m.fr.y = true := by
      simp only [fitsR, Bool.and_eq_true] at hf
      exact openR_in hf.1
    have ht : ¬ (true = false) := by simp
    rw [if_neg ht, if_neg ht]
    by_cases h1 : m.kind = 1
    · rw [if_pos h1, if_pos h1]
      by_cases hd : withinB m.dir 0 3 = true
      · by_cases hlow : 1 ≤ m.n
        · by_cases hhi : m.n ≤ 16
          · obtain ⟨k, hk⟩ : ∃ k : Nat, m.n = ((k + 1 : Nat) : Int) := ⟨(m.n - 1).toNat, by omega⟩
            have hk16 : k + 1 ≤ 16 := by omega
            have e1 : (m.n + 1).toNat = k + 1 + 1 := by omega
            have e2 : m.n.toNat = k + 1 := by omega
            have hw : withinB m.n 1 16 = true := by simp [withinB]; omega
            rw [e1, e2, run_eq hK hn hp hd _ hk16, hf, hw, hd, decide_eq_true hlow, lastP, shift_eq hn hp hd hk16, ← hk]
            simp only [Bool.true_and]
            exact Bool.and_comm _ _
          · have hw : withinB m.n 1 16 = false := by simp [withinB]; omega
            have hr : runB ⟨c.w, c.h, K⟩ m.fr m.dir (m.n + 1).toNat = false := by
              cases h9 : runB ⟨c.w, c.h, K⟩ m.fr m.dir (m.n + 1).toNat with
              | false => rfl
              | true =>
                have h8 := runB_le (k := 17 + 1) (by omega) h9
                simp only [runB, Bool.and_eq_true] at h8
                have := h8.2.1
                simp [shiftOk, withinB] at this
            rw [hw, hr]; rfl
        · have hw : withinB m.n 1 16 = false := by simp [withinB]; omega
          rw [hw, decide_eq_false hlow]; simp
      · have hd' : withinB m.dir 0 3 = false := by simpa using hd
        by_cases hlow : 1 ≤ m.n
        · have hr : runB ⟨c.w, c.h, K⟩ m.fr m.dir (m.n + 1).toNat = false := by
            cases h9 : runB ⟨c.w, c.h, K⟩ m.fr m.dir (m.n + 1).toNat with
            | false => rfl
            | true =>
              have h8 := runB_le (k := 0 + 1) (by omega) h9
              simp only [runB, Bool.and_eq_true] at h8
              have := h8.2.1
              simp [shiftOk, hd'] at this
          rw [hr, hd']; simp
        · rw [decide_eq_false hlow, hd']; simp
    · rw [if_neg h1, if_neg h1]
      by_cases hz : m.dir ≠ 0 ∨ m.n ≠ 0
      · rw [if_pos hz]
        have hzz : ((m.n == 0) && (m.dir == 0)) = false := by
          rcases hz with h | h <;> simp [h]
        by_cases h2 : m.kind = 2
        · rw [if_pos h2, ← Bool.and_assoc (m.n == 0), hzz]; simp
        · rw [if_neg h2, ← Bool.and_assoc (m.n == 0), hzz]; simp
      · rw [if_neg hz]
        have hn0 : m.n = 0 := by omega
        have hd0 : m.dir = 0 := by omega
        rw [all_open hK hn, hn0, hd0]
        simp
end Go.Proofs.YtmbibkifbehgnaaGreatDoor
namespace Go.Proofs.YtmbibkifbehgnaaGreatDoor
open Go Sk
set_option linter.unusedVariables false
set_option linter.unusedSimpArgs false
theorem bs_114_1_0 (x0_0_0_ : Int) (x0_0_1_ : Int) (x0_1_A : Option Addr) (x0_1_n : Nat) (x0_1_c : Nat) : Tryz.prog.builtSlice 114 1 [(0, .agg (List.toArray [.int .i64 x0_0_0_, .int .i64 x0_0_1_, .slice x0_1_A x0_1_n x0_1_c]))] = some (List.toArray [.int .i64 x0_0_0_, .int .i64 x0_0_1_, .slice x0_1_A x0_1_n x0_1_c]) := by kernel_rfl
theorem mk_114_0_1 (x0_0_ : Int) (x0_1_ : Int) (x1_A : Option Addr) (x1_n : Nat) (x1_c : Nat) : Tryz.prog.built 114 [(0, .agg (List.toArray [.int .i64 x0_0_, .int .i64 x0_1_])), (1, .slice x1_A x1_n x1_c)] = some (List.toArray [.int .i64 x0_0_, .int .i64 x0_1_, .slice x1_A x1_n x1_c]) := by kernel_rfl
theorem sz_24  : (Tryz.prog.info? 24).map (·.size) = some 1 := by kernel_rfl
theorem sz_26  : (Tryz.prog.info? 26).map (·.size) = some 16 := by kernel_rfl
theorem ze_26  : (Tryz.prog.info? 26).bind (·.zero) = some (.agg (List.toArray [.int .i64 0, .int .i64 0, .int .i64 0, .slice none 0 0, .slice none 0 0, .slice none 0 0, .slice none 0 0, .int .i64 0, .int .i64 0, .int .i64 0, .int .i64 0, .int .i64 0, .int .i64 0, .int .i64 0, .int .i64 0, .bool false])) := by kernel_rfl
/-- the same stack, laid elsewhere -/
def simS (s t : Sk1) : Prop := t.x = s.x ∧ t.y = s.y ∧ t.bins = s.bins ∧ (t.A = none → t.bins.length = 0 ∧ t.cap = 0)
structure CI where
  i : Nat
  v : Value
  l : List Sk1
/-- the same config, laid elsewhere -/
structure SimC (c c' : Cf) : Prop where
  eq : c' = { c with bA := c'.bA, bc := c'.bc, pA := c'.pA, pc := c'.pc, rA := c'.rA, rc := c'.rc, sA := c'.sA, sc := c'.sc, stacks := c'.stacks }
  len : c'.stacks.length = c.stacks.length
  st : ∀ (i : Nat) (s t : Sk1), c.stacks[i]? = some s → c'.stacks[i]? = some t → simS s t
  fit : c'.Fit
end Go.Proofs.YtmbibkifbehgnaaGreatDoor
namespace Go.Proofs.YtmbibkifbehgnaaGreatDoor
open Go Sk
set_option linter.unusedVariables false
set_option linter.unusedSimpArgs false
theorem en36 : Enters Tryz.prog 36 := fun args w => by kernel_rfl
theorem en37 : Enters Tryz.prog 37 := fun args w => by kernel_rfl
theorem mk_130_0_1_2 (x0_ : Int) (x1_ : Int) (x2_ : Int) : Tryz.prog.built 130 [(0, .int .i64 x0_), (1, .int .i64 x1_), (2, .int .i64 x2_)] = some (List.toArray [.int .i64 x0_, .int .i64 x1_, .int .i64 x2_]) := by kernel_rfl
theorem mk_147_0_1_2 (x0_ : Int) (x1_ : Int) (x2_ : Int) : Tryz.prog.built 147 [(0, .int .i64 x0_), (1, .int .i64 x1_), (2, .int .i64 x2_)] = some (List.toArray [.int .i64 x0_, .int .i64 x1_, .int .i64 x2_, .int .u32 0, .int .i32 0, .int .u32 0, .slice none 0 0, .int .u32 0, .int .i32 0, .int .u32 0, .slice none 0 0, .int .u32 0, .int .i32 0, .int .u32 0, .slice none 0 0, .int .u32 0, .int .i32 0, .int .u32 0, .slice none 0 0, .int .u32 0, .int .i32 0, .int .u32 0, .slice none 0 0, .int .u32 0, .int .i32 0, .int .u32 0, .slice none 0 0, .int .u32 0, .int .i32 0, .int .u32 0, .slice none 0 0, .int .u32 0, .int .i32 0, .int .u32 0, .slice none 0 0, .int .u32 0, .int .i32 0, .int .u32 0, .slice none 0 0, .int .u32 0, .int .i32 0, .int .u32 0, .slice none 0 0, .int .u32 0, .int .i32 0, .int .u32 0, .slice none 0 0, .int .u32 0, .int .i32 0, .int .u32 0, .slice none 0 0, .int .u32 0, .int .i32 0, .int .u32 0, .slice none 0 0, .int .u32 0, .int .i32 0, .int .u32 0, .slice none 0 0, .int .u32 0, .int .i32 0, .int .u32 0, .slice none 0 0, .int .u32 0, .int .i32 0, .int .u32 0, .slice none 0 0, .int .u32 0, .int .i32 0, .int .u32 0, .slice none 0 0]) := by kernel_rfl
theorem mk_92_0_1_2_3 (x0_ : Int) (x1_ : Option Addr) (x2_ : Option Addr) (x3_0_0_ : Int) (x3_0_1_ : Int) (x3_1_ : Bool) : Tryz.prog.built 92 [(0, .int .i64 x0_), (1, .pointer x1_), (2, .pointer x2_), (3, .agg (List.toArray [.int .i64 x3_0_0_, .int .i64 x3_0_1_, .bool x3_1_]))] = some (List.toArray [.int .i64 x0_, .pointer x1_, .pointer x2_, .int .i64 x3_0_0_, .int .i64 x3_0_1_, .bool x3_1_, .int .i64 0, .int .i64 0, .int .i64 0, .pointer none, .bool false, .int .i64 0]) := by kernel_rfl
theorem idx3 {nt : NT} {k : L} {X Y : Operand} {vs : List Value} {j : Nat} {q : IntKind} {v : Value} (hx : ev k X = some (.agg vs.toArray)) (hy : ev k Y = some (.int q (j : Int))) (hj : j < 3) (hv : vs[j]? = some v) : Val Tryz.prog nt k (.index 130 X Y) v := fun a ha d ty pos af g w => by
  have hu : Tryz.prog.underlying 130 = some (.array 3 3) := Tryz.underlying130
  have h1 : (sizeOf 3).run Tryz.prog w = .ok 1 w := by kernel_rfl
  have h2 : (isAgg 3).run Tryz.prog w = .ok false w := by kernel_rfl
  have h0 : (0 : Int) ≤ (j : Int) ∧ (j : Int) < (3 : Int) := by omega
  have hp : (part 3 vs.toArray (j * 1)).run Tryz.prog w = .ok v w := by
    simp [part, h2, hv, go_sem]
  simp only [execOp, ha.ev hx, ha.ev hy, Sem.run_bind, Instr.index, asIntOf, Sem.run_pure, Result.andThen_ok, run_underlying hu]
  simp only [Int.toNat_natCast]
  have h0' : (0 : Int) ≤ (j : Int) ∧ (j : Int) < ((3 : Nat) : Int) := by omega
  simp only [if_pos h0', Sem.run_bind, h1, Result.andThen_ok, hp]
abbrev runZ : List Value := [.int .u32 0, .int .i32 0, .int .u32 0, .slice none 0 0]
/-- a Kin of which no run was reckoned -/
abbrev kin0 (u a s : Int) : List Value := i64 u :: i64 a :: i64 s :: (List.replicate 17 runZ).flatten
theorem kinNew_spec (u a s : Int) (hu : 1 ≤ u ∧ u ≤ 1000) (ha : 1 ≤ a ∧ a ≤ 1000) (hs : 1 ≤ s ∧ s ≤ 1000) : Sk.Spec Tryz.prog 37 #[i64 u, i64 a, i64 s] [] [] fun e F' => ∃ b : Nat, e = .returned (.tuple #[ptr b, i64 0]) ∧ F' = [blk b (kin0 u a s) 147] ∧ True := by
  refine Spec.of_code (vs := [_, _, _]) (k0 := [(0, _), (1, _), (2, _)]) 29 Tryz.func37 rfl Tryz.ntmps37 rfl (.cons (.cons (.cons .nil))) fun w X RR hRR H => ?_
  refine .seq ?_
  refine .plain rfl ?_
  refine .q rfl rfl rfl (val_assign rfl) ?_
  refine .q rfl rfl rfl (val_assign rfl) ?_
  refine .nil (cj ?_)
  refine .seq ?_
  refine .seq ?_
  refine .plain rfl ?_
  refine .q rfl rfl rfl (val_move rfl) ?_
  refine .q rfl rfl rfl (val_move rfl) ?_
  refine .q rfl rfl rfl (val_move rfl) ?_
  refine .q rfl rfl rfl (val_mk (.cons rfl (.cons rfl (.cons rfl .nil))) (mk_130_0_1_2 _ _ _)) ?_
  refine .q rfl rfl rfl (val_move rfl) ?_
  refine .nil (cj ?_)
  refine .block ?_
  refine .loop (ι := Nat) (fun j => [(0, i64 u), (1, i64 a), (2, i64 s), (13, .agg (List.toArray [i64 u, i64 a, i64 s])), (14, i64 (j : Int))]) (fun j w' => St w w' X [] [] ∧ j ≤ 3) (fun j => 3 - j) 0 (by repeat (first | exact Pick.nil | refine Pick.cons rfl ?_)) ⟨H, Nat.zero_le _⟩ ?_
  rintro j w5 ⟨H1, hj⟩
  refine .seq ?_
  refine .plain rfl ?_
  refine .q rfl rfl rfl (val_lss rfl rfl rfl) ?_
  refine .nil (cj ?_)
  refine .seq ?_
  refine .cond rfl (fun hc0 => ?_) (fun hc0 => ?_)
  · have hjl : j < 3 := by have h9 := of_decide_eq_true hc0; omega
    obtain ⟨v, hv, hv1, hv2⟩ : ∃ v : Int, [i64 u, i64 a, i64 s][j]? = some (i64 v) ∧ 1 ≤ v ∧ v ≤ 1000 := by
      match j, hjl with
      | 0, _ => exact ⟨u, rfl, hu⟩
      | 1, _ => exact ⟨a, rfl, ha⟩
      | 2, _ => exact ⟨s, rfl, hs⟩
    refine .skip (cj ?_)
    refine .seq ?_
    refine .block ?_
    refine .seq ?_
    refine .plain rfl ?_
    refine .q rfl rfl rfl (idx3 rfl rfl hjl hv) ?_
    refine .q rfl rfl rfl (val_assign rfl) ?_
    refine .nil (cj ?_)
    refine .seq ?_
    refine .plain rfl ?_
    refine .q rfl rfl rfl (val_move rfl) ?_
    refine .q rfl rfl rfl (val_lss rfl rfl rfl) ?_
    refine .q rfl rfl rfl (val_move rfl) ?_
    refine .case (t := 19) rfl (fun hs19 => ?_) (fun hs19 => ?_)
    · exfalso; have h9 := of_decide_eq_true hs19; omega
    · refine .q rfl rfl rfl (val_move rfl) ?_
      refine .q rfl rfl rfl (val_gtr rfl rfl rfl) ?_
      refine .q rfl rfl rfl (val_pick_f rfl rfl) ?_
      refine .nil (cj ?_)
      refine .cond rfl (fun hc1 => ?_) (fun hc1 => ?_)
      · exfalso; have h9 := of_decide_eq_true hc1; omega
      · refine .skip (cj ?_)
        refine .plain rfl ?_
        refine .q rfl rfl rfl (val_add rfl rfl (z := ((j + 1 : Nat) : Int)) (w64_of (by omega))) ?_
        refine .q rfl rfl rfl (val_move rfl) ?_
        refine .nil ?_
        intro act0 hact0; change Exists _
        refine ⟨(j + 1), Pick.kn (by repeat (first | exact Pick.nil | refine Pick.cons rfl ?_)) hact0, ⟨H1, hjl⟩, (by omega)⟩
  · refine .exit (cj ?_)
    refine .seq ?_
    refine .plain rfl ?_
    refine .q rfl rfl rfl (val_move rfl) ?_
    refine .q rfl rfl rfl (val_move rfl) ?_
    refine .q rfl rfl rfl (val_move rfl) ?_
    refine .q rfl rfl rfl (val_mk (.cons rfl (.cons rfl (.cons rfl .nil))) (mk_147_0_1_2 _ _ _)) ?_
    refine .box rfl rfl rfl rfl rfl H1 (fun w2 b2 H2 => ⟨fun _ => trivial, ?_⟩)
    refine .q rfl rfl rfl (val_assign rfl) ?_
    refine .q rfl rfl rfl (val_assign rfl) ?_
    refine .nil (cj ?_)
    refine .ret (fret (res2 rfl rfl rfl) ?_)
    exact hRR _ _ ⟨_, ⟨_, rfl, rfl, trivial⟩, H2.sub (.cons .here .nil)⟩
structure Gg where
  move : Mv
  t : Int
  left : Int
  cut : Bool
abbrev encG (g : Gg) : List Value := encM g.move ++ [i64 g.t, i64 g.left, .bool g.cut]
structure Rb where
  i : Int
  pose : Ps
  load : Int
  epoch : Int
  num : Int
  stopping : Bool
  delay : Int
abbrev encR (r : Rb) (bg bk : Nat) (u : Option Addr) : List Value := [i64 r.i, ptr bg, ptr bk, i64 r.pose.x, i64 r.pose.y, .bool r.pose.d, i64 r.load, i64 r.epoch, i64 r.num, .pointer u, .bool r.stopping, i64 r.delay]
structure RN where
  br : Nat
  bg : Nat
  bk : Nat
  bn : Nat
theorem robotNew_spec (c : Cf) (hc : c.Fit) (hm : MayOk c) (i : Nat) (p : Ps) (hp : c.robots[i]? = some p) : Sk.Spec Tryz.prog 11 #[.agg (encCf c).toArray, i64 (i : Int)] [cb c, cp c, cr c, cs c, binsA c, stepsA] []
    fun e F' => ∃ x : RN, e = .returned (.tuple #[ptr x.br, i64 0]) ∧ F' = [blk x.br (encR ⟨i, p, 0, 0, 0, false, 0⟩ x.bg x.bn none) 92, gfix c x.bg x.bk, kblk x.bk (KF c), blk x.bn (kin0 c.unit c.accel c.speed) 147] ∧ True := by
  have hil := (List.getElem?_eq_some_iff.1 hp).1
  refine Spec.of_code (vs := [_, _]) (k0 := [(0, _), (1, _)]) 47 Tryz.func11 rfl Tryz.ntmps11 rfl (.cons (.cons .nil)) fun w X RR hRR H => ?_
  refine .seq ?_
  refine .plain rfl ?_
  refine .box rfl rfl rfl rfl rfl H (fun w1 b1 H1 => ⟨fun _ => trivial, ?_⟩)
  refine .q rfl rfl rfl (val_assign rfl) ?_
  refine .q rfl rfl rfl (val_assign rfl) ?_
  refine .nil (cj ?_)
  refine .seq ?_
  refine .plain rfl ?_
  refine .qs rfl rfl rfl H1 (ld_w rfl ag_26 (.own .here) rfl) ?_
  refine .callx rfl rfl rfl en36 (.cons rfl .nil) (gnew_spec c hc hm) H1 .nil (.ro .here (.ro (.there .here) (.ro (.there (.there .here)) (.ro (.there (.there (.there .here))) (.ro (.there (.there (.there (.there .here)))) (.ro (.there (.there (.there (.there (.there .here))))) .nil)))))) (fun x2 w2 C2 H2 => ⟨fun _ => trivial, ?_⟩)
  refine .q rfl rfl rfl (val_move rfl) ?_
  refine .q rfl rfl rfl (val_extract rfl rfl) ?_
  refine .q rfl rfl rfl (val_extract rfl rfl) ?_
  refine .q rfl rfl rfl (val_assign rfl) ?_
  refine .q rfl rfl rfl (val_assign rfl) ?_
  refine .nil (cj ?_)
  refine .seq ?_
  refine .seq ?_
  refine .plain rfl ?_
  refine .q rfl rfl rfl (val_move rfl) ?_
  refine .q rfl rfl rfl (val_neq rfl rfl rfl) ?_
  refine .nil (cj ?_)
  refine .cond rfl (fun hc0 => ?_) (fun hc0 => ?_)
  · exfalso; simp at hc0
  · refine .skip (cj ?_)
    refine .seq ?_
    refine .seq ?_
    refine .plain rfl ?_
    refine .q rfl rfl rfl (val_move rfl) ?_
    refine .q rfl rfl rfl (val_lss rfl rfl rfl) ?_
    refine .q rfl rfl rfl (val_move rfl) ?_
    refine .case (t := 20) rfl (fun hs20 => ?_) (fun hs20 => ?_)
    · exfalso; simp at hs20; omega
    · refine .q rfl rfl rfl (val_move rfl) ?_
      refine .q rfl rfl rfl (val_fieldAddr rfl fa_26_5) ?_
      refine .qs rfl rfl rfl H2 (ld_b rfl ob_23 (.own (.there (.there .here))) rfl) ?_
      refine .q rfl rfl rfl (val_len Tryz.underlying23 rfl) ?_
      refine .q rfl rfl rfl (val_geq rfl rfl rfl) ?_
      refine .q rfl rfl rfl (val_pick_f rfl rfl) ?_
      refine .nil (cj ?_)
      refine .cond rfl (fun hc1 => ?_) (fun hc1 => ?_)
      · exfalso; simp at hc1; omega
      · refine .skip (cj ?_)
        refine .seq ?_
        obtain ⟨b, o, hA⟩ := Has.base (.ro (.there (.there .here))) H2 (nil_of_flat encP_len (by decide) hil)
        refine .plain rfl ?_
        refine .q rfl rfl rfl (val_fieldAddr rfl fa_26_7) ?_
        refine .qs rfl rfl rfl H2 (ld_b rfl ob_3 (.own (.there (.there .here))) rfl) ?_
        refine .q rfl rfl rfl (val_fieldAddr rfl fa_26_8) ?_
        refine .qs rfl rfl rfl H2 (ld_b rfl ob_3 (.own (.there (.there .here))) rfl) ?_
        refine .q rfl rfl rfl (val_fieldAddr rfl fa_26_9) ?_
        refine .qs rfl rfl rfl H2 (ld_b rfl ob_3 (.own (.there (.there .here))) rfl) ?_
        refine .callx rfl rfl rfl en37 (.cons rfl (.cons rfl (.cons rfl .nil))) (kinNew_spec _ _ _ hm.num.unit hm.num.accel hm.num.speed) H2 .nil .nil (fun b3 w3 C3 H3 => ⟨fun _ => trivial, ?_⟩)
        refine .q rfl rfl rfl (val_move rfl) ?_
        refine .q rfl rfl rfl (val_extract rfl rfl) ?_
        refine .q rfl rfl rfl (val_extract rfl rfl) ?_
        refine .q rfl rfl rfl (val_assign rfl) ?_
        refine .q rfl rfl rfl (val_assign rfl) ?_
        refine .nil (cj ?_)
        refine .seq ?_
        refine .plain rfl ?_
        refine .q rfl rfl rfl (val_move rfl) ?_
        refine .q rfl rfl rfl (val_move rfl) ?_
        refine .q rfl rfl rfl (val_move rfl) ?_
        refine .q rfl rfl rfl (val_fieldAddr rfl fa_26_5) ?_
        refine .qs rfl rfl rfl H3 (ld_b rfl ob_23 (.own (.there (.there (.there .here)))) rfl) ?_
        refine .q rfl rfl rfl (val_move rfl) ?_
        refine .q rfl rfl rfl (val_ix el_23 hA rfl rfl rfl hil) ?_
        refine .qs rfl rfl rfl H3 (ld_ela rfl ag_40 .base hA (.ro (.there (.there .here))) encP_len (by first | assumption | rfl)) ?_
        refine .q rfl rfl rfl (val_mk (.cons rfl (.cons rfl (.cons rfl (.cons rfl .nil)))) (mk_92_0_1_2_3 _ _ _ _ _ _)) ?_
        refine .box rfl rfl rfl rfl rfl H3 (fun w4 b4 H4 => ⟨fun _ => trivial, ?_⟩)
        refine .q rfl rfl rfl (val_assign rfl) ?_
        refine .q rfl rfl rfl (val_assign rfl) ?_
        refine .nil (cj ?_)
        refine .ret (fret (res2 rfl rfl rfl) ?_)
        exact hRR _ _ ⟨_, ⟨⟨_, _, _, _⟩, rfl, rfl, trivial⟩, H4.sub (.cons .here (.cons (.there .here) (.cons (.there .here) (.cons .here .nil))))⟩
end Go.Proofs.YtmbibkifbehgnaaGreatDoor
namespace Go.Proofs.YtmbibkifbehgnaaGreatDoor
open Go Sk
set_option linter.unusedVariables false
set_option linter.unusedSimpArgs false
theorem fa_92_0 (b o : Nat) (w : World) : (Instr.fieldAt 92 (.pointer (some ⟨b, o, none⟩)) 0).run Tryz.prog w = .ok (.pointer (some ⟨b, o + 0, none⟩)) w := by kernel_rfl
theorem fa_92_3 (b o : Nat) (w : World) : (Instr.fieldAt 92 (.pointer (some ⟨b, o, none⟩)) 3).run Tryz.prog w = .ok (.pointer (some ⟨b, o + 3, none⟩)) w := by kernel_rfl
theorem fa_92_4 (b o : Nat) (w : World) : (Instr.fieldAt 92 (.pointer (some ⟨b, o, none⟩)) 4).run Tryz.prog w = .ok (.pointer (some ⟨b, o + 6, none⟩)) w := by kernel_rfl
theorem fa_92_5 (b o : Nat) (w : World) : (Instr.fieldAt 92 (.pointer (some ⟨b, o, none⟩)) 5).run Tryz.prog w = .ok (.pointer (some ⟨b, o + 7, none⟩)) w := by kernel_rfl
theorem fa_92_6 (b o : Nat) (w : World) : (Instr.fieldAt 92 (.pointer (some ⟨b, o, none⟩)) 6).run Tryz.prog w = .ok (.pointer (some ⟨b, o + 8, none⟩)) w := by kernel_rfl
theorem fa_92_7 (b o : Nat) (w : World) : (Instr.fieldAt 92 (.pointer (some ⟨b, o, none⟩)) 7).run Tryz.prog w = .ok (.pointer (some ⟨b, o + 9, none⟩)) w := by kernel_rfl
theorem fa_92_8 (b o : Nat) (w : World) : (Instr.fieldAt 92 (.pointer (some ⟨b, o, none⟩)) 8).run Tryz.prog w = .ok (.pointer (some ⟨b, o + 10, none⟩)) w := by kernel_rfl
theorem fa_92_9 (b o : Nat) (w : World) : (Instr.fieldAt 92 (.pointer (some ⟨b, o, none⟩)) 9).run Tryz.prog w = .ok (.pointer (some ⟨b, o + 11, none⟩)) w := by kernel_rfl
theorem fa_156_0 (b o : Nat) (w : World) : (Instr.fieldAt 156 (.pointer (some ⟨b, o, none⟩)) 0).run Tryz.prog w = .ok (.pointer (some ⟨b, o + 0, none⟩)) w := by kernel_rfl
theorem fa_156_1 (b o : Nat) (w : World) : (Instr.fieldAt 156 (.pointer (some ⟨b, o, none⟩)) 1).run Tryz.prog w = .ok (.pointer (some ⟨b, o + 11, none⟩)) w := by kernel_rfl
theorem fa_156_2 (b o : Nat) (w : World) : (Instr.fieldAt 156 (.pointer (some ⟨b, o, none⟩)) 2).run Tryz.prog w = .ok (.pointer (some ⟨b, o + 12, none⟩)) w := by kernel_rfl
theorem bs_44_1_0 (x0_0_ : Int) (x0_1_ : Int) (x0_2_ : Int) (x0_3_ : Int) (x0_4_0_ : Int) (x0_4_1_ : Int) (x0_4_2_ : Int) (x0_4_3_0_0_ : Int) (x0_4_3_0_1_ : Int) (x0_4_3_1_ : Bool) (x0_4_4_0_0_ : Int) (x0_4_4_0_1_ : Int) (x0_4_4_1_ : Bool) (x0_4_5_ : Int) (x0_4_6_ : Int) (x0_5_0_0_ : Int) (x0_5_0_1_ : Int) (x0_5_1_ : Bool) (x0_6_ : Int) : Tryz.prog.builtSlice 44 1 [(0, .agg (List.toArray [.int .i64 x0_0_, .int .i64 x0_1_, .int .i64 x0_2_, .int .i64 x0_3_, .int .i64 x0_4_0_, .int .i64 x0_4_1_, .int .i64 x0_4_2_, .int .i64 x0_4_3_0_0_, .int .i64 x0_4_3_0_1_, .bool x0_4_3_1_, .int .i64 x0_4_4_0_0_, .int .i64 x0_4_4_0_1_, .bool x0_4_4_1_, .int .i64 x0_4_5_, .int .i64 x0_4_6_, .int .i64 x0_5_0_0_, .int .i64 x0_5_0_1_, .bool x0_5_1_, .int .i64 x0_6_]))] = some (List.toArray [.int .i64 x0_0_, .int .i64 x0_1_, .int .i64 x0_2_, .int .i64 x0_3_, .int .i64 x0_4_0_, .int .i64 x0_4_1_, .int .i64 x0_4_2_, .int .i64 x0_4_3_0_0_, .int .i64 x0_4_3_0_1_, .bool x0_4_3_1_, .int .i64 x0_4_4_0_0_, .int .i64 x0_4_4_0_1_, .bool x0_4_4_1_, .int .i64 x0_4_5_, .int .i64 x0_4_6_, .int .i64 x0_5_0_0_, .int .i64 x0_5_0_1_, .bool x0_5_1_, .int .i64 x0_6_]) := by kernel_rfl
theorem mk_42_  : Tryz.prog.built 42 [] = some (List.toArray [.int .i64 0, .int .i64 0, .int .i64 0, .int .i64 0, .int .i64 0, .bool false, .int .i64 0, .int .i64 0, .bool false, .int .i64 0, .int .i64 0]) := by kernel_rfl
theorem mk_44_0_1_2_3 (x0_ : Int) (x1_ : Int) (x2_ : Int) (x3_ : Int) : Tryz.prog.built 44 [(0, .int .i64 x0_), (1, .int .i64 x1_), (2, .int .i64 x2_), (3, .int .i64 x3_)] = some (List.toArray [.int .i64 x0_, .int .i64 x1_, .int .i64 x2_, .int .i64 x3_, .int .i64 0, .int .i64 0, .int .i64 0, .int .i64 0, .int .i64 0, .bool false, .int .i64 0, .int .i64 0, .bool false, .int .i64 0, .int .i64 0, .int .i64 0, .int .i64 0, .bool false, .int .i64 0]) := by kernel_rfl
theorem mk_44_0_1_2_5_6 (x0_ : Int) (x1_ : Int) (x2_ : Int) (x5_0_0_ : Int) (x5_0_1_ : Int) (x5_1_ : Bool) (x6_ : Int) : Tryz.prog.built 44 [(0, .int .i64 x0_), (1, .int .i64 x1_), (2, .int .i64 x2_), (5, .agg (List.toArray [.int .i64 x5_0_0_, .int .i64 x5_0_1_, .bool x5_1_])), (6, .int .i64 x6_)] = some (List.toArray [.int .i64 x0_, .int .i64 x1_, .int .i64 x2_, .int .i64 0, .int .i64 0, .int .i64 0, .int .i64 0, .int .i64 0, .int .i64 0, .bool false, .int .i64 0, .int .i64 0, .bool false, .int .i64 0, .int .i64 0, .int .i64 x5_0_0_, .int .i64 x5_0_1_, .bool x5_1_, .int .i64 x6_]) := by kernel_rfl
theorem ob_90  : oneB Tryz.prog 90 = true := by kernel_rfl
theorem sz_90  : (Tryz.prog.info? 90).map (·.size) = some 1 := by kernel_rfl
def mv0 : Mv := ⟨0, 0, 0, ⟨0, 0, false⟩, ⟨0, 0, false⟩, 0, 0⟩
def ps0 : Ps := ⟨0, 0, false⟩
abbrev rblk (br bg bn : Nat) (r : Rb) (u : Option Addr) : As := blk br (encR r bg bn u) 92
abbrev gblk2 (bu : Nat) (g : Gg) : As := blk bu (encG g) 156
theorem pose_spec (br bg bn : Nat) (r : Rb) (u : Option Addr) : Sk.Spec Tryz.prog 59 #[ptr br] [rblk br bg bn r u] [] fun e F' => e = .returned (.agg (encP r.pose).toArray) ∧ F' = [] := by
  refine Spec.of_code (vs := [_]) (k0 := [(0, _)]) 10 Tryz.func59 rfl Tryz.ntmps59 rfl (.cons .nil) fun w X RR hRR H => ?_
  refine .seq ?_
  refine .plain rfl ?_
  refine .alloc rfl rfl rfl ze_40 rfl H (fun w1 b1 H1 => ⟨fun _ => trivial, ?_⟩)
  refine .nil (cj ?_)
  refine .seq ?_
  refine .seq ?_
  refine .plain rfl ?_
  refine .q rfl rfl rfl (val_move rfl) ?_
  refine .q rfl rfl rfl (val_ptr_eq_nil Tryz.underlying30 rfl rfl rfl) ?_
  refine .nil (cj ?_)
  refine .cond_f rfl ?_
  refine .skip (cj ?_)
  refine .seq ?_
  refine .plain rfl ?_
  refine .q rfl rfl rfl (val_move rfl) ?_
  refine .q rfl rfl rfl (val_nilCheck rfl) ?_
  refine .q rfl rfl rfl (val_fieldAddr rfl fa_92_3) ?_
  refine .qs rfl rfl rfl H1 (ld_blks rfl ag_40 (.ro .here) (by repeat constructor)) ?_
  refine .store rfl rfl rfl rfl rfl sz_40 rfl H1 .here (by repeat constructor) (fun w2 H2 => ⟨fun _ => trivial, ?_⟩)
  refine .nil (cj ?_)
  refine .ret (fret (resc rfl rfl (lds_w ag_40 (.own .here) rfl H2)) ?_)
  refine hRR _ _ ⟨_, ⟨?_, rfl⟩, H2.sub .nil⟩
  rfl
theorem load_spec (br bg bn : Nat) (r : Rb) (u : Option Addr) : Sk.Spec Tryz.prog 60 #[ptr br] [rblk br bg bn r u] [] fun e F' => e = .returned (i64 r.load) ∧ F' = [] := by
  refine Spec.of_code (vs := [_]) (k0 := [(0, _)]) 9 Tryz.func60 rfl Tryz.ntmps60 rfl (.cons .nil) fun w X RR hRR H => ?_
  refine .seq ?_
  refine .plain rfl ?_
  refine .q rfl rfl rfl (val_assign rfl) ?_
  refine .nil (cj ?_)
  refine .seq ?_
  refine .seq ?_
  refine .plain rfl ?_
  refine .q rfl rfl rfl (val_move rfl) ?_
  refine .q rfl rfl rfl (val_ptr_eq_nil Tryz.underlying30 rfl rfl rfl) ?_
  refine .nil (cj ?_)
  refine .cond_f rfl ?_
  refine .skip (cj ?_)
  refine .seq ?_
  refine .plain rfl ?_
  refine .q rfl rfl rfl (val_move rfl) ?_
  refine .q rfl rfl rfl (val_nilCheck rfl) ?_
  refine .q rfl rfl rfl (val_fieldAddr rfl fa_92_4) ?_
  refine .qs rfl rfl rfl H (ld_b rfl ob_3 (.ro .here) rfl) ?_
  refine .q rfl rfl rfl (val_assign rfl) ?_
  refine .nil (cj ?_)
  refine .ret (fret (res1 rfl rfl) ?_)
  refine hRR _ _ ⟨_, ⟨?_, rfl⟩, H.sub .nil⟩
  rfl
theorem now0_spec (br bg bn : Nat) (r : Rb) : Sk.Spec Tryz.prog 55 #[ptr br] [rblk br bg bn r none] [] fun e F' => e = .returned (.tuple #[.agg (encM mv0).toArray, .bool false]) ∧ F' = [] := by
  refine Spec.of_code (vs := [_]) (k0 := [(0, _)]) 21 Tryz.func55 rfl Tryz.ntmps55 rfl (.cons .nil) fun w X RR hRR H => ?_
  refine .seq ?_
  refine .plain rfl ?_
  refine .alloc rfl rfl rfl ze_42 rfl H (fun w1 b1 H1 => ⟨fun _ => trivial, ?_⟩)
  refine .q rfl rfl rfl (val_assign rfl) ?_
  refine .nil (cj ?_)
  refine .seq ?_
  refine .seq ?_
  refine .plain rfl ?_
  refine .q rfl rfl rfl (val_move rfl) ?_
  refine .q rfl rfl rfl (val_ptr_eq_nil Tryz.underlying30 rfl rfl rfl) ?_
  refine .q rfl rfl rfl (val_move rfl) ?_
  refine .q rfl rfl rfl (val_move rfl) ?_
  refine .q rfl rfl rfl (val_nilCheck rfl) ?_
  refine .q rfl rfl rfl (val_fieldAddr rfl fa_92_7) ?_
  refine .qs rfl rfl rfl H1 (ld_b rfl ob_90 (.ro .here) rfl) ?_
  refine .q rfl rfl rfl (val_ptr_eq_nil Tryz.underlying90 rfl rfl rfl) ?_
  refine .q rfl rfl rfl (val_pick_f rfl rfl) ?_
  refine .nil (cj ?_)
  refine .cond_t rfl ?_
  refine .seq ?_
  refine .plain rfl ?_
  refine .q rfl rfl rfl (val_mk .nil mk_42_) ?_
  refine .store rfl rfl rfl rfl rfl sz_42 rfl H1 .here (by repeat constructor) (fun w2 H2 => ⟨fun _ => trivial, ?_⟩)
  refine .q rfl rfl rfl (val_assign rfl) ?_
  refine .nil (cj ?_)
  refine .ret (fret (resct rfl rfl (lds_w ag_42 (.own .here) rfl H2) rfl) ?_)
  refine hRR _ _ ⟨_, ⟨?_, rfl⟩, H2.sub .nil⟩
  rfl
theorem now1_spec (br bg bn bu : Nat) (r : Rb) (g : Gg) : Sk.Spec Tryz.prog 55 #[ptr br] [rblk br bg bn r (some ⟨bu, 0, none⟩), gblk2 bu g] [] fun e F' => e = .returned (.tuple #[.agg (encM g.move).toArray, .bool true]) ∧ F' = [] := by
  refine Spec.of_code (vs := [_]) (k0 := [(0, _)]) 21 Tryz.func55 rfl Tryz.ntmps55 rfl (.cons .nil) fun w X RR hRR H => ?_
  refine .seq ?_
  refine .plain rfl ?_
  refine .alloc rfl rfl rfl ze_42 rfl H (fun w1 b1 H1 => ⟨fun _ => trivial, ?_⟩)
  refine .q rfl rfl rfl (val_assign rfl) ?_
  refine .nil (cj ?_)
  refine .seq ?_
  refine .seq ?_
  refine .plain rfl ?_
  refine .q rfl rfl rfl (val_move rfl) ?_
  refine .q rfl rfl rfl (val_ptr_eq_nil Tryz.underlying30 rfl rfl rfl) ?_
  refine .q rfl rfl rfl (val_move rfl) ?_
  refine .q rfl rfl rfl (val_move rfl) ?_
  refine .q rfl rfl rfl (val_nilCheck rfl) ?_
  refine .q rfl rfl rfl (val_fieldAddr rfl fa_92_7) ?_
  refine .qs rfl rfl rfl H1 (ld_b rfl ob_90 (.ro .here) rfl) ?_
  refine .q rfl rfl rfl (val_ptr_eq_nil Tryz.underlying90 rfl rfl rfl) ?_
  refine .q rfl rfl rfl (val_pick_f rfl rfl) ?_
  refine .nil (cj ?_)
  refine .cond_f rfl ?_
  refine .skip (cj ?_)
  refine .seq ?_
  refine .plain rfl ?_
  refine .q rfl rfl rfl (val_move rfl) ?_
  refine .q rfl rfl rfl (val_nilCheck rfl) ?_
  refine .q rfl rfl rfl (val_fieldAddr rfl fa_92_7) ?_
  refine .qs rfl rfl rfl H1 (ld_b rfl ob_90 (.ro .here) rfl) ?_
  refine .q rfl rfl rfl (val_nilCheck rfl) ?_
  refine .q rfl rfl rfl (val_fieldAddr rfl fa_156_0) ?_
  refine .qs rfl rfl rfl H1 (ld_blks rfl ag_42 (.ro (.there .here)) (by repeat constructor)) ?_
  refine .store rfl rfl rfl rfl rfl sz_42 rfl H1 .here (by repeat constructor) (fun w2 H2 => ⟨fun _ => trivial, ?_⟩)
  refine .q rfl rfl rfl (val_assign rfl) ?_
  refine .nil (cj ?_)
  refine .ret (fret (resct rfl rfl (lds_w ag_42 (.own .here) rfl H2) rfl) ?_)
  refine hRR _ _ ⟨_, ⟨?_, rfl⟩, H2.sub .nil⟩
  rfl
def tellB (r : Rb) : Te := if r.num = 0 ∧ 0 < r.epoch then ⟨4, r.i, r.epoch, 0, mv0, r.pose, r.load⟩ else ⟨3, r.i, r.epoch, r.num, mv0, ps0, 0⟩
theorem tell1 {r : Rb} (h1 : (r.num == 0) = true) (h2 : decide (0 < r.epoch) = true) : tellB r = ⟨4, r.i, r.epoch, 0, mv0, r.pose, r.load⟩ := by
  simp at h1 h2; simp [tellB, h1, h2]
theorem tell2 {r : Rb} (h1 : (r.num == 0) = true) (h2 : decide (0 < r.epoch) = false) : tellB r = ⟨3, r.i, r.epoch, r.num, mv0, ps0, 0⟩ := by
  unfold tellB; rw [if_neg]; simp at h2; omega
theorem tell3 {r : Rb} (h1 : (r.num == 0) = false) : tellB r = ⟨3, r.i, r.epoch, r.num, mv0, ps0, 0⟩ := by
  unfold tellB; rw [if_neg]; simp at h1; omega
theorem tell_spec (br bg bn : Nat) (r : Rb) (u : Option Addr) : Sk.Spec Tryz.prog 58 #[ptr br] [rblk br bg bn r u] [] fun e F' => ∃ b : Nat, e = .returned (.slice (some ⟨b, 0, none⟩) 1 1) ∧ F' = [blk b (encT (tellB r)) 44] ∧ True := by
  refine Spec.of_code (vs := [_]) (k0 := [(0, _)]) 49 Tryz.func58 rfl Tryz.ntmps58 rfl (.cons .nil) fun w X RR hRR H => ?_
  refine .seq ?_
  refine .plain rfl ?_
  refine .q rfl rfl rfl (val_assign rfl) ?_
  refine .nil (cj ?_)
  refine .seq ?_
  refine .seq ?_
  refine .plain rfl ?_
  refine .q rfl rfl rfl (val_move rfl) ?_
  refine .q rfl rfl rfl (val_ptr_eq_nil Tryz.underlying30 rfl rfl rfl) ?_
  refine .nil (cj ?_)
  refine .cond_f rfl ?_
  refine .skip (cj ?_)
  refine .seq ?_
  refine .seq ?_
  refine .plain rfl ?_
  refine .q rfl rfl rfl (val_move rfl) ?_
  refine .q rfl rfl rfl (val_nilCheck rfl) ?_
  refine .q rfl rfl rfl (val_fieldAddr rfl fa_92_6) ?_
  refine .qs rfl rfl rfl H (ld_b rfl ob_3 (.ro .here) rfl) ?_
  refine .q rfl rfl rfl (val_eql rfl rfl rfl) ?_
  refine .q rfl rfl rfl (val_move rfl) ?_
  refine .case (t := 10) rfl (fun hs10 => ?_) (fun hs10 => ?_)
  · refine .q rfl rfl rfl (val_move rfl) ?_
    refine .q rfl rfl rfl (val_nilCheck rfl) ?_
    refine .q rfl rfl rfl (val_fieldAddr rfl fa_92_5) ?_
    refine .qs rfl rfl rfl H (ld_b rfl ob_3 (.ro .here) rfl) ?_
    refine .q rfl rfl rfl (val_gtr rfl rfl rfl) ?_
    refine .q rfl rfl rfl (val_pick_t rfl rfl) ?_
    refine .nil (cj ?_)
    refine .cond rfl (fun hc1 => ?_) (fun hc1 => ?_)
    · refine .seq ?_
      refine .drawS 19 (.cons (0, true) (.cons (1, true) (.cons (2, true) (.cons (3, true) (.cons (4, true) (.cons (5, true) (.cons (6, true) (.cons (7, true) (.cons (8, true) (.cons (9, true) (.cons (10, true) (.cons (11, true) (.cons (12, true) (.cons (13, true) (.cons (14, true) (.cons (15, true) (.cons (16, true) (.cons (17, false) (.cons (18, true) .nil))))))))))))))))))) mo (by kernel_rfl) H (fun _ _ _ _ _ h => h) (fun w1 H1 => ?_)
      refine .p rfl rfl rfl (val_move rfl) ?_
      refine .p rfl rfl rfl (val_nilCheck rfl) ?_
      refine .p rfl rfl rfl (val_fieldAddr rfl fa_92_0) ?_
      refine .ps rfl rfl rfl rfl (ld_b rfl ob_3 (.ro .here) rfl) ?_
      refine .p rfl rfl rfl (val_move rfl) ?_
      refine .p rfl rfl rfl (val_nilCheck rfl) ?_
      refine .p rfl rfl rfl (val_fieldAddr rfl fa_92_5) ?_
      refine .ps rfl rfl rfl rfl (ld_b rfl ob_3 (.ro .here) rfl) ?_
      refine .p rfl rfl rfl (val_move rfl) ?_
      refine .p rfl rfl rfl (val_nilCheck rfl) ?_
      refine .p rfl rfl rfl (val_fieldAddr rfl fa_92_3) ?_
      refine .ps rfl rfl rfl rfl (ld_blks rfl ag_40 (.ro .here) (by repeat constructor)) ?_
      refine .p rfl rfl rfl (val_move rfl) ?_
      refine .p rfl rfl rfl (val_nilCheck rfl) ?_
      refine .p rfl rfl rfl (val_fieldAddr rfl fa_92_4) ?_
      refine .ps rfl rfl rfl rfl (ld_b rfl ob_3 (.ro .here) rfl) ?_
      refine .p rfl rfl rfl (val_mk (.cons rfl (.cons rfl (.cons rfl (.cons rfl (.cons rfl .nil))))) (mk_44_0_1_2_5_6 _ _ _ _ _ _ _)) ?_
      refine .lit rfl rfl rfl Tryz.underlying70 (.cons rfl .nil) (bs_44_1_0 _ _ _ _ _ _ _ _ _ _ _ _ _ _ _ _ _ _ _) H1 (fun w2 b2 H2 => ⟨fun _ => (H2.sub .nil), ?_⟩)
      refine .p rfl rfl rfl (val_assign rfl) ?_
      refine .nil (cj ?_)
      refine .ret (fret (res1 rfl rfl) ?_)
      first | (rw [tell1 hs10 hc1] at hRR; exact hRR _ _ ⟨_, ⟨_, rfl, rfl, trivial⟩, H2.sub (.cons .here .nil)⟩) | (rw [tell2 hs10 hc1] at hRR; exact hRR _ _ ⟨_, ⟨_, rfl, rfl, trivial⟩, H2.sub (.cons .here .nil)⟩) | (rw [tell3 hs10] at hRR; exact hRR _ _ ⟨_, ⟨_, rfl, rfl, trivial⟩, H2.sub (.cons .here .nil)⟩)
    · refine .skip (cj ?_)
      refine .seq ?_
      refine .drawS 15 (.cons (0, true) (.cons (1, true) (.cons (2, true) (.cons (3, true) (.cons (4, true) (.cons (5, true) (.cons (6, true) (.cons (7, true) (.cons (8, true) (.cons (9, true) (.cons (10, true) (.cons (11, true) (.cons (12, true) (.cons (13, false) (.cons (14, true) .nil))))))))))))))) mo (by kernel_rfl) H (fun _ _ _ _ _ h => h) (fun w3 H3 => ?_)
      refine .p rfl rfl rfl (val_move rfl) ?_
      refine .p rfl rfl rfl (val_nilCheck rfl) ?_
      refine .p rfl rfl rfl (val_fieldAddr rfl fa_92_0) ?_
      refine .ps rfl rfl rfl rfl (ld_b rfl ob_3 (.ro .here) rfl) ?_
      refine .p rfl rfl rfl (val_move rfl) ?_
      refine .p rfl rfl rfl (val_nilCheck rfl) ?_
      refine .p rfl rfl rfl (val_fieldAddr rfl fa_92_5) ?_
      refine .ps rfl rfl rfl rfl (ld_b rfl ob_3 (.ro .here) rfl) ?_
      refine .p rfl rfl rfl (val_move rfl) ?_
      refine .p rfl rfl rfl (val_nilCheck rfl) ?_
      refine .p rfl rfl rfl (val_fieldAddr rfl fa_92_6) ?_
      refine .ps rfl rfl rfl rfl (ld_b rfl ob_3 (.ro .here) rfl) ?_
      refine .p rfl rfl rfl (val_mk (.cons rfl (.cons rfl (.cons rfl (.cons rfl .nil)))) (mk_44_0_1_2_3 _ _ _ _)) ?_
      refine .lit rfl rfl rfl Tryz.underlying70 (.cons rfl .nil) (bs_44_1_0 _ _ _ _ _ _ _ _ _ _ _ _ _ _ _ _ _ _ _) H3 (fun w4 b4 H4 => ⟨fun _ => (H4.sub .nil), ?_⟩)
      refine .p rfl rfl rfl (val_assign rfl) ?_
      refine .nil (cj ?_)
      refine .ret (fret (res1 rfl rfl) ?_)
      first | (rw [tell1 hs10 hc1] at hRR; exact hRR _ _ ⟨_, ⟨_, rfl, rfl, trivial⟩, H4.sub (.cons .here .nil)⟩) | (rw [tell2 hs10 hc1] at hRR; exact hRR _ _ ⟨_, ⟨_, rfl, rfl, trivial⟩, H4.sub (.cons .here .nil)⟩) | (rw [tell3 hs10] at hRR; exact hRR _ _ ⟨_, ⟨_, rfl, rfl, trivial⟩, H4.sub (.cons .here .nil)⟩)
  · refine .no rfl rfl rfl ?_
    refine .no rfl rfl rfl ?_
    refine .no rfl rfl rfl ?_
    refine .no rfl rfl rfl ?_
    refine .no rfl rfl rfl ?_
    refine .q rfl rfl rfl (val_pick_f rfl rfl) ?_
    refine .nil (cj ?_)
    refine .cond_f rfl ?_
    refine .skip (cj ?_)
    refine .seq ?_
    refine .drawS 15 (.cons (0, true) (.cons (1, true) (.cons (2, true) (.cons (3, true) (.cons (4, true) (.cons (5, true) (.cons (6, true) (.cons (7, true) (.cons (8, true) (.cons (9, true) (.cons (10, true) (.cons (11, true) (.cons (12, true) (.cons (13, false) (.cons (14, true) .nil))))))))))))))) mo (by kernel_rfl) H (fun _ _ _ _ _ h => h) (fun w5 H5 => ?_)
    refine .p rfl rfl rfl (val_move rfl) ?_
    refine .p rfl rfl rfl (val_nilCheck rfl) ?_
    refine .p rfl rfl rfl (val_fieldAddr rfl fa_92_0) ?_
    refine .ps rfl rfl rfl rfl (ld_b rfl ob_3 (.ro .here) rfl) ?_
    refine .p rfl rfl rfl (val_move rfl) ?_
    refine .p rfl rfl rfl (val_nilCheck rfl) ?_
    refine .p rfl rfl rfl (val_fieldAddr rfl fa_92_5) ?_
    refine .ps rfl rfl rfl rfl (ld_b rfl ob_3 (.ro .here) rfl) ?_
    refine .p rfl rfl rfl (val_move rfl) ?_
    refine .p rfl rfl rfl (val_nilCheck rfl) ?_
    refine .p rfl rfl rfl (val_fieldAddr rfl fa_92_6) ?_
    refine .ps rfl rfl rfl rfl (ld_b rfl ob_3 (.ro .here) rfl) ?_
    refine .p rfl rfl rfl (val_mk (.cons rfl (.cons rfl (.cons rfl (.cons rfl .nil)))) (mk_44_0_1_2_3 _ _ _ _)) ?_
    refine .lit rfl rfl rfl Tryz.underlying70 (.cons rfl .nil) (bs_44_1_0 _ _ _ _ _ _ _ _ _ _ _ _ _ _ _ _ _ _ _) H5 (fun w6 b6 H6 => ⟨fun _ => (H6.sub .nil), ?_⟩)
    refine .p rfl rfl rfl (val_assign rfl) ?_
    refine .nil (cj ?_)
    refine .ret (fret (res1 rfl rfl) ?_)
    first | (rw [tell1 hs10 hc1] at hRR; exact hRR _ _ ⟨_, ⟨_, rfl, rfl, trivial⟩, H6.sub (.cons .here .nil)⟩) | (rw [tell2 hs10 hc1] at hRR; exact hRR _ _ ⟨_, ⟨_, rfl, rfl, trivial⟩, H6.sub (.cons .here .nil)⟩) | (rw [tell3 hs10] at hRR; exact hRR _ _ ⟨_, ⟨_, rfl, rfl, trivial⟩, H6.sub (.cons .here .nil)⟩)
structure TR where
  m : Mv
  how : Int
  r : Rb
  g : Option Gg
def tickB (r : Rb) (g : Gg) : TR :=
  if 0 < r.delay then ⟨mv0, 0, { r with delay := w64 (r.delay - 1) }, some g⟩
  else if 0 < w64 (g.left - 1) then ⟨mv0, 0, r, some { g with t := w64 (g.t + 1), left := w64 (g.left - 1) }⟩
  else if r.stopping then ⟨g.move, 2, { r with pose := g.move.to, delay := 0, stopping := false }, none⟩
  else ⟨g.move, 1, { r with pose := g.move.to, delay := 0, num := w64 (r.num + 1) }, none⟩
/-- a robot's memory -/
def robF (br bg bn bu : Nat) (r : Rb) : Option Gg → List As
  | none => [rblk br bg bn r none]
  | some g => [rblk br bg bn r (some ⟨bu, 0, none⟩), gblk2 bu g]
theorem tick_a {r : Rb} {g : Gg} (h : decide (0 < r.delay) = true) : tickB r g = ⟨mv0, 0, { r with delay := w64 (r.delay - 1) }, some g⟩ := by
  unfold tickB; rw [if_pos (of_decide_eq_true h)]
theorem tick_b {r : Rb} {g : Gg} (h : decide (0 < r.delay) = false) (h2 : decide (0 < w64 (g.left - 1)) = true) : tickB r g = ⟨mv0, 0, r, some { g with t := w64 (g.t + 1), left := w64 (g.left - 1) }⟩ := by
  unfold tickB; rw [if_neg (of_decide_eq_false h), if_pos (of_decide_eq_true h2)]
theorem tick_c {r : Rb} {g : Gg} (h : decide (0 < r.delay) = false) (h2 : decide (0 < w64 (g.left - 1)) = false) (h3 : r.stopping = true) : tickB r g = ⟨g.move, 2, { r with pose := g.move.to, delay := 0, stopping := false }, none⟩ := by
  unfold tickB; rw [if_neg (of_decide_eq_false h), if_neg (of_decide_eq_false h2), if_pos h3]
theorem tick_d {r : Rb} {g : Gg} (h : decide (0 < r.delay) = false) (h2 : decide (0 < w64 (g.left - 1)) = false) (h3 : r.stopping = false) : tickB r g = ⟨g.move, 1, { r with pose := g.move.to, delay := 0, num := w64 (r.num + 1) }, none⟩ := by
  unfold tickB; rw [if_neg (of_decide_eq_false h), if_neg (of_decide_eq_false h2), if_neg (by rw [h3]; simp)]
theorem tick0_spec (br bg bn : Nat) (r : Rb) : Sk.Spec Tryz.prog 41 #[ptr br] [] [rblk br bg bn r none] fun e F' => e = .returned (.tuple #[.agg (encM mv0).toArray, i64 0]) ∧ F' = [rblk br bg bn r none] := by
  refine Spec.of_code (vs := [_]) (k0 := [(0, _)]) 88 Tryz.func41 rfl Tryz.ntmps41 rfl (.cons .nil) fun w X RR hRR H => ?_
  refine .seq ?_
  refine .plain rfl ?_
  refine .alloc rfl rfl rfl ze_42 rfl H (fun w1 b1 H1 => ⟨fun _ => trivial, ?_⟩)
  refine .q rfl rfl rfl (val_assign rfl) ?_
  refine .nil (cj ?_)
  refine .seq ?_
  refine .seq ?_
  refine .plain rfl ?_
  refine .q rfl rfl rfl (val_move rfl) ?_
  refine .q rfl rfl rfl (val_ptr_eq_nil Tryz.underlying30 rfl rfl rfl) ?_
  refine .q rfl rfl rfl (val_move rfl) ?_
  refine .q rfl rfl rfl (val_move rfl) ?_
  refine .q rfl rfl rfl (val_nilCheck rfl) ?_
  refine .q rfl rfl rfl (val_fieldAddr rfl fa_92_7) ?_
  refine .qs rfl rfl rfl H1 (ld_b rfl ob_90 (.own (.there .here)) rfl) ?_
  refine .q rfl rfl rfl (val_ptr_eq_nil Tryz.underlying90 rfl rfl rfl) ?_
  refine .q rfl rfl rfl (val_pick_f rfl rfl) ?_
  refine .nil (cj ?_)
  refine .cond_t rfl ?_
  refine .seq ?_
  refine .plain rfl ?_
  refine .q rfl rfl rfl (val_mk .nil mk_42_) ?_
  refine .store rfl rfl rfl rfl rfl sz_42 rfl H1 .here (by repeat constructor) (fun w2 H2 => ⟨fun _ => trivial, ?_⟩)
  refine .q rfl rfl rfl (val_assign rfl) ?_
  refine .nil (cj ?_)
  refine .ret (fret (resct rfl rfl (lds_w ag_42 (.own .here) rfl H2) rfl) ?_)
  refine hRR _ _ ⟨_, ⟨?_, rfl⟩, H2.sub (.cons (.there .here) .nil)⟩
  rfl
theorem tick1_spec (br bg bn bu : Nat) (r : Rb) (g : Gg) : Sk.Spec Tryz.prog 41 #[ptr br] [] [rblk br bg bn r (some ⟨bu, 0, none⟩), gblk2 bu g] fun e F' => e = .returned (.tuple #[.agg (encM (tickB r g).m).toArray, i64 (tickB r g).how]) ∧ F' = robF br bg bn bu (tickB r g).r (tickB r g).g := by
  refine Spec.of_code (vs := [_]) (k0 := [(0, _)]) 88 Tryz.func41 rfl Tryz.ntmps41 rfl (.cons .nil) fun w X RR hRR H => ?_
  refine .seq ?_
  refine .plain rfl ?_
  refine .alloc rfl rfl rfl ze_42 rfl H (fun w1 b1 H1 => ⟨fun _ => trivial, ?_⟩)
  refine .q rfl rfl rfl (val_assign rfl) ?_
  refine .nil (cj ?_)
  refine .seq ?_
  refine .seq ?_
  refine .plain rfl ?_
  refine .q rfl rfl rfl (val_move rfl) ?_
  refine .q rfl rfl rfl (val_ptr_eq_nil Tryz.underlying30 rfl rfl rfl) ?_
  refine .q rfl rfl rfl (val_move rfl) ?_
  refine .q rfl rfl rfl (val_move rfl) ?_
  refine .q rfl rfl rfl (val_nilCheck rfl) ?_
  refine .q rfl rfl rfl (val_fieldAddr rfl fa_92_7) ?_
  refine .qs rfl rfl rfl H1 (ld_b rfl ob_90 (.own (.there .here)) rfl) ?_
  refine .q rfl rfl rfl (val_ptr_eq_nil Tryz.underlying90 rfl rfl rfl) ?_
  refine .q rfl rfl rfl (val_pick_f rfl rfl) ?_
  refine .nil (cj ?_)
  refine .cond_f rfl ?_
  refine .skip (cj ?_)
  refine .seq ?_
  refine .seq ?_
  refine .plain rfl ?_
  refine .q rfl rfl rfl (val_move rfl) ?_
  refine .q rfl rfl rfl (val_nilCheck rfl) ?_
  refine .q rfl rfl rfl (val_fieldAddr rfl fa_92_9) ?_
  refine .qs rfl rfl rfl H1 (ld_b rfl ob_3 (.own (.there .here)) rfl) ?_
  refine .q rfl rfl rfl (val_gtr rfl rfl rfl) ?_
  refine .nil (cj ?_)
  refine .cond rfl (fun hc1 => ?_) (fun hc1 => ?_)
  · refine .seq ?_
    refine .plain rfl ?_
    refine .q rfl rfl rfl (val_move rfl) ?_
    refine .q rfl rfl rfl (val_nilCheck rfl) ?_
    refine .q rfl rfl rfl (val_fieldAddr rfl fa_92_9) ?_
    refine .qs rfl rfl rfl H1 (ld_b rfl ob_3 (.own (.there .here)) rfl) ?_
    refine .q rfl rfl rfl (val_sub rfl rfl rfl) ?_
    refine .q rfl rfl rfl (val_nilCheck rfl) ?_
    refine .q rfl rfl rfl (val_fieldAddr rfl fa_92_9) ?_
    refine .store rfl rfl rfl rfl rfl sz_3 rfl H1 (.there .here) (by repeat constructor) (fun w2 H2 => ⟨fun _ => trivial, ?_⟩)
    refine .nil (cj ?_)
    refine .seq ?_
    refine .plain rfl ?_
    refine .q rfl rfl rfl (val_mk .nil mk_42_) ?_
    refine .store rfl rfl rfl rfl rfl sz_42 rfl H2 (.there .here) (by repeat constructor) (fun w3 H3 => ⟨fun _ => trivial, ?_⟩)
    refine .q rfl rfl rfl (val_assign rfl) ?_
    refine .nil (cj ?_)
    refine .ret (fret (resct rfl rfl (lds_w ag_42 (.own .here) rfl H3) rfl) ?_)
    first | (rw [tick_a hc1] at hRR; exact hRR _ _ ⟨_, ⟨rfl, rfl⟩, H3.sub (.cons (.there .here) (.cons (.there .here) .nil))⟩) | (rw [tick_b hc1 hc2] at hRR; exact hRR _ _ ⟨_, ⟨rfl, rfl⟩, H3.sub (.cons (.there .here) (.cons (.there .here) .nil))⟩) | (rw [tick_c hc1 hc2 hc3] at hRR; exact hRR _ _ ⟨_, ⟨rfl, rfl⟩, H3.sub (.cons (.there .here) .nil)⟩) | (rw [tick_d hc1 hc2 hc3] at hRR; exact hRR _ _ ⟨_, ⟨rfl, rfl⟩, H3.sub (.cons (.there .here) .nil)⟩)
  · refine .skip (cj ?_)
    refine .seq ?_
    refine .plain rfl ?_
    refine .q rfl rfl rfl (val_move rfl) ?_
    refine .q rfl rfl rfl (val_nilCheck rfl) ?_
    refine .q rfl rfl rfl (val_fieldAddr rfl fa_92_7) ?_
    refine .qs rfl rfl rfl H1 (ld_b rfl ob_90 (.own (.there .here)) rfl) ?_
    refine .q rfl rfl rfl (val_assign rfl) ?_
    refine .nil (cj ?_)
    refine .seq ?_
    refine .plain rfl ?_
    refine .q rfl rfl rfl (val_move rfl) ?_
    refine .q rfl rfl rfl (val_nilCheck rfl) ?_
    refine .q rfl rfl rfl (val_fieldAddr rfl fa_156_1) ?_
    refine .qs rfl rfl rfl H1 (ld_b rfl ob_3 (.own (.there (.there .here))) rfl) ?_
    refine .q rfl rfl rfl (val_add rfl rfl rfl) ?_
    refine .q rfl rfl rfl (val_nilCheck rfl) ?_
    refine .q rfl rfl rfl (val_fieldAddr rfl fa_156_1) ?_
    refine .store rfl rfl rfl rfl rfl sz_3 rfl H1 (.there (.there .here)) (by repeat constructor) (fun w4 H4 => ⟨fun _ => trivial, ?_⟩)
    refine .nil (cj ?_)
    refine .seq ?_
    refine .plain rfl ?_
    refine .q rfl rfl rfl (val_move rfl) ?_
    refine .q rfl rfl rfl (val_nilCheck rfl) ?_
    refine .q rfl rfl rfl (val_fieldAddr rfl fa_156_2) ?_
    refine .qs rfl rfl rfl H4 (ld_b rfl ob_3 (.own .here) rfl) ?_
    refine .q rfl rfl rfl (val_sub rfl rfl rfl) ?_
    refine .q rfl rfl rfl (val_nilCheck rfl) ?_
    refine .q rfl rfl rfl (val_fieldAddr rfl fa_156_2) ?_
    refine .store rfl rfl rfl rfl rfl sz_3 rfl H4 .here (by repeat constructor) (fun w5 H5 => ⟨fun _ => trivial, ?_⟩)
    refine .nil (cj ?_)
    refine .seq ?_
    refine .seq ?_
    refine .plain rfl ?_
    refine .q rfl rfl rfl (val_move rfl) ?_
    refine .q rfl rfl rfl (val_nilCheck rfl) ?_
    refine .q rfl rfl rfl (val_fieldAddr rfl fa_156_2) ?_
    refine .qs rfl rfl rfl H5 (ld_b rfl ob_3 (.own .here) rfl) ?_
    refine .q rfl rfl rfl (val_gtr rfl rfl rfl) ?_
    refine .nil (cj ?_)
    refine .cond rfl (fun hc2 => ?_) (fun hc2 => ?_)
    · refine .seq ?_
      refine .plain rfl ?_
      refine .q rfl rfl rfl (val_mk .nil mk_42_) ?_
      refine .store rfl rfl rfl rfl rfl sz_42 rfl H5 (.there .here) (by repeat constructor) (fun w6 H6 => ⟨fun _ => trivial, ?_⟩)
      refine .q rfl rfl rfl (val_assign rfl) ?_
      refine .nil (cj ?_)
      refine .ret (fret (resct rfl rfl (lds_w ag_42 (.own .here) rfl H6) rfl) ?_)
      first | (rw [tick_a hc1] at hRR; exact hRR _ _ ⟨_, ⟨rfl, rfl⟩, H6.sub (.cons (.there (.there .here)) (.cons (.there .here) .nil))⟩) | (rw [tick_b hc1 hc2] at hRR; exact hRR _ _ ⟨_, ⟨rfl, rfl⟩, H6.sub (.cons (.there (.there .here)) (.cons (.there .here) .nil))⟩) | (rw [tick_c hc1 hc2 hc3] at hRR; exact hRR _ _ ⟨_, ⟨rfl, rfl⟩, H6.sub (.cons (.there (.there .here)) .nil)⟩) | (rw [tick_d hc1 hc2 hc3] at hRR; exact hRR _ _ ⟨_, ⟨rfl, rfl⟩, H6.sub (.cons (.there (.there .here)) .nil)⟩)
    · refine .skip (cj ?_)
      refine .seq ?_
      refine .plain rfl ?_
      refine .q rfl rfl rfl (val_move rfl) ?_
      refine .q rfl rfl rfl (val_move rfl) ?_
      refine .q rfl rfl rfl (val_nilCheck rfl) ?_
      refine .q rfl rfl rfl (val_fieldAddr rfl fa_156_0) ?_
      refine .q rfl rfl rfl (val_fieldAddr rfl fa_42_4) ?_
      refine .qs rfl rfl rfl H5 (ld_blks rfl ag_40 (.own .here) (by repeat constructor)) ?_
      refine .q rfl rfl rfl (val_nilCheck rfl) ?_
      refine .q rfl rfl rfl (val_fieldAddr rfl fa_92_3) ?_
      refine .store rfl rfl rfl rfl rfl sz_40 rfl H5 (.there (.there .here)) (by repeat constructor) (fun w7 H7 => ⟨fun _ => trivial, ?_⟩)
      refine .nil (cj ?_)
      refine .seq ?_
      refine .plain rfl ?_
      refine .q rfl rfl rfl (val_move rfl) ?_
      refine .q rfl rfl rfl (val_nilCheck rfl) ?_
      refine .q rfl rfl rfl (val_fieldAddr rfl fa_92_7) ?_
      refine .store rfl rfl rfl rfl rfl sz_90 rfl H7 .here (by repeat constructor) (fun w8 H8 => ⟨fun _ => trivial, ?_⟩)
      refine .nil (cj ?_)
      refine .seq ?_
      refine .plain rfl ?_
      refine .q rfl rfl rfl (val_move rfl) ?_
      refine .q rfl rfl rfl (val_nilCheck rfl) ?_
      refine .q rfl rfl rfl (val_fieldAddr rfl fa_92_9) ?_
      refine .store rfl rfl rfl rfl rfl sz_3 rfl H8 .here (by repeat constructor) (fun w9 H9 => ⟨fun _ => trivial, ?_⟩)
      refine .nil (cj ?_)
      refine .seq ?_
      refine .seq ?_
      refine .plain rfl ?_
      refine .q rfl rfl rfl (val_move rfl) ?_
      refine .q rfl rfl rfl (val_nilCheck rfl) ?_
      refine .q rfl rfl rfl (val_fieldAddr rfl fa_92_8) ?_
      refine .qs rfl rfl rfl H9 (ld_b rfl ob_4 (.own .here) rfl) ?_
      refine .nil (cj ?_)
      refine .cond rfl (fun hc3 => ?_) (fun hc3 => ?_)
      · refine .seq ?_
        refine .plain rfl ?_
        refine .q rfl rfl rfl (val_move rfl) ?_
        refine .q rfl rfl rfl (val_nilCheck rfl) ?_
        refine .q rfl rfl rfl (val_fieldAddr rfl fa_92_8) ?_
        refine .store rfl rfl rfl rfl rfl sz_4 rfl H9 .here (by repeat constructor) (fun w10 H10 => ⟨fun _ => trivial, ?_⟩)
        refine .nil (cj ?_)
        refine .seq ?_
        refine .plain rfl ?_
        refine .q rfl rfl rfl (val_move rfl) ?_
        refine .q rfl rfl rfl (val_nilCheck rfl) ?_
        refine .q rfl rfl rfl (val_fieldAddr rfl fa_156_0) ?_
        refine .qs rfl rfl rfl H10 (ld_blks rfl ag_42 (.own (.there .here)) (by repeat constructor)) ?_
        refine .store rfl rfl rfl rfl rfl sz_42 rfl H10 (.there (.there .here)) (by repeat constructor) (fun w11 H11 => ⟨fun _ => trivial, ?_⟩)
        refine .q rfl rfl rfl (val_assign rfl) ?_
        refine .nil (cj ?_)
        refine .ret (fret (resct rfl rfl (lds_w ag_42 (.own .here) rfl H11) rfl) ?_)
        first | (rw [tick_a hc1] at hRR; exact hRR _ _ ⟨_, ⟨rfl, rfl⟩, H11.sub (.cons (.there .here) (.cons (.there .here) .nil))⟩) | (rw [tick_b hc1 hc2] at hRR; exact hRR _ _ ⟨_, ⟨rfl, rfl⟩, H11.sub (.cons (.there .here) (.cons (.there .here) .nil))⟩) | (rw [tick_c hc1 hc2 hc3] at hRR; exact hRR _ _ ⟨_, ⟨rfl, rfl⟩, H11.sub (.cons (.there .here) .nil)⟩) | (rw [tick_d hc1 hc2 hc3] at hRR; exact hRR _ _ ⟨_, ⟨rfl, rfl⟩, H11.sub (.cons (.there .here) .nil)⟩)
      · refine .skip (cj ?_)
        refine .seq ?_
        refine .plain rfl ?_
        refine .q rfl rfl rfl (val_move rfl) ?_
        refine .q rfl rfl rfl (val_nilCheck rfl) ?_
        refine .q rfl rfl rfl (val_fieldAddr rfl fa_92_6) ?_
        refine .qs rfl rfl rfl H9 (ld_b rfl ob_3 (.own .here) rfl) ?_
        refine .q rfl rfl rfl (val_add rfl rfl rfl) ?_
        refine .q rfl rfl rfl (val_nilCheck rfl) ?_
        refine .q rfl rfl rfl (val_fieldAddr rfl fa_92_6) ?_
        refine .store rfl rfl rfl rfl rfl sz_3 rfl H9 .here (by repeat constructor) (fun w12 H12 => ⟨fun _ => trivial, ?_⟩)
        refine .nil (cj ?_)
        refine .seq ?_
        refine .plain rfl ?_
        refine .q rfl rfl rfl (val_move rfl) ?_
        refine .q rfl rfl rfl (val_nilCheck rfl) ?_
        refine .q rfl rfl rfl (val_fieldAddr rfl fa_156_0) ?_
        refine .qs rfl rfl rfl H12 (ld_blks rfl ag_42 (.own (.there .here)) (by repeat constructor)) ?_
        refine .store rfl rfl rfl rfl rfl sz_42 rfl H12 (.there (.there .here)) (by repeat constructor) (fun w13 H13 => ⟨fun _ => trivial, ?_⟩)
        refine .q rfl rfl rfl (val_assign rfl) ?_
        refine .nil (cj ?_)
        refine .ret (fret (resct rfl rfl (lds_w ag_42 (.own .here) rfl H13) rfl) ?_)
        first | (rw [tick_a hc1] at hRR; exact hRR _ _ ⟨_, ⟨rfl, rfl⟩, H13.sub (.cons (.there .here) (.cons (.there .here) .nil))⟩) | (rw [tick_b hc1 hc2] at hRR; exact hRR _ _ ⟨_, ⟨rfl, rfl⟩, H13.sub (.cons (.there .here) (.cons (.there .here) .nil))⟩) | (rw [tick_c hc1 hc2 hc3] at hRR; exact hRR _ _ ⟨_, ⟨rfl, rfl⟩, H13.sub (.cons (.there .here) .nil)⟩) | (rw [tick_d hc1 hc2 hc3] at hRR; exact hRR _ _ ⟨_, ⟨rfl, rfl⟩, H13.sub (.cons (.there .here) .nil)⟩)
end Go.Proofs.YtmbibkifbehgnaaGreatDoor
namespace Go.Proofs.YtmbibkifbehgnaaGreatDoor
open Go Sk
set_option linter.unusedVariables false
set_option linter.unusedSimpArgs false
theorem legalK_spec (c : Cf) (hm : MayOk c) (bg bk : Nat) (m : Mv) : Sk.Spec Tryz.prog 95 #[ptr bg, .agg (encM m).toArray] [gfix c bg bk, kblk bk (KF c), stepsA] [] fun e F' => e = .returned (.bool (legalR c m)) ∧ F' = [] := by
  have h := legal_spec bg (some ⟨bk, 0, none⟩) (area c) ⟨c.w, c.h, KF c⟩ ((KF_rel hm).ok hm.num) m
  rw [legal_eq (KF_rel hm) hm.num] at h
  have e : gblk bg (some ⟨bk, 0, none⟩) (area c) ⟨c.w, c.h, KF c⟩ = gfix c bg bk := by simp only [gblk, gfix, (KF_rel hm).len]
  rw [e] at h
  exact Spec.tell h (.cons .here (Tells.refl _) (.cons (.there .here) Tells.blk (.cons (.there (.there .here)) (Tells.refl _) .nil)))
theorem carry_spec (br bg bn : Nat) (r : Rb) (u : Option Addr) (n : Int) : Sk.Spec Tryz.prog 45 #[ptr br, i64 n] [] [rblk br bg bn r u] fun e F' => e = .returned (.tuple #[]) ∧ F' = [rblk br bg bn { r with load := n } u] := by
  refine Spec.of_code (vs := [_, _]) (k0 := [(0, _), (1, _)]) 10 Tryz.func45 rfl Tryz.ntmps45 rfl (.cons (.cons .nil)) fun w X RR hRR H => ?_
  refine .seq ?_
  refine .plain rfl ?_
  refine .q rfl rfl rfl (val_move rfl) ?_
  refine .q rfl rfl rfl (val_ptr_ne_nil Tryz.underlying30 rfl rfl rfl) ?_
  refine .nil (cj ?_)
  refine .cond_t rfl ?_
  refine .plain rfl ?_
  refine .q rfl rfl rfl (val_move rfl) ?_
  refine .q rfl rfl rfl (val_move rfl) ?_
  refine .q rfl rfl rfl (val_nilCheck rfl) ?_
  refine .q rfl rfl rfl (val_fieldAddr rfl fa_92_4) ?_
  refine .store rfl rfl rfl rfl rfl sz_3 rfl H .here (by repeat constructor) (fun w1 H1 => ⟨fun _ => trivial, ?_⟩)
  refine .nil (fend (res0 rfl) ?_)
  exact hRR _ _ ⟨_, ⟨rfl, rfl⟩, H1.sub (.cons .here .nil)⟩
/-- telegrams that are told: none, or one -/
inductive TeV : Option Te → Value → List As → Prop where
  | none : TeV none (.slice none 0 0) []
  | some (b : Nat) (t : Te) : TeV (some t) (.slice (some ⟨b, 0, none⟩) 1 1) [blk b (encT t) 44]
structure HX where
  v : Value
  fx : List As
  bu : Nat
structure GoR where
  tele : Option Te
  how : Int
  g : Option Gg
def goB (c : Cf) (r : Rb) (g : Option Gg) (t : Te) : GoR :=
  if t.epoch < r.epoch then ⟨none, 2, g⟩
  else if r.epoch < t.epoch ∨ g.isSome = true then ⟨none, 0, g⟩
  else if 0 < r.num ∧ t.num = r.num then ⟨some (tellB r), 0, g⟩
  else if t.num = w64 (r.num + 1) ∧ t.move.fr = r.pose ∧ legalR c t.move = true ∧ ¬ t.move.en ≤ t.move.st ∧ lessI t.move.en t.move.st ≠ 0 then ⟨none, 1, some ⟨t.move, 0, lessI t.move.en t.move.st, false⟩⟩
  else ⟨none, 0, g⟩
section
variable {c : Cf} {r : Rb} {g : Option Gg} {t : Te}
theorem go_a (h : decide (t.epoch < r.epoch) = true) : goB c r g t = ⟨none, 2, g⟩ := by unfold goB; rw [if_pos (of_decide_eq_true h)]
theorem go_b (h : decide (t.epoch < r.epoch) = false) (h2 : decide (r.epoch < t.epoch) = true) : goB c r g t = ⟨none, 0, g⟩ := by
  unfold goB; rw [if_neg (of_decide_eq_false h), if_pos (.inl (of_decide_eq_true h2))]
theorem go_u {u : Gg} (h : decide (t.epoch < r.epoch) = false) : goB c r (some u) t = ⟨none, 0, some u⟩ := by
  unfold goB; rw [if_neg (of_decide_eq_false h), if_pos (.inr rfl)]
theorem go_c (h : decide (t.epoch < r.epoch) = false) (h2 : decide (r.epoch < t.epoch) = false) (h3 : decide (0 < r.num) = true) (h4 : (t.num == r.num) = true) : goB c r none t = ⟨some (tellB r), 0, none⟩ := by
  have e : t.num = r.num := by simpa using h4
  unfold goB; rw [if_neg (of_decide_eq_false h), if_neg (by simpa using h2), if_pos ⟨of_decide_eq_true h3, e⟩]
theorem go_no (h : decide (t.epoch < r.epoch) = false) (h2 : decide (r.epoch < t.epoch) = false) (h3 : ¬ (0 < r.num ∧ t.num = r.num)) (h4 : ¬ (t.num = w64 (r.num + 1) ∧ t.move.fr = r.pose ∧ legalR c t.move = true ∧ ¬ t.move.en ≤ t.move.st ∧ lessI t.move.en t.move.st ≠ 0)) : goB c r none t = ⟨none, 0, none⟩ := by
  unfold goB; rw [if_neg (of_decide_eq_false h), if_neg (by simpa using h2), if_neg h3, if_neg h4]
theorem go_yes (h : decide (t.epoch < r.epoch) = false) (h2 : decide (r.epoch < t.epoch) = false) (h3 : ¬ (0 < r.num ∧ t.num = r.num)) (h4 : (t.num != w64 (r.num + 1)) = false) (h5 : (!decide ((⟨t.move.fr.x, t.move.fr.y, t.move.fr.d⟩ : Ps) = ⟨r.pose.x, r.pose.y, r.pose.d⟩)) = false) (h6 : (!legalR c t.move) = false) (h7 : decide (t.move.en ≤ t.move.st) = false) (h8 : (lessI t.move.en t.move.st == 0) = false) :
    goB c r none t = ⟨none, 1, some ⟨t.move, 0, lessI t.move.en t.move.st, false⟩⟩ := by
  have a1 : t.num = w64 (r.num + 1) := by simpa using h4
  have a2 : t.move.fr = r.pose := of_decide_eq_true (nf h5)
  have a3 := of_decide_eq_false h7
  have a4 : lessI t.move.en t.move.st ≠ 0 := by simpa using h8
  unfold goB; rw [if_neg (of_decide_eq_false h), if_neg (by simpa using h2), if_neg h3, if_pos ⟨a1, a2, nf h6, a3, a4⟩]
theorem nn_a (h : decide (0 < r.num) = false) : ¬ (0 < r.num ∧ t.num = r.num) := fun e => of_decide_eq_false h e.1
theorem nn_b (h : (t.num == r.num) = false) : ¬ (0 < r.num ∧ t.num = r.num) := fun e => by simp [e.2] at h
end
end Go.Proofs.YtmbibkifbehgnaaGreatDoor
namespace Go.Proofs.YtmbibkifbehgnaaGreatDoor
open Go Sk
set_option linter.unusedVariables false
set_option linter.unusedSimpArgs false
theorem fa_42_5 (b o : Nat) (w : World) : (Instr.fieldAt 42 (.pointer (some ⟨b, o, none⟩)) 5).run Tryz.prog w = .ok (.pointer (some ⟨b, o + 9, none⟩)) w := by kernel_rfl
theorem fa_42_6 (b o : Nat) (w : World) : (Instr.fieldAt 42 (.pointer (some ⟨b, o, none⟩)) 6).run Tryz.prog w = .ok (.pointer (some ⟨b, o + 10, none⟩)) w := by kernel_rfl
theorem fa_44_2 (b o : Nat) (w : World) : (Instr.fieldAt 44 (.pointer (some ⟨b, o, none⟩)) 2).run Tryz.prog w = .ok (.pointer (some ⟨b, o + 2, none⟩)) w := by kernel_rfl
theorem fa_44_3 (b o : Nat) (w : World) : (Instr.fieldAt 44 (.pointer (some ⟨b, o, none⟩)) 3).run Tryz.prog w = .ok (.pointer (some ⟨b, o + 3, none⟩)) w := by kernel_rfl
theorem fa_44_4 (b o : Nat) (w : World) : (Instr.fieldAt 44 (.pointer (some ⟨b, o, none⟩)) 4).run Tryz.prog w = .ok (.pointer (some ⟨b, o + 4, none⟩)) w := by kernel_rfl
theorem fa_92_1 (b o : Nat) (w : World) : (Instr.fieldAt 92 (.pointer (some ⟨b, o, none⟩)) 1).run Tryz.prog w = .ok (.pointer (some ⟨b, o + 1, none⟩)) w := by kernel_rfl
theorem en58 : Enters Tryz.prog 58 := fun args w => by kernel_rfl
theorem en94 : Enters Tryz.prog 94 := fun args w => by kernel_rfl
theorem en95 : Enters Tryz.prog 95 := fun args w => by kernel_rfl
theorem mk_156_0_2 (x0_0_ : Int) (x0_1_ : Int) (x0_2_ : Int) (x0_3_0_0_ : Int) (x0_3_0_1_ : Int) (x0_3_1_ : Bool) (x0_4_0_0_ : Int) (x0_4_0_1_ : Int) (x0_4_1_ : Bool) (x0_5_ : Int) (x0_6_ : Int) (x2_ : Int) : Tryz.prog.built 156 [(0, .agg (List.toArray [.int .i64 x0_0_, .int .i64 x0_1_, .int .i64 x0_2_, .int .i64 x0_3_0_0_, .int .i64 x0_3_0_1_, .bool x0_3_1_, .int .i64 x0_4_0_0_, .int .i64 x0_4_0_1_, .bool x0_4_1_, .int .i64 x0_5_, .int .i64 x0_6_])), (2, .int .i64 x2_)] = some (List.toArray [.int .i64 x0_0_, .int .i64 x0_1_, .int .i64 x0_2_, .int .i64 x0_3_0_0_, .int .i64 x0_3_0_1_, .bool x0_3_1_, .int .i64 x0_4_0_0_, .int .i64 x0_4_0_1_, .bool x0_4_1_, .int .i64 x0_5_, .int .i64 x0_6_, .int .i64 0, .int .i64 x2_, .bool false]) := by kernel_rfl
theorem ob_84  : oneB Tryz.prog 84 = true := by kernel_rfl
section
variable {c : Cf} {r : Rb} {t : Te}
abbrev GoOk (c : Cf) (r : Rb) (t : Te) : Prop := t.num = w64 (r.num + 1) ∧ t.move.fr = r.pose ∧ legalR c t.move = true ∧ ¬ t.move.en ≤ t.move.st ∧ lessI t.move.en t.move.st ≠ 0
theorem no1 (h : (t.num != w64 (r.num + 1)) = true) : ¬ GoOk c r t := fun e => by simp [e.1] at h
theorem no2 (h : (!decide ((⟨t.move.fr.x, t.move.fr.y, t.move.fr.d⟩ : Ps) = ⟨r.pose.x, r.pose.y, r.pose.d⟩)) = true) : ¬ GoOk c r t := fun e => of_decide_eq_false (nt h) e.2.1
theorem no3 (h : (!legalR c t.move) = true) : ¬ GoOk c r t := fun e => by
  have h9 := e.2.2.1
  rw [nt h] at h9; cases h9
theorem no4 (h : decide (t.move.en ≤ t.move.st) = true) : ¬ GoOk c r t := fun e => e.2.2.2.1 (of_decide_eq_true h)
theorem no5 (h : (lessI t.move.en t.move.st == 0) = true) : ¬ GoOk c r t := fun e => e.2.2.2.2 (by simpa using h)
end
abbrev GoPost (br bg bn : Nat) (r : Rb) (q : GoR) : Ending → List As → Prop := fun e F' => ∃ x : HX, e = .returned (.tuple #[x.v, i64 q.how]) ∧ F' = x.fx ++ robF br bg bn x.bu r q.g ∧ TeV q.tele x.v x.fx
theorem goes0_spec (c : Cf) (hm : MayOk c) (br bg bk bn : Nat) (r : Rb) (t : Te) : Sk.Spec Tryz.prog 70 #[ptr br, .agg (encT t).toArray] [gfix c bg bk, kblk bk (KF c), stepsA] [rblk br bg bn r none] (GoPost br bg bn r (goB c r none t)) := by
  refine Spec.of_code (vs := [_, _]) (k0 := [(0, _), (1, _)]) 103 Tryz.func70 rfl Tryz.ntmps70 rfl (.cons (.cons .nil)) fun w X RR hRR H => ?_
  refine .seq ?_
  refine .plain rfl ?_
  refine .box rfl rfl rfl rfl rfl H (fun w1 b1 H1 => ⟨fun _ => trivial, ?_⟩)
  refine .q rfl rfl rfl (val_assign rfl) ?_
  refine .q rfl rfl rfl (val_assign rfl) ?_
  refine .nil (cj ?_)
  refine .seq ?_
  refine .block ?_
  refine .seq ?_
  refine .drawS 8 (.cons (0, true) (.cons (1, true) (.cons (2, true) (.cons (3, true) (.cons (4, true) (.cons (5, true) (.cons (6, true) (.cons (7, true) .nil)))))))) mo (by kernel_rfl) H1 (fun _ _ _ _ _ h => h) (fun w2 H2 => ?_)
  refine .p rfl rfl rfl (val_fieldAddr rfl fa_44_2) ?_
  refine .ps rfl rfl rfl rfl (ld_b rfl ob_3 (.own .here) rfl) ?_
  refine .p rfl rfl rfl (val_move rfl) ?_
  refine .p rfl rfl rfl (val_nilCheck rfl) ?_
  refine .p rfl rfl rfl (val_fieldAddr rfl fa_92_5) ?_
  refine .ps rfl rfl rfl rfl (ld_b rfl ob_3 (.own (.there .here)) rfl) ?_
  refine .p rfl rfl rfl (val_lss rfl rfl rfl) ?_
  refine .p rfl rfl rfl (val_assign rfl) ?_
  refine .nil (cj ?_)
  refine .cond rfl (fun hc0 => ?_) (fun hc0 => ?_)
  · refine .seq ?_
    refine .plain rfl ?_
    refine .q rfl rfl rfl (val_assign rfl) ?_
    refine .q rfl rfl rfl (val_assign rfl) ?_
    refine .nil (cj ?_)
    refine .ret (fret (res2 rfl rfl rfl) ?_)
    first | (rw [go_a hc0] at hRR; exact hRR _ _ ⟨_, ⟨⟨_, [], 0⟩, rfl, rfl, .none⟩, H2.sub (.cons (.there .here) .nil)⟩) | (rw [go_b hc0 hs23] at hRR; exact hRR _ _ ⟨_, ⟨⟨_, [], 0⟩, rfl, rfl, .none⟩, H2.sub (.cons (.there .here) .nil)⟩) | (rw [go_c hc0 hs23 hs36 hc2] at hRR; exact hRR _ _ ⟨_, ⟨⟨_, _, 0⟩, rfl, rfl, .some _ _⟩, H2.sub .nil⟩) | (rw [go_yes hc0 hs23 (by first | exact nn_a hs36 | exact nn_b hc2) hs62 hs72 hs82 hs91 hc3] at hRR; exact hRR _ _ ⟨_, ⟨⟨_, [], _⟩, rfl, rfl, .none⟩, H2.sub .nil⟩) | (rw [go_no hc0 hs23 (by first | exact nn_a hs36 | exact nn_b hc2) (by first | exact no1 hs62 | exact no2 hs72 | exact no3 hs82 | exact no4 hs91 | exact no5 hc3)] at hRR; exact hRR _ _ ⟨_, ⟨⟨_, [], 0⟩, rfl, rfl, .none⟩, H2.sub (.cons (.there .here) .nil)⟩)
  · refine .seq ?_
    refine .drawS 15 (.cons (0, true) (.cons (1, true) (.cons (2, true) (.cons (3, true) (.cons (4, true) (.cons (5, true) (.cons (6, true) (.cons (7, true) (.cons (8, true) (.cons (9, true) (.cons (10, true) (.cons (11, true) (.cons (12, true) (.cons (13, true) (.cons (14, true) .nil))))))))))))))) mo (by kernel_rfl) H2 (fun _ _ _ _ _ h => h) (fun w3 H3 => ?_)
    refine .p rfl rfl rfl (val_fieldAddr rfl fa_44_2) ?_
    refine .ps rfl rfl rfl rfl (ld_b rfl ob_3 (.own .here) rfl) ?_
    refine .p rfl rfl rfl (val_move rfl) ?_
    refine .p rfl rfl rfl (val_nilCheck rfl) ?_
    refine .p rfl rfl rfl (val_fieldAddr rfl fa_92_5) ?_
    refine .ps rfl rfl rfl rfl (ld_b rfl ob_3 (.own (.there .here)) rfl) ?_
    refine .p rfl rfl rfl (val_gtr rfl rfl rfl) ?_
    refine .p rfl rfl rfl (val_move rfl) ?_
    refine .case (t := 23) rfl (fun hs23 => ?_) (fun hs23 => ?_)
    · refine .no rfl rfl rfl ?_
      refine .no rfl rfl rfl ?_
      refine .no rfl rfl rfl ?_
      refine .no rfl rfl rfl ?_
      refine .no rfl rfl rfl ?_
      refine .p rfl rfl rfl (val_pick_t rfl rfl) ?_
      refine .p rfl rfl rfl (val_assign rfl) ?_
      refine .nil (cj ?_)
      refine .cond_t rfl ?_
      refine .seq ?_
      refine .plain rfl ?_
      refine .q rfl rfl rfl (val_assign rfl) ?_
      refine .q rfl rfl rfl (val_assign rfl) ?_
      refine .nil (cj ?_)
      refine .ret (fret (res2 rfl rfl rfl) ?_)
      first | (rw [go_a hc0] at hRR; exact hRR _ _ ⟨_, ⟨⟨_, [], 0⟩, rfl, rfl, .none⟩, H3.sub (.cons (.there .here) .nil)⟩) | (rw [go_b hc0 hs23] at hRR; exact hRR _ _ ⟨_, ⟨⟨_, [], 0⟩, rfl, rfl, .none⟩, H3.sub (.cons (.there .here) .nil)⟩) | (rw [go_c hc0 hs23 hs36 hc2] at hRR; exact hRR _ _ ⟨_, ⟨⟨_, _, 0⟩, rfl, rfl, .some _ _⟩, H3.sub .nil⟩) | (rw [go_yes hc0 hs23 (by first | exact nn_a hs36 | exact nn_b hc2) hs62 hs72 hs82 hs91 hc3] at hRR; exact hRR _ _ ⟨_, ⟨⟨_, [], _⟩, rfl, rfl, .none⟩, H3.sub .nil⟩) | (rw [go_no hc0 hs23 (by first | exact nn_a hs36 | exact nn_b hc2) (by first | exact no1 hs62 | exact no2 hs72 | exact no3 hs82 | exact no4 hs91 | exact no5 hc3)] at hRR; exact hRR _ _ ⟨_, ⟨⟨_, [], 0⟩, rfl, rfl, .none⟩, H3.sub (.cons (.there .here) .nil)⟩)
    · refine .p rfl rfl rfl (val_move rfl) ?_
      refine .p rfl rfl rfl (val_nilCheck rfl) ?_
      refine .p rfl rfl rfl (val_fieldAddr rfl fa_92_7) ?_
      refine .ps rfl rfl rfl rfl (ld_b rfl ob_90 (.own (.there .here)) rfl) ?_
      refine .p rfl rfl rfl (val_ptr_ne_nil Tryz.underlying90 rfl rfl rfl) ?_
      refine .p rfl rfl rfl (val_pick_f rfl rfl) ?_
      refine .p rfl rfl rfl (val_assign rfl) ?_
      refine .nil (cj ?_)
      refine .cond_f rfl ?_
      refine .seq ?_
      refine .drawS 15 (.cons (0, true) (.cons (1, true) (.cons (2, true) (.cons (3, true) (.cons (4, true) (.cons (5, true) (.cons (6, true) (.cons (7, true) (.cons (8, true) (.cons (9, true) (.cons (10, true) (.cons (11, true) (.cons (12, true) (.cons (13, true) (.cons (14, true) .nil))))))))))))))) mo (by kernel_rfl) H3 (fun _ _ _ _ _ h => h) (fun w4 H4 => ?_)
      refine .p rfl rfl rfl (val_move rfl) ?_
      refine .p rfl rfl rfl (val_nilCheck rfl) ?_
      refine .p rfl rfl rfl (val_fieldAddr rfl fa_92_6) ?_
      refine .ps rfl rfl rfl rfl (ld_b rfl ob_3 (.own (.there .here)) rfl) ?_
      refine .p rfl rfl rfl (val_gtr rfl rfl rfl) ?_
      refine .p rfl rfl rfl (val_move rfl) ?_
      refine .case (t := 36) rfl (fun hs36 => ?_) (fun hs36 => ?_)
      · refine .p rfl rfl rfl (val_fieldAddr rfl fa_44_3) ?_
        refine .ps rfl rfl rfl rfl (ld_b rfl ob_3 (.own .here) rfl) ?_
        refine .p rfl rfl rfl (val_move rfl) ?_
        refine .p rfl rfl rfl (val_nilCheck rfl) ?_
        refine .p rfl rfl rfl (val_fieldAddr rfl fa_92_6) ?_
        refine .ps rfl rfl rfl rfl (ld_b rfl ob_3 (.own (.there .here)) rfl) ?_
        refine .p rfl rfl rfl (val_eql rfl rfl rfl) ?_
        refine .p rfl rfl rfl (val_pick_t rfl rfl) ?_
        refine .p rfl rfl rfl (val_assign rfl) ?_
        refine .nil (cj ?_)
        refine .cond rfl (fun hc2 => ?_) (fun hc2 => ?_)
        · refine .seq ?_
          refine .plain rfl ?_
          refine .q rfl rfl rfl (val_move rfl) ?_
          refine .callx rfl rfl rfl en58 (.cons rfl .nil) (tell_spec _ _ _ _ _) H4 .nil (.own (.there .here) .nil) (fun b5 w5 C5 H5 => ⟨fun _ => trivial, ?_⟩)
          refine .q rfl rfl rfl (val_assign rfl) ?_
          refine .q rfl rfl rfl (val_assign rfl) ?_
          refine .nil (cj ?_)
          refine .ret (fret (res2 rfl rfl rfl) ?_)
          first | (rw [go_a hc0] at hRR; exact hRR _ _ ⟨_, ⟨⟨_, [], 0⟩, rfl, rfl, .none⟩, H5.sub (.cons (.there (.there .here)) .nil)⟩) | (rw [go_b hc0 hs23] at hRR; exact hRR _ _ ⟨_, ⟨⟨_, [], 0⟩, rfl, rfl, .none⟩, H5.sub (.cons (.there (.there .here)) .nil)⟩) | (rw [go_c hc0 hs23 hs36 hc2] at hRR; exact hRR _ _ ⟨_, ⟨⟨_, _, 0⟩, rfl, rfl, .some _ _⟩, H5.sub (.cons .here (.cons (.there .here) .nil))⟩) | (rw [go_yes hc0 hs23 (by first | exact nn_a hs36 | exact nn_b hc2) hs62 hs72 hs82 hs91 hc3] at hRR; exact hRR _ _ ⟨_, ⟨⟨_, [], _⟩, rfl, rfl, .none⟩, H5.sub .nil⟩) | (rw [go_no hc0 hs23 (by first | exact nn_a hs36 | exact nn_b hc2) (by first | exact no1 hs62 | exact no2 hs72 | exact no3 hs82 | exact no4 hs91 | exact no5 hc3)] at hRR; exact hRR _ _ ⟨_, ⟨⟨_, [], 0⟩, rfl, rfl, .none⟩, H5.sub (.cons (.there (.there .here)) .nil)⟩)
        · refine .skip (cj ?_)
          refine .seq ?_
          refine .plain rfl ?_
          refine .q rfl rfl rfl (val_fieldAddr rfl fa_44_4) ?_
          refine .q rfl rfl rfl (val_fieldAddr rfl fa_42_6) ?_
          refine .qs rfl rfl rfl H4 (ld_b rfl ob_3 (.own .here) rfl) ?_
          refine .q rfl rfl rfl (val_fieldAddr rfl fa_44_4) ?_
          refine .q rfl rfl rfl (val_fieldAddr rfl fa_42_5) ?_
          refine .qs rfl rfl rfl H4 (ld_b rfl ob_3 (.own .here) rfl) ?_
          refine .call1 rfl rfl rfl en94 (.cons rfl (.cons rfl .nil)) (less_spec _ _) H4 .nil .nil (fun w6 H6 => ⟨fun _ => trivial, ?_⟩)
          refine .q rfl rfl rfl (val_assign rfl) ?_
          refine .nil (cj ?_)
          refine .seq ?_
          refine .seq ?_
          refine .drawS 41 (.cons (0, true) (.cons (1, true) (.cons (2, true) (.cons (3, true) (.cons (4, true) (.cons (5, true) (.cons (6, true) (.cons (7, true) (.cons (8, true) (.cons (9, true) (.cons (10, true) (.cons (11, true) (.cons (12, true) (.cons (13, true) (.cons (14, true) (.cons (15, true) (.cons (16, true) (.cons (17, true) (.cons (18, true) (.cons (19, true) (.cons (20, true) (.cons (21, true) (.cons (22, true) (.cons (23, true) (.cons (24, true) (.cons (25, false) (.cons (26, true) (.cons (27, true) (.cons (28, true) (.cons (29, true) (.cons (30, true) (.cons (31, true) (.cons (32, true) (.cons (33, true) (.cons (34, true) (.cons (35, true) (.cons (36, true) (.cons (37, true) (.cons (38, true) (.cons (39, true) (.cons (40, true) .nil))))))))))))))))))))))))))))))))))))))))) mo (by kernel_rfl) H6 (fun _ _ _ _ _ h => h) (fun w7 H7 => ?_)
          refine .p rfl rfl rfl (val_fieldAddr rfl fa_44_3) ?_
          refine .ps rfl rfl rfl rfl (ld_b rfl ob_3 (.own .here) rfl) ?_
          refine .p rfl rfl rfl (val_move rfl) ?_
          refine .p rfl rfl rfl (val_nilCheck rfl) ?_
          refine .p rfl rfl rfl (val_fieldAddr rfl fa_92_6) ?_
          refine .ps rfl rfl rfl rfl (ld_b rfl ob_3 (.own (.there .here)) rfl) ?_
          refine .p rfl rfl rfl (val_add rfl rfl rfl) ?_
          refine .p rfl rfl rfl (val_neq rfl rfl rfl) ?_
          refine .p rfl rfl rfl (val_move rfl) ?_
          refine .case (t := 62) rfl (fun hs62 => ?_) (fun hs62 => ?_)
          · refine .no rfl rfl rfl ?_
            refine .no rfl rfl rfl ?_
            refine .no rfl rfl rfl ?_
            refine .no rfl rfl rfl ?_
            refine .no rfl rfl rfl ?_
            refine .no rfl rfl rfl ?_
            refine .no rfl rfl rfl ?_
            refine .no rfl rfl rfl ?_
            refine .p rfl rfl rfl (val_pick_t rfl rfl) ?_
            refine .p rfl rfl rfl (val_move rfl) ?_
            refine .no rfl rfl rfl ?_
            refine .no rfl rfl rfl ?_
            refine .no rfl rfl rfl ?_
            refine .no rfl rfl rfl ?_
            refine .no rfl rfl rfl ?_
            refine .no rfl rfl rfl ?_
            refine .no rfl rfl rfl ?_
            refine .no rfl rfl rfl ?_
            refine .p rfl rfl rfl (val_pick_t rfl rfl) ?_
            refine .p rfl rfl rfl (val_move rfl) ?_
            refine .no rfl rfl rfl ?_
            refine .no rfl rfl rfl ?_
            refine .no rfl rfl rfl ?_
            refine .no rfl rfl rfl ?_
            refine .no rfl rfl rfl ?_
            refine .no rfl rfl rfl ?_
            refine .no rfl rfl rfl ?_
            refine .p rfl rfl rfl (val_pick_t rfl rfl) ?_
            refine .p rfl rfl rfl (val_move rfl) ?_
            refine .no rfl rfl rfl ?_
            refine .no rfl rfl rfl ?_
            refine .p rfl rfl rfl (val_pick_t rfl rfl) ?_
            refine .nil (cj ?_)
            refine .cond_t rfl ?_
            refine .seq ?_
            refine .plain rfl ?_
            refine .q rfl rfl rfl (val_assign rfl) ?_
            refine .q rfl rfl rfl (val_assign rfl) ?_
            refine .nil (cj ?_)
            refine .ret (fret (res2 rfl rfl rfl) ?_)
            first | (rw [go_a hc0] at hRR; exact hRR _ _ ⟨_, ⟨⟨_, [], 0⟩, rfl, rfl, .none⟩, H7.sub (.cons (.there .here) .nil)⟩) | (rw [go_b hc0 hs23] at hRR; exact hRR _ _ ⟨_, ⟨⟨_, [], 0⟩, rfl, rfl, .none⟩, H7.sub (.cons (.there .here) .nil)⟩) | (rw [go_c hc0 hs23 hs36 hc2] at hRR; exact hRR _ _ ⟨_, ⟨⟨_, _, 0⟩, rfl, rfl, .some _ _⟩, H7.sub .nil⟩) | (rw [go_yes hc0 hs23 (by first | exact nn_a hs36 | exact nn_b hc2) hs62 hs72 hs82 hs91 hc3] at hRR; exact hRR _ _ ⟨_, ⟨⟨_, [], _⟩, rfl, rfl, .none⟩, H7.sub .nil⟩) | (rw [go_no hc0 hs23 (by first | exact nn_a hs36 | exact nn_b hc2) (by first | exact no1 hs62 | exact no2 hs72 | exact no3 hs82 | exact no4 hs91 | exact no5 hc3)] at hRR; exact hRR _ _ ⟨_, ⟨⟨_, [], 0⟩, rfl, rfl, .none⟩, H7.sub (.cons (.there .here) .nil)⟩)
          · refine .p rfl rfl rfl (val_fieldAddr rfl fa_44_4) ?_
            refine .p rfl rfl rfl (val_fieldAddr rfl fa_42_3) ?_
            refine .ps rfl rfl rfl rfl (ld_blks rfl ag_40 (.own .here) (by repeat constructor)) ?_
            refine .p rfl rfl rfl (val_move rfl) ?_
            refine .p rfl rfl rfl (val_nilCheck rfl) ?_
            refine .p rfl rfl rfl (val_fieldAddr rfl fa_92_3) ?_
            refine .ps rfl rfl rfl rfl (ld_blks rfl ag_40 (.own (.there .here)) (by repeat constructor)) ?_
            refine .p rfl rfl rfl (val_binrun rfl rfl seq_40_neq) ?_
            refine .p rfl rfl rfl (val_pick_f rfl rfl) ?_
            refine .p rfl rfl rfl (val_move rfl) ?_
            refine .case (t := 72) rfl (fun hs72 => ?_) (fun hs72 => ?_)
            · refine .no rfl rfl rfl ?_
              refine .no rfl rfl rfl ?_
              refine .no rfl rfl rfl ?_
              refine .no rfl rfl rfl ?_
              refine .no rfl rfl rfl ?_
              refine .no rfl rfl rfl ?_
              refine .no rfl rfl rfl ?_
              refine .no rfl rfl rfl ?_
              refine .p rfl rfl rfl (val_pick_t rfl rfl) ?_
              refine .p rfl rfl rfl (val_move rfl) ?_
              refine .no rfl rfl rfl ?_
              refine .no rfl rfl rfl ?_
              refine .no rfl rfl rfl ?_
              refine .no rfl rfl rfl ?_
              refine .no rfl rfl rfl ?_
              refine .no rfl rfl rfl ?_
              refine .no rfl rfl rfl ?_
              refine .p rfl rfl rfl (val_pick_t rfl rfl) ?_
              refine .p rfl rfl rfl (val_move rfl) ?_
              refine .no rfl rfl rfl ?_
              refine .no rfl rfl rfl ?_
              refine .p rfl rfl rfl (val_pick_t rfl rfl) ?_
              refine .nil (cj ?_)
              refine .cond_t rfl ?_
              refine .seq ?_
              refine .plain rfl ?_
              refine .q rfl rfl rfl (val_assign rfl) ?_
              refine .q rfl rfl rfl (val_assign rfl) ?_
              refine .nil (cj ?_)
              refine .ret (fret (res2 rfl rfl rfl) ?_)
              first | (rw [go_a hc0] at hRR; exact hRR _ _ ⟨_, ⟨⟨_, [], 0⟩, rfl, rfl, .none⟩, H7.sub (.cons (.there .here) .nil)⟩) | (rw [go_b hc0 hs23] at hRR; exact hRR _ _ ⟨_, ⟨⟨_, [], 0⟩, rfl, rfl, .none⟩, H7.sub (.cons (.there .here) .nil)⟩) | (rw [go_c hc0 hs23 hs36 hc2] at hRR; exact hRR _ _ ⟨_, ⟨⟨_, _, 0⟩, rfl, rfl, .some _ _⟩, H7.sub .nil⟩) | (rw [go_yes hc0 hs23 (by first | exact nn_a hs36 | exact nn_b hc2) hs62 hs72 hs82 hs91 hc3] at hRR; exact hRR _ _ ⟨_, ⟨⟨_, [], _⟩, rfl, rfl, .none⟩, H7.sub .nil⟩) | (rw [go_no hc0 hs23 (by first | exact nn_a hs36 | exact nn_b hc2) (by first | exact no1 hs62 | exact no2 hs72 | exact no3 hs82 | exact no4 hs91 | exact no5 hc3)] at hRR; exact hRR _ _ ⟨_, ⟨⟨_, [], 0⟩, rfl, rfl, .none⟩, H7.sub (.cons (.there .here) .nil)⟩)
            · refine .p rfl rfl rfl (val_move rfl) ?_
              refine .p rfl rfl rfl (val_nilCheck rfl) ?_
              refine .p rfl rfl rfl (val_fieldAddr rfl fa_92_1) ?_
              refine .ps rfl rfl rfl rfl (ld_b rfl ob_84 (.own (.there .here)) rfl) ?_
              refine .p rfl rfl rfl (val_fieldAddr rfl fa_44_4) ?_
              refine .ps rfl rfl rfl rfl (ld_blks rfl ag_42 (.own .here) (by repeat constructor)) ?_
              refine .call1 rfl rfl rfl en95 (.cons rfl (.cons rfl .nil)) (legalK_spec c hm _ _ _) H7 .nil (.ro .here (.ro (.there .here) (.ro (.there (.there .here)) .nil))) (fun w8 H8 => ⟨fun _ => H8, ?_⟩)
              refine .p rfl rfl rfl (val_not rfl rfl) ?_
              refine .p rfl rfl rfl (val_pick_f rfl rfl) ?_
              refine .p rfl rfl rfl (val_move rfl) ?_
              refine .case (t := 82) rfl (fun hs82 => ?_) (fun hs82 => ?_)
              · refine .no rfl rfl rfl ?_
                refine .no rfl rfl rfl ?_
                refine .no rfl rfl rfl ?_
                refine .no rfl rfl rfl ?_
                refine .no rfl rfl rfl ?_
                refine .no rfl rfl rfl ?_
                refine .no rfl rfl rfl ?_
                refine .p rfl rfl rfl (val_pick_t rfl rfl) ?_
                refine .p rfl rfl rfl (val_move rfl) ?_
                refine .no rfl rfl rfl ?_
                refine .no rfl rfl rfl ?_
                refine .p rfl rfl rfl (val_pick_t rfl rfl) ?_
                refine .nil (cj ?_)
                refine .cond_t rfl ?_
                refine .seq ?_
                refine .plain rfl ?_
                refine .q rfl rfl rfl (val_assign rfl) ?_
                refine .q rfl rfl rfl (val_assign rfl) ?_
                refine .nil (cj ?_)
                refine .ret (fret (res2 rfl rfl rfl) ?_)
                first | (rw [go_a hc0] at hRR; exact hRR _ _ ⟨_, ⟨⟨_, [], 0⟩, rfl, rfl, .none⟩, H8.sub (.cons (.there .here) .nil)⟩) | (rw [go_b hc0 hs23] at hRR; exact hRR _ _ ⟨_, ⟨⟨_, [], 0⟩, rfl, rfl, .none⟩, H8.sub (.cons (.there .here) .nil)⟩) | (rw [go_c hc0 hs23 hs36 hc2] at hRR; exact hRR _ _ ⟨_, ⟨⟨_, _, 0⟩, rfl, rfl, .some _ _⟩, H8.sub .nil⟩) | (rw [go_yes hc0 hs23 (by first | exact nn_a hs36 | exact nn_b hc2) hs62 hs72 hs82 hs91 hc3] at hRR; exact hRR _ _ ⟨_, ⟨⟨_, [], _⟩, rfl, rfl, .none⟩, H8.sub .nil⟩) | (rw [go_no hc0 hs23 (by first | exact nn_a hs36 | exact nn_b hc2) (by first | exact no1 hs62 | exact no2 hs72 | exact no3 hs82 | exact no4 hs91 | exact no5 hc3)] at hRR; exact hRR _ _ ⟨_, ⟨⟨_, [], 0⟩, rfl, rfl, .none⟩, H8.sub (.cons (.there .here) .nil)⟩)
              · refine .p rfl rfl rfl (val_fieldAddr rfl fa_44_4) ?_
                refine .p rfl rfl rfl (val_fieldAddr rfl fa_42_6) ?_
                refine .ps rfl rfl rfl rfl (ld_b rfl ob_3 (.own .here) rfl) ?_
                refine .p rfl rfl rfl (val_fieldAddr rfl fa_44_4) ?_
                refine .p rfl rfl rfl (val_fieldAddr rfl fa_42_5) ?_
                refine .ps rfl rfl rfl rfl (ld_b rfl ob_3 (.own .here) rfl) ?_
                refine .p rfl rfl rfl (val_leq rfl rfl rfl) ?_
                refine .p rfl rfl rfl (val_pick_f rfl rfl) ?_
                refine .p rfl rfl rfl (val_move rfl) ?_
                refine .case (t := 91) rfl (fun hs91 => ?_) (fun hs91 => ?_)
                · refine .no rfl rfl rfl ?_
                  refine .no rfl rfl rfl ?_
                  refine .p rfl rfl rfl (val_pick_t rfl rfl) ?_
                  refine .nil (cj ?_)
                  refine .cond_t rfl ?_
                  refine .seq ?_
                  refine .plain rfl ?_
                  refine .q rfl rfl rfl (val_assign rfl) ?_
                  refine .q rfl rfl rfl (val_assign rfl) ?_
                  refine .nil (cj ?_)
                  refine .ret (fret (res2 rfl rfl rfl) ?_)
                  first | (rw [go_a hc0] at hRR; exact hRR _ _ ⟨_, ⟨⟨_, [], 0⟩, rfl, rfl, .none⟩, H8.sub (.cons (.there .here) .nil)⟩) | (rw [go_b hc0 hs23] at hRR; exact hRR _ _ ⟨_, ⟨⟨_, [], 0⟩, rfl, rfl, .none⟩, H8.sub (.cons (.there .here) .nil)⟩) | (rw [go_c hc0 hs23 hs36 hc2] at hRR; exact hRR _ _ ⟨_, ⟨⟨_, _, 0⟩, rfl, rfl, .some _ _⟩, H8.sub .nil⟩) | (rw [go_yes hc0 hs23 (by first | exact nn_a hs36 | exact nn_b hc2) hs62 hs72 hs82 hs91 hc3] at hRR; exact hRR _ _ ⟨_, ⟨⟨_, [], _⟩, rfl, rfl, .none⟩, H8.sub .nil⟩) | (rw [go_no hc0 hs23 (by first | exact nn_a hs36 | exact nn_b hc2) (by first | exact no1 hs62 | exact no2 hs72 | exact no3 hs82 | exact no4 hs91 | exact no5 hc3)] at hRR; exact hRR _ _ ⟨_, ⟨⟨_, [], 0⟩, rfl, rfl, .none⟩, H8.sub (.cons (.there .here) .nil)⟩)
                · refine .p rfl rfl rfl (val_move rfl) ?_
                  refine .p rfl rfl rfl (val_eql rfl rfl rfl) ?_
                  refine .p rfl rfl rfl (val_pick_f rfl rfl) ?_
                  refine .nil (cj ?_)
                  refine .cond rfl (fun hc3 => ?_) (fun hc3 => ?_)
                  · refine .seq ?_
                    refine .plain rfl ?_
                    refine .q rfl rfl rfl (val_assign rfl) ?_
                    refine .q rfl rfl rfl (val_assign rfl) ?_
                    refine .nil (cj ?_)
                    refine .ret (fret (res2 rfl rfl rfl) ?_)
                    first | (rw [go_a hc0] at hRR; exact hRR _ _ ⟨_, ⟨⟨_, [], 0⟩, rfl, rfl, .none⟩, H8.sub (.cons (.there .here) .nil)⟩) | (rw [go_b hc0 hs23] at hRR; exact hRR _ _ ⟨_, ⟨⟨_, [], 0⟩, rfl, rfl, .none⟩, H8.sub (.cons (.there .here) .nil)⟩) | (rw [go_c hc0 hs23 hs36 hc2] at hRR; exact hRR _ _ ⟨_, ⟨⟨_, _, 0⟩, rfl, rfl, .some _ _⟩, H8.sub .nil⟩) | (rw [go_yes hc0 hs23 (by first | exact nn_a hs36 | exact nn_b hc2) hs62 hs72 hs82 hs91 hc3] at hRR; exact hRR _ _ ⟨_, ⟨⟨_, [], _⟩, rfl, rfl, .none⟩, H8.sub .nil⟩) | (rw [go_no hc0 hs23 (by first | exact nn_a hs36 | exact nn_b hc2) (by first | exact no1 hs62 | exact no2 hs72 | exact no3 hs82 | exact no4 hs91 | exact no5 hc3)] at hRR; exact hRR _ _ ⟨_, ⟨⟨_, [], 0⟩, rfl, rfl, .none⟩, H8.sub (.cons (.there .here) .nil)⟩)
                  · refine .skip (cj ?_)
                    refine .seq ?_
                    refine .plain rfl ?_
                    refine .q rfl rfl rfl (val_move rfl) ?_
                    refine .q rfl rfl rfl (val_fieldAddr rfl fa_44_4) ?_
                    refine .qs rfl rfl rfl H8 (ld_blks rfl ag_42 (.own .here) (by repeat constructor)) ?_
                    refine .q rfl rfl rfl (val_move rfl) ?_
                    refine .q rfl rfl rfl (val_mk (.cons rfl (.cons rfl .nil)) (mk_156_0_2 _ _ _ _ _ _ _ _ _ _ _ _)) ?_
                    refine .box rfl rfl rfl rfl rfl H8 (fun w9 b9 H9 => ⟨fun _ => trivial, ?_⟩)
                    refine .q rfl rfl rfl (val_nilCheck rfl) ?_
                    refine .q rfl rfl rfl (val_fieldAddr rfl fa_92_7) ?_
                    refine .store rfl rfl rfl rfl rfl sz_90 rfl H9 (.there (.there .here)) (by repeat constructor) (fun w10 H10 => ⟨fun _ => trivial, ?_⟩)
                    refine .nil (cj ?_)
                    refine .seq ?_
                    refine .plain rfl ?_
                    refine .q rfl rfl rfl (val_assign rfl) ?_
                    refine .q rfl rfl rfl (val_assign rfl) ?_
                    refine .nil (cj ?_)
                    refine .ret (fret (res2 rfl rfl rfl) ?_)
                    first | (rw [go_a hc0] at hRR; exact hRR _ _ ⟨_, ⟨⟨_, [], 0⟩, rfl, rfl, .none⟩, H10.sub (.cons .here .nil)⟩) | (rw [go_b hc0 hs23] at hRR; exact hRR _ _ ⟨_, ⟨⟨_, [], 0⟩, rfl, rfl, .none⟩, H10.sub (.cons .here .nil)⟩) | (rw [go_c hc0 hs23 hs36 hc2] at hRR; exact hRR _ _ ⟨_, ⟨⟨_, _, 0⟩, rfl, rfl, .some _ _⟩, H10.sub .nil⟩) | (rw [go_yes hc0 hs23 (by first | exact nn_a hs36 | exact nn_b hc2) hs62 hs72 hs82 hs91 hc3] at hRR; exact hRR _ _ ⟨_, ⟨⟨_, [], _⟩, rfl, rfl, .none⟩, H10.sub (.cons .here (.cons .here .nil))⟩) | (rw [go_no hc0 hs23 (by first | exact nn_a hs36 | exact nn_b hc2) (by first | exact no1 hs62 | exact no2 hs72 | exact no3 hs82 | exact no4 hs91 | exact no5 hc3)] at hRR; exact hRR _ _ ⟨_, ⟨⟨_, [], 0⟩, rfl, rfl, .none⟩, H10.sub (.cons .here .nil)⟩)
      · refine .no rfl rfl rfl ?_
        refine .no rfl rfl rfl ?_
        refine .no rfl rfl rfl ?_
        refine .no rfl rfl rfl ?_
        refine .no rfl rfl rfl ?_
        refine .no rfl rfl rfl ?_
        refine .no rfl rfl rfl ?_
        refine .p rfl rfl rfl (val_pick_f rfl rfl) ?_
        refine .p rfl rfl rfl (val_assign rfl) ?_
        refine .nil (cj ?_)
        refine .cond_f rfl ?_
        refine .skip (cj ?_)
        refine .seq ?_
        refine .plain rfl ?_
        refine .q rfl rfl rfl (val_fieldAddr rfl fa_44_4) ?_
        refine .q rfl rfl rfl (val_fieldAddr rfl fa_42_6) ?_
        refine .qs rfl rfl rfl H4 (ld_b rfl ob_3 (.own .here) rfl) ?_
        refine .q rfl rfl rfl (val_fieldAddr rfl fa_44_4) ?_
        refine .q rfl rfl rfl (val_fieldAddr rfl fa_42_5) ?_
        refine .qs rfl rfl rfl H4 (ld_b rfl ob_3 (.own .here) rfl) ?_
        refine .call1 rfl rfl rfl en94 (.cons rfl (.cons rfl .nil)) (less_spec _ _) H4 .nil .nil (fun w11 H11 => ⟨fun _ => trivial, ?_⟩)
        refine .q rfl rfl rfl (val_assign rfl) ?_
        refine .nil (cj ?_)
        refine .seq ?_
        refine .seq ?_
        refine .drawS 41 (.cons (0, true) (.cons (1, true) (.cons (2, true) (.cons (3, true) (.cons (4, true) (.cons (5, true) (.cons (6, true) (.cons (7, true) (.cons (8, true) (.cons (9, true) (.cons (10, true) (.cons (11, true) (.cons (12, true) (.cons (13, true) (.cons (14, true) (.cons (15, true) (.cons (16, true) (.cons (17, true) (.cons (18, true) (.cons (19, true) (.cons (20, true) (.cons (21, true) (.cons (22, true) (.cons (23, true) (.cons (24, true) (.cons (25, false) (.cons (26, true) (.cons (27, true) (.cons (28, true) (.cons (29, true) (.cons (30, true) (.cons (31, true) (.cons (32, true) (.cons (33, true) (.cons (34, true) (.cons (35, true) (.cons (36, true) (.cons (37, true) (.cons (38, true) (.cons (39, true) (.cons (40, true) .nil))))))))))))))))))))))))))))))))))))))))) mo (by kernel_rfl) H11 (fun _ _ _ _ _ h => h) (fun w12 H12 => ?_)
        refine .p rfl rfl rfl (val_fieldAddr rfl fa_44_3) ?_
        refine .ps rfl rfl rfl rfl (ld_b rfl ob_3 (.own .here) rfl) ?_
        refine .p rfl rfl rfl (val_move rfl) ?_
        refine .p rfl rfl rfl (val_nilCheck rfl) ?_
        refine .p rfl rfl rfl (val_fieldAddr rfl fa_92_6) ?_
        refine .ps rfl rfl rfl rfl (ld_b rfl ob_3 (.own (.there .here)) rfl) ?_
        refine .p rfl rfl rfl (val_add rfl rfl rfl) ?_
        refine .p rfl rfl rfl (val_neq rfl rfl rfl) ?_
        refine .p rfl rfl rfl (val_move rfl) ?_
        refine .case (t := 62) rfl (fun hs62 => ?_) (fun hs62 => ?_)
        · refine .no rfl rfl rfl ?_
          refine .no rfl rfl rfl ?_
          refine .no rfl rfl rfl ?_
          refine .no rfl rfl rfl ?_
          refine .no rfl rfl rfl ?_
          refine .no rfl rfl rfl ?_
          refine .no rfl rfl rfl ?_
          refine .no rfl rfl rfl ?_
          refine .p rfl rfl rfl (val_pick_t rfl rfl) ?_
          refine .p rfl rfl rfl (val_move rfl) ?_
          refine .no rfl rfl rfl ?_
          refine .no rfl rfl rfl ?_
          refine .no rfl rfl rfl ?_
          refine .no rfl rfl rfl ?_
          refine .no rfl rfl rfl ?_
          refine .no rfl rfl rfl ?_
          refine .no rfl rfl rfl ?_
          refine .no rfl rfl rfl ?_
          refine .p rfl rfl rfl (val_pick_t rfl rfl) ?_
          refine .p rfl rfl rfl (val_move rfl) ?_
          refine .no rfl rfl rfl ?_
          refine .no rfl rfl rfl ?_
          refine .no rfl rfl rfl ?_
          refine .no rfl rfl rfl ?_
          refine .no rfl rfl rfl ?_
          refine .no rfl rfl rfl ?_
          refine .no rfl rfl rfl ?_
          refine .p rfl rfl rfl (val_pick_t rfl rfl) ?_
          refine .p rfl rfl rfl (val_move rfl) ?_
          refine .no rfl rfl rfl ?_
          refine .no rfl rfl rfl ?_
          refine .p rfl rfl rfl (val_pick_t rfl rfl) ?_
          refine .nil (cj ?_)
          refine .cond_t rfl ?_
          refine .seq ?_
          refine .plain rfl ?_
          refine .q rfl rfl rfl (val_assign rfl) ?_
          refine .q rfl rfl rfl (val_assign rfl) ?_
          refine .nil (cj ?_)
          refine .ret (fret (res2 rfl rfl rfl) ?_)
          first | (rw [go_a hc0] at hRR; exact hRR _ _ ⟨_, ⟨⟨_, [], 0⟩, rfl, rfl, .none⟩, H12.sub (.cons (.there .here) .nil)⟩) | (rw [go_b hc0 hs23] at hRR; exact hRR _ _ ⟨_, ⟨⟨_, [], 0⟩, rfl, rfl, .none⟩, H12.sub (.cons (.there .here) .nil)⟩) | (rw [go_c hc0 hs23 hs36 hc2] at hRR; exact hRR _ _ ⟨_, ⟨⟨_, _, 0⟩, rfl, rfl, .some _ _⟩, H12.sub .nil⟩) | (rw [go_yes hc0 hs23 (by first | exact nn_a hs36 | exact nn_b hc2) hs62 hs72 hs82 hs91 hc3] at hRR; exact hRR _ _ ⟨_, ⟨⟨_, [], _⟩, rfl, rfl, .none⟩, H12.sub .nil⟩) | (rw [go_no hc0 hs23 (by first | exact nn_a hs36 | exact nn_b hc2) (by first | exact no1 hs62 | exact no2 hs72 | exact no3 hs82 | exact no4 hs91 | exact no5 hc3)] at hRR; exact hRR _ _ ⟨_, ⟨⟨_, [], 0⟩, rfl, rfl, .none⟩, H12.sub (.cons (.there .here) .nil)⟩)
        · refine .p rfl rfl rfl (val_fieldAddr rfl fa_44_4) ?_
          refine .p rfl rfl rfl (val_fieldAddr rfl fa_42_3) ?_
          refine .ps rfl rfl rfl rfl (ld_blks rfl ag_40 (.own .here) (by repeat constructor)) ?_
          refine .p rfl rfl rfl (val_move rfl) ?_
          refine .p rfl rfl rfl (val_nilCheck rfl) ?_
          refine .p rfl rfl rfl (val_fieldAddr rfl fa_92_3) ?_
          refine .ps rfl rfl rfl rfl (ld_blks rfl ag_40 (.own (.there .here)) (by repeat constructor)) ?_
          refine .p rfl rfl rfl (val_binrun rfl rfl seq_40_neq) ?_
          refine .p rfl rfl rfl (val_pick_f rfl rfl) ?_
          refine .p rfl rfl rfl (val_move rfl) ?_
          refine .case (t := 72) rfl (fun hs72 => ?_) (fun hs72 => ?_)
          · refine .no rfl rfl rfl ?_
            refine .no rfl rfl rfl ?_
            refine .no rfl rfl rfl ?_
            refine .no rfl rfl rfl ?_
            refine .no rfl rfl rfl ?_
            refine .no rfl rfl rfl ?_
            refine .no rfl rfl rfl ?_
            refine .no rfl rfl rfl ?_
            refine .p rfl rfl rfl (val_pick_t rfl rfl) ?_
            refine .p rfl rfl rfl (val_move rfl) ?_
            refine .no rfl rfl rfl ?_
            refine .no rfl rfl rfl ?_
            refine .no rfl rfl rfl ?_
            refine .no rfl rfl rfl ?_
            refine .no rfl rfl rfl ?_
            refine .no rfl rfl rfl ?_
            refine .no rfl rfl rfl ?_
            refine .p rfl rfl rfl (val_pick_t rfl rfl) ?_
            refine .p rfl rfl rfl (val_move rfl) ?_
            refine .no rfl rfl rfl ?_
            refine .no rfl rfl rfl ?_
            refine .p rfl rfl rfl (val_pick_t rfl rfl) ?_
            refine .nil (cj ?_)
            refine .cond_t rfl ?_
            refine .seq ?_
            refine .plain rfl ?_
            refine .q rfl rfl rfl (val_assign rfl) ?_
            refine .q rfl rfl rfl (val_assign rfl) ?_
            refine .nil (cj ?_)
            refine .ret (fret (res2 rfl rfl rfl) ?_)
            first | (rw [go_a hc0] at hRR; exact hRR _ _ ⟨_, ⟨⟨_, [], 0⟩, rfl, rfl, .none⟩, H12.sub (.cons (.there .here) .nil)⟩) | (rw [go_b hc0 hs23] at hRR; exact hRR _ _ ⟨_, ⟨⟨_, [], 0⟩, rfl, rfl, .none⟩, H12.sub (.cons (.there .here) .nil)⟩) | (rw [go_c hc0 hs23 hs36 hc2] at hRR; exact hRR _ _ ⟨_, ⟨⟨_, _, 0⟩, rfl, rfl, .some _ _⟩, H12.sub .nil⟩) | (rw [go_yes hc0 hs23 (by first | exact nn_a hs36 | exact nn_b hc2) hs62 hs72 hs82 hs91 hc3] at hRR; exact hRR _ _ ⟨_, ⟨⟨_, [], _⟩, rfl, rfl, .none⟩, H12.sub .nil⟩) | (rw [go_no hc0 hs23 (by first | exact nn_a hs36 | exact nn_b hc2) (by first | exact no1 hs62 | exact no2 hs72 | exact no3 hs82 | exact no4 hs91 | exact no5 hc3)] at hRR; exact hRR _ _ ⟨_, ⟨⟨_, [], 0⟩, rfl, rfl, .none⟩, H12.sub (.cons (.there .here) .nil)⟩)
          · refine .p rfl rfl rfl (val_move rfl) ?_
            refine .p rfl rfl rfl (val_nilCheck rfl) ?_
            refine .p rfl rfl rfl (val_fieldAddr rfl fa_92_1) ?_
            refine .ps rfl rfl rfl rfl (ld_b rfl ob_84 (.own (.there .here)) rfl) ?_
            refine .p rfl rfl rfl (val_fieldAddr rfl fa_44_4) ?_
            refine .ps rfl rfl rfl rfl (ld_blks rfl ag_42 (.own .here) (by repeat constructor)) ?_
            refine .call1 rfl rfl rfl en95 (.cons rfl (.cons rfl .nil)) (legalK_spec c hm _ _ _) H12 .nil (.ro .here (.ro (.there .here) (.ro (.there (.there .here)) .nil))) (fun w13 H13 => ⟨fun _ => H13, ?_⟩)
            refine .p rfl rfl rfl (val_not rfl rfl) ?_
            refine .p rfl rfl rfl (val_pick_f rfl rfl) ?_
            refine .p rfl rfl rfl (val_move rfl) ?_
            refine .case (t := 82) rfl (fun hs82 => ?_) (fun hs82 => ?_)
            · refine .no rfl rfl rfl ?_
              refine .no rfl rfl rfl ?_
              refine .no rfl rfl rfl ?_
              refine .no rfl rfl rfl ?_
              refine .no rfl rfl rfl ?_
              refine .no rfl rfl rfl ?_
              refine .no rfl rfl rfl ?_
              refine .p rfl rfl rfl (val_pick_t rfl rfl) ?_
              refine .p rfl rfl rfl (val_move rfl) ?_
              refine .no rfl rfl rfl ?_
              refine .no rfl rfl rfl ?_
              refine .p rfl rfl rfl (val_pick_t rfl rfl) ?_
              refine .nil (cj ?_)
              refine .cond_t rfl ?_
              refine .seq ?_
              refine .plain rfl ?_
              refine .q rfl rfl rfl (val_assign rfl) ?_
              refine .q rfl rfl rfl (val_assign rfl) ?_
              refine .nil (cj ?_)
              refine .ret (fret (res2 rfl rfl rfl) ?_)
              first | (rw [go_a hc0] at hRR; exact hRR _ _ ⟨_, ⟨⟨_, [], 0⟩, rfl, rfl, .none⟩, H13.sub (.cons (.there .here) .nil)⟩) | (rw [go_b hc0 hs23] at hRR; exact hRR _ _ ⟨_, ⟨⟨_, [], 0⟩, rfl, rfl, .none⟩, H13.sub (.cons (.there .here) .nil)⟩) | (rw [go_c hc0 hs23 hs36 hc2] at hRR; exact hRR _ _ ⟨_, ⟨⟨_, _, 0⟩, rfl, rfl, .some _ _⟩, H13.sub .nil⟩) | (rw [go_yes hc0 hs23 (by first | exact nn_a hs36 | exact nn_b hc2) hs62 hs72 hs82 hs91 hc3] at hRR; exact hRR _ _ ⟨_, ⟨⟨_, [], _⟩, rfl, rfl, .none⟩, H13.sub .nil⟩) | (rw [go_no hc0 hs23 (by first | exact nn_a hs36 | exact nn_b hc2) (by first | exact no1 hs62 | exact no2 hs72 | exact no3 hs82 | exact no4 hs91 | exact no5 hc3)] at hRR; exact hRR _ _ ⟨_, ⟨⟨_, [], 0⟩, rfl, rfl, .none⟩, H13.sub (.cons (.there .here) .nil)⟩)
            · refine .p rfl rfl rfl (val_fieldAddr rfl fa_44_4) ?_
              refine .p rfl rfl rfl (val_fieldAddr rfl fa_42_6) ?_
              refine .ps rfl rfl rfl rfl (ld_b rfl ob_3 (.own .here) rfl) ?_
              refine .p rfl rfl rfl (val_fieldAddr rfl fa_44_4) ?_
              refine .p rfl rfl rfl (val_fieldAddr rfl fa_42_5) ?_
              refine .ps rfl rfl rfl rfl (ld_b rfl ob_3 (.own .here) rfl) ?_
              refine .p rfl rfl rfl (val_leq rfl rfl rfl) ?_
              refine .p rfl rfl rfl (val_pick_f rfl rfl) ?_
              refine .p rfl rfl rfl (val_move rfl) ?_
              refine .case (t := 91) rfl (fun hs91 => ?_) (fun hs91 => ?_)
              · refine .no rfl rfl rfl ?_
                refine .no rfl rfl rfl ?_
                refine .p rfl rfl rfl (val_pick_t rfl rfl) ?_
                refine .nil (cj ?_)
                refine .cond_t rfl ?_
                refine .seq ?_
                refine .plain rfl ?_
                refine .q rfl rfl rfl (val_assign rfl) ?_
                refine .q rfl rfl rfl (val_assign rfl) ?_
                refine .nil (cj ?_)
                refine .ret (fret (res2 rfl rfl rfl) ?_)
                first | (rw [go_a hc0] at hRR; exact hRR _ _ ⟨_, ⟨⟨_, [], 0⟩, rfl, rfl, .none⟩, H13.sub (.cons (.there .here) .nil)⟩) | (rw [go_b hc0 hs23] at hRR; exact hRR _ _ ⟨_, ⟨⟨_, [], 0⟩, rfl, rfl, .none⟩, H13.sub (.cons (.there .here) .nil)⟩) | (rw [go_c hc0 hs23 hs36 hc2] at hRR; exact hRR _ _ ⟨_, ⟨⟨_, _, 0⟩, rfl, rfl, .some _ _⟩, H13.sub .nil⟩) | (rw [go_yes hc0 hs23 (by first | exact nn_a hs36 | exact nn_b hc2) hs62 hs72 hs82 hs91 hc3] at hRR; exact hRR _ _ ⟨_, ⟨⟨_, [], _⟩, rfl, rfl, .none⟩, H13.sub .nil⟩) | (rw [go_no hc0 hs23 (by first | exact nn_a hs36 | exact nn_b hc2) (by first | exact no1 hs62 | exact no2 hs72 | exact no3 hs82 | exact no4 hs91 | exact no5 hc3)] at hRR; exact hRR _ _ ⟨_, ⟨⟨_, [], 0⟩, rfl, rfl, .none⟩, H13.sub (.cons (.there .here) .nil)⟩)
              · refine .p rfl rfl rfl (val_move rfl) ?_
                refine .p rfl rfl rfl (val_eql rfl rfl rfl) ?_
                refine .p rfl rfl rfl (val_pick_f rfl rfl) ?_
                refine .nil (cj ?_)
                refine .cond rfl (fun hc3 => ?_) (fun hc3 => ?_)
                · refine .seq ?_
                  refine .plain rfl ?_
                  refine .q rfl rfl rfl (val_assign rfl) ?_
                  refine .q rfl rfl rfl (val_assign rfl) ?_
                  refine .nil (cj ?_)
                  refine .ret (fret (res2 rfl rfl rfl) ?_)
                  first | (rw [go_a hc0] at hRR; exact hRR _ _ ⟨_, ⟨⟨_, [], 0⟩, rfl, rfl, .none⟩, H13.sub (.cons (.there .here) .nil)⟩) | (rw [go_b hc0 hs23] at hRR; exact hRR _ _ ⟨_, ⟨⟨_, [], 0⟩, rfl, rfl, .none⟩, H13.sub (.cons (.there .here) .nil)⟩) | (rw [go_c hc0 hs23 hs36 hc2] at hRR; exact hRR _ _ ⟨_, ⟨⟨_, _, 0⟩, rfl, rfl, .some _ _⟩, H13.sub .nil⟩) | (rw [go_yes hc0 hs23 (by first | exact nn_a hs36 | exact nn_b hc2) hs62 hs72 hs82 hs91 hc3] at hRR; exact hRR _ _ ⟨_, ⟨⟨_, [], _⟩, rfl, rfl, .none⟩, H13.sub .nil⟩) | (rw [go_no hc0 hs23 (by first | exact nn_a hs36 | exact nn_b hc2) (by first | exact no1 hs62 | exact no2 hs72 | exact no3 hs82 | exact no4 hs91 | exact no5 hc3)] at hRR; exact hRR _ _ ⟨_, ⟨⟨_, [], 0⟩, rfl, rfl, .none⟩, H13.sub (.cons (.there .here) .nil)⟩)
                · refine .skip (cj ?_)
                  refine .seq ?_
                  refine .plain rfl ?_
                  refine .q rfl rfl rfl (val_move rfl) ?_
                  refine .q rfl rfl rfl (val_fieldAddr rfl fa_44_4) ?_
                  refine .qs rfl rfl rfl H13 (ld_blks rfl ag_42 (.own .here) (by repeat constructor)) ?_
                  refine .q rfl rfl rfl (val_move rfl) ?_
                  refine .q rfl rfl rfl (val_mk (.cons rfl (.cons rfl .nil)) (mk_156_0_2 _ _ _ _ _ _ _ _ _ _ _ _)) ?_
                  refine .box rfl rfl rfl rfl rfl H13 (fun w14 b14 H14 => ⟨fun _ => trivial, ?_⟩)
                  refine .q rfl rfl rfl (val_nilCheck rfl) ?_
                  refine .q rfl rfl rfl (val_fieldAddr rfl fa_92_7) ?_
                  refine .store rfl rfl rfl rfl rfl sz_90 rfl H14 (.there (.there .here)) (by repeat constructor) (fun w15 H15 => ⟨fun _ => trivial, ?_⟩)
                  refine .nil (cj ?_)
                  refine .seq ?_
                  refine .plain rfl ?_
                  refine .q rfl rfl rfl (val_assign rfl) ?_
                  refine .q rfl rfl rfl (val_assign rfl) ?_
                  refine .nil (cj ?_)
                  refine .ret (fret (res2 rfl rfl rfl) ?_)
                  first | (rw [go_a hc0] at hRR; exact hRR _ _ ⟨_, ⟨⟨_, [], 0⟩, rfl, rfl, .none⟩, H15.sub (.cons .here .nil)⟩) | (rw [go_b hc0 hs23] at hRR; exact hRR _ _ ⟨_, ⟨⟨_, [], 0⟩, rfl, rfl, .none⟩, H15.sub (.cons .here .nil)⟩) | (rw [go_c hc0 hs23 hs36 hc2] at hRR; exact hRR _ _ ⟨_, ⟨⟨_, _, 0⟩, rfl, rfl, .some _ _⟩, H15.sub .nil⟩) | (rw [go_yes hc0 hs23 (by first | exact nn_a hs36 | exact nn_b hc2) hs62 hs72 hs82 hs91 hc3] at hRR; exact hRR _ _ ⟨_, ⟨⟨_, [], _⟩, rfl, rfl, .none⟩, H15.sub (.cons .here (.cons .here .nil))⟩) | (rw [go_no hc0 hs23 (by first | exact nn_a hs36 | exact nn_b hc2) (by first | exact no1 hs62 | exact no2 hs72 | exact no3 hs82 | exact no4 hs91 | exact no5 hc3)] at hRR; exact hRR _ _ ⟨_, ⟨⟨_, [], 0⟩, rfl, rfl, .none⟩, H15.sub (.cons .here .nil)⟩)
theorem goes1_spec (c : Cf) (hm : MayOk c) (br bg bk bn bu : Nat) (r : Rb) (g : Gg) (t : Te) : Sk.Spec Tryz.prog 70 #[ptr br, .agg (encT t).toArray] [gfix c bg bk, kblk bk (KF c), stepsA] [rblk br bg bn r (some ⟨bu, 0, none⟩), gblk2 bu g] (GoPost br bg bn r (goB c r (some g) t)) := by
  refine Spec.of_code (vs := [_, _]) (k0 := [(0, _), (1, _)]) 103 Tryz.func70 rfl Tryz.ntmps70 rfl (.cons (.cons .nil)) fun w X RR hRR H => ?_
  refine .seq ?_
  refine .plain rfl ?_
  refine .box rfl rfl rfl rfl rfl H (fun w1 b1 H1 => ⟨fun _ => trivial, ?_⟩)
  refine .q rfl rfl rfl (val_assign rfl) ?_
  refine .q rfl rfl rfl (val_assign rfl) ?_
  refine .nil (cj ?_)
  refine .seq ?_
  refine .block ?_
  refine .seq ?_
  refine .drawS 8 (.cons (0, true) (.cons (1, true) (.cons (2, true) (.cons (3, true) (.cons (4, true) (.cons (5, true) (.cons (6, true) (.cons (7, true) .nil)))))))) mo (by kernel_rfl) H1 (fun _ _ _ _ _ h => h) (fun w2 H2 => ?_)
  refine .p rfl rfl rfl (val_fieldAddr rfl fa_44_2) ?_
  refine .ps rfl rfl rfl rfl (ld_b rfl ob_3 (.own .here) rfl) ?_
  refine .p rfl rfl rfl (val_move rfl) ?_
  refine .p rfl rfl rfl (val_nilCheck rfl) ?_
  refine .p rfl rfl rfl (val_fieldAddr rfl fa_92_5) ?_
  refine .ps rfl rfl rfl rfl (ld_b rfl ob_3 (.own (.there .here)) rfl) ?_
  refine .p rfl rfl rfl (val_lss rfl rfl rfl) ?_
  refine .p rfl rfl rfl (val_assign rfl) ?_
  refine .nil (cj ?_)
  refine .cond rfl (fun hc0 => ?_) (fun hc0 => ?_)
  · refine .seq ?_
    refine .plain rfl ?_
    refine .q rfl rfl rfl (val_assign rfl) ?_
    refine .q rfl rfl rfl (val_assign rfl) ?_
    refine .nil (cj ?_)
    refine .ret (fret (res2 rfl rfl rfl) ?_)
    first | (rw [go_a hc0] at hRR; exact hRR _ _ ⟨_, ⟨⟨_, [], bu⟩, rfl, rfl, .none⟩, H2.sub (.cons (.there .here) (.cons (.there .here) .nil))⟩) | (rw [go_u hc0] at hRR; exact hRR _ _ ⟨_, ⟨⟨_, [], bu⟩, rfl, rfl, .none⟩, H2.sub (.cons (.there .here) (.cons (.there .here) .nil))⟩)
  · refine .seq ?_
    refine .drawS 15 (.cons (0, true) (.cons (1, true) (.cons (2, true) (.cons (3, true) (.cons (4, true) (.cons (5, true) (.cons (6, true) (.cons (7, true) (.cons (8, true) (.cons (9, true) (.cons (10, true) (.cons (11, true) (.cons (12, true) (.cons (13, true) (.cons (14, true) .nil))))))))))))))) mo (by kernel_rfl) H2 (fun _ _ _ _ _ h => h) (fun w3 H3 => ?_)
    refine .p rfl rfl rfl (val_fieldAddr rfl fa_44_2) ?_
    refine .ps rfl rfl rfl rfl (ld_b rfl ob_3 (.own .here) rfl) ?_
    refine .p rfl rfl rfl (val_move rfl) ?_
    refine .p rfl rfl rfl (val_nilCheck rfl) ?_
    refine .p rfl rfl rfl (val_fieldAddr rfl fa_92_5) ?_
    refine .ps rfl rfl rfl rfl (ld_b rfl ob_3 (.own (.there .here)) rfl) ?_
    refine .p rfl rfl rfl (val_gtr rfl rfl rfl) ?_
    refine .p rfl rfl rfl (val_move rfl) ?_
    refine .case (t := 23) rfl (fun hs23 => ?_) (fun hs23 => ?_)
    · refine .no rfl rfl rfl ?_
      refine .no rfl rfl rfl ?_
      refine .no rfl rfl rfl ?_
      refine .no rfl rfl rfl ?_
      refine .no rfl rfl rfl ?_
      refine .p rfl rfl rfl (val_pick_t rfl rfl) ?_
      refine .p rfl rfl rfl (val_assign rfl) ?_
      refine .nil (cj ?_)
      refine .cond_t rfl ?_
      refine .seq ?_
      refine .plain rfl ?_
      refine .q rfl rfl rfl (val_assign rfl) ?_
      refine .q rfl rfl rfl (val_assign rfl) ?_
      refine .nil (cj ?_)
      refine .ret (fret (res2 rfl rfl rfl) ?_)
      first | (rw [go_a hc0] at hRR; exact hRR _ _ ⟨_, ⟨⟨_, [], bu⟩, rfl, rfl, .none⟩, H3.sub (.cons (.there .here) (.cons (.there .here) .nil))⟩) | (rw [go_u hc0] at hRR; exact hRR _ _ ⟨_, ⟨⟨_, [], bu⟩, rfl, rfl, .none⟩, H3.sub (.cons (.there .here) (.cons (.there .here) .nil))⟩)
    · refine .p rfl rfl rfl (val_move rfl) ?_
      refine .p rfl rfl rfl (val_nilCheck rfl) ?_
      refine .p rfl rfl rfl (val_fieldAddr rfl fa_92_7) ?_
      refine .ps rfl rfl rfl rfl (ld_b rfl ob_90 (.own (.there .here)) rfl) ?_
      refine .p rfl rfl rfl (val_ptr_ne_nil Tryz.underlying90 rfl rfl rfl) ?_
      refine .p rfl rfl rfl (val_pick_f rfl rfl) ?_
      refine .p rfl rfl rfl (val_assign rfl) ?_
      refine .nil (cj ?_)
      refine .cond_t rfl ?_
      refine .seq ?_
      refine .plain rfl ?_
      refine .q rfl rfl rfl (val_assign rfl) ?_
      refine .q rfl rfl rfl (val_assign rfl) ?_
      refine .nil (cj ?_)
      refine .ret (fret (res2 rfl rfl rfl) ?_)
      first | (rw [go_a hc0] at hRR; exact hRR _ _ ⟨_, ⟨⟨_, [], bu⟩, rfl, rfl, .none⟩, H3.sub (.cons (.there .here) (.cons (.there .here) .nil))⟩) | (rw [go_u hc0] at hRR; exact hRR _ _ ⟨_, ⟨⟨_, [], bu⟩, rfl, rfl, .none⟩, H3.sub (.cons (.there .here) (.cons (.there .here) .nil))⟩)
end Go.Proofs.YtmbibkifbehgnaaGreatDoor
namespace Go.Proofs.YtmbibkifbehgnaaGreatDoor
open Go Sk
set_option linter.unusedVariables false
set_option linter.unusedSimpArgs false
structure StR where
  tele : Option Te
  how : Int
  r : Rb
def stopB (r : Rb) (ep : Int) : StR :=
  if ep < r.epoch then ⟨none, 0, r⟩
  else if r.epoch < ep then (if ep = 0 then ⟨none, 0, { r with epoch := ep, num := 0 }⟩ else ⟨some (tellB { r with epoch := ep, num := 0 }), 3, { r with epoch := ep, num := 0 }⟩)
  else if r.epoch = 0 ∨ r.num ≠ 0 then ⟨none, 0, r⟩ else ⟨some (tellB r), 0, r⟩
section
variable {r : Rb} {ep : Int}
theorem st_a (h : decide (ep < r.epoch) = true) : stopB r ep = ⟨none, 0, r⟩ := by unfold stopB; rw [if_pos (of_decide_eq_true h)]
theorem st_b (h : decide (ep < r.epoch) = false) (h2 : decide (r.epoch < ep) = true) (h3 : (ep == 0) = true) : stopB r ep = ⟨none, 0, { r with epoch := ep, num := 0 }⟩ := by
  unfold stopB; rw [if_neg (of_decide_eq_false h), if_pos (of_decide_eq_true h2), if_pos (by simpa using h3)]
theorem st_c (h : decide (ep < r.epoch) = false) (h2 : decide (r.epoch < ep) = true) (h3 : (ep == 0) = false) : stopB r ep = ⟨some (tellB { r with epoch := ep, num := 0 }), 3, { r with epoch := ep, num := 0 }⟩ := by
  unfold stopB; rw [if_neg (of_decide_eq_false h), if_pos (of_decide_eq_true h2), if_neg (by simpa using h3)]
theorem st_d (h : decide (ep < r.epoch) = false) (h2 : decide (r.epoch < ep) = false) (h3 : (r.epoch == 0) = true) : stopB r ep = ⟨none, 0, r⟩ := by
  unfold stopB; rw [if_neg (of_decide_eq_false h), if_neg (of_decide_eq_false h2), if_pos (.inl (by simpa using h3))]
theorem st_e (h : decide (ep < r.epoch) = false) (h2 : decide (r.epoch < ep) = false) (h3 : (r.num != 0) = true) : stopB r ep = ⟨none, 0, r⟩ := by
  unfold stopB; rw [if_neg (of_decide_eq_false h), if_neg (of_decide_eq_false h2), if_pos (.inr (by simpa using h3))]
theorem st_f (h : decide (ep < r.epoch) = false) (h2 : decide (r.epoch < ep) = false) (h3 : (r.epoch == 0) = false) (h4 : (r.num != 0) = false) : stopB r ep = ⟨some (tellB r), 0, r⟩ := by
  have a : ¬ (r.epoch = 0 ∨ r.num ≠ 0) := by simp at h3 h4; simp [h3, h4]
  unfold stopB; rw [if_neg (of_decide_eq_false h), if_neg (of_decide_eq_false h2), if_neg a]
end
abbrev StPost (br bg bn : Nat) (q : StR) : Ending → List As → Prop := fun e F' => ∃ x : HX, e = .returned (.tuple #[x.v, i64 q.how]) ∧ F' = x.fx ++ [rblk br bg bn q.r none] ∧ TeV q.tele x.v x.fx
theorem stops0_spec (br bg bn : Nat) (r : Rb) (ep : Int) : Sk.Spec Tryz.prog 71 #[ptr br, i64 ep] [] [rblk br bg bn r none] (StPost br bg bn (stopB r ep)) := by
  refine Spec.of_code (vs := [_, _]) (k0 := [(0, _), (1, _)]) 60 Tryz.func71 rfl Tryz.ntmps71 rfl (.cons (.cons .nil)) fun w X RR hRR H => ?_
  refine .seq ?_
  refine .plain rfl ?_
  refine .q rfl rfl rfl (val_assign rfl) ?_
  refine .q rfl rfl rfl (val_assign rfl) ?_
  refine .nil (cj ?_)
  refine .seq ?_
  refine .plain rfl ?_
  refine .q rfl rfl rfl (val_assign rfl) ?_
  refine .nil (cj ?_)
  refine .seq ?_
  refine .block ?_
  refine .seq ?_
  refine .block ?_
  refine .seq ?_
  refine .block ?_
  refine .seq ?_
  refine .block ?_
  refine .seq ?_
  refine .seq ?_
  refine .seq ?_
  refine .plain rfl ?_
  refine .q rfl rfl rfl (val_move rfl) ?_
  refine .q rfl rfl rfl (val_move rfl) ?_
  refine .q rfl rfl rfl (val_nilCheck rfl) ?_
  refine .q rfl rfl rfl (val_fieldAddr rfl fa_92_5) ?_
  refine .qs rfl rfl rfl H (ld_b rfl ob_3 (.own .here) rfl) ?_
  refine .q rfl rfl rfl (val_lss rfl rfl rfl) ?_
  refine .q rfl rfl rfl (val_assign rfl) ?_
  refine .nil (cj ?_)
  refine .cond rfl (fun hc0 => ?_) (fun hc0 => ?_)
  · refine .exit (cj ?_)
    refine .seq ?_
    refine .seq ?_
    refine .plain rfl ?_
    refine .q rfl rfl rfl (val_assign rfl) ?_
    refine .q rfl rfl rfl (val_assign rfl) ?_
    refine .nil (cj ?_)
    refine .ret (fret (res2 rfl rfl rfl) ?_)
    first | (exfalso; simp at hc3; done) | (rw [st_a hc0] at hRR; exact hRR _ _ ⟨_, ⟨⟨_, [], 0⟩, rfl, rfl, .none⟩, H.sub (.cons .here .nil)⟩) | (rw [st_b hc0 hc1 hs43] at hRR; exact hRR _ _ ⟨_, ⟨⟨_, [], 0⟩, rfl, rfl, .none⟩, H.sub (.cons .here .nil)⟩) | (rw [st_c hc0 hc1 hs43] at hRR; exact hRR _ _ ⟨_, ⟨⟨_, _, 0⟩, rfl, rfl, .some _ _⟩, H.sub .nil⟩) | (rw [st_d hc0 hc1 hs43] at hRR; exact hRR _ _ ⟨_, ⟨⟨_, [], 0⟩, rfl, rfl, .none⟩, H.sub (.cons .here .nil)⟩) | (rw [st_e hc0 hc1 hc3] at hRR; exact hRR _ _ ⟨_, ⟨⟨_, [], 0⟩, rfl, rfl, .none⟩, H.sub (.cons .here .nil)⟩) | (rw [st_f hc0 hc1 hs43 hc3] at hRR; exact hRR _ _ ⟨_, ⟨⟨_, _, 0⟩, rfl, rfl, .some _ _⟩, H.sub .nil⟩)
  · refine .skip (cj ?_)
    refine .seq ?_
    refine .plain rfl ?_
    refine .q rfl rfl rfl (val_move rfl) ?_
    refine .q rfl rfl rfl (val_move rfl) ?_
    refine .q rfl rfl rfl (val_nilCheck rfl) ?_
    refine .q rfl rfl rfl (val_fieldAddr rfl fa_92_5) ?_
    refine .qs rfl rfl rfl H (ld_b rfl ob_3 (.own .here) rfl) ?_
    refine .q rfl rfl rfl (val_gtr rfl rfl rfl) ?_
    refine .q rfl rfl rfl (val_assign rfl) ?_
    refine .nil (cj ?_)
    refine .cond rfl (fun hc1 => ?_) (fun hc1 => ?_)
    · refine .exit (cj ?_)
      refine .seq ?_
      refine .plain rfl ?_
      refine .q rfl rfl rfl (val_move rfl) ?_
      refine .q rfl rfl rfl (val_move rfl) ?_
      refine .q rfl rfl rfl (val_move rfl) ?_
      refine .q rfl rfl rfl (val_nilCheck rfl) ?_
      refine .q rfl rfl rfl (val_fieldAddr rfl fa_92_5) ?_
      refine .store rfl rfl rfl rfl rfl sz_3 rfl H .here (by repeat constructor) (fun w1 H1 => ⟨fun _ => trivial, ?_⟩)
      refine .q rfl rfl rfl (val_nilCheck rfl) ?_
      refine .q rfl rfl rfl (val_fieldAddr rfl fa_92_6) ?_
      refine .store rfl rfl rfl rfl rfl sz_3 rfl H1 .here (by repeat constructor) (fun w2 H2 => ⟨fun _ => trivial, ?_⟩)
      refine .nil (cj ?_)
      refine .seq ?_
      refine .seq ?_
      refine .plain rfl ?_
      refine .q rfl rfl rfl (val_move rfl) ?_
      refine .q rfl rfl rfl (val_nilCheck rfl) ?_
      refine .q rfl rfl rfl (val_fieldAddr rfl fa_92_7) ?_
      refine .qs rfl rfl rfl H2 (ld_b rfl ob_90 (.own .here) rfl) ?_
      refine .q rfl rfl rfl (val_ptr_ne_nil Tryz.underlying90 rfl rfl rfl) ?_
      refine .nil (cj ?_)
      refine .cond_f rfl ?_
      refine .skip (cj ?_)
      refine .plain rfl ?_
      refine .q rfl rfl rfl (val_assign rfl) ?_
      refine .nil (cj ?_)
      refine .seq ?_
      refine .seq ?_
      refine .plain rfl ?_
      refine .q rfl rfl rfl (val_move rfl) ?_
      refine .q rfl rfl rfl (val_nilCheck rfl) ?_
      refine .q rfl rfl rfl (val_fieldAddr rfl fa_92_5) ?_
      refine .qs rfl rfl rfl H2 (ld_b rfl ob_3 (.own .here) rfl) ?_
      refine .q rfl rfl rfl (val_eql rfl rfl rfl) ?_
      refine .q rfl rfl rfl (val_move rfl) ?_
      refine .case (t := 43) rfl (fun hs43 => ?_) (fun hs43 => ?_)
      · refine .no rfl rfl rfl ?_
        refine .no rfl rfl rfl ?_
        refine .no rfl rfl rfl ?_
        refine .no rfl rfl rfl ?_
        refine .no rfl rfl rfl ?_
        refine .q rfl rfl rfl (val_pick_t rfl rfl) ?_
        refine .q rfl rfl rfl (val_move rfl) ?_
        refine .no rfl rfl rfl ?_
        refine .no rfl rfl rfl ?_
        refine .no rfl rfl rfl ?_
        refine .no rfl rfl rfl ?_
        refine .no rfl rfl rfl ?_
        refine .q rfl rfl rfl (val_pick_t rfl rfl) ?_
        refine .nil (cj ?_)
        refine .cond_t rfl ?_
        refine .seq ?_
        refine .plain rfl ?_
        refine .q rfl rfl rfl (val_assign rfl) ?_
        refine .q rfl rfl rfl (val_assign rfl) ?_
        refine .nil (cj ?_)
        refine .ret (fret (res2 rfl rfl rfl) ?_)
        first | (exfalso; simp at hc3; done) | (rw [st_a hc0] at hRR; exact hRR _ _ ⟨_, ⟨⟨_, [], 0⟩, rfl, rfl, .none⟩, H2.sub (.cons .here .nil)⟩) | (rw [st_b hc0 hc1 hs43] at hRR; exact hRR _ _ ⟨_, ⟨⟨_, [], 0⟩, rfl, rfl, .none⟩, H2.sub (.cons .here .nil)⟩) | (rw [st_c hc0 hc1 hs43] at hRR; exact hRR _ _ ⟨_, ⟨⟨_, _, 0⟩, rfl, rfl, .some _ _⟩, H2.sub .nil⟩) | (rw [st_d hc0 hc1 hs43] at hRR; exact hRR _ _ ⟨_, ⟨⟨_, [], 0⟩, rfl, rfl, .none⟩, H2.sub (.cons .here .nil)⟩) | (rw [st_e hc0 hc1 hc3] at hRR; exact hRR _ _ ⟨_, ⟨⟨_, [], 0⟩, rfl, rfl, .none⟩, H2.sub (.cons .here .nil)⟩) | (rw [st_f hc0 hc1 hs43 hc3] at hRR; exact hRR _ _ ⟨_, ⟨⟨_, _, 0⟩, rfl, rfl, .some _ _⟩, H2.sub .nil⟩)
      · refine .q rfl rfl rfl (val_move rfl) ?_
        refine .q rfl rfl rfl (val_nilCheck rfl) ?_
        refine .q rfl rfl rfl (val_fieldAddr rfl fa_92_7) ?_
        refine .qs rfl rfl rfl H2 (ld_b rfl ob_90 (.own .here) rfl) ?_
        refine .q rfl rfl rfl (val_ptr_ne_nil Tryz.underlying90 rfl rfl rfl) ?_
        refine .q rfl rfl rfl (val_pick_f rfl rfl) ?_
        refine .q rfl rfl rfl (val_move rfl) ?_
        refine .q rfl rfl rfl (val_move rfl) ?_
        refine .q rfl rfl rfl (val_nilCheck rfl) ?_
        refine .q rfl rfl rfl (val_fieldAddr rfl fa_92_6) ?_
        refine .qs rfl rfl rfl H2 (ld_b rfl ob_3 (.own .here) rfl) ?_
        refine .q rfl rfl rfl (val_neq rfl rfl rfl) ?_
        refine .q rfl rfl rfl (val_pick_f rfl rfl) ?_
        refine .nil (cj ?_)
        refine .cond rfl (fun hc3 => ?_) (fun hc3 => ?_)
        · refine .seq ?_
          refine .plain rfl ?_
          refine .q rfl rfl rfl (val_assign rfl) ?_
          refine .q rfl rfl rfl (val_assign rfl) ?_
          refine .nil (cj ?_)
          refine .ret (fret (res2 rfl rfl rfl) ?_)
          first | (exfalso; simp at hc3; done) | (rw [st_a hc0] at hRR; exact hRR _ _ ⟨_, ⟨⟨_, [], 0⟩, rfl, rfl, .none⟩, H2.sub (.cons .here .nil)⟩) | (rw [st_b hc0 hc1 hs43] at hRR; exact hRR _ _ ⟨_, ⟨⟨_, [], 0⟩, rfl, rfl, .none⟩, H2.sub (.cons .here .nil)⟩) | (rw [st_c hc0 hc1 hs43] at hRR; exact hRR _ _ ⟨_, ⟨⟨_, _, 0⟩, rfl, rfl, .some _ _⟩, H2.sub .nil⟩) | (rw [st_d hc0 hc1 hs43] at hRR; exact hRR _ _ ⟨_, ⟨⟨_, [], 0⟩, rfl, rfl, .none⟩, H2.sub (.cons .here .nil)⟩) | (rw [st_e hc0 hc1 hc3] at hRR; exact hRR _ _ ⟨_, ⟨⟨_, [], 0⟩, rfl, rfl, .none⟩, H2.sub (.cons .here .nil)⟩) | (rw [st_f hc0 hc1 hs43 hc3] at hRR; exact hRR _ _ ⟨_, ⟨⟨_, _, 0⟩, rfl, rfl, .some _ _⟩, H2.sub .nil⟩)
        · refine .skip (cj ?_)
          refine .exit (cj ?_)
          refine .seq ?_
          refine .plain rfl ?_
          refine .q rfl rfl rfl (val_move rfl) ?_
          first | (refine .callx rfl rfl rfl en58 (.cons rfl .nil) (tell_spec _ _ _ { r with epoch := ep, num := 0 } _) H2 .nil (.own .here .nil) (fun b3 w3 C3 H3 => ⟨fun _ => trivial, ?_⟩)) | (refine .callx rfl rfl rfl en58 (.cons rfl .nil) (tell_spec _ _ _ _ _) H2 .nil (.own .here .nil) (fun b3 w3 C3 H3 => ⟨fun _ => trivial, ?_⟩))
          refine .q rfl rfl rfl (val_move rfl) ?_
          refine .q rfl rfl rfl (val_assign rfl) ?_
          refine .q rfl rfl rfl (val_assign rfl) ?_
          refine .nil (cj ?_)
          refine .ret (fret (res2 rfl rfl rfl) ?_)
          first | (exfalso; simp at hc3; done) | (rw [st_a hc0] at hRR; exact hRR _ _ ⟨_, ⟨⟨_, [], 0⟩, rfl, rfl, .none⟩, H3.sub (.cons (.there .here) .nil)⟩) | (rw [st_b hc0 hc1 hs43] at hRR; exact hRR _ _ ⟨_, ⟨⟨_, [], 0⟩, rfl, rfl, .none⟩, H3.sub (.cons (.there .here) .nil)⟩) | (rw [st_c hc0 hc1 hs43] at hRR; exact hRR _ _ ⟨_, ⟨⟨_, _, 0⟩, rfl, rfl, .some _ _⟩, H3.sub (.cons .here (.cons .here .nil))⟩) | (rw [st_d hc0 hc1 hs43] at hRR; exact hRR _ _ ⟨_, ⟨⟨_, [], 0⟩, rfl, rfl, .none⟩, H3.sub (.cons (.there .here) .nil)⟩) | (rw [st_e hc0 hc1 hc3] at hRR; exact hRR _ _ ⟨_, ⟨⟨_, [], 0⟩, rfl, rfl, .none⟩, H3.sub (.cons (.there .here) .nil)⟩) | (rw [st_f hc0 hc1 hs43 hc3] at hRR; exact hRR _ _ ⟨_, ⟨⟨_, _, 0⟩, rfl, rfl, .some _ _⟩, H3.sub (.cons .here (.cons .here .nil))⟩)
    · refine .skip (cj ?_)
      refine .exit (cj ?_)
      refine .seq ?_
      refine .seq ?_
      refine .plain rfl ?_
      refine .q rfl rfl rfl (val_move rfl) ?_
      refine .q rfl rfl rfl (val_nilCheck rfl) ?_
      refine .q rfl rfl rfl (val_fieldAddr rfl fa_92_5) ?_
      refine .qs rfl rfl rfl H (ld_b rfl ob_3 (.own .here) rfl) ?_
      refine .q rfl rfl rfl (val_eql rfl rfl rfl) ?_
      refine .q rfl rfl rfl (val_move rfl) ?_
      refine .case (t := 43) rfl (fun hs43 => ?_) (fun hs43 => ?_)
      · refine .no rfl rfl rfl ?_
        refine .no rfl rfl rfl ?_
        refine .no rfl rfl rfl ?_
        refine .no rfl rfl rfl ?_
        refine .no rfl rfl rfl ?_
        refine .q rfl rfl rfl (val_pick_t rfl rfl) ?_
        refine .q rfl rfl rfl (val_move rfl) ?_
        refine .no rfl rfl rfl ?_
        refine .no rfl rfl rfl ?_
        refine .no rfl rfl rfl ?_
        refine .no rfl rfl rfl ?_
        refine .no rfl rfl rfl ?_
        refine .q rfl rfl rfl (val_pick_t rfl rfl) ?_
        refine .nil (cj ?_)
        refine .cond_t rfl ?_
        refine .seq ?_
        refine .plain rfl ?_
        refine .q rfl rfl rfl (val_assign rfl) ?_
        refine .q rfl rfl rfl (val_assign rfl) ?_
        refine .nil (cj ?_)
        refine .ret (fret (res2 rfl rfl rfl) ?_)
        first | (exfalso; simp at hc3; done) | (rw [st_a hc0] at hRR; exact hRR _ _ ⟨_, ⟨⟨_, [], 0⟩, rfl, rfl, .none⟩, H.sub (.cons .here .nil)⟩) | (rw [st_b hc0 hc1 hs43] at hRR; exact hRR _ _ ⟨_, ⟨⟨_, [], 0⟩, rfl, rfl, .none⟩, H.sub (.cons .here .nil)⟩) | (rw [st_c hc0 hc1 hs43] at hRR; exact hRR _ _ ⟨_, ⟨⟨_, _, 0⟩, rfl, rfl, .some _ _⟩, H.sub .nil⟩) | (rw [st_d hc0 hc1 hs43] at hRR; exact hRR _ _ ⟨_, ⟨⟨_, [], 0⟩, rfl, rfl, .none⟩, H.sub (.cons .here .nil)⟩) | (rw [st_e hc0 hc1 hc3] at hRR; exact hRR _ _ ⟨_, ⟨⟨_, [], 0⟩, rfl, rfl, .none⟩, H.sub (.cons .here .nil)⟩) | (rw [st_f hc0 hc1 hs43 hc3] at hRR; exact hRR _ _ ⟨_, ⟨⟨_, _, 0⟩, rfl, rfl, .some _ _⟩, H.sub .nil⟩)
      · refine .q rfl rfl rfl (val_move rfl) ?_
        refine .q rfl rfl rfl (val_nilCheck rfl) ?_
        refine .q rfl rfl rfl (val_fieldAddr rfl fa_92_7) ?_
        refine .qs rfl rfl rfl H (ld_b rfl ob_90 (.own .here) rfl) ?_
        refine .q rfl rfl rfl (val_ptr_ne_nil Tryz.underlying90 rfl rfl rfl) ?_
        refine .q rfl rfl rfl (val_pick_f rfl rfl) ?_
        refine .q rfl rfl rfl (val_move rfl) ?_
        refine .q rfl rfl rfl (val_move rfl) ?_
        refine .q rfl rfl rfl (val_nilCheck rfl) ?_
        refine .q rfl rfl rfl (val_fieldAddr rfl fa_92_6) ?_
        refine .qs rfl rfl rfl H (ld_b rfl ob_3 (.own .here) rfl) ?_
        refine .q rfl rfl rfl (val_neq rfl rfl rfl) ?_
        refine .q rfl rfl rfl (val_pick_f rfl rfl) ?_
        refine .nil (cj ?_)
        refine .cond rfl (fun hc3 => ?_) (fun hc3 => ?_)
        · refine .seq ?_
          refine .plain rfl ?_
          refine .q rfl rfl rfl (val_assign rfl) ?_
          refine .q rfl rfl rfl (val_assign rfl) ?_
          refine .nil (cj ?_)
          refine .ret (fret (res2 rfl rfl rfl) ?_)
          first | (exfalso; simp at hc3; done) | (rw [st_a hc0] at hRR; exact hRR _ _ ⟨_, ⟨⟨_, [], 0⟩, rfl, rfl, .none⟩, H.sub (.cons .here .nil)⟩) | (rw [st_b hc0 hc1 hs43] at hRR; exact hRR _ _ ⟨_, ⟨⟨_, [], 0⟩, rfl, rfl, .none⟩, H.sub (.cons .here .nil)⟩) | (rw [st_c hc0 hc1 hs43] at hRR; exact hRR _ _ ⟨_, ⟨⟨_, _, 0⟩, rfl, rfl, .some _ _⟩, H.sub .nil⟩) | (rw [st_d hc0 hc1 hs43] at hRR; exact hRR _ _ ⟨_, ⟨⟨_, [], 0⟩, rfl, rfl, .none⟩, H.sub (.cons .here .nil)⟩) | (rw [st_e hc0 hc1 hc3] at hRR; exact hRR _ _ ⟨_, ⟨⟨_, [], 0⟩, rfl, rfl, .none⟩, H.sub (.cons .here .nil)⟩) | (rw [st_f hc0 hc1 hs43 hc3] at hRR; exact hRR _ _ ⟨_, ⟨⟨_, _, 0⟩, rfl, rfl, .some _ _⟩, H.sub .nil⟩)
        · refine .skip (cj ?_)
          refine .exit (cj ?_)
          refine .seq ?_
          refine .plain rfl ?_
          refine .q rfl rfl rfl (val_move rfl) ?_
          first | (refine .callx rfl rfl rfl en58 (.cons rfl .nil) (tell_spec _ _ _ { r with epoch := ep, num := 0 } _) H .nil (.own .here .nil) (fun b4 w4 C4 H4 => ⟨fun _ => trivial, ?_⟩)) | (refine .callx rfl rfl rfl en58 (.cons rfl .nil) (tell_spec _ _ _ _ _) H .nil (.own .here .nil) (fun b4 w4 C4 H4 => ⟨fun _ => trivial, ?_⟩))
          refine .q rfl rfl rfl (val_move rfl) ?_
          refine .q rfl rfl rfl (val_assign rfl) ?_
          refine .q rfl rfl rfl (val_assign rfl) ?_
          refine .nil (cj ?_)
          refine .ret (fret (res2 rfl rfl rfl) ?_)
          first | (exfalso; simp at hc3; done) | (rw [st_a hc0] at hRR; exact hRR _ _ ⟨_, ⟨⟨_, [], 0⟩, rfl, rfl, .none⟩, H4.sub (.cons (.there .here) .nil)⟩) | (rw [st_b hc0 hc1 hs43] at hRR; exact hRR _ _ ⟨_, ⟨⟨_, [], 0⟩, rfl, rfl, .none⟩, H4.sub (.cons (.there .here) .nil)⟩) | (rw [st_c hc0 hc1 hs43] at hRR; exact hRR _ _ ⟨_, ⟨⟨_, _, 0⟩, rfl, rfl, .some _ _⟩, H4.sub (.cons .here (.cons .here .nil))⟩) | (rw [st_d hc0 hc1 hs43] at hRR; exact hRR _ _ ⟨_, ⟨⟨_, [], 0⟩, rfl, rfl, .none⟩, H4.sub (.cons (.there .here) .nil)⟩) | (rw [st_e hc0 hc1 hc3] at hRR; exact hRR _ _ ⟨_, ⟨⟨_, [], 0⟩, rfl, rfl, .none⟩, H4.sub (.cons (.there .here) .nil)⟩) | (rw [st_f hc0 hc1 hs43 hc3] at hRR; exact hRR _ _ ⟨_, ⟨⟨_, _, 0⟩, rfl, rfl, .some _ _⟩, H4.sub (.cons .here (.cons .here .nil))⟩)
end Go.Proofs.YtmbibkifbehgnaaGreatDoor
namespace Go.Proofs.YtmbibkifbehgnaaGreatDoor
open Go Sk
set_option linter.unusedVariables false
set_option linter.unusedSimpArgs false
structure Rw where
  i : Int
  pose : Ps
  load : Int
  epoch : Int
  num : Int
  under : Bool
  m : Mv
  left : Int
  gone : Int
  wait : Int
  stopping : Bool
  cut : Bool
structure TW where
  m : Mv
  how : Int
  r : Rw
section
variable {r : Rw}
end
end Go.Proofs.YtmbibkifbehgnaaGreatDoor
namespace Go.Proofs.YtmbibkifbehgnaaGreatDoor
open Go Sk
set_option linter.unusedVariables false
set_option linter.unusedSimpArgs false
def tellW (r : Rw) : Te := if r.num = 0 ∧ 0 < r.epoch then ⟨4, r.i, r.epoch, 0, mv0, r.pose, r.load⟩ else ⟨3, r.i, r.epoch, r.num, mv0, ps0, 0⟩
end Go.Proofs.YtmbibkifbehgnaaGreatDoor
namespace Go.Proofs.YtmbibkifbehgnaaGreatDoor
open Go Sk
set_option linter.unusedVariables false
set_option linter.unusedSimpArgs false
structure GoW where
  tele : Option Te
  how : Int
  r : Rw
section
variable {c : Cf} {r : Rw} {t : Te}
end
end Go.Proofs.YtmbibkifbehgnaaGreatDoor
namespace Go.Proofs.YtmbibkifbehgnaaGreatDoor
open Go Sk
set_option linter.unusedVariables false
set_option linter.unusedSimpArgs false
def rw0 (i : Int) (p : Ps) : Rw := ⟨i, p, 0, 0, 0, false, mv0, 0, 0, 0, false, false⟩
end Go.Proofs.YtmbibkifbehgnaaGreatDoor
namespace Go.Proofs.YtmbibkifbehgnaaGreatDoor
open Go Sk
set_option linter.unusedVariables false
set_option linter.unusedSimpArgs false
def brkF (a : Int) : Nat → Int → Int
  | 0, _ => 0
  | f + 1, s => if 0 < s then s + brkF a f (s - a) else 0
/-- how far a robot goes behind a tick of the speed s -/
def brakeN (a s : Int) : Int := brkF a 2001 (s - a)
structure BQ where
  f : Nat
  n : Int
  s : Int
theorem brk_stop {a s : Int} {f : Nat} (h : ¬ 0 < s) : brkF a f s = 0 := by
  cases f with
  | zero => rfl
  | succ f => unfold brkF; rw [if_neg h]
end Go.Proofs.YtmbibkifbehgnaaGreatDoor
namespace Go.Proofs.YtmbibkifbehgnaaGreatDoor
open Go Sk
set_option linter.unusedVariables false
set_option linter.unusedSimpArgs false
def nextF (a r : Int) : Nat → Int → Int
  | 0, q => q
  | f + 1, q => if 1 < q ∧ r - q < brakeN a q then nextF a r f (q - 1) else q
def startQ (a r s v : Int) : Int := let q := if v < s + a then v else s + a; if r < q then r else q
/-- the next speed -/
def nextN (a r s v : Int) : Int := nextF a r 2001 (startQ a r s v)
structure NQ where
  f : Nat
  q : Int
section
variable {a r s v : Int}
theorem nx_stop1 {f : Nat} {q : Int} (h : decide (1 < q) = false) : nextF a r f q = q := by
  cases f with
  | zero => rfl
  | succ f => unfold nextF; rw [if_neg fun e => of_decide_eq_false h e.1]
theorem nx_stop2 {f : Nat} {q : Int} (h : decide (r - q < brakeN a q) = false) : nextF a r f q = q := by
  cases f with
  | zero => rfl
  | succ f => unfold nextF; rw [if_neg fun e => of_decide_eq_false h e.2]
theorem nx_go {f : Nat} {q : Int} (h : decide (1 < q) = true) (h2 : decide (r - q < brakeN a q) = true) : nextF a r (f + 1) q = nextF a r f (q - 1) := by
  conv => lhs; unfold nextF
  rw [if_pos ⟨of_decide_eq_true h, of_decide_eq_true h2⟩]
end
end Go.Proofs.YtmbibkifbehgnaaGreatDoor
namespace Go.Proofs.YtmbibkifbehgnaaGreatDoor
open Go Sk
set_option linter.unusedVariables false
set_option linter.unusedSimpArgs false
theorem nextF_rng {a r : Int} : ∀ (f : Nat) (q : Int), 1 ≤ q → 1 ≤ nextF a r f q ∧ nextF a r f q ≤ q
  | 0, q, h => ⟨h, Int.le_refl _⟩
  | f + 1, q, h => by
    unfold nextF
    split
    · rename_i hc
      have := nextF_rng (a := a) (r := r) f (q - 1) (by omega)
      omega
    · exact ⟨h, Int.le_refl _⟩
theorem nextN_rng {a r s v : Int} (ha : 1 ≤ a) (hr : 1 ≤ r) (hs : 0 ≤ s) (hv : 1 ≤ v) : 1 ≤ nextN a r s v ∧ nextN a r s v ≤ r ∧ nextN a r s v ≤ v := by
  have hq : 1 ≤ startQ a r s v ∧ startQ a r s v ≤ r ∧ startQ a r s v ≤ v := by
    unfold startQ; dsimp only; split <;> split <;> omega
  have := nextF_rng (a := a) (r := r) 2001 _ hq.1
  unfold nextN
  omega
/-- the places behind each tick, from a place with a speed, to an end (fuel f) -/
def profF (a v e : Int) : Nat → Int → Int → List Int
  | 0, _, _ => []
  | f + 1, p, s => if p < e then (p + nextN a (e - p) s v) :: profF a v e f (p + nextN a (e - p) s v) (nextN a (e - p) s v) else []
end Go.Proofs.YtmbibkifbehgnaaGreatDoor
namespace Go.Proofs.YtmbibkifbehgnaaGreatDoor
open Go Sk
set_option linter.unusedVariables false
set_option linter.unusedSimpArgs false
theorem bs_3_1_0 (x0_ : Int) : Tryz.prog.builtSlice 3 1 [(0, .int .i64 x0_)] = some (List.toArray [.int .i64 x0_]) := by kernel_rfl
structure PQ where
  f : Nat
  v : Value
  acc : List Int
  p : Int
  s : Int
/-- a run's places behind each tick -/
def prof (u ac vm n : Int) : List Int := profF ac vm (n * u) (n * u).toNat 0 0
theorem prof_stop {a v e p s : Int} {f : Nat} (h : decide (p < e) = false) : profF a v e f p s = [] := by
  cases f with
  | zero => rfl
  | succ f => unfold profF; rw [if_neg (of_decide_eq_false h)]
theorem row_snocI {v : Value} {acc : List Int} {m : Int} : row v 3 1 (acc ++ [m]).length ((acc ++ [m]).flatMap encI) = row v 3 1 (acc.length + 1) (acc.flatMap encI ++ encI m) := by
  simp
end Go.Proofs.YtmbibkifbehgnaaGreatDoor
namespace Go.Proofs.YtmbibkifbehgnaaGreatDoor
open Go Sk
set_option linter.unusedVariables false
set_option linter.unusedSimpArgs false
theorem profF_le {a v e : Int} (ha : 1 ≤ a) (hv : 1 ≤ v) : ∀ (f : Nat) (p s : Int), 0 ≤ s → ∀ x ∈ profF a v e f p s, p < x ∧ x ≤ e
  | 0, _, _, _ => fun x hx => by cases hx
  | f + 1, p, s, hs => fun x hx => by
    unfold profF at hx
    split at hx
    · rename_i hc
      have hnx := nextN_rng (a := a) (r := e - p) (s := s) (v := v) ha (by omega) hs hv
      rcases List.mem_cons.1 hx with rfl | hx
      · omega
      · have := profF_le ha hv f _ _ (by omega) x hx
        omega
    · cases hx
theorem profF_len {a v e : Int} : ∀ (f : Nat) (p s : Int), (profF a v e f p s).length ≤ f
  | 0, _, _ => Nat.le_refl _
  | f + 1, p, s => by
    unfold profF
    split
    · have := profF_len (a := a) (v := v) (e := e) f (p + nextN a (e - p) s v) (nextN a (e - p) s v)
      simp only [List.length_cons]; omega
    · simp
theorem prof_len {u a v n : Int} (hu : 1 ≤ u ∧ u ≤ 1000) (hn : 1 ≤ n ∧ n ≤ 16) : (prof u a v n).length ≤ 16000 := by
  have h1 : n * u ≤ 16 * 1000 := Int.mul_le_mul hn.2 hu.2 (by omega) (by omega)
  have := profF_len (a := a) (v := v) (e := n * u) (n * u).toNat 0 0
  unfold prof
  omega
theorem prof_pos {u a v n : Int} (hu : 1 ≤ u) (hn : 1 ≤ n) : 0 < (prof u a v n).length := by
  have h : 0 < n * u := Int.mul_pos (by omega) (by omega)
  obtain ⟨k, hk⟩ : ∃ k, (n * u).toNat = k + 1 := ⟨(n * u).toNat - 1, by omega⟩
  unfold prof
  rw [hk, profF, if_pos h]
  simp
/-- the place behind t ticks -/
def atN (u a v n t : Int) : Int := if t < 1 then 0 else if ((prof u a v n).length : Int) ≤ t then n * u else (prof u a v n).getD (t - 1).toNat 0
theorem at_0 {u a v n t : Int} (h : decide (t < 1) = true) : atN u a v n t = 0 := by unfold atN; rw [if_pos (of_decide_eq_true h)]
end Go.Proofs.YtmbibkifbehgnaaGreatDoor
namespace Go.Proofs.YtmbibkifbehgnaaGreatDoor
open Go Sk
set_option linter.unusedVariables false
set_option linter.unusedSimpArgs false
theorem atN_rng {u a v n t : Int} (hu : 1 ≤ u ∧ u ≤ 1000) (ha : 1 ≤ a) (hv : 1 ≤ v) (hn : 1 ≤ n ∧ n ≤ 16) : 0 ≤ atN u a v n t ∧ atN u a v n t ≤ n * u ∧ n * u ≤ 16000 := by
  have h1 : n * u ≤ 16 * 1000 := Int.mul_le_mul hn.2 hu.2 (by omega) (by omega)
  have h2 : 0 < n * u := Int.mul_pos (by omega) (by omega)
  unfold atN
  split
  · omega
  · split
    · omega
    · rename_i h3 h4
      have hx := getD_get (l := prof u a v n) (i := (t - 1).toNat) (by omega) 0
      have := profF_le ha hv _ _ _ (Int.le_refl 0) _ (List.mem_of_getElem? hx)
      omega
def speedN (u a v n t : Int) : Int := if t < 1 then 0 else atN u a v n t - atN u a v n (t - 1)
theorem sp_0 {u a v n t : Int} (h : decide (t < 1) = true) : speedN u a v n t = 0 := by unfold speedN; rw [if_pos (of_decide_eq_true h)]
theorem sp_1 {u a v n t : Int} (h : decide (t < 1) = false) : speedN u a v n t = atN u a v n t - atN u a v n (t - 1) := by unfold speedN; rw [if_neg (of_decide_eq_false h)]
end Go.Proofs.YtmbibkifbehgnaaGreatDoor
namespace Go.Proofs.YtmbibkifbehgnaaGreatDoor
open Go Sk
set_option linter.unusedVariables false
set_option linter.unusedSimpArgs false
theorem brkF_rng {a : Int} (ha : 0 ≤ a) : ∀ (f : Nat) (s : Int), s ≤ 1000 → 0 ≤ brkF a f s ∧ brkF a f s ≤ 1000 * (f : Int)
  | 0, s, _ => by simp [brkF]
  | f + 1, s, h => by
    unfold brkF
    split
    · have := brkF_rng ha f (s - a) (by omega)
      omega
    · omega
theorem brakeN_rng {a s : Int} (ha : 1 ≤ a) (hs : s ≤ 1000) : 0 ≤ brakeN a s ∧ brakeN a s ≤ 2001000 := by
  have := brkF_rng (a := a) (by omega) 2001 (s - a) (by omega)
  unfold brakeN; omega
theorem profF_up {a v e : Int} (ha : 1 ≤ a) (hv : 1 ≤ v) : ∀ (f : Nat) (p s : Int), 0 ≤ s → (profF a v e f p s).Pairwise (· < ·)
  | 0, _, _, _ => List.Pairwise.nil
  | f + 1, p, s, hs => by
    unfold profF
    split
    · have hnx := nextN_rng (a := a) (r := e - p) (s := s) (v := v) ha (by omega) hs hv
      exact List.pairwise_cons.2 ⟨fun x hx => (profF_le ha hv f _ _ (by omega) x hx).1, profF_up ha hv f _ _ (by omega)⟩
    · exact List.Pairwise.nil
theorem profF_step {a v e : Int} (ha : 1 ≤ a) (hv : 1 ≤ v) : ∀ (f : Nat) (p s : Int), 0 ≤ s → (∀ x, (profF a v e f p s)[0]? = some x → x - p ≤ v) ∧ ∀ (i : Nat) (x y : Int), (profF a v e f p s)[i]? = some x → (profF a v e f p s)[i + 1]? = some y → y - x ≤ v
  | 0, _, _, _ => ⟨fun x hx => (by simp [profF] at hx), fun i x y hx => (by simp [profF] at hx)⟩
  | f + 1, p, s, hs => by
    unfold profF
    split
    · have hnx := nextN_rng (a := a) (r := e - p) (s := s) (v := v) ha (by omega) hs hv
      have ih := profF_step (e := e) ha hv f (p + nextN a (e - p) s v) (nextN a (e - p) s v) (by omega)
      refine ⟨fun x hx => ?_, fun i x y hx hy => ?_⟩
      · have : p + nextN a (e - p) s v = x := by simpa using hx
        omega
      · cases i with
        | zero =>
          have h1 : p + nextN a (e - p) s v = x := by simpa using hx
          have h2 := ih.1 y (by simpa using hy)
          omega
        | succ i => exact ih.2 i x y (by simpa using hx) (by simpa using hy)
    · exact ⟨fun x hx => (by simp at hx), fun i x y hx => (by simp at hx)⟩
theorem speedN_rng {u a v n t : Int} (hu : 1 ≤ u ∧ u ≤ 1000) (ha : 1 ≤ a) (hv : 1 ≤ v) (hn : 1 ≤ n ∧ n ≤ 16) (h1 : 1 ≤ t) (h2 : t < ((prof u a v n).length : Int)) : 1 ≤ speedN u a v n t ∧ speedN u a v n t ≤ v := by
  have hup := profF_up (a := a) (v := v) (e := n * u) ha hv (n * u).toNat 0 0 (Int.le_refl 0)
  have hst := profF_step (a := a) (v := v) (e := n * u) ha hv (n * u).toNat 0 0 (Int.le_refl 0)
  have hx := getD_get (l := prof u a v n) (i := (t - 1).toNat) (by omega) 0
  unfold speedN
  rw [if_neg (by omega)]
  have e1 : atN u a v n t = (prof u a v n).getD (t - 1).toNat 0 := by unfold atN; rw [if_neg (by omega), if_neg (by omega)]
  rw [e1]
  by_cases h : t - 1 < 1
  · have e2 : atN u a v n (t - 1) = 0 := by unfold atN; rw [if_pos h]
    have e3 : (t - 1).toNat = 0 := by omega
    rw [e2]; rw [e3] at hx ⊢
    have := hst.1 _ hx
    have h9 := (profF_le ha hv _ _ _ (Int.le_refl 0) _ (List.mem_of_getElem? hx)).1
    omega
  · have e2 : atN u a v n (t - 1) = (prof u a v n).getD (t - 1 - 1).toNat 0 := by unfold atN; rw [if_neg h, if_neg (by omega)]
    have hy := getD_get (l := prof u a v n) (i := (t - 1 - 1).toNat) (by omega) 0
    have e4 : (t - 1).toNat = (t - 1 - 1).toNat + 1 := by omega
    rw [e2]
    rw [e4] at hx ⊢
    have h5 := hst.2 _ _ _ hy hx
    obtain ⟨l1, g1⟩ := List.getElem?_eq_some_iff.1 hx
    obtain ⟨l2, g2⟩ := List.getElem?_eq_some_iff.1 hy
    have h6 := List.pairwise_iff_getElem.1 hup _ _ l2 l1 (Nat.lt_succ_self _)
    rw [← g1, ← g2] at h5 ⊢
    have h7 : (prof u a v n)[(t - 1 - 1).toNat] < (prof u a v n)[(t - 1 - 1).toNat + 1] := h6
    omega
end Go.Proofs.YtmbibkifbehgnaaGreatDoor
namespace Go.Proofs.YtmbibkifbehgnaaGreatDoor
open Go Sk
set_option linter.unusedVariables false
set_option linter.unusedSimpArgs false
/-- how many ticks it takes to fall, from a place with a speed, to an end -/
def fallF (a e : Int) : Nat → Int → Int → Nat
  | 0, _, _ => 0
  | f + 1, p, s => if p < e then fallF a e f (p + nextN a (e - p) s s) (nextN a (e - p) s s) + 1 else 0
def stopCells (u a v n t : Int) : Int := (atN u a v n t + brakeN a (speedN u a v n t) + u - 1) / u
def stopN (u a v n t : Int) : Int × Int :=
  if t < 1 then (0, 0) else if ((prof u a v n).length : Int) ≤ t then (n, 0)
  else (stopCells u a v n t, ((fallF a (stopCells u a v n t * u) (stopCells u a v n t * u - atN u a v n t).toNat (atN u a v n t) (speedN u a v n t) : Nat) : Int))
theorem so_0 {u a v n t : Int} (h : decide (t < 1) = true) : stopN u a v n t = (0, 0) := by unfold stopN; rw [if_pos (of_decide_eq_true h)]
theorem so_1 {u a v n t : Int} (h : decide (t < 1) = false) (h2 : decide (((prof u a v n).length : Int) ≤ t) = true) : stopN u a v n t = (n, 0) := by unfold stopN; rw [if_neg (of_decide_eq_false h), if_pos (of_decide_eq_true h2)]
theorem so_2 {u a v n t : Int} (h : decide (t < 1) = false) (h2 : decide (((prof u a v n).length : Int) ≤ t) = false) : stopN u a v n t = (stopCells u a v n t, ((fallF a (stopCells u a v n t * u) (stopCells u a v n t * u - atN u a v n t).toNat (atN u a v n t) (speedN u a v n t) : Nat) : Int)) := by
  unfold stopN; rw [if_neg (of_decide_eq_false h), if_neg (of_decide_eq_false h2)]
end Go.Proofs.YtmbibkifbehgnaaGreatDoor
namespace Go.Proofs.YtmbibkifbehgnaaGreatDoor
open Go Sk
set_option linter.unusedVariables false
set_option linter.unusedSimpArgs false
structure SQ where
  f : Nat
  n : Nat
  p : Int
  s : Int
end Go.Proofs.YtmbibkifbehgnaaGreatDoor
namespace Go.Proofs.YtmbibkifbehgnaaGreatDoor
open Go Sk
set_option linter.unusedVariables false
set_option linter.unusedSimpArgs false
/-- any number as one from 0 to n - 1 -/
def placeN (v n : Int) : Int := if v.tmod n < 0 then v.tmod n + n else v.tmod n
theorem tmod_rng {v n : Int} (hn : 0 < n) : -n < v.tmod n ∧ v.tmod n < n := by
  have h1 := Int.tmod_lt_of_pos v hn
  have h2 : (-v).tmod n < n := Int.tmod_lt_of_pos (-v) hn
  rw [Int.neg_tmod] at h2
  omega
theorem placeN_rng {v n : Int} (hn : 0 < n) : 0 ≤ placeN v n ∧ placeN v n < n := by
  have := tmod_rng (v := v) hn
  unfold placeN; split <;> omega
theorem pl_a {v n : Int} (h : decide (v.tmod n < 0) = true) : placeN v n = v.tmod n + n := by unfold placeN; rw [if_pos (of_decide_eq_true h)]
theorem pl_b {v n : Int} (h : decide (v.tmod n < 0) = false) : placeN v n = v.tmod n := by unfold placeN; rw [if_neg (of_decide_eq_false h)]
theorem place_spec (v n : Int) (hn : 0 < n ∧ n ≤ 1000000000) : Sk.Spec Tryz.prog 22 #[i64 v, i64 n] [] [] fun e F' => e = .returned (i64 (placeN v n)) ∧ F' = [] := by
  have hr := tmod_rng (v := v) hn.1
  have hz : n ≠ 0 := by omega
  refine Spec.of_code (vs := [_, _]) (k0 := [(0, _), (1, _)]) 15 Tryz.func22 rfl Tryz.ntmps22 rfl (.cons (.cons .nil)) fun w X RR hRR H => ?_
  refine .seq ?_
  refine .plain rfl ?_
  refine .q rfl rfl rfl (val_assign rfl) ?_
  refine .nil (cj ?_)
  refine .seq ?_
  refine .plain rfl ?_
  refine .q rfl rfl rfl (val_move rfl) ?_
  refine .q rfl rfl rfl (val_move rfl) ?_
  refine .q rfl rfl rfl (val_rem rfl rfl hz rfl) ?_
  refine .q rfl rfl rfl (val_assign rfl) ?_
  refine .nil (cj ?_)
  refine .seq ?_
  refine .seq ?_
  refine .plain rfl ?_
  refine .q rfl rfl rfl (val_move rfl) ?_
  refine .q rfl rfl rfl (val_lss rfl rfl rfl) ?_
  refine .nil (cj ?_)
  refine .cond rfl (fun hc0 => ?_) (fun hc0 => ?_)
  · have h9 := of_decide_eq_true hc0
    refine .plain rfl ?_
    refine .q rfl rfl rfl (val_move rfl) ?_
    refine .q rfl rfl rfl (val_move rfl) ?_
    refine .q rfl rfl rfl (val_add rfl rfl (w64_of (by omega))) ?_
    refine .q rfl rfl rfl (val_assign rfl) ?_
    refine .nil (cj ?_)
    refine .seq ?_
    refine .plain rfl ?_
    refine .q rfl rfl rfl (val_move rfl) ?_
    refine .q rfl rfl rfl (val_assign rfl) ?_
    refine .nil (cj ?_)
    refine .ret (fret (res1 rfl rfl) ?_)
    refine hRR _ _ ⟨_, ⟨?_, rfl⟩, H.sub .nil⟩
    first | rw [pl_a hc0] | rw [pl_b hc0]
  · refine .skip (cj ?_)
    refine .seq ?_
    refine .plain rfl ?_
    refine .q rfl rfl rfl (val_move rfl) ?_
    refine .q rfl rfl rfl (val_assign rfl) ?_
    refine .nil (cj ?_)
    refine .ret (fret (res1 rfl rfl) ?_)
    refine hRR _ _ ⟨_, ⟨?_, rfl⟩, H.sub .nil⟩
    first | rw [pl_a hc0] | rw [pl_b hc0]
end Go.Proofs.YtmbibkifbehgnaaGreatDoor
namespace Go.Proofs.YtmbibkifbehgnaaGreatDoor
open Go Sk
set_option linter.unusedVariables false
set_option linter.unusedSimpArgs false
theorem ag_44  : aggB Tryz.prog 44 19 = true := by kernel_rfl
theorem el_70  : elB Tryz.prog 70 19 = true := by kernel_rfl
end Go.Proofs.YtmbibkifbehgnaaGreatDoor
namespace Go.Proofs.YtmbibkifbehgnaaGreatDoor
open Go Sk
set_option linter.unusedVariables false
set_option linter.unusedSimpArgs false
theorem en55 : Enters Tryz.prog 55 := fun args w => by kernel_rfl
theorem en59 : Enters Tryz.prog 59 := fun args w => by kernel_rfl
theorem en60 : Enters Tryz.prog 60 := fun args w => by kernel_rfl
def nowM : Option Gg → Mv
  | none => mv0
  | some g => g.move
def sameB (r : Rb) (g : Option Gg) (q : Rw) : Bool :=
  decide (r.pose = q.pose) && ((r.load == q.load) && ((r.epoch == q.epoch) && (decide (nowM g = q.m) && ((g.isSome == q.under) && decide (tellB r = tellW q)))))
end Go.Proofs.YtmbibkifbehgnaaGreatDoor
