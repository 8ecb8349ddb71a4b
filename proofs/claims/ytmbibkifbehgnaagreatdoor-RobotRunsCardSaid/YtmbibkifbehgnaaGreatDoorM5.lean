/-
  My walks and plain laws, part 5 of 6, joined by a program of my own: N6, N7, N8, N9, K6, Q16, K7, SkCmb, K8, V1, V2, V3, V4, V5.
-/
import Derived.Test.YtmbibkifbehgnaaGreatDoorM4
/-! ## N6: A Kin's memory, with the runs that were reckoned; walk of its places. -/
namespace Go.Proofs.YtmbibkifbehgnaaGreatDoor
open Go Sk
set_option linter.unusedVariables false
set_option linter.unusedSimpArgs false
/-- a run: not reckoned; or where its places lie, how many, room for how many -/
abbrev Rn := Option (Option Addr × Nat × Nat)
def encRn : Rn → List Value
  | none => runZ
  | some (A, len, cap) => [.int .u32 1, .int .i32 0, .int .u32 0, .slice A len cap]
theorem encRn_len : ∀ r, (encRn r).length = 4
  | none => rfl
  | some (A, len, cap) => rfl
/-- a Kin's cells -/
def kcs (u a v : Int) (rs : List Rn) : List Value := i64 u :: i64 a :: i64 v :: rs.flatMap encRn
/-- what the runs that were reckoned lie in -/
def kinR (u a v : Int) (rs : List Rn) : As where
  on X w := (∀ (j : Nat) (A : Option Addr) (len cap : Nat), rs[j]? = some (some (A, len, cap)) → len = (prof u a v (j : Int)).length ∧ ∃ Y, (arr A ((prof u a v (j : Int)).flatMap encI)).on Y w ∧ ∀ k, Y k → X k) ∧ ∀ k, X k → k < w.heap.size
  loc X w w' h hk := ⟨fun j A len cap hj => by
    obtain ⟨h1, Y, h2, h3⟩ := h.1 j A len cap hj
    exact ⟨h1, Y, (arr A _).loc Y w w' h2 (fun k hy => hk k (h3 k hy)), h3⟩, fun k hx => by
    have h1 := h.2 k hx
    have h2 := hk k hx
    rw [Array.getElem?_eq_getElem h1] at h2
    exact (Array.getElem?_eq_some_iff.1 h2).1⟩
  lt X w h := h.2
abbrev kinF (bn : Nat) (u a v : Int) (rs : List Rn) : List As := [blk bn (kcs u a v rs) 147, kinR u a v rs]
theorem kcs_get {u a v : Int} {rs : List Rn} {j : Nat} {r : Rn} (h : rs[j]? = some r) {c : Nat} (hc : c < 4) : (kcs u a v rs)[3 + j * 4 + c]? = (encRn r)[c]? := by
  unfold kcs
  rw [show 3 + j * 4 + c = (j * 4 + c) + 1 + 1 + 1 by omega]
  simp only [List.getElem?_cons_succ]
  exact flat_get encRn_len rs j c r h hc
theorem St.kinGet {w0 w : World} {M : Nat → Prop} {R F F' : List As} {u a v : Int} {rs : List Rn} {j : Nat} {A : Option Addr} {len cap : Nat} (H : St w0 w M R F) (hat : At F (kinR u a v rs) F') (h : rs[j]? = some (some (A, len, cap))) :
    len = (prof u a v (j : Int)).length ∧ ∃ Y, (arr A ((prof u a v (j : Int)).flatMap encI)).on Y w := by
  obtain ⟨Y, hY⟩ := H.has (.inr hat.mem)
  obtain ⟨h1, Z, h2, _⟩ := hY.1 j A len cap h
  exact ⟨h1, Z, h2⟩
theorem St.kinAdd {w0 w : World} {M : Nat → Prop} {R F : List As} {u a v : Int} {rs : List Rn} {j : Nat} {A : Option Addr} {cap : Nat} (H : St w0 w M R (arr A ((prof u a v (j : Int)).flatMap encI) :: kinR u a v rs :: F)) :
    St w0 w M R (kinR u a v (rs.set j (some (A, (prof u a v (j : Int)).length, cap))) :: F) := H.map fun X h => by
  obtain ⟨X1, X2, h1, ⟨X3, X4, h3, h4, h34, h2⟩, h12, h⟩ := h
  refine ⟨fun k => X1 k ∨ X3 k, X4, ⟨fun i B len c hi => ?_, fun k hk => ?_⟩, h4, ?_, fun k => ?_⟩
  · by_cases hij : j = i
    · subst hij
      rw [List.getElem?_set_self' ] at hi
      cases hr : rs[j]? with
      | none => rw [hr] at hi; cases hi
      | some r =>
        rw [hr] at hi
        simp at hi
        obtain ⟨rfl, rfl, rfl⟩ := hi
        exact ⟨rfl, X1, h1, fun k hk => .inl hk⟩
    · rw [List.getElem?_set_ne hij] at hi
      obtain ⟨g1, Y, g2, g3⟩ := h3.1 i B len c hi
      exact ⟨g1, Y, g2, fun k hk => .inr (g3 k hk)⟩
  · rcases hk with hk | hk
    · exact (arr A _).lt X1 w h1 k hk
    · exact h3.2 k hk
  · rintro k (hk | hk) h'
    · exact h12 k hk ((h2 k).2 (.inr h'))
    · exact h34 k hk h'
  · rw [h k, h2 k]
    constructor
    · rintro (h | h | h)
      · exact .inl (.inl h)
      · exact .inl (.inr h)
      · exact .inr h
    · rintro ((h | h) | h)
      · exact .inl h
      · exact .inr (.inl h)
      · exact .inr (.inr h)
theorem kset_kcs {u a v : Int} {rs : List Rn} {j : Nat} {A : Option Addr} {len cap : Nat} (h : rs[j]? = some none) : kset (kcs u a v rs) (3 + j * 4) (.slice A len cap) = kcs u a v (rs.set j (some (A, len, cap))) := by
  obtain ⟨hj, hr⟩ := List.getElem?_eq_some_iff.1 h
  have e : rs = rs.take j ++ none :: rs.drop (j + 1) := by
    conv => lhs; rw [← List.take_append_drop j rs, List.drop_eq_getElem_cons hj, hr]
  have e2 : rs.set j (some (A, len, cap)) = rs.take j ++ some (A, len, cap) :: rs.drop (j + 1) := by
    rw [List.set_eq_take_append_cons_drop, if_pos hj]
  have hl : ((rs.take j).flatMap encRn).length = j * 4 := by
    rw [flat_len encRn_len, List.length_take, Nat.min_eq_left (by omega)]
  have key : ∀ (P : List Value) (n : Nat) (y : List Value) (S : List Value) (c : Nat) (x : Value), P.length = n → c < y.length → (P ++ (y ++ S)).set (n + c) x = P ++ (y.set c x ++ S) := by
    rintro P n y S c x rfl hc
    rw [List.set_append_right _ _ (by omega), Nat.add_sub_cancel_left, List.set_append_left _ _ hc]
  have k0 : kcs u a v rs = ([i64 u, i64 a, i64 v] ++ (rs.take j).flatMap encRn) ++ (runZ ++ (rs.drop (j + 1)).flatMap encRn) := by
    conv => lhs; rw [e]
    simp [kcs, encRn]
  have hP : ([i64 u, i64 a, i64 v] ++ (rs.take j).flatMap encRn).length = 3 + j * 4 := by
    rw [List.length_append, hl]; rfl
  unfold kset
  rw [k0, key _ _ _ _ 1 _ hP (by decide), key _ _ _ _ 3 _ hP (by simp), ← Nat.add_zero (3 + j * 4), key _ _ _ _ 0 _ (by rw [hP]) (by simp), Nat.add_zero, key _ _ _ _ 1 _ hP (by simp), e2]
  simp [kcs, encRn]
end Go.Proofs.YtmbibkifbehgnaaGreatDoor
/-! ## N7: Walks of kinem's places, Time, At, Speed. -/
namespace Go.Proofs.YtmbibkifbehgnaaGreatDoor
open Go Sk
set_option linter.unusedVariables false
set_option linter.unusedSimpArgs false
theorem fa_144_0 (b o : Nat) (w : World) : (Instr.fieldAt 144 (.pointer (some ⟨b, o, none⟩)) 0).run Tryz.prog w = .ok (.pointer (some ⟨b, o + 0, none⟩)) w := by kernel_rfl
theorem fa_147_3 (b o : Nat) (w : World) : (Instr.fieldAt 147 (.pointer (some ⟨b, o, none⟩)) 3).run Tryz.prog w = .ok (.pointer (some ⟨b, o + 3, none⟩)) w := by kernel_rfl
theorem en157 : Enters Tryz.prog 157 := fun args w => by kernel_rfl
theorem en161 : Enters Tryz.prog 161 := fun args w => by kernel_rfl
theorem ar_145  : arB Tryz.prog 145 17 4 = true := by kernel_rfl
theorem sz_224  : (Tryz.prog.info? 224).map (·.size) = some 1 := by kernel_rfl
theorem ze_224  : (Tryz.prog.info? 224).bind (·.zero) = some (.pointer none) := by kernel_rfl
theorem profF_last {a v e : Int} (ha : 1 ≤ a) (hv : 1 ≤ v) : ∀ (f : Nat) (p s : Int), 0 ≤ s → p < e → e - p ≤ f → (profF a v e f p s)[(profF a v e f p s).length - 1]? = some e
  | 0, p, s, _, h, h2 => by omega
  | f + 1, p, s, hs, h, h2 => by
    have hnx := nextN_rng (a := a) (r := e - p) (s := s) (v := v) ha (by omega) hs hv
    unfold profF
    rw [if_pos h]
    by_cases hpe : p + nextN a (e - p) s v < e
    · have ih := profF_last ha hv f (p + nextN a (e - p) s v) (nextN a (e - p) s v) (by omega) hpe (by omega)
      have hlt := lt_of_some ih
      simp only [List.length_cons, Nat.add_sub_cancel]
      rw [show (profF a v e f (p + nextN a (e - p) s v) (nextN a (e - p) s v)).length = ((profF a v e f (p + nextN a (e - p) s v) (nextN a (e - p) s v)).length - 1) + 1 by omega, List.getElem?_cons_succ]
      exact ih
    · rw [prof_stop (decide_eq_false hpe)]
      simp
      omega
theorem prof_last {u a v n : Int} (hu : 1 ≤ u) (ha : 1 ≤ a) (hv : 1 ≤ v) (hn : 1 ≤ n) : (prof u a v n)[(prof u a v n).length - 1]? = some (n * u) := by
  have h : 0 < n * u := Int.mul_pos (by omega) (by omega)
  exact profF_last ha hv _ 0 0 (Int.le_refl 0) h (by omega)
theorem atN_min {u a v n t : Int} (hu : 1 ≤ u ∧ u ≤ 1000) (ha : 1 ≤ a ∧ a ≤ 1000) (hv : 1 ≤ v ∧ v ≤ 1000) (hn : 1 ≤ n ∧ n ≤ 16) (h : ¬ t < 1) : ∃ i : Nat, min t ((prof u a v n).length : Int) - 1 = (i : Int) ∧ i < (prof u a v n).length ∧ (prof u a v n)[i]? = some (atN u a v n t) := by
  have hp := prof_pos (a := a) (v := v) hu.1 hn.1
  unfold atN
  rw [if_neg h]
  by_cases h2 : ((prof u a v n).length : Int) ≤ t
  · rw [if_pos h2]
    exact ⟨(prof u a v n).length - 1, by omega, by omega, prof_last hu.1 ha.1 hv.1 hn.1⟩
  · rw [if_neg h2]
    exact ⟨(t - 1).toNat, by omega, by omega, getD_get (by omega) 0⟩
structure PX where
  A : Option Addr
  cap : Nat
  rs : List Rn
theorem ld_krun {P : Program} {nt : NT} {k : L} {R F : List As} {M : Nat → Prop} {w0 : World} {X : Operand} {t : TypeId} {b o : Nat} {i : Nat} {z : Int} {A : Option Addr} {u a v : Int} {rs : List Rn} {j len cap : Nat}
    (hx : ev k X = some (.pointer (some ⟨b, o + i * 1, none⟩))) (ht : oneB P t = true) (hA : A = some ⟨b, o, none⟩) (hf : Has R F (kinR u a v rs)) (hr : rs[j]? = some (some (A, len, cap))) (hi : (prof u a v (j : Int))[i]? = some z) : ValS P nt (fun w => St w0 w M R F) k (.load t X) (.int .i64 z) :=
  ld_one hx ht hf fun Y w hb => by
    subst hA
    obtain ⟨_, Z, hZ, _⟩ := hb.1 j _ len cap hr
    exact arr_cell (flat_get encI_len _ i 0 z hi (by decide)) Z w hZ
section
variable (bn : Nat) (u a vm : Int) (rs : List Rn) (hu : 1 ≤ u ∧ u ≤ 1000) (ha : 1 ≤ a ∧ a ≤ 1000) (hv : 1 ≤ vm ∧ vm ≤ 1000) (hrs : rs.length = 17) (j : Nat) (hj : 1 ≤ j ∧ j ≤ 16)
include hu ha hv hrs hj
abbrev PlPost : Ending → List As → Prop := fun e F' => ∃ x : PX, e = .returned (.slice x.A (prof u a vm (j : Int)).length x.cap) ∧ F' = kinF bn u a vm x.rs ∧ x.rs.length = 17 ∧ x.rs[j]? = some (some (x.A, (prof u a vm (j : Int)).length, x.cap))
theorem places_a (hr : rs[j]? = some none) : Sk.Spec Tryz.prog 157 #[ptr bn, i64 (j : Int)] [] (kinF bn u a vm rs) (PlPost bn u a vm j) := by
  have h0 : (kcs u a vm rs)[0]? = some (i64 u) := rfl
  have h1 : (kcs u a vm rs)[1]? = some (i64 a) := rfl
  have h2 : (kcs u a vm rs)[2]? = some (i64 vm) := rfl
  have hd : (kcs u a vm rs)[3 + j * 4]? = some (.int .u32 0) := kcs_get hr (c := 0) (by decide)
  have hl : (kcs u a vm rs)[3 + j * 4 + 1]? = some (.int .i32 0) := kcs_get hr (by decide)
  have hp : (kcs u a vm rs)[3 + j * 4 + 3]? = some (.slice none 0 0) := kcs_get hr (by decide)
  have hg : ∀ v, (kset (kcs u a vm rs) (3 + j * 4) v)[3 + j * 4 + 3]? = some v := fun v => set_ne (by omega) (set_ne (by omega) (set_at (set_ne (by omega) hp)))
  refine Spec.of_code (vs := [_, _]) (k0 := [(0, _), (1, _)]) 37 Tryz.func157 rfl Tryz.ntmps157 rfl (.cons (.cons .nil)) fun w X RR hRR H => ?_
  refine .seq ?_
  refine .plain rfl ?_
  refine .box rfl rfl rfl rfl rfl H (fun w1 b1 H1 => ⟨fun _ => trivial, ?_⟩)
  refine .box rfl rfl rfl rfl rfl H1 (fun w2 b2 H2 => ⟨fun _ => trivial, ?_⟩)
  refine .q rfl rfl rfl (val_assign rfl) ?_
  refine .nil (cj ?_)
  refine .seq ?_
  refine .seq ?_
  refine .plain rfl ?_
  refine .qs rfl rfl rfl H2 (ld_b rfl ob_87 (.own (.there .here)) rfl) ?_
  refine .q rfl rfl rfl (val_ptr_eq_nil Tryz.underlying87 rfl rfl rfl) ?_
  refine .q rfl rfl rfl (val_move rfl) ?_
  refine .qs rfl rfl rfl H2 (ld_b rfl ob_87 (.own (.there .here)) rfl) ?_
  refine .q rfl rfl rfl (val_nilCheck rfl) ?_
  refine .q rfl rfl rfl (val_fieldAddr rfl fa_147_0) ?_
  refine .qs rfl rfl rfl H2 (ld_b rfl ob_3 (.own (.there (.there .here))) h0) ?_
  refine .q rfl rfl rfl (val_lss rfl rfl rfl) ?_
  refine .q rfl rfl rfl (val_pick_f rfl rfl) ?_
  refine .q rfl rfl rfl (val_move rfl) ?_
  refine .case (t := 15) rfl (fun hs15 => ?_) (fun hs15 => ?_)
  · exfalso; have h9 := of_decide_eq_true hs15; omega
  · refine .qs rfl rfl rfl H2 (ld_b rfl ob_3 (.own .here) rfl) ?_
    refine .q rfl rfl rfl (val_lss rfl rfl rfl) ?_
    refine .q rfl rfl rfl (val_pick_f rfl rfl) ?_
    refine .q rfl rfl rfl (val_move rfl) ?_
    refine .case (t := 19) rfl (fun hs19 => ?_) (fun hs19 => ?_)
    · exfalso; have h9 := of_decide_eq_true hs19; omega
    · refine .qs rfl rfl rfl H2 (ld_b rfl ob_3 (.own .here) rfl) ?_
      refine .q rfl rfl rfl (val_gtr rfl rfl rfl) ?_
      refine .q rfl rfl rfl (val_pick_f rfl rfl) ?_
      refine .nil (cj ?_)
      refine .cond rfl (fun hc0 => ?_) (fun hc0 => ?_)
      · exfalso; have h9 := of_decide_eq_true hc0; omega
      · refine .skip (cj ?_)
        refine .seq ?_
        refine .drawS 6 (.cons (0, true) (.cons (1, true) (.cons (2, true) (.cons (3, true) (.cons (4, true) (.cons (5, false) (.cons (6, false) .nil))))))) mo (by kernel_rfl) H2 (fun _ _ _ _ _ h => h) (fun w3 H3 => ?_)
        refine .ps rfl rfl rfl rfl (ld_b rfl ob_87 (.own (.there .here)) rfl) ?_
        refine .ps rfl rfl rfl rfl (ld_b rfl ob_3 (.own .here) rfl) ?_
        refine .p rfl rfl rfl (val_nilCheck rfl) ?_
        refine .p rfl rfl rfl (val_fieldAddr rfl fa_147_3) ?_
        refine .p rfl rfl rfl (val_ixa ar_145 rfl rfl rfl (by omega)) ?_
        refine .alloc rfl rfl rfl ze_224 rfl H3 (fun w4 b4 H4 => ⟨fun _ => (H4.sub (.cons (.there .here) (.cons (.there .here) (.cons (.there .here) (.cons (.there .here) .nil))))), ?_⟩)
        refine .store rfl rfl rfl rfl rfl sz_224 rfl H4 .here (by repeat constructor) (fun w5 H5 => ⟨fun h => absurd h (by decide), ?_⟩)
        refine .nil (cj ?_)
        refine .seq ?_
        refine .plain rfl ?_
        refine .qs rfl rfl rfl H5 (ld_b rfl ob_224 (.own .here) rfl) ?_
        refine .q rfl rfl rfl (val_nilCheck rfl) ?_
        refine .q rfl rfl rfl (val_fieldAddr rfl fa_144_0) ?_
        refine .q rfl rfl rfl (val_makeFunc .nil (.cons rfl (.cons rfl (.cons rfl .nil)))) ?_
        refine .callx rfl rfl rfl en161 (.cons rfl (.cons rfl .nil)) (do1_spec _ _ _ bn _ _ u a vm _ hu ha hv (by omega) (by omega) h0 h1 h2 hp hd hl) H5 (.cons (.there (.there (.there .here))) .nil) (.own (.there (.there .here)) (.own (.there .here) (.own .here .nil))) (fun v8 w6 C6 H6 => ⟨fun _ => trivial, ?_⟩)
        obtain ⟨Aq, capq, rfl, hnq, H7⟩ := St.rowOwn H6 .here
        refine .nil (cj ?_)
        refine .seq ?_
        refine .plain rfl ?_
        refine .qs rfl rfl rfl H7 (ld_b rfl ob_224 (.own (.there (.there .here))) rfl) ?_
        refine .q rfl rfl rfl (val_nilCheck rfl) ?_
        refine .q rfl rfl rfl (val_fieldAddr rfl fa_144_1) ?_
        refine .qs rfl rfl rfl H7 (ld_b rfl ob_27 (.own (.there .here)) (hg _)) ?_
        refine .q rfl rfl rfl (val_assign rfl) ?_
        refine .nil (cj ?_)
        refine .ret (fret (res1 rfl rfl) ?_)
        have H9 : St _ _ _ _ (arr Aq _ :: kinR _ _ _ rs :: [blk bn _ 147]) := H7.sub (.cons .here (.cons (.there (.there (.there (.there .here)))) (.cons .here .nil)))
        have H10 : St _ _ _ _ [kinR _ _ _ _, blk bn (kset (kcs u a vm rs) (3 + j * 4) (.slice Aq _ capq)) 147] := St.kinAdd (cap := capq) H9
        rw [kset_kcs hr] at H10
        exact hRR _ _ ⟨_, ⟨⟨Aq, capq, _⟩, rfl, rfl, by simpa using hrs, set_at hr⟩, H10.sub (.cons (.there .here) (.cons .here .nil))⟩
theorem places_b (A : Option Addr) (len cap : Nat) (hr : rs[j]? = some (some (A, len, cap))) : Sk.Spec Tryz.prog 157 #[ptr bn, i64 (j : Int)] [] (kinF bn u a vm rs) (PlPost bn u a vm j) := by
  have _h1 := ha
  have _h2 := hv
  have h0 : (kcs u a vm rs)[0]? = some (i64 u) := rfl
  have hd : (kcs u a vm rs)[3 + j * 4]? = some (.int .u32 1) := kcs_get hr (c := 0) (by decide)
  have hg : (kcs u a vm rs)[3 + j * 4 + 3]? = some (.slice A len cap) := kcs_get hr (c := 3) (by decide)
  refine Spec.of_code (vs := [_, _]) (k0 := [(0, _), (1, _)]) 37 Tryz.func157 rfl Tryz.ntmps157 rfl (.cons (.cons .nil)) fun w X RR hRR H => ?_
  obtain ⟨hlen, _⟩ := St.kinGet H (.there .here) hr
  refine .seq ?_
  refine .plain rfl ?_
  refine .box rfl rfl rfl rfl rfl H (fun w1 b1 H1 => ⟨fun _ => trivial, ?_⟩)
  refine .box rfl rfl rfl rfl rfl H1 (fun w2 b2 H2 => ⟨fun _ => trivial, ?_⟩)
  refine .q rfl rfl rfl (val_assign rfl) ?_
  refine .nil (cj ?_)
  refine .seq ?_
  refine .seq ?_
  refine .plain rfl ?_
  refine .qs rfl rfl rfl H2 (ld_b rfl ob_87 (.own (.there .here)) rfl) ?_
  refine .q rfl rfl rfl (val_ptr_eq_nil Tryz.underlying87 rfl rfl rfl) ?_
  refine .q rfl rfl rfl (val_move rfl) ?_
  refine .qs rfl rfl rfl H2 (ld_b rfl ob_87 (.own (.there .here)) rfl) ?_
  refine .q rfl rfl rfl (val_nilCheck rfl) ?_
  refine .q rfl rfl rfl (val_fieldAddr rfl fa_147_0) ?_
  refine .qs rfl rfl rfl H2 (ld_b rfl ob_3 (.own (.there (.there .here))) h0) ?_
  refine .q rfl rfl rfl (val_lss rfl rfl rfl) ?_
  refine .q rfl rfl rfl (val_pick_f rfl rfl) ?_
  refine .q rfl rfl rfl (val_move rfl) ?_
  refine .case (t := 15) rfl (fun hs15 => ?_) (fun hs15 => ?_)
  · exfalso; have h9 := of_decide_eq_true hs15; omega
  · refine .qs rfl rfl rfl H2 (ld_b rfl ob_3 (.own .here) rfl) ?_
    refine .q rfl rfl rfl (val_lss rfl rfl rfl) ?_
    refine .q rfl rfl rfl (val_pick_f rfl rfl) ?_
    refine .q rfl rfl rfl (val_move rfl) ?_
    refine .case (t := 19) rfl (fun hs19 => ?_) (fun hs19 => ?_)
    · exfalso; have h9 := of_decide_eq_true hs19; omega
    · refine .qs rfl rfl rfl H2 (ld_b rfl ob_3 (.own .here) rfl) ?_
      refine .q rfl rfl rfl (val_gtr rfl rfl rfl) ?_
      refine .q rfl rfl rfl (val_pick_f rfl rfl) ?_
      refine .nil (cj ?_)
      refine .cond rfl (fun hc0 => ?_) (fun hc0 => ?_)
      · exfalso; have h9 := of_decide_eq_true hc0; omega
      · refine .skip (cj ?_)
        refine .seq ?_
        refine .drawS 6 (.cons (0, true) (.cons (1, true) (.cons (2, true) (.cons (3, true) (.cons (4, true) (.cons (5, false) (.cons (6, false) .nil))))))) mo (by kernel_rfl) H2 (fun _ _ _ _ _ h => h) (fun w3 H3 => ?_)
        refine .ps rfl rfl rfl rfl (ld_b rfl ob_87 (.own (.there .here)) rfl) ?_
        refine .ps rfl rfl rfl rfl (ld_b rfl ob_3 (.own .here) rfl) ?_
        refine .p rfl rfl rfl (val_nilCheck rfl) ?_
        refine .p rfl rfl rfl (val_fieldAddr rfl fa_147_3) ?_
        refine .p rfl rfl rfl (val_ixa ar_145 rfl rfl rfl (by omega)) ?_
        refine .alloc rfl rfl rfl ze_224 rfl H3 (fun w4 b4 H4 => ⟨fun _ => (H4.sub (.cons (.there .here) (.cons (.there .here) (.cons (.there .here) (.cons (.there .here) .nil))))), ?_⟩)
        refine .store rfl rfl rfl rfl rfl sz_224 rfl H4 .here (by repeat constructor) (fun w5 H5 => ⟨fun h => absurd h (by decide), ?_⟩)
        refine .nil (cj ?_)
        refine .seq ?_
        refine .plain rfl ?_
        refine .qs rfl rfl rfl H5 (ld_b rfl ob_224 (.own .here) rfl) ?_
        refine .q rfl rfl rfl (val_nilCheck rfl) ?_
        refine .q rfl rfl rfl (val_fieldAddr rfl fa_144_0) ?_
        refine .q rfl rfl rfl (val_makeFunc .nil (.cons rfl (.cons rfl (.cons rfl .nil)))) ?_
        refine .call1 rfl rfl rfl en161 (.cons rfl (.cons rfl .nil)) (do2_spec bn _ _ _ hd) H5 .nil (.own (.there (.there (.there .here))) .nil) (fun w6 H6 => ⟨fun _ => trivial, ?_⟩)
        refine .nil (cj ?_)
        refine .seq ?_
        refine .plain rfl ?_
        refine .qs rfl rfl rfl H6 (ld_b rfl ob_224 (.own .here) rfl) ?_
        refine .q rfl rfl rfl (val_nilCheck rfl) ?_
        refine .q rfl rfl rfl (val_fieldAddr rfl fa_144_1) ?_
        refine .qs rfl rfl rfl H6 (ld_b rfl ob_27 (.own (.there (.there (.there .here)))) hg) ?_
        refine .q rfl rfl rfl (val_assign rfl) ?_
        refine .nil (cj ?_)
        refine .ret (fret (res1 rfl rfl) ?_)
        subst hlen
        exact hRR _ _ ⟨_, ⟨⟨A, cap, rs⟩, rfl, rfl, hrs, hr⟩, H6.sub (.cons (.there (.there (.there .here))) (.cons (.there (.there (.there .here))) .nil))⟩
theorem placesK_spec : Sk.Spec Tryz.prog 157 #[ptr bn, i64 (j : Int)] [] (kinF bn u a vm rs) (PlPost bn u a vm j) := by
  have hlt : j < rs.length := by omega
  cases hr : rs[j] with
  | none => exact places_a bn u a vm rs hu ha hv hrs j hj (by rw [List.getElem?_eq_getElem hlt, hr])
  | some r =>
    obtain ⟨A, len, cap⟩ := r
    exact places_b bn u a vm rs hu ha hv hrs j hj A len cap (by rw [List.getElem?_eq_getElem hlt, hr])
end
section
variable (bn : Nat) (u a vm : Int) (rs : List Rn) (hu : 1 ≤ u ∧ u ≤ 1000) (ha : 1 ≤ a ∧ a ≤ 1000) (hv : 1 ≤ vm ∧ vm ≤ 1000) (hrs : rs.length = 17) (j : Nat) (hj : 1 ≤ j ∧ j ≤ 16)
include hu ha hv hrs hj
abbrev KPost (v : Value) : Ending → List As → Prop := fun e F' => ∃ rs' : List Rn, e = .returned v ∧ F' = kinF bn u a vm rs' ∧ rs'.length = 17
theorem timeK_spec : Sk.Spec Tryz.prog 144 #[ptr bn, i64 (j : Int)] [] (kinF bn u a vm rs) (KPost bn u a vm (i64 ((prof u a vm (j : Int)).length : Int))) := by
  refine Spec.of_code (vs := [_, _]) (k0 := [(0, _), (1, _)]) 9 Tryz.func144 rfl Tryz.ntmps144 rfl (.cons (.cons .nil)) fun w X RR hRR H => ?_
  refine .seq ?_
  refine .plain rfl ?_
  refine .q rfl rfl rfl (val_assign rfl) ?_
  refine .nil (cj ?_)
  refine .seq ?_
  refine .plain rfl ?_
  refine .q rfl rfl rfl (val_move rfl) ?_
  refine .q rfl rfl rfl (val_move rfl) ?_
  refine .callx rfl rfl rfl en157 (.cons rfl (.cons rfl .nil)) (placesK_spec bn u a vm _ hu ha hv hrs j hj) H (.cons .here (.cons .here .nil)) .nil (fun x1 w1 ⟨hrs1, hr1⟩ H1 => ⟨fun _ => trivial, ?_⟩)
  refine .q rfl rfl rfl (val_len Tryz.underlying27 rfl) ?_
  refine .q rfl rfl rfl (val_assign rfl) ?_
  refine .nil (cj ?_)
  refine .ret (fret (res1 rfl rfl) ?_)
  exact hRR _ _ ⟨_, ⟨_, rfl, rfl, hrs1⟩, H1.sub (.cons .here (.cons .here .nil))⟩
theorem atK_spec (t : Int) : Sk.Spec Tryz.prog 145 #[ptr bn, i64 (j : Int), i64 t] [] (kinF bn u a vm rs) (KPost bn u a vm (i64 (atN u a vm (j : Int) t))) := by
  have hp := prof_pos (a := a) (v := vm) (n := (j : Int)) hu.1 (by omega)
  have hlen := prof_len (a := a) (v := vm) (n := (j : Int)) hu (by omega)
  refine Spec.of_code (vs := [_, _, _]) (k0 := [(0, _), (1, _), (2, _)]) 26 Tryz.func145 rfl Tryz.ntmps145 rfl (.cons (.cons (.cons .nil))) fun w X RR hRR H => ?_
  refine .seq ?_
  refine .plain rfl ?_
  refine .q rfl rfl rfl (val_assign rfl) ?_
  refine .nil (cj ?_)
  refine .seq ?_
  refine .plain rfl ?_
  refine .q rfl rfl rfl (val_move rfl) ?_
  refine .q rfl rfl rfl (val_move rfl) ?_
  refine .callx rfl rfl rfl en157 (.cons rfl (.cons rfl .nil)) (placesK_spec bn u a vm _ hu ha hv hrs j hj) H (.cons .here (.cons .here .nil)) .nil (fun x1 w1 ⟨hrs1, hr1⟩ H1 => ⟨fun _ => trivial, ?_⟩)
  refine .q rfl rfl rfl (val_assign rfl) ?_
  refine .nil (cj ?_)
  refine .seq ?_
  refine .seq ?_
  refine .plain rfl ?_
  refine .q rfl rfl rfl (val_move rfl) ?_
  refine .q rfl rfl rfl (val_lss rfl rfl rfl) ?_
  refine .q rfl rfl rfl (val_move rfl) ?_
  refine .case (t := 13) rfl (fun hs13 => ?_) (fun hs13 => ?_)
  · refine .no rfl rfl rfl ?_
    refine .no rfl rfl rfl ?_
    refine .no rfl rfl rfl ?_
    refine .q rfl rfl rfl (val_pick_t rfl rfl) ?_
    refine .nil (cj ?_)
    refine .cond_t rfl ?_
    refine .seq ?_
    refine .plain rfl ?_
    refine .q rfl rfl rfl (val_assign rfl) ?_
    refine .nil (cj ?_)
    refine .ret (fret (res1 rfl rfl) ?_)
    first | (rw [at_0 hs13] at hRR; exact hRR _ _ ⟨_, ⟨_, rfl, rfl, hrs1⟩, H1.sub (.cons .here (.cons .here .nil))⟩) | exact hRR _ _ ⟨_, ⟨_, rfl, rfl, hrs1⟩, H1.sub (.cons .here (.cons .here .nil))⟩
  · refine .q rfl rfl rfl (val_move rfl) ?_
    refine .q rfl rfl rfl (val_len Tryz.underlying27 rfl) ?_
    refine .q rfl rfl rfl (val_eql rfl rfl rfl) ?_
    refine .q rfl rfl rfl (val_pick_f rfl rfl) ?_
    refine .nil (cj ?_)
    refine .cond rfl (fun hc0 => ?_) (fun hc0 => ?_)
    · first | (exfalso; have h9 := eq_of_beq hc0; omega) | skip
    · refine .skip (cj ?_)
      refine .seq ?_
      have h1 := of_decide_eq_false hs13
      obtain ⟨i, hi1, hi2, hi3⟩ := atN_min (t := t) hu ha hv (show 1 ≤ (j : Int) ∧ (j : Int) ≤ 16 by omega) h1
      obtain ⟨_, Y9, hY9⟩ := St.kinGet H1 (.there .here) hr1
      obtain ⟨b9, o9, hA9⟩ : ∃ b o, x1.A = some ⟨b, o, none⟩ := by
        rcases hY9 with ⟨h, _⟩ | ⟨b, o, h, _⟩
        · exfalso
          have h9 := congrArg List.length h
          rw [flat_len encI_len, List.length_nil, Nat.mul_one] at h9
          omega
        · exact ⟨b, o, h⟩
      have hw9 : w64 (min t ((prof u a vm (j : Int)).length : Int) - 1) = min t ((prof u a vm (j : Int)).length : Int) - 1 := w64_of (by omega)
      refine .plain rfl ?_
      refine .q rfl rfl rfl (val_move rfl) ?_
      refine .q rfl rfl rfl (val_move rfl) ?_
      refine .q rfl rfl rfl (val_move rfl) ?_
      refine .q rfl rfl rfl (val_len Tryz.underlying27 rfl) ?_
      refine .q rfl rfl rfl (val_min rfl rfl rfl) ?_
      refine .q rfl rfl rfl (val_sub rfl rfl hw9) ?_
      refine .q rfl rfl rfl (val_ix el_27 hA9 rfl rfl hi1 hi2) ?_
      refine .qs rfl rfl rfl H1 (ld_krun rfl ob_3 hA9 (.own (.there .here)) hr1 hi3) ?_
      refine .q rfl rfl rfl (val_assign rfl) ?_
      refine .nil (cj ?_)
      refine .ret (fret (res1 rfl rfl) ?_)
      first | (rw [at_0 hs13] at hRR; exact hRR _ _ ⟨_, ⟨_, rfl, rfl, hrs1⟩, H1.sub (.cons .here (.cons .here .nil))⟩) | exact hRR _ _ ⟨_, ⟨_, rfl, rfl, hrs1⟩, H1.sub (.cons .here (.cons .here .nil))⟩
end
end Go.Proofs.YtmbibkifbehgnaaGreatDoor
/-! ## N8: Walks of kinem's Speed, Stop. -/
namespace Go.Proofs.YtmbibkifbehgnaaGreatDoor
open Go Sk
set_option linter.unusedVariables false
set_option linter.unusedSimpArgs false
theorem en145 : Enters Tryz.prog 145 := fun args w => by kernel_rfl
section
variable (bn : Nat) (u a vm : Int) (rs : List Rn) (hu : 1 ≤ u ∧ u ≤ 1000) (ha : 1 ≤ a ∧ a ≤ 1000) (hv : 1 ≤ vm ∧ vm ≤ 1000) (hrs : rs.length = 17) (j : Nat) (hj : 1 ≤ j ∧ j ≤ 16)
include hu ha hv hrs hj
theorem speedK_spec (t : Int) (ht : t ≤ 100000) : Sk.Spec Tryz.prog 146 #[ptr bn, i64 (j : Int), i64 t] [] (kinF bn u a vm rs) (KPost bn u a vm (i64 (speedN u a vm (j : Int) t))) := by
  have r1 := atN_rng (t := t) hu ha.1 hv.1 (show 1 ≤ (j : Int) ∧ (j : Int) ≤ 16 by omega)
  have r2 := atN_rng (t := t - 1) hu ha.1 hv.1 (show 1 ≤ (j : Int) ∧ (j : Int) ≤ 16 by omega)
  refine Spec.of_code (vs := [_, _, _]) (k0 := [(0, _), (1, _), (2, _)]) 19 Tryz.func146 rfl Tryz.ntmps146 rfl (.cons (.cons (.cons .nil))) fun w X RR hRR H => ?_
  refine .seq ?_
  refine .plain rfl ?_
  refine .q rfl rfl rfl (val_assign rfl) ?_
  refine .nil (cj ?_)
  refine .seq ?_
  refine .seq ?_
  refine .plain rfl ?_
  refine .q rfl rfl rfl (val_move rfl) ?_
  refine .q rfl rfl rfl (val_lss rfl rfl rfl) ?_
  refine .nil (cj ?_)
  refine .cond rfl (fun hc0 => ?_) (fun hc0 => ?_)
  · refine .seq ?_
    refine .plain rfl ?_
    refine .q rfl rfl rfl (val_assign rfl) ?_
    refine .nil (cj ?_)
    refine .ret (fret (res1 rfl rfl) ?_)
    first | (rw [sp_0 hc0] at hRR; exact hRR _ _ ⟨_, ⟨_, rfl, rfl, hrs⟩, H.sub (.cons .here (.cons .here .nil))⟩) | (rw [sp_1 hc0] at hRR; exact hRR _ _ ⟨_, ⟨_, rfl, rfl, by assumption⟩, H.sub (.cons .here (.cons .here .nil))⟩)
  · have h1 := of_decide_eq_false hc0
    refine .skip (cj ?_)
    refine .seq ?_
    refine .plain rfl ?_
    refine .q rfl rfl rfl (val_move rfl) ?_
    refine .q rfl rfl rfl (val_move rfl) ?_
    refine .q rfl rfl rfl (val_move rfl) ?_
    refine .callx rfl rfl rfl en145 (.cons rfl (.cons rfl (.cons rfl .nil))) (atK_spec bn u a vm _ hu ha hv hrs j hj _) H (.cons .here (.cons .here .nil)) .nil (fun rs1 w1 hrs1 H1 => ⟨fun _ => trivial, ?_⟩)
    refine .q rfl rfl rfl (val_move rfl) ?_
    refine .q rfl rfl rfl (val_move rfl) ?_
    refine .q rfl rfl rfl (val_move rfl) ?_
    refine .q rfl rfl rfl (val_sub rfl rfl (w64_of (by omega))) ?_
    refine .callx rfl rfl rfl en145 (.cons rfl (.cons rfl (.cons rfl .nil))) (atK_spec bn u a vm _ hu ha hv hrs1 j hj _) H1 (.cons .here (.cons .here .nil)) .nil (fun rs2 w2 hrs2 H2 => ⟨fun _ => trivial, ?_⟩)
    refine .q rfl rfl rfl (val_sub rfl rfl (w64_of (by omega))) ?_
    refine .q rfl rfl rfl (val_assign rfl) ?_
    refine .nil (cj ?_)
    refine .ret (fret (res1 rfl rfl) ?_)
    first | (rw [sp_0 hc0] at hRR; exact hRR _ _ ⟨_, ⟨_, rfl, rfl, hrs⟩, H2.sub (.cons .here (.cons .here .nil))⟩) | (rw [sp_1 hc0] at hRR; exact hRR _ _ ⟨_, ⟨_, rfl, rfl, by assumption⟩, H2.sub (.cons .here (.cons .here .nil))⟩)
end
end Go.Proofs.YtmbibkifbehgnaaGreatDoor
/-! ## N9: Walk of kinem's Stop. -/
namespace Go.Proofs.YtmbibkifbehgnaaGreatDoor
open Go Sk
set_option linter.unusedVariables false
set_option linter.unusedSimpArgs false
theorem en144 : Enters Tryz.prog 144 := fun args w => by kernel_rfl
theorem en146 : Enters Tryz.prog 146 := fun args w => by kernel_rfl
theorem seq_fall {a e : Int} : ∀ (f : Nat) (p s : Int), (seqF a e true f s p s).length = fallF a e f p s
  | 0, _, _ => rfl
  | f + 1, p, s => by
    unfold seqF fallF
    split
    · rw [show (bif true then nextN a (e - p) s s else s) = nextN a (e - p) s s from rfl, List.length_cons, seq_fall f]
    · rfl
theorem fall_le {a e : Int} : ∀ (f : Nat) (p s : Int), fallF a e f p s ≤ f
  | 0, _, _ => Nat.le_refl _
  | f + 1, p, s => by
    unfold fallF
    split
    · have := fall_le (a := a) (e := e) f (p + nextN a (e - p) s s) (nextN a (e - p) s s)
      omega
    · omega
section
variable (bn : Nat) (u a vm : Int) (rs : List Rn) (hu : 1 ≤ u ∧ u ≤ 1000) (ha : 1 ≤ a ∧ a ≤ 1000) (hv : 1 ≤ vm ∧ vm ≤ 1000) (hrs : rs.length = 17) (j : Nat) (hj : 1 ≤ j ∧ j ≤ 16)
include hu ha hv hrs hj
theorem stopK_spec (t : Int) : Sk.Spec Tryz.prog 116 #[ptr bn, i64 (j : Int), i64 t] [] (kinF bn u a vm rs) (KPost bn u a vm (.tuple #[i64 (stopN u a vm (j : Int) t).1, i64 (stopN u a vm (j : Int) t).2])) := by
  have hn : 1 ≤ (j : Int) ∧ (j : Int) ≤ 16 := by omega
  have hp := prof_pos (a := a) (v := vm) (n := (j : Int)) hu.1 (by omega)
  have hlen := prof_len (a := a) (v := vm) (n := (j : Int)) hu (by omega)
  refine Spec.of_codeM (vs := [_, _, _]) (k0 := [(0, _), (1, _), (2, _)]) 67 Tryz.func116 rfl Tryz.ntmps116 rfl (.cons (.cons (.cons .nil))) fun w X RR hRR H => ?_
  refine .seq ?_
  refine .plain rfl ?_
  refine .q rfl rfl rfl (val_assign rfl) ?_
  refine .q rfl rfl rfl (val_assign rfl) ?_
  refine .nil (cj ?_)
  refine .seq ?_
  refine .seq ?_
  refine .plain rfl ?_
  refine .q rfl rfl rfl (val_move rfl) ?_
  refine .q rfl rfl rfl (val_move rfl) ?_
  refine .callx rfl rfl rfl en144 (.cons rfl (.cons rfl .nil)) (timeK_spec bn u a vm _ hu ha hv hrs j hj) H (.cons .here (.cons .here .nil)) .nil (fun rs1 w1 hrs1 H1 => ⟨fun _ => trivial, ?_⟩)
  refine .q rfl rfl rfl (val_assign rfl) ?_
  refine .nil (cj ?_)
  refine .block ?_
  refine .seq ?_
  refine .plain rfl ?_
  refine .q rfl rfl rfl (val_move rfl) ?_
  refine .q rfl rfl rfl (val_lss rfl rfl rfl) ?_
  refine .q rfl rfl rfl (val_move rfl) ?_
  refine .case (t := 19) rfl (fun hs19 => ?_) (fun hs19 => ?_)
  · refine .no rfl rfl rfl ?_
    refine .no rfl rfl rfl ?_
    refine .q rfl rfl rfl (val_pick_t rfl rfl) ?_
    refine .q rfl rfl rfl (val_assign rfl) ?_
    refine .nil (cj ?_)
    refine .cond_t rfl ?_
    refine .seq ?_
    refine .plain rfl ?_
    refine .q rfl rfl rfl (val_assign rfl) ?_
    refine .q rfl rfl rfl (val_assign rfl) ?_
    refine .nil (cj ?_)
    refine .ret (mret0 (res2 rfl rfl rfl) ?_)
    first | (rw [so_0 hs19] at hRR; exact hRR _ _ ⟨_, ⟨_, rfl, rfl, by assumption⟩, H1.sub (.cons .here (.cons .here .nil))⟩) | (rw [so_1 hs19 hc1] at hRR; exact hRR _ _ ⟨_, ⟨_, rfl, rfl, by assumption⟩, H1.sub (.cons .here (.cons .here .nil))⟩) | (rw [so_2 hs19 hc1, ← seq_fall] at hRR; exact hRR _ _ ⟨_, ⟨_, rfl, rfl, by assumption⟩, H1.sub (.cons .here (.cons .here .nil))⟩)
  · refine .q rfl rfl rfl (val_move rfl) ?_
    refine .q rfl rfl rfl (val_eql rfl rfl rfl) ?_
    refine .q rfl rfl rfl (val_pick_f rfl rfl) ?_
    refine .q rfl rfl rfl (val_assign rfl) ?_
    refine .nil (cj ?_)
    refine .cond rfl (fun hc0 => ?_) (fun hc0 => ?_)
    · exfalso; have h9 := eq_of_beq hc0; omega
    · refine .seq ?_
      refine .plain rfl ?_
      refine .q rfl rfl rfl (val_move rfl) ?_
      refine .q rfl rfl rfl (val_move rfl) ?_
      refine .q rfl rfl rfl (val_geq rfl rfl rfl) ?_
      refine .q rfl rfl rfl (val_assign rfl) ?_
      refine .nil (cj ?_)
      refine .cond rfl (fun hc1 => ?_) (fun hc1 => ?_)
      · refine .seq ?_
        refine .plain rfl ?_
        refine .q rfl rfl rfl (val_move rfl) ?_
        refine .q rfl rfl rfl (val_assign rfl) ?_
        refine .q rfl rfl rfl (val_assign rfl) ?_
        refine .nil (cj ?_)
        refine .ret (mret0 (res2 rfl rfl rfl) ?_)
        first | (rw [so_0 hs19] at hRR; exact hRR _ _ ⟨_, ⟨_, rfl, rfl, by assumption⟩, H1.sub (.cons .here (.cons .here .nil))⟩) | (rw [so_1 hs19 hc1] at hRR; exact hRR _ _ ⟨_, ⟨_, rfl, rfl, by assumption⟩, H1.sub (.cons .here (.cons .here .nil))⟩) | (rw [so_2 hs19 hc1, ← seq_fall] at hRR; exact hRR _ _ ⟨_, ⟨_, rfl, rfl, by assumption⟩, H1.sub (.cons .here (.cons .here .nil))⟩)
      · refine .skip (cj ?_)
        refine .seq ?_
        have h1 := of_decide_eq_false hs19
        have h2 := of_decide_eq_false hc1
        have hat := atN_rng (t := t) hu ha.1 hv.1 hn
        have hsp := speedN_rng (t := t) hu ha.1 hv.1 hn (by omega) (by omega)
        have hbr := brakeN_rng (s := speedN u a vm (j : Int) t) ha.1 (by omega)
        have hce := Int.ediv_mul_le (atN u a vm (j : Int) t + brakeN a (speedN u a vm (j : Int) t) + u - 1) (show u ≠ 0 by omega)
        have hce2 := Int.lt_ediv_add_one_mul_self (atN u a vm (j : Int) t + brakeN a (speedN u a vm (j : Int) t) + u - 1) (show 0 < u by omega)
        rw [Int.add_mul, Int.one_mul] at hce2
        have hcl : 0 ≤ (atN u a vm (j : Int) t + brakeN a (speedN u a vm (j : Int) t) + u - 1) / u := Int.ediv_nonneg (by omega) (by omega)
        have hcu : (atN u a vm (j : Int) t + brakeN a (speedN u a vm (j : Int) t) + u - 1) / u ≤ atN u a vm (j : Int) t + brakeN a (speedN u a vm (j : Int) t) + u - 1 := Int.ediv_le_self _ (by omega)
        have hdef : stopCells u a vm (j : Int) t = (atN u a vm (j : Int) t + brakeN a (speedN u a vm (j : Int) t) + u - 1) / u := rfl
        have hq : w64 ((atN u a vm (j : Int) t + brakeN a (speedN u a vm (j : Int) t) + u - 1).tdiv u) = stopCells u a vm (j : Int) t := by rw [Int.tdiv_eq_ediv_of_nonneg (by omega), hdef]; exact w64_of (by omega)
        rw [← hdef] at hce hce2 hcl hcu
        have hwe : w64 (stopCells u a vm (j : Int) t * u) = stopCells u a vm (j : Int) t * u := w64_of (by omega)
        refine .plain rfl ?_
        refine .q rfl rfl rfl (val_move rfl) ?_
        refine .q rfl rfl rfl (val_move rfl) ?_
        refine .q rfl rfl rfl (val_move rfl) ?_
        refine .callx rfl rfl rfl en145 (.cons rfl (.cons rfl (.cons rfl .nil))) (atK_spec bn u a vm _ hu ha hv (by assumption) j hj t) H1 (.cons .here (.cons .here .nil)) .nil (fun rs2 w2 hrs2 H2 => ⟨fun _ => trivial, ?_⟩)
        refine .q rfl rfl rfl (val_move rfl) ?_
        refine .q rfl rfl rfl (val_move rfl) ?_
        refine .q rfl rfl rfl (val_move rfl) ?_
        refine .callx rfl rfl rfl en146 (.cons rfl (.cons rfl (.cons rfl .nil))) (speedK_spec bn u a vm _ hu ha hv (by assumption) j hj t (by omega)) H2 (.cons .here (.cons .here .nil)) .nil (fun rs3 w3 hrs3 H3 => ⟨fun _ => trivial, ?_⟩)
        refine .q rfl rfl rfl (val_assign rfl) ?_
        refine .q rfl rfl rfl (val_assign rfl) ?_
        refine .nil (cj ?_)
        refine .seq ?_
        refine .drawS 17 (.cons (0, true) (.cons (1, true) (.cons (2, true) (.cons (5, true) (.cons (6, true) (.cons (7, true) (.cons (8, true) (.cons (11, true) (.cons (12, true) (.cons (13, true) (.cons (14, true) (.cons (3, false) (.cons (4, true) (.cons (9, true) (.cons (10, true) (.cons (15, true) (.cons (16, true) .nil))))))))))))))))) mo (by kernel_rfl) H3 (fun _ _ _ _ _ h => h) (fun w4 H4 => ?_)
        refine .p rfl rfl rfl (val_move rfl) ?_
        refine .p rfl rfl rfl (val_move rfl) ?_
        refine .p rfl rfl rfl (val_move rfl) ?_
        refine .p rfl rfl rfl (val_move rfl) ?_
        refine .p rfl rfl rfl (val_nilCheck rfl) ?_
        refine .p rfl rfl rfl (val_fieldAddr rfl fa_147_0) ?_
        refine .ps rfl rfl rfl rfl (ld_b rfl ob_3 (.own .here) rfl) ?_
        refine .p rfl rfl rfl (val_move rfl) ?_
        refine .p rfl rfl rfl (val_nilCheck rfl) ?_
        refine .p rfl rfl rfl (val_fieldAddr rfl fa_147_0) ?_
        refine .ps rfl rfl rfl rfl (ld_b rfl ob_3 (.own .here) rfl) ?_
        refine .call1 rfl rfl rfl en147 (.cons rfl (.cons rfl .nil)) (brakeK_spec (blk bn (kcs u a vm _) 147) bn u a vm _ (krd_blk rfl rfl rfl) ha (by omega)) H4 .nil (.own .here .nil) (fun w5 H5 => ⟨fun _ => H5, ?_⟩)
        refine .p rfl rfl rfl (val_add rfl rfl (w64_of (by omega))) ?_
        refine .p rfl rfl rfl (val_add rfl rfl (w64_of (by omega))) ?_
        refine .p rfl rfl rfl (val_sub rfl rfl (w64_of (by omega))) ?_
        refine .p rfl rfl rfl (val_quo rfl rfl (by omega) hq) ?_
        refine .p rfl rfl rfl (val_assign rfl) ?_
        refine .nil (cj ?_)
        refine .seq ?_
        refine .plain rfl ?_
        refine .alloc rfl rfl rfl ze_3 rfl H5 (fun w6 b6 H6 => ⟨fun _ => trivial, ?_⟩)
        refine .store rfl rfl rfl rfl rfl sz_3 rfl H6 .here (by repeat constructor) (fun w7 H7 => ⟨fun _ => trivial, ?_⟩)
        refine .nil (cj ?_)
        refine .seq ?_
        refine .seq ?_
        refine .plain rfl ?_
        refine .q rfl rfl rfl (val_move rfl) ?_
        refine .q rfl rfl rfl (val_move rfl) ?_
        refine .q rfl rfl rfl (val_move rfl) ?_
        refine .q rfl rfl rfl (val_move rfl) ?_
        refine .q rfl rfl rfl (val_move rfl) ?_
        refine .q rfl rfl rfl (val_nilCheck rfl) ?_
        refine .q rfl rfl rfl (val_fieldAddr rfl fa_147_0) ?_
        refine .qs rfl rfl rfl H7 (ld_b rfl ob_3 (.own (.there .here)) rfl) ?_
        refine .q rfl rfl rfl (val_mul rfl rfl hwe) ?_
        refine .callx rfl rfl rfl en148 (.cons rfl (.cons rfl (.cons rfl (.cons rfl (.cons rfl .nil))))) (steps_spec _ _ _ _ _ _) H7 .nil .nil (fun x8 w8 C8 H8 => ⟨fun _ => trivial, ?_⟩)
        refine .nil (cj ?_)
        refine .block ?_
        have HX3 := H8.sub (.cons (.there (.there (.there (.there (.there .here))))) (.cons (.there (.there (.there (.there (.there .here))))) (.cons (.there (.there (.there (.there (.there .here))))) (.cons .here (.cons .here (.cons .here (.cons .here (.cons .here .nil))))))))
        refine .range (fun pre => [blk b6 [i64 (pre.length : Int)] 3, blk bn (kcs u a vm _) 147, kinR u a vm _]) (fun x => [(12, ptr b6)]) rfl en158 rfl (stepsK_seq _ bn u a vm (atN u a vm (j : Int) t) (speedN u a vm (j : Int) t) (stopCells u a vm (j : Int) t * u) true (stopCells u a vm (j : Int) t * u - atN u a vm (j : Int) t).toNat ha hv (by omega) (fun _ => by omega) (by omega) (by omega) (by omega)) HX3 (fun L pre => krd_sep (krd_blk (bn := bn) (T := 147) rfl rfl rfl) (by simp; exact .inr (.inr (.inl rfl)))) ?_ ?_ ?_
        · intro l9 x9 w9
          refine .skip ?_
          intro a9 ha9
          exact ⟨rfl, rfl, Pick.kn (by repeat (first | exact Pick.nil | refine Pick.cons rfl ?_)) ha9⟩
        · intro l9 pre9 x9 w8 w9 X9 hpx HB
          have hw9 : w64 ((pre9.length : Int) + 1) = (((pre9 ++ [x9]).length : Nat) : Int) := by
            have h9 := hpx.length_le
            rw [show (bif true then speedN u a vm (j : Int) t else vm) = speedN u a vm (j : Int) t from rfl, seq_fall] at h9
            have h10 := fall_le (a := a) (e := stopCells u a vm (j : Int) t * u) (stopCells u a vm (j : Int) t * u - atN u a vm (j : Int) t).toNat (atN u a vm (j : Int) t) (speedN u a vm (j : Int) t)
            rw [List.length_append, List.length_singleton] at h9 ⊢
            rw [w64_of (by omega)]; omega
          refine .block ?_
          refine .plain rfl (by kernel_rfl) (fun _ _ h => h) ?_
          refine .qs rfl rfl rfl HB (ld_b rfl ob_3 (.own .here) rfl) ?_
          refine .q rfl rfl rfl (val_add rfl rfl hw9) ?_
          refine .store rfl rfl rfl rfl rfl sz_3 rfl HB .here (by repeat constructor) (fun w9 H9 => ⟨fun _ => trivial, ?_⟩)
          refine .nil ?_
          intro a9 _
          exact H9.sub (.cons .here (.cons .here (.cons .here .nil)))
        · intro w9 D9 HD
          refine id (cj ?_)
          refine .seq ?_
          refine .drawS 4 (.cons (0, true) (.cons (1, true) (.cons (2, true) (.cons (3, true) .nil)))) mo (by kernel_rfl) HD (fun _ _ _ _ _ h => h) (fun w10 H10 => ?_)
          refine .p rfl rfl rfl (val_move rfl) ?_
          refine .ps rfl rfl rfl rfl (ld_b rfl ob_3 (.own (.there .here)) rfl) ?_
          refine .p rfl rfl rfl (val_assign rfl) ?_
          refine .p rfl rfl rfl (val_assign rfl) ?_
          refine .nil (cj ?_)
          refine .ret (mret H10 .here (fun w11 => res2 rfl rfl rfl) (fun w11 H11 => ?_))
          first | (rw [so_0 hs19] at hRR; exact hRR _ _ ⟨_, ⟨_, rfl, rfl, by assumption⟩, H11.sub (.cons (.there .here) (.cons (.there .here) .nil))⟩) | (rw [so_1 hs19 hc1] at hRR; exact hRR _ _ ⟨_, ⟨_, rfl, rfl, by assumption⟩, H11.sub (.cons (.there .here) (.cons (.there .here) .nil))⟩) | (rw [so_2 hs19 hc1, ← seq_fall] at hRR; exact hRR _ _ ⟨_, ⟨_, rfl, rfl, by assumption⟩, H11.sub (.cons (.there .here) (.cons (.there .here) .nil))⟩)
end
end Go.Proofs.YtmbibkifbehgnaaGreatDoor
/-! ## K6: Walks of the robot's cuts, and of its stops where a move is under way. -/
namespace Go.Proofs.YtmbibkifbehgnaaGreatDoor
open Go Sk
set_option linter.unusedVariables false
set_option linter.unusedSimpArgs false
theorem fa_92_2 (b o : Nat) (w : World) : (Instr.fieldAt 92 (.pointer (some ⟨b, o, none⟩)) 2).run Tryz.prog w = .ok (.pointer (some ⟨b, o + 2, none⟩)) w := by kernel_rfl
theorem fa_156_3 (b o : Nat) (w : World) : (Instr.fieldAt 156 (.pointer (some ⟨b, o, none⟩)) 3).run Tryz.prog w = .ok (.pointer (some ⟨b, o + 13, none⟩)) w := by kernel_rfl
theorem en96 : Enters Tryz.prog 96 := fun args w => by kernel_rfl
theorem en116 : Enters Tryz.prog 116 := fun args w => by kernel_rfl
theorem stopKn_spec (bn : Nat) (u a vm : Int) (rs : List Rn) (hu : 1 ≤ u ∧ u ≤ 1000) (ha : 1 ≤ a ∧ a ≤ 1000) (hv : 1 ≤ vm ∧ vm ≤ 1000) (hrs : rs.length = 17) (n t : Int) (hn : 1 ≤ n ∧ n ≤ 16) :
    Sk.Spec Tryz.prog 116 #[ptr bn, i64 n, i64 t] [] (kinF bn u a vm rs) (KPost bn u a vm (.tuple #[i64 (stopN u a vm n t).1, i64 (stopN u a vm n t).2])) := by
  obtain ⟨j, rfl⟩ : ∃ j : Nat, n = (j : Int) := ⟨n.toNat, by omega⟩
  exact stopK_spec bn u a vm rs hu ha hv hrs j (by omega) t
/-- a run under way is cut -/
def cutG (c : Cf) (g : Gg) : Gg :=
  if g.move.kind ≠ 1 ∨ g.cut = true then g
  else { move := { g.move with n := (stopN c.unit c.accel c.speed g.move.n g.t).1, to := shiftR g.move.fr g.move.dir (stopN c.unit c.accel c.speed g.move.n g.t).1 }, t := g.t, left := max 1 (stopN c.unit c.accel c.speed g.move.n g.t).2, cut := true }
theorem cut_a {c : Cf} {g : Gg} (h : (g.move.kind != 1) = true) : cutG c g = g := by unfold cutG; rw [if_pos (.inl (by simpa using h))]
theorem cut_b {c : Cf} {g : Gg} (h : g.cut = true) : cutG c g = g := by unfold cutG; rw [if_pos (.inr h)]
theorem cut_c {c : Cf} {g : Gg} (h : (g.move.kind != 1) = false) (h2 : g.cut = false) : cutG c g = { move := { g.move with n := (stopN c.unit c.accel c.speed g.move.n g.t).1, to := shiftR g.move.fr g.move.dir (stopN c.unit c.accel c.speed g.move.n g.t).1 }, t := g.t, left := max 1 (stopN c.unit c.accel c.speed g.move.n g.t).2, cut := true } := by
  unfold cutG; rw [if_neg]
  simp at h
  simp [h, h2]
abbrev kinC (c : Cf) (bn : Nat) (rs : List Rn) : List As := kinF bn c.unit c.accel c.speed rs
abbrev RunN (g : Gg) : Prop := g.move.kind = 1 → g.cut = false → 1 ≤ g.move.n ∧ g.move.n ≤ 16
theorem cuts_spec (c : Cf) (hnum : NumOk c) (br bg bn bu : Nat) (r : Rb) (g : Gg) (rs : List Rn) (hrs : rs.length = 17) (hg : RunN g) :
    Sk.Spec Tryz.prog 96 #[ptr br] [rblk br bg bn r (some ⟨bu, 0, none⟩), stepsA] (gblk2 bu g :: kinC c bn rs) fun e F' => ∃ rs' : List Rn, e = .returned (.tuple #[]) ∧ F' = gblk2 bu (cutG c g) :: kinC c bn rs' ∧ rs'.length = 17 := by
  refine Spec.of_code (vs := [_]) (k0 := [(0, _)]) 74 Tryz.func96 rfl Tryz.ntmps96 rfl (.cons .nil) fun w X RR hRR H => ?_
  refine .seq ?_
  refine .plain rfl ?_
  refine .q rfl rfl rfl (val_move rfl) ?_
  refine .q rfl rfl rfl (val_nilCheck rfl) ?_
  refine .q rfl rfl rfl (val_fieldAddr rfl fa_92_7) ?_
  refine .qs rfl rfl rfl H (ld_b rfl ob_90 (.ro .here) rfl) ?_
  refine .q rfl rfl rfl (val_assign rfl) ?_
  refine .nil (cj ?_)
  refine .seq ?_
  refine .seq ?_
  refine .plain rfl ?_
  refine .q rfl rfl rfl (val_move rfl) ?_
  refine .q rfl rfl rfl (val_nilCheck rfl) ?_
  refine .q rfl rfl rfl (val_fieldAddr rfl fa_156_0) ?_
  refine .q rfl rfl rfl (val_fieldAddr rfl fa_42_0) ?_
  refine .qs rfl rfl rfl H (ld_b rfl ob_3 (.own .here) rfl) ?_
  refine .q rfl rfl rfl (val_neq rfl rfl rfl) ?_
  refine .q rfl rfl rfl (val_move rfl) ?_
  refine .case (t := 15) rfl (fun hs15 => ?_) (fun hs15 => ?_)
  · refine .no rfl rfl rfl ?_
    refine .no rfl rfl rfl ?_
    refine .no rfl rfl rfl ?_
    refine .no rfl rfl rfl ?_
    refine .q rfl rfl rfl (val_pick_t rfl rfl) ?_
    refine .nil (cj ?_)
    refine .cond_t rfl ?_
    refine .ret (fret (res0 rfl) ?_)
    first | (rw [cut_a hs15] at hRR; exact hRR _ _ ⟨_, ⟨_, rfl, rfl, hrs⟩, H.sub (.cons .here (.cons .here (.cons .here .nil)))⟩) | (rw [cut_b hc0] at hRR; exact hRR _ _ ⟨_, ⟨_, rfl, rfl, hrs⟩, H.sub (.cons .here (.cons .here (.cons .here .nil)))⟩) | (rw [cut_c hs15 hc0] at hRR; exact hRR _ _ ⟨_, ⟨_, rfl, rfl, hrs1⟩, H.sub (.cons .here (.cons .here (.cons .here .nil)))⟩)
  · refine .q rfl rfl rfl (val_move rfl) ?_
    refine .q rfl rfl rfl (val_nilCheck rfl) ?_
    refine .q rfl rfl rfl (val_fieldAddr rfl fa_156_3) ?_
    refine .qs rfl rfl rfl H (ld_b rfl ob_4 (.own .here) rfl) ?_
    refine .q rfl rfl rfl (val_pick_f rfl rfl) ?_
    refine .nil (cj ?_)
    refine .cond rfl (fun hc0 => ?_) (fun hc0 => ?_)
    · refine .ret (fret (res0 rfl) ?_)
      first | (rw [cut_a hs15] at hRR; exact hRR _ _ ⟨_, ⟨_, rfl, rfl, hrs⟩, H.sub (.cons .here (.cons .here (.cons .here .nil)))⟩) | (rw [cut_b hc0] at hRR; exact hRR _ _ ⟨_, ⟨_, rfl, rfl, hrs⟩, H.sub (.cons .here (.cons .here (.cons .here .nil)))⟩) | (rw [cut_c hs15 hc0] at hRR; exact hRR _ _ ⟨_, ⟨_, rfl, rfl, hrs1⟩, H.sub (.cons .here (.cons .here (.cons .here .nil)))⟩)
    · refine .skip (cj ?_)
      refine .seq ?_
      refine .drawS2 19 (.cons (0, true) (.cons (1, true) (.cons (2, true) (.cons (3, true) (.cons (4, true) (.cons (5, true) (.cons (6, true) (.cons (7, true) (.cons (8, true) (.cons (9, true) (.cons (10, true) (.cons (11, true) (.cons (12, true) (.cons (13, false) (.cons (14, true) (.cons (15, true) (.cons (16, true) (.cons (17, true) (.cons (18, true) .nil))))))))))))))))))) mo (by kernel_rfl) H (.cons .here .nil) (fun _ _ _ _ _ h => h) (fun w1 H1 => ?_)
      refine .p rfl rfl rfl (val_move rfl) ?_
      refine .p rfl rfl rfl (val_nilCheck rfl) ?_
      refine .p rfl rfl rfl (val_fieldAddr rfl fa_92_2) ?_
      refine .ps rfl rfl rfl rfl (ld_b rfl ob_87 (.ro .here) rfl) ?_
      refine .p rfl rfl rfl (val_move rfl) ?_
      refine .p rfl rfl rfl (val_nilCheck rfl) ?_
      refine .p rfl rfl rfl (val_fieldAddr rfl fa_156_0) ?_
      refine .p rfl rfl rfl (val_fieldAddr rfl fa_42_2) ?_
      refine .ps rfl rfl rfl rfl (ld_b rfl ob_3 (.own .here) rfl) ?_
      refine .p rfl rfl rfl (val_move rfl) ?_
      refine .p rfl rfl rfl (val_nilCheck rfl) ?_
      refine .p rfl rfl rfl (val_fieldAddr rfl fa_156_1) ?_
      refine .ps rfl rfl rfl rfl (ld_b rfl ob_3 (.own .here) rfl) ?_
      refine .callx rfl rfl rfl en116 (.cons rfl (.cons rfl (.cons rfl .nil))) (stopKn_spec bn c.unit c.accel c.speed rs hnum.unit hnum.accel hnum.speed hrs g.move.n g.t (hg (by simpa using hs15) hc0)) H1 (.cons (.there .here) (.cons (.there .here) .nil)) .nil (fun rs1 w2 hrs1 H2 => ⟨fun _ => (H2.sub (.cons (.there (.there .here)) .nil)), ?_⟩)
      refine .p rfl rfl rfl (val_move rfl) ?_
      refine .p rfl rfl rfl (val_extract rfl rfl) ?_
      refine .p rfl rfl rfl (val_extract rfl rfl) ?_
      refine .p rfl rfl rfl (val_assign rfl) ?_
      refine .p rfl rfl rfl (val_assign rfl) ?_
      refine .nil (cj ?_)
      refine .seq ?_
      refine .plain rfl ?_
      refine .q rfl rfl rfl (val_move rfl) ?_
      refine .q rfl rfl rfl (val_nilCheck rfl) ?_
      refine .q rfl rfl rfl (val_fieldAddr rfl fa_156_3) ?_
      refine .store rfl rfl rfl rfl rfl sz_4 rfl H2 (.there (.there .here)) (by repeat constructor) (fun w3 H3 => ⟨fun _ => trivial, ?_⟩)
      refine .nil (cj ?_)
      refine .seq ?_
      refine .plain rfl ?_
      refine .q rfl rfl rfl (val_move rfl) ?_
      refine .q rfl rfl rfl (val_move rfl) ?_
      refine .q rfl rfl rfl (val_max rfl rfl rfl) ?_
      refine .q rfl rfl rfl (val_nilCheck rfl) ?_
      refine .q rfl rfl rfl (val_fieldAddr rfl fa_156_2) ?_
      refine .store rfl rfl rfl rfl rfl sz_3 rfl H3 .here (by repeat constructor) (fun w4 H4 => ⟨fun _ => trivial, ?_⟩)
      refine .nil (cj ?_)
      refine .seq ?_
      refine .plain rfl ?_
      refine .q rfl rfl rfl (val_move rfl) ?_
      refine .q rfl rfl rfl (val_move rfl) ?_
      refine .q rfl rfl rfl (val_nilCheck rfl) ?_
      refine .q rfl rfl rfl (val_fieldAddr rfl fa_156_0) ?_
      refine .q rfl rfl rfl (val_fieldAddr rfl fa_42_2) ?_
      refine .store rfl rfl rfl rfl rfl sz_3 rfl H4 .here (by repeat constructor) (fun w5 H5 => ⟨fun _ => trivial, ?_⟩)
      refine .nil (cj ?_)
      refine .drawS2 19 (.cons (0, true) (.cons (1, true) (.cons (2, true) (.cons (3, true) (.cons (4, true) (.cons (5, true) (.cons (6, true) (.cons (7, true) (.cons (8, true) (.cons (9, true) (.cons (10, true) (.cons (11, true) (.cons (12, true) (.cons (13, true) (.cons (14, true) (.cons (15, true) (.cons (16, false) (.cons (17, true) (.cons (18, true) (.cons (19, true) (.cons (20, true) (.cons (21, true) (.cons (22, true) (.cons (23, false) .nil)))))))))))))))))))))))) mo (by kernel_rfl) H5 (.cons .here .nil) (fun _ _ _ _ _ h => h) (fun w6 H6 => ?_)
      refine .p rfl rfl rfl (val_move rfl) ?_
      refine .p rfl rfl rfl (val_move rfl) ?_
      refine .p rfl rfl rfl (val_nilCheck rfl) ?_
      refine .p rfl rfl rfl (val_fieldAddr rfl fa_92_1) ?_
      refine .ps rfl rfl rfl rfl (ld_b rfl ob_84 (.ro .here) rfl) ?_
      refine .p rfl rfl rfl (val_move rfl) ?_
      refine .p rfl rfl rfl (val_nilCheck rfl) ?_
      refine .p rfl rfl rfl (val_fieldAddr rfl fa_156_0) ?_
      refine .p rfl rfl rfl (val_fieldAddr rfl fa_42_3) ?_
      refine .ps rfl rfl rfl rfl (ld_blks rfl ag_40 (.own .here) (by repeat constructor)) ?_
      refine .p rfl rfl rfl (val_move rfl) ?_
      refine .p rfl rfl rfl (val_nilCheck rfl) ?_
      refine .p rfl rfl rfl (val_fieldAddr rfl fa_156_0) ?_
      refine .p rfl rfl rfl (val_fieldAddr rfl fa_42_1) ?_
      refine .ps rfl rfl rfl rfl (ld_b rfl ob_3 (.own .here) rfl) ?_
      refine .p rfl rfl rfl (val_move rfl) ?_
      refine .call1 rfl rfl rfl en117 (.cons rfl (.cons rfl (.cons rfl (.cons rfl .nil)))) (shift_spec _ _ _ _ _ _) H6 .nil (.ro (.there .here) .nil) (fun w7 H7 => ⟨fun _ => (H7.sub (.cons .here .nil)), ?_⟩)
      refine .p rfl rfl rfl (val_move rfl) ?_
      refine .p rfl rfl rfl (val_extract rfl rfl) ?_
      refine .p rfl rfl rfl (val_extract rfl rfl) ?_
      refine .p rfl rfl rfl (val_nilCheck rfl) ?_
      refine .p rfl rfl rfl (val_fieldAddr rfl fa_156_0) ?_
      refine .p rfl rfl rfl (val_fieldAddr rfl fa_42_4) ?_
      refine .store rfl rfl rfl rfl rfl sz_40 rfl H7 .here (.skip (.skip (.skip (.skip (.skip (.skip (.here (.cons (.cons (.cons .nil)))))))))) (fun w8 H8 => ⟨fun h => absurd h (by decide), ?_⟩)
      refine .nil (fend (res0 rfl) ?_)
      first | (rw [cut_a hs15] at hRR; exact hRR _ _ ⟨_, ⟨_, rfl, rfl, hrs⟩, H8.sub (.cons .here (.cons .here (.cons .here .nil)))⟩) | (rw [cut_b hc0] at hRR; exact hRR _ _ ⟨_, ⟨_, rfl, rfl, hrs⟩, H8.sub (.cons .here (.cons .here (.cons .here .nil)))⟩) | (rw [cut_c hs15 hc0] at hRR; exact hRR _ _ ⟨_, ⟨_, rfl, rfl, hrs1⟩, H8.sub (.cons .here (.cons .here (.cons .here .nil)))⟩)
structure St1 where
  r : Rb
  g : Gg
def stop1B (c : Cf) (r : Rb) (g : Gg) (ep : Int) : St1 := if r.epoch < ep then ⟨{ r with epoch := ep, num := 0, stopping := true }, cutG c g⟩ else ⟨r, g⟩
theorem s1_a {c : Cf} {r : Rb} {g : Gg} {ep : Int} (h : decide (r.epoch < ep) = true) : stop1B c r g ep = ⟨{ r with epoch := ep, num := 0, stopping := true }, cutG c g⟩ := by unfold stop1B; rw [if_pos (of_decide_eq_true h)]
theorem s1_b {c : Cf} {r : Rb} {g : Gg} {ep : Int} (h : decide (r.epoch < ep) = false) : stop1B c r g ep = ⟨r, g⟩ := by unfold stop1B; rw [if_neg (of_decide_eq_false h)]
theorem s1_c {c : Cf} {r : Rb} {g : Gg} {ep : Int} (h : decide (ep < r.epoch) = true) : stop1B c r g ep = ⟨r, g⟩ := by
  have := of_decide_eq_true h
  unfold stop1B; rw [if_neg (by omega)]
theorem stops1_spec (c : Cf) (hnum : NumOk c) (br bg bn bu : Nat) (r : Rb) (g : Gg) (rs : List Rn) (hrs : rs.length = 17) (hg : RunN g) (ep : Int) :
    Sk.Spec Tryz.prog 71 #[ptr br, i64 ep] [stepsA] (rblk br bg bn r (some ⟨bu, 0, none⟩) :: gblk2 bu g :: kinC c bn rs) fun e F' => ∃ rs' : List Rn, e = .returned (.tuple #[.slice none 0 0, i64 0]) ∧ F' = rblk br bg bn (stop1B c r g ep).r (some ⟨bu, 0, none⟩) :: gblk2 bu (stop1B c r g ep).g :: kinC c bn rs' ∧ rs'.length = 17 := by
  refine Spec.of_code (vs := [_, _]) (k0 := [(0, _), (1, _)]) 60 Tryz.func71 rfl Tryz.ntmps71 rfl (.cons (.cons .nil)) fun w X RR hRR H => ?_
  refine .seq ?_
  refine .plain rfl ?_
  refine .q rfl rfl rfl (val_assign rfl) ?_
  refine .q rfl rfl rfl (val_assign rfl) ?_
  refine .nil (cj ?_)
  refine .seq ?_
  refine .plain rfl ?_
  refine .q rfl rfl rfl (val_assign rfl) ?_
  refine .nil (cj ?_)
  refine .seq ?_
  refine .block ?_
  refine .seq ?_
  refine .block ?_
  refine .seq ?_
  refine .block ?_
  refine .seq ?_
  refine .block ?_
  refine .seq ?_
  refine .seq ?_
  refine .seq ?_
  refine .plain rfl ?_
  refine .q rfl rfl rfl (val_move rfl) ?_
  refine .q rfl rfl rfl (val_move rfl) ?_
  refine .q rfl rfl rfl (val_nilCheck rfl) ?_
  refine .q rfl rfl rfl (val_fieldAddr rfl fa_92_5) ?_
  refine .qs rfl rfl rfl H (ld_b rfl ob_3 (.own .here) rfl) ?_
  refine .q rfl rfl rfl (val_lss rfl rfl rfl) ?_
  refine .q rfl rfl rfl (val_assign rfl) ?_
  refine .nil (cj ?_)
  refine .cond rfl (fun hc0 => ?_) (fun hc0 => ?_)
  · refine .exit (cj ?_)
    refine .seq ?_
    refine .seq ?_
    refine .plain rfl ?_
    refine .q rfl rfl rfl (val_assign rfl) ?_
    refine .q rfl rfl rfl (val_assign rfl) ?_
    refine .nil (cj ?_)
    refine .ret (fret (res2 rfl rfl rfl) ?_)
    first | (rw [s1_c hc0] at hRR; exact hRR _ _ ⟨_, ⟨_, rfl, rfl, hrs⟩, H.sub (.cons .here (.cons .here (.cons .here (.cons .here .nil))))⟩) | (rw [s1_a hc1] at hRR; exact hRR _ _ ⟨_, ⟨_, rfl, rfl, by assumption⟩, H.sub (.cons .here (.cons .here (.cons .here (.cons .here .nil))))⟩) | (rw [s1_b hc1] at hRR; exact hRR _ _ ⟨_, ⟨_, rfl, rfl, hrs⟩, H.sub (.cons .here (.cons .here (.cons .here (.cons .here .nil))))⟩)
  · refine .skip (cj ?_)
    refine .seq ?_
    refine .plain rfl ?_
    refine .q rfl rfl rfl (val_move rfl) ?_
    refine .q rfl rfl rfl (val_move rfl) ?_
    refine .q rfl rfl rfl (val_nilCheck rfl) ?_
    refine .q rfl rfl rfl (val_fieldAddr rfl fa_92_5) ?_
    refine .qs rfl rfl rfl H (ld_b rfl ob_3 (.own .here) rfl) ?_
    refine .q rfl rfl rfl (val_gtr rfl rfl rfl) ?_
    refine .q rfl rfl rfl (val_assign rfl) ?_
    refine .nil (cj ?_)
    refine .cond rfl (fun hc1 => ?_) (fun hc1 => ?_)
    · refine .exit (cj ?_)
      refine .seq ?_
      refine .plain rfl ?_
      refine .q rfl rfl rfl (val_move rfl) ?_
      refine .q rfl rfl rfl (val_move rfl) ?_
      refine .q rfl rfl rfl (val_move rfl) ?_
      refine .q rfl rfl rfl (val_nilCheck rfl) ?_
      refine .q rfl rfl rfl (val_fieldAddr rfl fa_92_5) ?_
      refine .store rfl rfl rfl rfl rfl sz_3 rfl H .here (by repeat constructor) (fun w1 H1 => ⟨fun _ => trivial, ?_⟩)
      refine .q rfl rfl rfl (val_nilCheck rfl) ?_
      refine .q rfl rfl rfl (val_fieldAddr rfl fa_92_6) ?_
      refine .store rfl rfl rfl rfl rfl sz_3 rfl H1 .here (by repeat constructor) (fun w2 H2 => ⟨fun _ => trivial, ?_⟩)
      refine .nil (cj ?_)
      refine .seq ?_
      refine .seq ?_
      refine .plain rfl ?_
      refine .q rfl rfl rfl (val_move rfl) ?_
      refine .q rfl rfl rfl (val_nilCheck rfl) ?_
      refine .q rfl rfl rfl (val_fieldAddr rfl fa_92_7) ?_
      refine .qs rfl rfl rfl H2 (ld_b rfl ob_90 (.own .here) rfl) ?_
      refine .q rfl rfl rfl (val_ptr_ne_nil Tryz.underlying90 rfl rfl rfl) ?_
      refine .nil (cj ?_)
      refine .cond_t rfl ?_
      refine .seq ?_
      refine .plain rfl ?_
      refine .q rfl rfl rfl (val_move rfl) ?_
      refine .q rfl rfl rfl (val_nilCheck rfl) ?_
      refine .q rfl rfl rfl (val_fieldAddr rfl fa_92_8) ?_
      refine .store rfl rfl rfl rfl rfl sz_4 rfl H2 .here (by repeat constructor) (fun w3 H3 => ⟨fun _ => trivial, ?_⟩)
      refine .nil (cj ?_)
      refine .seq ?_
      refine .plain rfl ?_
      refine .q rfl rfl rfl (val_move rfl) ?_
      refine .callx rfl rfl rfl en96 (.cons rfl .nil) (cuts_spec c hnum br bg bn bu { r with epoch := ep, num := 0, stopping := true } g rs hrs hg) H3 (.cons (.there .here) (.cons (.there .here) (.cons (.there .here) .nil))) (.own .here (.ro .here .nil)) (fun rs4 w4 hrs4 H4 => ⟨fun _ => trivial, ?_⟩)
      refine .nil (cj ?_)
      refine .seq ?_
      refine .plain rfl ?_
      refine .q rfl rfl rfl (val_assign rfl) ?_
      refine .q rfl rfl rfl (val_assign rfl) ?_
      refine .nil (cj ?_)
      refine .ret (fret (res2 rfl rfl rfl) ?_)
      first | (rw [s1_c hc0] at hRR; exact hRR _ _ ⟨_, ⟨_, rfl, rfl, hrs⟩, H4.sub (.cons (.there (.there (.there .here))) (.cons .here (.cons .here (.cons .here .nil))))⟩) | (rw [s1_a hc1] at hRR; exact hRR _ _ ⟨_, ⟨_, rfl, rfl, by assumption⟩, H4.sub (.cons (.there (.there (.there .here))) (.cons .here (.cons .here (.cons .here .nil))))⟩) | (rw [s1_b hc1] at hRR; exact hRR _ _ ⟨_, ⟨_, rfl, rfl, hrs⟩, H4.sub (.cons (.there (.there (.there .here))) (.cons .here (.cons .here (.cons .here .nil))))⟩)
    · refine .skip (cj ?_)
      refine .exit (cj ?_)
      refine .seq ?_
      refine .seq ?_
      refine .plain rfl ?_
      refine .q rfl rfl rfl (val_move rfl) ?_
      refine .q rfl rfl rfl (val_nilCheck rfl) ?_
      refine .q rfl rfl rfl (val_fieldAddr rfl fa_92_5) ?_
      refine .qs rfl rfl rfl H (ld_b rfl ob_3 (.own .here) rfl) ?_
      refine .q rfl rfl rfl (val_eql rfl rfl rfl) ?_
      refine .q rfl rfl rfl (val_move rfl) ?_
      refine .case (t := 43) rfl (fun hs43 => ?_) (fun hs43 => ?_)
      · refine .no rfl rfl rfl ?_
        refine .no rfl rfl rfl ?_
        refine .no rfl rfl rfl ?_
        refine .no rfl rfl rfl ?_
        refine .no rfl rfl rfl ?_
        refine .q rfl rfl rfl (val_pick_t rfl rfl) ?_
        refine .q rfl rfl rfl (val_move rfl) ?_
        refine .no rfl rfl rfl ?_
        refine .no rfl rfl rfl ?_
        refine .no rfl rfl rfl ?_
        refine .no rfl rfl rfl ?_
        refine .no rfl rfl rfl ?_
        refine .q rfl rfl rfl (val_pick_t rfl rfl) ?_
        refine .nil (cj ?_)
        refine .cond_t rfl ?_
        refine .seq ?_
        refine .plain rfl ?_
        refine .q rfl rfl rfl (val_assign rfl) ?_
        refine .q rfl rfl rfl (val_assign rfl) ?_
        refine .nil (cj ?_)
        refine .ret (fret (res2 rfl rfl rfl) ?_)
        first | (rw [s1_c hc0] at hRR; exact hRR _ _ ⟨_, ⟨_, rfl, rfl, hrs⟩, H.sub (.cons .here (.cons .here (.cons .here (.cons .here .nil))))⟩) | (rw [s1_a hc1] at hRR; exact hRR _ _ ⟨_, ⟨_, rfl, rfl, by assumption⟩, H.sub (.cons .here (.cons .here (.cons .here (.cons .here .nil))))⟩) | (rw [s1_b hc1] at hRR; exact hRR _ _ ⟨_, ⟨_, rfl, rfl, hrs⟩, H.sub (.cons .here (.cons .here (.cons .here (.cons .here .nil))))⟩)
      · refine .q rfl rfl rfl (val_move rfl) ?_
        refine .q rfl rfl rfl (val_nilCheck rfl) ?_
        refine .q rfl rfl rfl (val_fieldAddr rfl fa_92_7) ?_
        refine .qs rfl rfl rfl H (ld_b rfl ob_90 (.own .here) rfl) ?_
        refine .q rfl rfl rfl (val_ptr_ne_nil Tryz.underlying90 rfl rfl rfl) ?_
        refine .q rfl rfl rfl (val_pick_f rfl rfl) ?_
        refine .q rfl rfl rfl (val_move rfl) ?_
        refine .no rfl rfl rfl ?_
        refine .no rfl rfl rfl ?_
        refine .no rfl rfl rfl ?_
        refine .no rfl rfl rfl ?_
        refine .no rfl rfl rfl ?_
        refine .q rfl rfl rfl (val_pick_t rfl rfl) ?_
        refine .nil (cj ?_)
        refine .cond_t rfl ?_
        refine .seq ?_
        refine .plain rfl ?_
        refine .q rfl rfl rfl (val_assign rfl) ?_
        refine .q rfl rfl rfl (val_assign rfl) ?_
        refine .nil (cj ?_)
        refine .ret (fret (res2 rfl rfl rfl) ?_)
        first | (rw [s1_c hc0] at hRR; exact hRR _ _ ⟨_, ⟨_, rfl, rfl, hrs⟩, H.sub (.cons .here (.cons .here (.cons .here (.cons .here .nil))))⟩) | (rw [s1_a hc1] at hRR; exact hRR _ _ ⟨_, ⟨_, rfl, rfl, by assumption⟩, H.sub (.cons .here (.cons .here (.cons .here (.cons .here .nil))))⟩) | (rw [s1_b hc1] at hRR; exact hRR _ _ ⟨_, ⟨_, rfl, rfl, hrs⟩, H.sub (.cons .here (.cons .here (.cons .here (.cons .here .nil))))⟩)
end Go.Proofs.YtmbibkifbehgnaaGreatDoor
/-! ## Q16: Walk of the document's robot's stops. -/
namespace Go.Proofs.YtmbibkifbehgnaaGreatDoor
open Go Sk
set_option linter.unusedVariables false
set_option linter.unusedSimpArgs false
theorem fa_44_0 (b o : Nat) (w : World) : (Instr.fieldAt 44 (.pointer (some ⟨b, o, none⟩)) 0).run Tryz.prog w = .ok (.pointer (some ⟨b, o + 0, none⟩)) w := by kernel_rfl
theorem fa_44_1 (b o : Nat) (w : World) : (Instr.fieldAt 44 (.pointer (some ⟨b, o, none⟩)) 1).run Tryz.prog w = .ok (.pointer (some ⟨b, o + 1, none⟩)) w := by kernel_rfl
theorem en78 : Enters Tryz.prog 78 := fun args w => by kernel_rfl
theorem en79 : Enters Tryz.prog 79 := fun args w => by kernel_rfl
theorem en104 : Enters Tryz.prog 104 := fun args w => by kernel_rfl
theorem en105 : Enters Tryz.prog 105 := fun args w => by kernel_rfl
/-- where a cut run ends, in the document's words -/
def endW (m : Mv) (k : Int) : Ps := if shiftOk m.dir k then shiftS m.fr m.dir k else ⟨0, 0, false⟩
def cutW (c : Cf) (q : Rw) : Rw :=
  if q.m.kind = 1 ∧ q.cut = false then { q with m := { q.m with n := (stopN c.unit c.accel c.speed q.m.n q.gone).1, to := endW q.m (stopN c.unit c.accel c.speed q.m.n q.gone).1 }, left := max 1 (stopN c.unit c.accel c.speed q.m.n q.gone).2, cut := true } else q
def stopW (c : Cf) (q : Rw) (ep : Int) : GoW :=
  if ep < q.epoch then ⟨none, 0, q⟩
  else if ep = q.epoch then (if 0 < q.epoch ∧ q.under = false ∧ q.num = 0 then ⟨some (tellW q), 0, q⟩ else ⟨none, 0, q⟩)
  else if q.under = false then ⟨some (tellW { q with epoch := ep, num := 0 }), 3, { q with epoch := ep, num := 0 }⟩
  else ⟨none, 0, cutW c { q with epoch := ep, num := 0, stopping := true }⟩
section
variable {c : Cf} {q : Rw} {ep : Int}
theorem sw_a (h : decide (ep < q.epoch) = true) : stopW c q ep = ⟨none, 0, q⟩ := by unfold stopW; rw [if_pos (of_decide_eq_true h)]
theorem sw_b (h : decide (ep < q.epoch) = false) (h1 : (ep == q.epoch) = true) (h2 : decide (0 < q.epoch) = true) (h3 : (!q.under) = true) (h4 : (q.num == 0) = true) : stopW c q ep = ⟨some (tellW q), 0, q⟩ := by
  unfold stopW; rw [if_neg (of_decide_eq_false h), if_pos (by simpa using h1), if_pos ⟨of_decide_eq_true h2, nt h3, by simpa using h4⟩]
theorem sw_c (h : decide (ep < q.epoch) = false) (h1 : (ep == q.epoch) = true) (h2 : ¬ (0 < q.epoch ∧ q.under = false ∧ q.num = 0)) : stopW c q ep = ⟨none, 0, q⟩ := by
  unfold stopW; rw [if_neg (of_decide_eq_false h), if_pos (by simpa using h1), if_neg h2]
theorem sw_d (h : decide (ep < q.epoch) = false) (h1 : (ep == q.epoch) = false) (h3 : (!q.under) = true) : stopW c q ep = ⟨some (tellW { q with epoch := ep, num := 0 }), 3, { q with epoch := ep, num := 0 }⟩ := by
  unfold stopW; rw [if_neg (of_decide_eq_false h), if_neg (by simpa using h1), if_pos (nt h3)]
theorem sw_e (h : decide (ep < q.epoch) = false) (h1 : (ep == q.epoch) = false) (h3 : (!q.under) = false) : stopW c q ep = ⟨none, 0, cutW c { q with epoch := ep, num := 0, stopping := true }⟩ := by
  unfold stopW; rw [if_neg (of_decide_eq_false h), if_neg (by simpa using h1), if_neg (by rw [nf h3]; simp)]
theorem cw_a (h : (q.m.kind == 1) = true) (h2 : (!q.cut) = true) : cutW c q = { q with m := { q.m with n := (stopN c.unit c.accel c.speed q.m.n q.gone).1, to := endW q.m (stopN c.unit c.accel c.speed q.m.n q.gone).1 }, left := max 1 (stopN c.unit c.accel c.speed q.m.n q.gone).2, cut := true } := by
  unfold cutW; rw [if_pos ⟨by simpa using h, nt h2⟩]
theorem cw_b (h : (q.m.kind == 1) = false) : cutW c q = q := by unfold cutW; rw [if_neg fun e => by simp [e.1] at h]
theorem cw_c (h2 : (!q.cut) = false) : cutW c q = q := by unfold cutW; rw [if_neg fun e => by simp [e.2] at h2]
theorem sn_1 (h : decide (0 < q.epoch) = false) : ¬ (0 < q.epoch ∧ q.under = false ∧ q.num = 0) := fun e => of_decide_eq_false h e.1
theorem sn_2 (h : (!q.under) = false) : ¬ (0 < q.epoch ∧ q.under = false ∧ q.num = 0) := fun e => by simp [e.2.1] at h
theorem sn_3 (h : (q.num == 0) = false) : ¬ (0 < q.epoch ∧ q.under = false ∧ q.num = 0) := fun e => by simp [e.2.2] at h
end
abbrev RunW (q : Rw) : Prop := q.m.kind = 1 → q.cut = false → 1 ≤ q.m.n ∧ q.m.n ≤ 16
theorem stopsW_spec (b : Nat) (c : Cf) (hnum : NumOk c) (q : Rw) (hg : RunW q) (t : Te) : Sk.Spec Tryz.prog 79 #[ptr b, .agg (encT t).toArray] [] [wblk b c q] (GwPost b c (stopW c q t.epoch)) := by
  have hu := hnum.unit
  have ha := hnum.accel
  have hv := hnum.speed
  refine Spec.of_code (vs := [_, _]) (k0 := [(0, _), (1, _)]) 124 Tryz.func79 rfl Tryz.ntmps79 rfl (.cons (.cons .nil)) fun w X RR hRR H => ?_
  refine .seq ?_
  refine .plain rfl ?_
  refine .box rfl rfl rfl rfl rfl H (fun w1 b1 H1 => ⟨fun _ => trivial, ?_⟩)
  refine .q rfl rfl rfl (val_assign rfl) ?_
  refine .q rfl rfl rfl (val_assign rfl) ?_
  refine .nil (cj ?_)
  refine .seq ?_
  refine .seq ?_
  refine .drawS 7 (.cons (0, true) (.cons (1, true) (.cons (2, true) (.cons (3, true) (.cons (4, true) (.cons (5, true) (.cons (6, true) .nil))))))) mo (by kernel_rfl) H1 (fun _ _ _ _ _ h => h) (fun w2 H2 => ?_)
  refine .p rfl rfl rfl (val_fieldAddr rfl fa_44_2) ?_
  refine .ps rfl rfl rfl rfl (ld_b rfl ob_3 (.own .here) rfl) ?_
  refine .p rfl rfl rfl (val_move rfl) ?_
  refine .p rfl rfl rfl (val_nilCheck rfl) ?_
  refine .p rfl rfl rfl (val_fieldAddr rfl fa_50_4) ?_
  refine .ps rfl rfl rfl rfl (ld_b rfl ob_3 (.own (.there .here)) rfl) ?_
  refine .p rfl rfl rfl (val_lss rfl rfl rfl) ?_
  refine .nil (cj ?_)
  refine .cond rfl (fun hc0 => ?_) (fun hc0 => ?_)
  · refine .seq ?_
    refine .plain rfl ?_
    refine .q rfl rfl rfl (val_assign rfl) ?_
    refine .q rfl rfl rfl (val_assign rfl) ?_
    refine .nil (cj ?_)
    refine .ret (fret (res2 rfl rfl rfl) ?_)
    first | (rw [sw_a hc0] at hRR; exact hRR _ _ ⟨_, ⟨⟨_, [], 0⟩, rfl, rfl, .none⟩, H2.sub (.cons (.there .here) .nil)⟩) | (rw [sw_b hc0 hc1 hs27 hs34 hc2] at hRR; exact hRR _ _ ⟨_, ⟨⟨_, _, 0⟩, rfl, rfl, .some _ _⟩, H2.sub .nil⟩) | (rw [sw_c hc0 hc1 (by first | exact sn_1 hs27 | exact sn_2 hs34 | exact sn_3 hc2)] at hRR; exact hRR _ _ ⟨_, ⟨⟨_, [], 0⟩, rfl, rfl, .none⟩, H2.sub (.cons (.there .here) .nil)⟩) | (rw [sw_d hc0 hc1 hc3] at hRR; exact hRR _ _ ⟨_, ⟨⟨_, _, 0⟩, rfl, rfl, .some _ _⟩, H2.sub .nil⟩) | (rw [sw_e hc0 hc1 hc3, cw_a (q := { q with epoch := t.epoch, num := 0, stopping := true }) hs67 hc4] at hRR; exact hRR _ _ ⟨_, ⟨⟨_, [], 0⟩, rfl, rfl, .none⟩, H2.sub (.cons (.there .here) .nil)⟩) | (rw [sw_e hc0 hc1 hc3, cw_b (q := { q with epoch := t.epoch, num := 0, stopping := true }) hs67] at hRR; exact hRR _ _ ⟨_, ⟨⟨_, [], 0⟩, rfl, rfl, .none⟩, H2.sub (.cons (.there .here) .nil)⟩) | (rw [sw_e hc0 hc1 hc3, cw_c (q := { q with epoch := t.epoch, num := 0, stopping := true }) hc4] at hRR; exact hRR _ _ ⟨_, ⟨⟨_, [], 0⟩, rfl, rfl, .none⟩, H2.sub (.cons (.there .here) .nil)⟩)
  · refine .skip (cj ?_)
    refine .seq ?_
    refine .seq ?_
    refine .drawS 7 (.cons (0, true) (.cons (1, true) (.cons (2, true) (.cons (3, true) (.cons (4, true) (.cons (5, true) (.cons (6, true) .nil))))))) mo (by kernel_rfl) H2 (fun _ _ _ _ _ h => h) (fun w3 H3 => ?_)
    refine .p rfl rfl rfl (val_fieldAddr rfl fa_44_2) ?_
    refine .ps rfl rfl rfl rfl (ld_b rfl ob_3 (.own .here) rfl) ?_
    refine .p rfl rfl rfl (val_move rfl) ?_
    refine .p rfl rfl rfl (val_nilCheck rfl) ?_
    refine .p rfl rfl rfl (val_fieldAddr rfl fa_50_4) ?_
    refine .ps rfl rfl rfl rfl (ld_b rfl ob_3 (.own (.there .here)) rfl) ?_
    refine .p rfl rfl rfl (val_eql rfl rfl rfl) ?_
    refine .nil (cj ?_)
    refine .cond rfl (fun hc1 => ?_) (fun hc1 => ?_)
    · refine .seq ?_
      refine .seq ?_
      refine .plain rfl ?_
      refine .q rfl rfl rfl (val_move rfl) ?_
      refine .q rfl rfl rfl (val_nilCheck rfl) ?_
      refine .q rfl rfl rfl (val_fieldAddr rfl fa_50_4) ?_
      refine .qs rfl rfl rfl H3 (ld_b rfl ob_3 (.own (.there .here)) rfl) ?_
      refine .q rfl rfl rfl (val_gtr rfl rfl rfl) ?_
      refine .q rfl rfl rfl (val_move rfl) ?_
      refine .case (t := 27) rfl (fun hs27 => ?_) (fun hs27 => ?_)
      · refine .q rfl rfl rfl (val_move rfl) ?_
        refine .q rfl rfl rfl (val_nilCheck rfl) ?_
        refine .q rfl rfl rfl (val_fieldAddr rfl fa_50_6) ?_
        refine .qs rfl rfl rfl H3 (ld_b rfl ob_4 (.own (.there .here)) rfl) ?_
        refine .q rfl rfl rfl (val_not rfl rfl) ?_
        refine .q rfl rfl rfl (val_pick_t rfl rfl) ?_
        refine .q rfl rfl rfl (val_move rfl) ?_
        refine .case (t := 34) rfl (fun hs34 => ?_) (fun hs34 => ?_)
        · refine .q rfl rfl rfl (val_move rfl) ?_
          refine .q rfl rfl rfl (val_nilCheck rfl) ?_
          refine .q rfl rfl rfl (val_fieldAddr rfl fa_50_5) ?_
          refine .qs rfl rfl rfl H3 (ld_b rfl ob_3 (.own (.there .here)) rfl) ?_
          refine .q rfl rfl rfl (val_eql rfl rfl rfl) ?_
          refine .q rfl rfl rfl (val_pick_t rfl rfl) ?_
          refine .nil (cj ?_)
          refine .cond rfl (fun hc2 => ?_) (fun hc2 => ?_)
          · refine .seq ?_
            refine .plain rfl ?_
            refine .q rfl rfl rfl (val_move rfl) ?_
            refine .callx rfl rfl rfl en80 (.cons rfl .nil) (tellW_spec _ _ _) H3 .nil (.own (.there .here) .nil) (fun b4 w4 C4 H4 => ⟨fun _ => trivial, ?_⟩)
            refine .q rfl rfl rfl (val_assign rfl) ?_
            refine .q rfl rfl rfl (val_assign rfl) ?_
            refine .nil (cj ?_)
            refine .ret (fret (res2 rfl rfl rfl) ?_)
            first | (rw [sw_a hc0] at hRR; exact hRR _ _ ⟨_, ⟨⟨_, [], 0⟩, rfl, rfl, .none⟩, H4.sub (.cons (.there (.there .here)) .nil)⟩) | (rw [sw_b hc0 hc1 hs27 hs34 hc2] at hRR; exact hRR _ _ ⟨_, ⟨⟨_, _, 0⟩, rfl, rfl, .some _ _⟩, H4.sub (.cons .here (.cons (.there .here) .nil))⟩) | (rw [sw_c hc0 hc1 (by first | exact sn_1 hs27 | exact sn_2 hs34 | exact sn_3 hc2)] at hRR; exact hRR _ _ ⟨_, ⟨⟨_, [], 0⟩, rfl, rfl, .none⟩, H4.sub (.cons (.there (.there .here)) .nil)⟩) | (rw [sw_d hc0 hc1 hc3] at hRR; exact hRR _ _ ⟨_, ⟨⟨_, _, 0⟩, rfl, rfl, .some _ _⟩, H4.sub .nil⟩) | (rw [sw_e hc0 hc1 hc3, cw_a (q := { q with epoch := t.epoch, num := 0, stopping := true }) hs67 hc4] at hRR; exact hRR _ _ ⟨_, ⟨⟨_, [], 0⟩, rfl, rfl, .none⟩, H4.sub (.cons (.there (.there .here)) .nil)⟩) | (rw [sw_e hc0 hc1 hc3, cw_b (q := { q with epoch := t.epoch, num := 0, stopping := true }) hs67] at hRR; exact hRR _ _ ⟨_, ⟨⟨_, [], 0⟩, rfl, rfl, .none⟩, H4.sub (.cons (.there (.there .here)) .nil)⟩) | (rw [sw_e hc0 hc1 hc3, cw_c (q := { q with epoch := t.epoch, num := 0, stopping := true }) hc4] at hRR; exact hRR _ _ ⟨_, ⟨⟨_, [], 0⟩, rfl, rfl, .none⟩, H4.sub (.cons (.there (.there .here)) .nil)⟩)
          · refine .skip (cj ?_)
            refine .seq ?_
            refine .plain rfl ?_
            refine .q rfl rfl rfl (val_assign rfl) ?_
            refine .q rfl rfl rfl (val_assign rfl) ?_
            refine .nil (cj ?_)
            refine .ret (fret (res2 rfl rfl rfl) ?_)
            first | (rw [sw_a hc0] at hRR; exact hRR _ _ ⟨_, ⟨⟨_, [], 0⟩, rfl, rfl, .none⟩, H3.sub (.cons (.there .here) .nil)⟩) | (rw [sw_b hc0 hc1 hs27 hs34 hc2] at hRR; exact hRR _ _ ⟨_, ⟨⟨_, _, 0⟩, rfl, rfl, .some _ _⟩, H3.sub .nil⟩) | (rw [sw_c hc0 hc1 (by first | exact sn_1 hs27 | exact sn_2 hs34 | exact sn_3 hc2)] at hRR; exact hRR _ _ ⟨_, ⟨⟨_, [], 0⟩, rfl, rfl, .none⟩, H3.sub (.cons (.there .here) .nil)⟩) | (rw [sw_d hc0 hc1 hc3] at hRR; exact hRR _ _ ⟨_, ⟨⟨_, _, 0⟩, rfl, rfl, .some _ _⟩, H3.sub .nil⟩) | (rw [sw_e hc0 hc1 hc3, cw_a (q := { q with epoch := t.epoch, num := 0, stopping := true }) hs67 hc4] at hRR; exact hRR _ _ ⟨_, ⟨⟨_, [], 0⟩, rfl, rfl, .none⟩, H3.sub (.cons (.there .here) .nil)⟩) | (rw [sw_e hc0 hc1 hc3, cw_b (q := { q with epoch := t.epoch, num := 0, stopping := true }) hs67] at hRR; exact hRR _ _ ⟨_, ⟨⟨_, [], 0⟩, rfl, rfl, .none⟩, H3.sub (.cons (.there .here) .nil)⟩) | (rw [sw_e hc0 hc1 hc3, cw_c (q := { q with epoch := t.epoch, num := 0, stopping := true }) hc4] at hRR; exact hRR _ _ ⟨_, ⟨⟨_, [], 0⟩, rfl, rfl, .none⟩, H3.sub (.cons (.there .here) .nil)⟩)
        · refine .no rfl rfl rfl ?_
          refine .no rfl rfl rfl ?_
          refine .no rfl rfl rfl ?_
          refine .no rfl rfl rfl ?_
          refine .no rfl rfl rfl ?_
          refine .q rfl rfl rfl (val_pick_f rfl rfl) ?_
          refine .nil (cj ?_)
          refine .cond_f rfl ?_
          refine .skip (cj ?_)
          refine .seq ?_
          refine .plain rfl ?_
          refine .q rfl rfl rfl (val_assign rfl) ?_
          refine .q rfl rfl rfl (val_assign rfl) ?_
          refine .nil (cj ?_)
          refine .ret (fret (res2 rfl rfl rfl) ?_)
          first | (rw [sw_a hc0] at hRR; exact hRR _ _ ⟨_, ⟨⟨_, [], 0⟩, rfl, rfl, .none⟩, H3.sub (.cons (.there .here) .nil)⟩) | (rw [sw_b hc0 hc1 hs27 hs34 hc2] at hRR; exact hRR _ _ ⟨_, ⟨⟨_, _, 0⟩, rfl, rfl, .some _ _⟩, H3.sub .nil⟩) | (rw [sw_c hc0 hc1 (by first | exact sn_1 hs27 | exact sn_2 hs34 | exact sn_3 hc2)] at hRR; exact hRR _ _ ⟨_, ⟨⟨_, [], 0⟩, rfl, rfl, .none⟩, H3.sub (.cons (.there .here) .nil)⟩) | (rw [sw_d hc0 hc1 hc3] at hRR; exact hRR _ _ ⟨_, ⟨⟨_, _, 0⟩, rfl, rfl, .some _ _⟩, H3.sub .nil⟩) | (rw [sw_e hc0 hc1 hc3, cw_a (q := { q with epoch := t.epoch, num := 0, stopping := true }) hs67 hc4] at hRR; exact hRR _ _ ⟨_, ⟨⟨_, [], 0⟩, rfl, rfl, .none⟩, H3.sub (.cons (.there .here) .nil)⟩) | (rw [sw_e hc0 hc1 hc3, cw_b (q := { q with epoch := t.epoch, num := 0, stopping := true }) hs67] at hRR; exact hRR _ _ ⟨_, ⟨⟨_, [], 0⟩, rfl, rfl, .none⟩, H3.sub (.cons (.there .here) .nil)⟩) | (rw [sw_e hc0 hc1 hc3, cw_c (q := { q with epoch := t.epoch, num := 0, stopping := true }) hc4] at hRR; exact hRR _ _ ⟨_, ⟨⟨_, [], 0⟩, rfl, rfl, .none⟩, H3.sub (.cons (.there .here) .nil)⟩)
      · refine .no rfl rfl rfl ?_
        refine .no rfl rfl rfl ?_
        refine .no rfl rfl rfl ?_
        refine .no rfl rfl rfl ?_
        refine .no rfl rfl rfl ?_
        refine .q rfl rfl rfl (val_pick_f rfl rfl) ?_
        refine .q rfl rfl rfl (val_move rfl) ?_
        refine .no rfl rfl rfl ?_
        refine .no rfl rfl rfl ?_
        refine .no rfl rfl rfl ?_
        refine .no rfl rfl rfl ?_
        refine .no rfl rfl rfl ?_
        refine .q rfl rfl rfl (val_pick_f rfl rfl) ?_
        refine .nil (cj ?_)
        refine .cond_f rfl ?_
        refine .skip (cj ?_)
        refine .seq ?_
        refine .plain rfl ?_
        refine .q rfl rfl rfl (val_assign rfl) ?_
        refine .q rfl rfl rfl (val_assign rfl) ?_
        refine .nil (cj ?_)
        refine .ret (fret (res2 rfl rfl rfl) ?_)
        first | (rw [sw_a hc0] at hRR; exact hRR _ _ ⟨_, ⟨⟨_, [], 0⟩, rfl, rfl, .none⟩, H3.sub (.cons (.there .here) .nil)⟩) | (rw [sw_b hc0 hc1 hs27 hs34 hc2] at hRR; exact hRR _ _ ⟨_, ⟨⟨_, _, 0⟩, rfl, rfl, .some _ _⟩, H3.sub .nil⟩) | (rw [sw_c hc0 hc1 (by first | exact sn_1 hs27 | exact sn_2 hs34 | exact sn_3 hc2)] at hRR; exact hRR _ _ ⟨_, ⟨⟨_, [], 0⟩, rfl, rfl, .none⟩, H3.sub (.cons (.there .here) .nil)⟩) | (rw [sw_d hc0 hc1 hc3] at hRR; exact hRR _ _ ⟨_, ⟨⟨_, _, 0⟩, rfl, rfl, .some _ _⟩, H3.sub .nil⟩) | (rw [sw_e hc0 hc1 hc3, cw_a (q := { q with epoch := t.epoch, num := 0, stopping := true }) hs67 hc4] at hRR; exact hRR _ _ ⟨_, ⟨⟨_, [], 0⟩, rfl, rfl, .none⟩, H3.sub (.cons (.there .here) .nil)⟩) | (rw [sw_e hc0 hc1 hc3, cw_b (q := { q with epoch := t.epoch, num := 0, stopping := true }) hs67] at hRR; exact hRR _ _ ⟨_, ⟨⟨_, [], 0⟩, rfl, rfl, .none⟩, H3.sub (.cons (.there .here) .nil)⟩) | (rw [sw_e hc0 hc1 hc3, cw_c (q := { q with epoch := t.epoch, num := 0, stopping := true }) hc4] at hRR; exact hRR _ _ ⟨_, ⟨⟨_, [], 0⟩, rfl, rfl, .none⟩, H3.sub (.cons (.there .here) .nil)⟩)
    · refine .skip (cj ?_)
      refine .seq ?_
      refine .plain rfl ?_
      refine .q rfl rfl rfl (val_move rfl) ?_
      refine .q rfl rfl rfl (val_fieldAddr rfl fa_44_2) ?_
      refine .qs rfl rfl rfl H3 (ld_b rfl ob_3 (.own .here) rfl) ?_
      refine .q rfl rfl rfl (val_nilCheck rfl) ?_
      refine .q rfl rfl rfl (val_fieldAddr rfl fa_50_4) ?_
      refine .store rfl rfl rfl rfl rfl sz_3 rfl H3 (.there .here) (by repeat constructor) (fun w5 H5 => ⟨fun _ => trivial, ?_⟩)
      refine .nil (cj ?_)
      refine .seq ?_
      refine .plain rfl ?_
      refine .q rfl rfl rfl (val_move rfl) ?_
      refine .q rfl rfl rfl (val_nilCheck rfl) ?_
      refine .q rfl rfl rfl (val_fieldAddr rfl fa_50_5) ?_
      refine .store rfl rfl rfl rfl rfl sz_3 rfl H5 .here (by repeat constructor) (fun w6 H6 => ⟨fun _ => trivial, ?_⟩)
      refine .nil (cj ?_)
      refine .seq ?_
      refine .seq ?_
      refine .plain rfl ?_
      refine .q rfl rfl rfl (val_move rfl) ?_
      refine .q rfl rfl rfl (val_nilCheck rfl) ?_
      refine .q rfl rfl rfl (val_fieldAddr rfl fa_50_6) ?_
      refine .qs rfl rfl rfl H6 (ld_b rfl ob_4 (.own .here) rfl) ?_
      refine .q rfl rfl rfl (val_not rfl rfl) ?_
      refine .nil (cj ?_)
      refine .cond rfl (fun hc3 => ?_) (fun hc3 => ?_)
      · refine .seq ?_
        refine .plain rfl ?_
        refine .q rfl rfl rfl (val_move rfl) ?_
        refine .callx rfl rfl rfl en80 (.cons rfl .nil) (tellW_spec b c { q with epoch := t.epoch, num := 0 }) H6 .nil (.own .here .nil) (fun b7 w7 C7 H7 => ⟨fun _ => trivial, ?_⟩)
        refine .q rfl rfl rfl (val_assign rfl) ?_
        refine .q rfl rfl rfl (val_assign rfl) ?_
        refine .nil (cj ?_)
        refine .ret (fret (res2 rfl rfl rfl) ?_)
        first | (rw [sw_a hc0] at hRR; exact hRR _ _ ⟨_, ⟨⟨_, [], 0⟩, rfl, rfl, .none⟩, H7.sub (.cons (.there .here) .nil)⟩) | (rw [sw_b hc0 hc1 hs27 hs34 hc2] at hRR; exact hRR _ _ ⟨_, ⟨⟨_, _, 0⟩, rfl, rfl, .some _ _⟩, H7.sub .nil⟩) | (rw [sw_c hc0 hc1 (by first | exact sn_1 hs27 | exact sn_2 hs34 | exact sn_3 hc2)] at hRR; exact hRR _ _ ⟨_, ⟨⟨_, [], 0⟩, rfl, rfl, .none⟩, H7.sub (.cons (.there .here) .nil)⟩) | (rw [sw_d hc0 hc1 hc3] at hRR; exact hRR _ _ ⟨_, ⟨⟨_, _, 0⟩, rfl, rfl, .some _ _⟩, H7.sub (.cons .here (.cons .here .nil))⟩) | (rw [sw_e hc0 hc1 hc3, cw_a (q := { q with epoch := t.epoch, num := 0, stopping := true }) hs67 hc4] at hRR; exact hRR _ _ ⟨_, ⟨⟨_, [], 0⟩, rfl, rfl, .none⟩, H7.sub (.cons (.there .here) .nil)⟩) | (rw [sw_e hc0 hc1 hc3, cw_b (q := { q with epoch := t.epoch, num := 0, stopping := true }) hs67] at hRR; exact hRR _ _ ⟨_, ⟨⟨_, [], 0⟩, rfl, rfl, .none⟩, H7.sub (.cons (.there .here) .nil)⟩) | (rw [sw_e hc0 hc1 hc3, cw_c (q := { q with epoch := t.epoch, num := 0, stopping := true }) hc4] at hRR; exact hRR _ _ ⟨_, ⟨⟨_, [], 0⟩, rfl, rfl, .none⟩, H7.sub (.cons (.there .here) .nil)⟩)
      · refine .skip (cj ?_)
        refine .seq ?_
        refine .plain rfl ?_
        refine .q rfl rfl rfl (val_move rfl) ?_
        refine .q rfl rfl rfl (val_nilCheck rfl) ?_
        refine .q rfl rfl rfl (val_fieldAddr rfl fa_50_11) ?_
        refine .store rfl rfl rfl rfl rfl sz_4 rfl H6 .here (by repeat constructor) (fun w8 H8 => ⟨fun _ => trivial, ?_⟩)
        refine .nil (cj ?_)
        refine .seq ?_
        refine .seq ?_
        refine .plain rfl ?_
        refine .q rfl rfl rfl (val_move rfl) ?_
        refine .q rfl rfl rfl (val_nilCheck rfl) ?_
        refine .q rfl rfl rfl (val_fieldAddr rfl fa_50_7) ?_
        refine .q rfl rfl rfl (val_fieldAddr rfl fa_42_0) ?_
        refine .qs rfl rfl rfl H8 (ld_b rfl ob_3 (.own .here) rfl) ?_
        refine .q rfl rfl rfl (val_eql rfl rfl rfl) ?_
        refine .q rfl rfl rfl (val_move rfl) ?_
        refine .case (t := 67) rfl (fun hs67 => ?_) (fun hs67 => ?_)
        · refine .q rfl rfl rfl (val_move rfl) ?_
          refine .q rfl rfl rfl (val_nilCheck rfl) ?_
          refine .q rfl rfl rfl (val_fieldAddr rfl fa_50_12) ?_
          refine .qs rfl rfl rfl H8 (ld_b rfl ob_4 (.own .here) rfl) ?_
          refine .q rfl rfl rfl (val_not rfl rfl) ?_
          refine .q rfl rfl rfl (val_pick_t rfl rfl) ?_
          refine .nil (cj ?_)
          refine .cond rfl (fun hc4 => ?_) (fun hc4 => ?_)
          · refine .seq ?_
            refine .drawS 20 (.cons (0, true) (.cons (1, true) (.cons (2, true) (.cons (3, true) (.cons (5, true) (.cons (6, true) (.cons (7, true) (.cons (8, true) (.cons (9, true) (.cons (10, true) (.cons (11, true) (.cons (12, true) (.cons (13, true) (.cons (4, false) (.cons (14, false) (.cons (15, true) (.cons (16, true) (.cons (17, true) (.cons (18, true) (.cons (19, true) .nil)))))))))))))))))))) mo (by kernel_rfl) H8 (fun _ _ _ _ _ h => h) (fun w9 H9 => ?_)
            refine .p rfl rfl rfl (val_move rfl) ?_
            refine .p rfl rfl rfl (val_nilCheck rfl) ?_
            refine .p rfl rfl rfl (val_fieldAddr rfl fa_50_0) ?_
            refine .ps rfl rfl rfl rfl (ld_blks rfl ag_26 (.own .here) (by repeat constructor)) ?_
            refine .p rfl rfl rfl (val_move rfl) ?_
            refine .p rfl rfl rfl (val_nilCheck rfl) ?_
            refine .p rfl rfl rfl (val_fieldAddr rfl fa_50_7) ?_
            refine .p rfl rfl rfl (val_fieldAddr rfl fa_42_2) ?_
            refine .ps rfl rfl rfl rfl (ld_b rfl ob_3 (.own .here) rfl) ?_
            refine .p rfl rfl rfl (val_move rfl) ?_
            refine .p rfl rfl rfl (val_nilCheck rfl) ?_
            refine .p rfl rfl rfl (val_fieldAddr rfl fa_50_9) ?_
            refine .ps rfl rfl rfl rfl (ld_b rfl ob_3 (.own .here) rfl) ?_
            refine .call1 rfl rfl rfl en76 (.cons rfl .nil) (kinR_spec _) H9 .nil .nil (fun w10 H10 => ⟨fun _ => H10, ?_⟩)
            refine .call1 rfl rfl rfl en104 (.cons rfl (.cons rfl (.cons rfl .nil))) (stopR_spec _ _ _ q.m.n q.gone hu ha hv (hg (by simpa using hs67) (nt hc4))) H10 .nil .nil (fun w11 H11 => ⟨fun _ => H11, ?_⟩)
            refine .p rfl rfl rfl (val_move rfl) ?_
            refine .p rfl rfl rfl (val_extract rfl rfl) ?_
            refine .p rfl rfl rfl (val_extract rfl rfl) ?_
            refine .p rfl rfl rfl (val_assign rfl) ?_
            refine .p rfl rfl rfl (val_assign rfl) ?_
            refine .nil (cj ?_)
            refine .seq ?_
            refine .plain rfl ?_
            refine .q rfl rfl rfl (val_move rfl) ?_
            refine .q rfl rfl rfl (val_move rfl) ?_
            refine .q rfl rfl rfl (val_nilCheck rfl) ?_
            refine .q rfl rfl rfl (val_fieldAddr rfl fa_50_7) ?_
            refine .q rfl rfl rfl (val_fieldAddr rfl fa_42_2) ?_
            refine .store rfl rfl rfl rfl rfl sz_3 rfl H11 .here (by repeat constructor) (fun w12 H12 => ⟨fun _ => trivial, ?_⟩)
            refine .nil (cj ?_)
            refine .seq ?_
            refine .drawS 15 (.cons (0, true) (.cons (1, true) (.cons (2, true) (.cons (3, true) (.cons (4, true) (.cons (5, true) (.cons (6, true) (.cons (7, true) (.cons (8, true) (.cons (9, true) (.cons (10, true) (.cons (11, true) (.cons (12, false) (.cons (13, true) (.cons (14, true) (.cons (15, true) (.cons (16, true) (.cons (17, true) (.cons (18, true) (.cons (19, false) .nil)))))))))))))))))))) mo (by kernel_rfl) H12 (fun _ _ _ _ _ h => h) (fun w13 H13 => ?_)
            refine .p rfl rfl rfl (val_move rfl) ?_
            refine .p rfl rfl rfl (val_move rfl) ?_
            refine .p rfl rfl rfl (val_nilCheck rfl) ?_
            refine .p rfl rfl rfl (val_fieldAddr rfl fa_50_7) ?_
            refine .p rfl rfl rfl (val_fieldAddr rfl fa_42_3) ?_
            refine .ps rfl rfl rfl rfl (ld_blks rfl ag_40 (.own .here) (by repeat constructor)) ?_
            refine .p rfl rfl rfl (val_move rfl) ?_
            refine .p rfl rfl rfl (val_nilCheck rfl) ?_
            refine .p rfl rfl rfl (val_fieldAddr rfl fa_50_7) ?_
            refine .p rfl rfl rfl (val_fieldAddr rfl fa_42_1) ?_
            refine .ps rfl rfl rfl rfl (ld_b rfl ob_3 (.own .here) rfl) ?_
            refine .p rfl rfl rfl (val_move rfl) ?_
            refine .call1 rfl rfl rfl en105 (.cons rfl (.cons rfl (.cons rfl .nil))) (shiftSR_spec _ _ _ _ _) H13 .nil .nil (fun w14 H14 => ⟨fun _ => H14, ?_⟩)
            refine .p rfl rfl rfl (val_move rfl) ?_
            refine .p rfl rfl rfl (val_extract rfl rfl) ?_
            refine .p rfl rfl rfl (val_extract rfl rfl) ?_
            refine .p rfl rfl rfl (val_nilCheck rfl) ?_
            refine .p rfl rfl rfl (val_fieldAddr rfl fa_50_7) ?_
            refine .p rfl rfl rfl (val_fieldAddr rfl fa_42_4) ?_
            refine .store rfl rfl rfl rfl rfl sz_40 rfl H14 .here (.skip (.skip (.skip (.skip (.skip (.skip (.skip (.skip (.skip (.skip (.skip (.skip (.skip (.skip (.skip (.skip (.skip (.skip (.skip (.skip (.skip (.skip (.skip (.skip (.skip (.skip (.skip (.skip (.skip (.skip (.here (.cons (.cons (.cons .nil)))))))))))))))))))))))))))))))))) (fun w15 H15 => ⟨fun h => absurd h (by decide), ?_⟩)
            refine .nil (cj ?_)
            refine .seq ?_
            refine .plain rfl ?_
            refine .q rfl rfl rfl (val_move rfl) ?_
            refine .q rfl rfl rfl (val_move rfl) ?_
            refine .q rfl rfl rfl (val_max rfl rfl rfl) ?_
            refine .q rfl rfl rfl (val_nilCheck rfl) ?_
            refine .q rfl rfl rfl (val_fieldAddr rfl fa_50_8) ?_
            refine .store rfl rfl rfl rfl rfl sz_3 rfl H15 .here (by repeat constructor) (fun w16 H16 => ⟨fun _ => trivial, ?_⟩)
            refine .nil (cj ?_)
            refine .plain rfl ?_
            refine .q rfl rfl rfl (val_move rfl) ?_
            refine .q rfl rfl rfl (val_nilCheck rfl) ?_
            refine .q rfl rfl rfl (val_fieldAddr rfl fa_50_12) ?_
            refine .store rfl rfl rfl rfl rfl sz_4 rfl H16 .here (by repeat constructor) (fun w17 H17 => ⟨fun _ => trivial, ?_⟩)
            refine .nil (cj ?_)
            refine .seq ?_
            refine .plain rfl ?_
            refine .q rfl rfl rfl (val_assign rfl) ?_
            refine .q rfl rfl rfl (val_assign rfl) ?_
            refine .nil (cj ?_)
            refine .ret (fret (res2 rfl rfl rfl) ?_)
            first | (rw [sw_a hc0] at hRR; exact hRR _ _ ⟨_, ⟨⟨_, [], 0⟩, rfl, rfl, .none⟩, H17.sub (.cons .here .nil)⟩) | (rw [sw_b hc0 hc1 hs27 hs34 hc2] at hRR; exact hRR _ _ ⟨_, ⟨⟨_, _, 0⟩, rfl, rfl, .some _ _⟩, H17.sub .nil⟩) | (rw [sw_c hc0 hc1 (by first | exact sn_1 hs27 | exact sn_2 hs34 | exact sn_3 hc2)] at hRR; exact hRR _ _ ⟨_, ⟨⟨_, [], 0⟩, rfl, rfl, .none⟩, H17.sub (.cons .here .nil)⟩) | (rw [sw_d hc0 hc1 hc3] at hRR; exact hRR _ _ ⟨_, ⟨⟨_, _, 0⟩, rfl, rfl, .some _ _⟩, H17.sub .nil⟩) | (rw [sw_e hc0 hc1 hc3, cw_a (q := { q with epoch := t.epoch, num := 0, stopping := true }) hs67 hc4] at hRR; exact hRR _ _ ⟨_, ⟨⟨_, [], 0⟩, rfl, rfl, .none⟩, H17.sub (.cons .here .nil)⟩) | (rw [sw_e hc0 hc1 hc3, cw_b (q := { q with epoch := t.epoch, num := 0, stopping := true }) hs67] at hRR; exact hRR _ _ ⟨_, ⟨⟨_, [], 0⟩, rfl, rfl, .none⟩, H17.sub (.cons .here .nil)⟩) | (rw [sw_e hc0 hc1 hc3, cw_c (q := { q with epoch := t.epoch, num := 0, stopping := true }) hc4] at hRR; exact hRR _ _ ⟨_, ⟨⟨_, [], 0⟩, rfl, rfl, .none⟩, H17.sub (.cons .here .nil)⟩)
          · refine .skip (cj ?_)
            refine .seq ?_
            refine .plain rfl ?_
            refine .q rfl rfl rfl (val_assign rfl) ?_
            refine .q rfl rfl rfl (val_assign rfl) ?_
            refine .nil (cj ?_)
            refine .ret (fret (res2 rfl rfl rfl) ?_)
            first | (rw [sw_a hc0] at hRR; exact hRR _ _ ⟨_, ⟨⟨_, [], 0⟩, rfl, rfl, .none⟩, H8.sub (.cons .here .nil)⟩) | (rw [sw_b hc0 hc1 hs27 hs34 hc2] at hRR; exact hRR _ _ ⟨_, ⟨⟨_, _, 0⟩, rfl, rfl, .some _ _⟩, H8.sub .nil⟩) | (rw [sw_c hc0 hc1 (by first | exact sn_1 hs27 | exact sn_2 hs34 | exact sn_3 hc2)] at hRR; exact hRR _ _ ⟨_, ⟨⟨_, [], 0⟩, rfl, rfl, .none⟩, H8.sub (.cons .here .nil)⟩) | (rw [sw_d hc0 hc1 hc3] at hRR; exact hRR _ _ ⟨_, ⟨⟨_, _, 0⟩, rfl, rfl, .some _ _⟩, H8.sub .nil⟩) | (rw [sw_e hc0 hc1 hc3, cw_a (q := { q with epoch := t.epoch, num := 0, stopping := true }) hs67 hc4] at hRR; exact hRR _ _ ⟨_, ⟨⟨_, [], 0⟩, rfl, rfl, .none⟩, H8.sub (.cons .here .nil)⟩) | (rw [sw_e hc0 hc1 hc3, cw_b (q := { q with epoch := t.epoch, num := 0, stopping := true }) hs67] at hRR; exact hRR _ _ ⟨_, ⟨⟨_, [], 0⟩, rfl, rfl, .none⟩, H8.sub (.cons .here .nil)⟩) | (rw [sw_e hc0 hc1 hc3, cw_c (q := { q with epoch := t.epoch, num := 0, stopping := true }) hc4] at hRR; exact hRR _ _ ⟨_, ⟨⟨_, [], 0⟩, rfl, rfl, .none⟩, H8.sub (.cons .here .nil)⟩)
        · refine .no rfl rfl rfl ?_
          refine .no rfl rfl rfl ?_
          refine .no rfl rfl rfl ?_
          refine .no rfl rfl rfl ?_
          refine .no rfl rfl rfl ?_
          refine .q rfl rfl rfl (val_pick_f rfl rfl) ?_
          refine .nil (cj ?_)
          refine .cond_f rfl ?_
          refine .skip (cj ?_)
          refine .seq ?_
          refine .plain rfl ?_
          refine .q rfl rfl rfl (val_assign rfl) ?_
          refine .q rfl rfl rfl (val_assign rfl) ?_
          refine .nil (cj ?_)
          refine .ret (fret (res2 rfl rfl rfl) ?_)
          first | (rw [sw_a hc0] at hRR; exact hRR _ _ ⟨_, ⟨⟨_, [], 0⟩, rfl, rfl, .none⟩, H8.sub (.cons .here .nil)⟩) | (rw [sw_b hc0 hc1 hs27 hs34 hc2] at hRR; exact hRR _ _ ⟨_, ⟨⟨_, _, 0⟩, rfl, rfl, .some _ _⟩, H8.sub .nil⟩) | (rw [sw_c hc0 hc1 (by first | exact sn_1 hs27 | exact sn_2 hs34 | exact sn_3 hc2)] at hRR; exact hRR _ _ ⟨_, ⟨⟨_, [], 0⟩, rfl, rfl, .none⟩, H8.sub (.cons .here .nil)⟩) | (rw [sw_d hc0 hc1 hc3] at hRR; exact hRR _ _ ⟨_, ⟨⟨_, _, 0⟩, rfl, rfl, .some _ _⟩, H8.sub .nil⟩) | (rw [sw_e hc0 hc1 hc3, cw_a (q := { q with epoch := t.epoch, num := 0, stopping := true }) hs67 hc4] at hRR; exact hRR _ _ ⟨_, ⟨⟨_, [], 0⟩, rfl, rfl, .none⟩, H8.sub (.cons .here .nil)⟩) | (rw [sw_e hc0 hc1 hc3, cw_b (q := { q with epoch := t.epoch, num := 0, stopping := true }) hs67] at hRR; exact hRR _ _ ⟨_, ⟨⟨_, [], 0⟩, rfl, rfl, .none⟩, H8.sub (.cons .here .nil)⟩) | (rw [sw_e hc0 hc1 hc3, cw_c (q := { q with epoch := t.epoch, num := 0, stopping := true }) hc4] at hRR; exact hRR _ _ ⟨_, ⟨⟨_, [], 0⟩, rfl, rfl, .none⟩, H8.sub (.cons .here .nil)⟩)
/-- a telegram comes, in the document's words -/
def hearW (c : Cf) (q : Rw) (t : Te) : GoW := if t.robot ≠ q.i then ⟨none, 0, q⟩ else if t.kind = 1 then goW c q t else if t.kind = 2 then stopW c q t.epoch else ⟨none, 0, q⟩
section
variable {c : Cf} {q : Rw} {t : Te}
theorem hw_a (h : (t.robot != q.i) = true) : hearW c q t = ⟨none, 0, q⟩ := by unfold hearW; rw [if_pos (by simpa using h)]
theorem hw_b (h : (t.robot != q.i) = false) (h1 : (t.kind == 1) = true) : hearW c q t = goW c q t := by unfold hearW; rw [if_neg (by simpa using h), if_pos (by simpa using h1)]
theorem hw_c (h : (t.robot != q.i) = false) (h1 : (t.kind == 1) = false) (h2 : (t.kind == 2) = true) : hearW c q t = stopW c q t.epoch := by unfold hearW; rw [if_neg (by simpa using h), if_neg (by simpa using h1), if_pos (by simpa using h2)]
theorem hw_d (h : (t.robot != q.i) = false) (h1 : (t.kind == 1) = false) (h2 : (t.kind == 2) = false) : hearW c q t = ⟨none, 0, q⟩ := by unfold hearW; rw [if_neg (by simpa using h), if_neg (by simpa using h1), if_neg (by simpa using h2)]
end
theorem Ats_left : ∀ (A B : List As), Ats (A ++ B) A B
  | [], B => .nil
  | f :: A, B => .cons .here (Ats_left A B)
theorem hearW_spec (b : Nat) (c : Cf) (hc : c.Fit) (hnum : NumOk c) (q : Rw) (hg : RunW q) (t : Te) : Sk.Spec Tryz.prog 46 #[ptr b, .agg (encT t).toArray] [cb c] [wblk b c q] (GwPost b c (hearW c q t)) := by
  refine Spec.of_code (vs := [_, _]) (k0 := [(0, _), (1, _)]) 29 Tryz.func46 rfl Tryz.ntmps46 rfl (.cons (.cons .nil)) fun w X RR hRR H => ?_
  refine .seq ?_
  refine .plain rfl ?_
  refine .box rfl rfl rfl rfl rfl H (fun w1 b1 H1 => ⟨fun _ => trivial, ?_⟩)
  refine .q rfl rfl rfl (val_assign rfl) ?_
  refine .q rfl rfl rfl (val_assign rfl) ?_
  refine .nil (cj ?_)
  refine .seq ?_
  refine .seq ?_
  refine .drawS 7 (.cons (0, true) (.cons (1, true) (.cons (2, true) (.cons (3, true) (.cons (4, true) (.cons (5, true) (.cons (6, true) .nil))))))) mo (by kernel_rfl) H1 (fun _ _ _ _ _ h => h) (fun w2 H2 => ?_)
  refine .p rfl rfl rfl (val_fieldAddr rfl fa_44_1) ?_
  refine .ps rfl rfl rfl rfl (ld_b rfl ob_3 (.own .here) rfl) ?_
  refine .p rfl rfl rfl (val_move rfl) ?_
  refine .p rfl rfl rfl (val_nilCheck rfl) ?_
  refine .p rfl rfl rfl (val_fieldAddr rfl fa_50_1) ?_
  refine .ps rfl rfl rfl rfl (ld_b rfl ob_3 (.own (.there .here)) rfl) ?_
  refine .p rfl rfl rfl (val_neq rfl rfl rfl) ?_
  refine .nil (cj ?_)
  refine .cond rfl (fun hc0 => ?_) (fun hc0 => ?_)
  · refine .seq ?_
    refine .plain rfl ?_
    refine .q rfl rfl rfl (val_assign rfl) ?_
    refine .q rfl rfl rfl (val_assign rfl) ?_
    refine .nil (cj ?_)
    refine .ret (fret (res2 rfl rfl rfl) ?_)
    first | (rw [hw_a hc0] at hRR; exact hRR _ _ ⟨_, ⟨⟨_, [], 0⟩, rfl, rfl, .none⟩, H2.sub (.cons (.there .here) .nil)⟩) | (rw [hw_d hc0 hc1 hc2] at hRR; exact hRR _ _ ⟨_, ⟨⟨_, [], 0⟩, rfl, rfl, .none⟩, H2.sub (.cons (.there .here) .nil)⟩) | (rw [hw_b hc0 hc1] at hRR; exact hRR _ _ ⟨_, ⟨_, rfl, rfl, by assumption⟩, H2.sub (Ats_left _ _)⟩) | (rw [hw_c hc0 hc1 hc2] at hRR; exact hRR _ _ ⟨_, ⟨_, rfl, rfl, by assumption⟩, H2.sub (Ats_left _ _)⟩)
  · refine .skip (cj ?_)
    refine .seq ?_
    refine .seq ?_
    refine .plain rfl ?_
    refine .q rfl rfl rfl (val_fieldAddr rfl fa_44_0) ?_
    refine .qs rfl rfl rfl H2 (ld_b rfl ob_3 (.own .here) rfl) ?_
    refine .nil (cj ?_)
    refine .block ?_
    refine .seq ?_
    refine .plain rfl ?_
    refine .q rfl rfl rfl (val_eql rfl rfl rfl) ?_
    refine .q rfl rfl rfl (val_assign rfl) ?_
    refine .nil (cj ?_)
    refine .cond rfl (fun hc1 => ?_) (fun hc1 => ?_)
    · refine .seq ?_
      refine .plain rfl ?_
      refine .q rfl rfl rfl (val_move rfl) ?_
      refine .qs rfl rfl rfl H2 (ld_w rfl ag_44 (.own .here) rfl) ?_
      refine .callx rfl rfl rfl en78 (.cons rfl (.cons rfl .nil)) (goesW_spec _ c hc q t) H2 (.cons (.there .here) .nil) (.ro .here .nil) (fun x3 w3 C3 H3 => ⟨fun _ => trivial, ?_⟩)
      refine .q rfl rfl rfl (val_extract rfl rfl) ?_
      refine .q rfl rfl rfl (val_extract rfl rfl) ?_
      refine .q rfl rfl rfl (val_assign rfl) ?_
      refine .q rfl rfl rfl (val_assign rfl) ?_
      refine .nil (cj ?_)
      refine .ret (fret (res2 rfl rfl rfl) ?_)
      first | (rw [hw_a hc0] at hRR; exact hRR _ _ ⟨_, ⟨⟨_, [], 0⟩, rfl, rfl, .none⟩, H3.sub .nil⟩) | (rw [hw_d hc0 hc1 hc2] at hRR; exact hRR _ _ ⟨_, ⟨⟨_, [], 0⟩, rfl, rfl, .none⟩, H3.sub .nil⟩) | (rw [hw_b hc0 hc1] at hRR; exact hRR _ _ ⟨_, ⟨_, rfl, rfl, by assumption⟩, H3.sub (Ats_left _ _)⟩) | (rw [hw_c hc0 hc1 hc2] at hRR; exact hRR _ _ ⟨_, ⟨_, rfl, rfl, by assumption⟩, H3.sub (Ats_left _ _)⟩)
    · refine .seq ?_
      refine .plain rfl ?_
      refine .q rfl rfl rfl (val_eql rfl rfl rfl) ?_
      refine .q rfl rfl rfl (val_assign rfl) ?_
      refine .nil (cj ?_)
      refine .cond rfl (fun hc2 => ?_) (fun hc2 => ?_)
      · refine .seq ?_
        refine .plain rfl ?_
        refine .q rfl rfl rfl (val_move rfl) ?_
        refine .qs rfl rfl rfl H2 (ld_w rfl ag_44 (.own .here) rfl) ?_
        refine .callx rfl rfl rfl en79 (.cons rfl (.cons rfl .nil)) (stopsW_spec _ c hnum q hg t) H2 (.cons (.there .here) .nil) .nil (fun x4 w4 C4 H4 => ⟨fun _ => trivial, ?_⟩)
        refine .q rfl rfl rfl (val_extract rfl rfl) ?_
        refine .q rfl rfl rfl (val_extract rfl rfl) ?_
        refine .q rfl rfl rfl (val_assign rfl) ?_
        refine .q rfl rfl rfl (val_assign rfl) ?_
        refine .nil (cj ?_)
        refine .ret (fret (res2 rfl rfl rfl) ?_)
        first | (rw [hw_a hc0] at hRR; exact hRR _ _ ⟨_, ⟨⟨_, [], 0⟩, rfl, rfl, .none⟩, H4.sub .nil⟩) | (rw [hw_d hc0 hc1 hc2] at hRR; exact hRR _ _ ⟨_, ⟨⟨_, [], 0⟩, rfl, rfl, .none⟩, H4.sub .nil⟩) | (rw [hw_b hc0 hc1] at hRR; exact hRR _ _ ⟨_, ⟨_, rfl, rfl, by assumption⟩, H4.sub (Ats_left _ _)⟩) | (rw [hw_c hc0 hc1 hc2] at hRR; exact hRR _ _ ⟨_, ⟨_, rfl, rfl, by assumption⟩, H4.sub (Ats_left _ _)⟩)
      · refine .skip (cj ?_)
        refine .seq ?_
        refine .plain rfl ?_
        refine .q rfl rfl rfl (val_assign rfl) ?_
        refine .q rfl rfl rfl (val_assign rfl) ?_
        refine .nil (cj ?_)
        refine .ret (fret (res2 rfl rfl rfl) ?_)
        first | (rw [hw_a hc0] at hRR; exact hRR _ _ ⟨_, ⟨⟨_, [], 0⟩, rfl, rfl, .none⟩, H2.sub (.cons (.there .here) .nil)⟩) | (rw [hw_d hc0 hc1 hc2] at hRR; exact hRR _ _ ⟨_, ⟨⟨_, [], 0⟩, rfl, rfl, .none⟩, H2.sub (.cons (.there .here) .nil)⟩) | (rw [hw_b hc0 hc1] at hRR; exact hRR _ _ ⟨_, ⟨_, rfl, rfl, by assumption⟩, H2.sub (Ats_left _ _)⟩) | (rw [hw_c hc0 hc1 hc2] at hRR; exact hRR _ _ ⟨_, ⟨_, rfl, rfl, by assumption⟩, H2.sub (Ats_left _ _)⟩)
end Go.Proofs.YtmbibkifbehgnaaGreatDoor
/-! ## K7: Walks of the robot's Hear. -/
namespace Go.Proofs.YtmbibkifbehgnaaGreatDoor
open Go Sk
set_option linter.unusedVariables false
set_option linter.unusedSimpArgs false
theorem en70 : Enters Tryz.prog 70 := fun args w => by kernel_rfl
theorem en71 : Enters Tryz.prog 71 := fun args w => by kernel_rfl
structure HeB where
  tele : Option Te
  how : Int
  r : Rb
  g : Option Gg
/-- a telegram comes -/
def hearB (c : Cf) (r : Rb) (g : Option Gg) (t : Te) : HeB :=
  if t.robot ≠ r.i then ⟨none, 0, r, g⟩
  else if t.kind = 1 then ⟨(goB c r g t).tele, (goB c r g t).how, r, (goB c r g t).g⟩
  else if t.kind = 2 then (match g with
    | none => ⟨(stopB r t.epoch).tele, (stopB r t.epoch).how, (stopB r t.epoch).r, none⟩
    | some u => ⟨none, 0, (stop1B c r u t.epoch).r, some (stop1B c r u t.epoch).g⟩)
  else ⟨none, 0, r, g⟩
section
variable {c : Cf} {r : Rb} {g : Option Gg} {t : Te}
theorem hb_a (h : (t.robot != r.i) = true) : hearB c r g t = ⟨none, 0, r, g⟩ := by unfold hearB; rw [if_pos (by simpa using h)]
theorem hb_b (h : (t.robot != r.i) = false) (h1 : (t.kind == 1) = true) : hearB c r g t = ⟨(goB c r g t).tele, (goB c r g t).how, r, (goB c r g t).g⟩ := by unfold hearB; rw [if_neg (by simpa using h), if_pos (by simpa using h1)]
theorem hb_c (h : (t.robot != r.i) = false) (h1 : (t.kind == 1) = false) (h2 : (t.kind == 2) = true) : hearB c r none t = ⟨(stopB r t.epoch).tele, (stopB r t.epoch).how, (stopB r t.epoch).r, none⟩ := by unfold hearB; rw [if_neg (by simpa using h), if_neg (by simpa using h1), if_pos (by simpa using h2)]
theorem hb_c1 {u : Gg} (h : (t.robot != r.i) = false) (h1 : (t.kind == 1) = false) (h2 : (t.kind == 2) = true) : hearB c r (some u) t = ⟨none, 0, (stop1B c r u t.epoch).r, some (stop1B c r u t.epoch).g⟩ := by unfold hearB; rw [if_neg (by simpa using h), if_neg (by simpa using h1), if_pos (by simpa using h2)]
theorem hb_d (h : (t.robot != r.i) = false) (h1 : (t.kind == 1) = false) (h2 : (t.kind == 2) = false) : hearB c r g t = ⟨none, 0, r, g⟩ := by unfold hearB; rw [if_neg (by simpa using h), if_neg (by simpa using h1), if_neg (by simpa using h2)]
end
abbrev HePost (br bg bn : Nat) (q : HeB) : Ending → List As → Prop := fun e F' => ∃ x : HX, e = .returned (.tuple #[x.v, i64 q.how]) ∧ F' = x.fx ++ robF br bg bn x.bu q.r q.g ∧ TeV q.tele x.v x.fx
theorem hear0_spec (c : Cf) (hm : MayOk c) (br bg bk bn : Nat) (r : Rb) (t : Te) : Sk.Spec Tryz.prog 34 #[ptr br, .agg (encT t).toArray] [gfix c bg bk, kblk bk (KF c), stepsA] [rblk br bg bn r none] (HePost br bg bn (hearB c r none t)) := by
  refine Spec.of_code (vs := [_, _]) (k0 := [(0, _), (1, _)]) 41 Tryz.func34 rfl Tryz.ntmps34 rfl (.cons (.cons .nil)) fun w X RR hRR H => ?_
  refine .seq ?_
  refine .plain rfl ?_
  refine .box rfl rfl rfl rfl rfl H (fun w1 b1 H1 => ⟨fun _ => trivial, ?_⟩)
  refine .q rfl rfl rfl (val_assign rfl) ?_
  refine .q rfl rfl rfl (val_assign rfl) ?_
  refine .nil (cj ?_)
  refine .seq ?_
  refine .seq ?_
  refine .drawS 18 (.cons (0, true) (.cons (1, true) (.cons (2, true) (.cons (3, true) (.cons (4, true) (.cons (5, true) (.cons (6, true) (.cons (7, true) (.cons (8, true) (.cons (9, true) (.cons (10, true) (.cons (11, true) (.cons (12, true) (.cons (13, true) (.cons (14, true) (.cons (15, true) (.cons (16, true) (.cons (17, true) .nil)))))))))))))))))) mo (by kernel_rfl) H1 (fun _ _ _ _ _ h => h) (fun w2 H2 => ?_)
  refine .p rfl rfl rfl (val_move rfl) ?_
  refine .p rfl rfl rfl (val_ptr_eq_nil Tryz.underlying30 rfl rfl rfl) ?_
  refine .p rfl rfl rfl (val_move rfl) ?_
  refine .p rfl rfl rfl (val_move rfl) ?_
  refine .p rfl rfl rfl (val_nilCheck rfl) ?_
  refine .p rfl rfl rfl (val_fieldAddr rfl fa_92_1) ?_
  refine .ps rfl rfl rfl rfl (ld_b rfl ob_84 (.own (.there .here)) rfl) ?_
  refine .p rfl rfl rfl (val_ptr_eq_nil Tryz.underlying84 rfl rfl rfl) ?_
  refine .p rfl rfl rfl (val_pick_f rfl rfl) ?_
  refine .p rfl rfl rfl (val_move rfl) ?_
  refine .p rfl rfl rfl (val_fieldAddr rfl fa_44_1) ?_
  refine .ps rfl rfl rfl rfl (ld_b rfl ob_3 (.own .here) rfl) ?_
  refine .p rfl rfl rfl (val_move rfl) ?_
  refine .p rfl rfl rfl (val_nilCheck rfl) ?_
  refine .p rfl rfl rfl (val_fieldAddr rfl fa_92_0) ?_
  refine .ps rfl rfl rfl rfl (ld_b rfl ob_3 (.own (.there .here)) rfl) ?_
  refine .p rfl rfl rfl (val_neq rfl rfl rfl) ?_
  refine .p rfl rfl rfl (val_pick_f rfl rfl) ?_
  refine .nil (cj ?_)
  refine .cond rfl (fun hc0 => ?_) (fun hc0 => ?_)
  · refine .seq ?_
    refine .plain rfl ?_
    refine .q rfl rfl rfl (val_assign rfl) ?_
    refine .q rfl rfl rfl (val_assign rfl) ?_
    refine .nil (cj ?_)
    refine .ret (fret (res2 rfl rfl rfl) ?_)
    first | (rw [hb_a hc0] at hRR; exact hRR _ _ ⟨_, ⟨⟨_, [], 0⟩, rfl, rfl, .none⟩, H2.sub (.cons (.there .here) .nil)⟩) | (rw [hb_d hc0 hc1 hc2] at hRR; exact hRR _ _ ⟨_, ⟨⟨_, [], 0⟩, rfl, rfl, .none⟩, H2.sub (.cons (.there .here) .nil)⟩) | (rw [hb_b hc0 hc1] at hRR; exact hRR _ _ ⟨_, ⟨_, rfl, rfl, by assumption⟩, H2.sub (Ats_left _ _)⟩) | (rw [hb_c hc0 hc1 hc2] at hRR; exact hRR _ _ ⟨_, ⟨⟨_, _, 0⟩, rfl, rfl, by assumption⟩, H2.sub (Ats_left _ _)⟩)
  · refine .skip (cj ?_)
    refine .seq ?_
    refine .seq ?_
    refine .plain rfl ?_
    refine .q rfl rfl rfl (val_fieldAddr rfl fa_44_0) ?_
    refine .qs rfl rfl rfl H2 (ld_b rfl ob_3 (.own .here) rfl) ?_
    refine .nil (cj ?_)
    refine .block ?_
    refine .seq ?_
    refine .plain rfl ?_
    refine .q rfl rfl rfl (val_eql rfl rfl rfl) ?_
    refine .q rfl rfl rfl (val_assign rfl) ?_
    refine .nil (cj ?_)
    refine .cond rfl (fun hc1 => ?_) (fun hc1 => ?_)
    · refine .seq ?_
      refine .plain rfl ?_
      refine .q rfl rfl rfl (val_move rfl) ?_
      refine .qs rfl rfl rfl H2 (ld_w rfl ag_44 (.own .here) rfl) ?_
      refine .callx rfl rfl rfl en70 (.cons rfl (.cons rfl .nil)) (goes0_spec c hm _ bg bk bn r t) H2 (.cons (.there .here) .nil) (.ro .here (.ro (.there .here) (.ro (.there (.there .here)) .nil))) (fun x3 w3 C3 H3 => ⟨fun _ => trivial, ?_⟩)
      refine .q rfl rfl rfl (val_extract rfl rfl) ?_
      refine .q rfl rfl rfl (val_extract rfl rfl) ?_
      refine .q rfl rfl rfl (val_assign rfl) ?_
      refine .q rfl rfl rfl (val_assign rfl) ?_
      refine .nil (cj ?_)
      refine .ret (fret (res2 rfl rfl rfl) ?_)
      first | (rw [hb_a hc0] at hRR; exact hRR _ _ ⟨_, ⟨⟨_, [], 0⟩, rfl, rfl, .none⟩, H3.sub .nil⟩) | (rw [hb_d hc0 hc1 hc2] at hRR; exact hRR _ _ ⟨_, ⟨⟨_, [], 0⟩, rfl, rfl, .none⟩, H3.sub .nil⟩) | (rw [hb_b hc0 hc1] at hRR; exact hRR _ _ ⟨_, ⟨_, rfl, rfl, by assumption⟩, H3.sub (Ats_left _ _)⟩) | (rw [hb_c hc0 hc1 hc2] at hRR; exact hRR _ _ ⟨_, ⟨⟨_, _, 0⟩, rfl, rfl, by assumption⟩, H3.sub (Ats_left _ _)⟩)
    · refine .seq ?_
      refine .plain rfl ?_
      refine .q rfl rfl rfl (val_eql rfl rfl rfl) ?_
      refine .q rfl rfl rfl (val_assign rfl) ?_
      refine .nil (cj ?_)
      refine .cond rfl (fun hc2 => ?_) (fun hc2 => ?_)
      · refine .seq ?_
        refine .plain rfl ?_
        refine .q rfl rfl rfl (val_move rfl) ?_
        refine .q rfl rfl rfl (val_fieldAddr rfl fa_44_2) ?_
        refine .qs rfl rfl rfl H2 (ld_b rfl ob_3 (.own .here) rfl) ?_
        refine .callx rfl rfl rfl en71 (.cons rfl (.cons rfl .nil)) (stops0_spec _ _ _ r _) H2 (.cons (.there .here) .nil) .nil (fun x4 w4 C4 H4 => ⟨fun _ => trivial, ?_⟩)
        refine .q rfl rfl rfl (val_extract rfl rfl) ?_
        refine .q rfl rfl rfl (val_extract rfl rfl) ?_
        refine .q rfl rfl rfl (val_assign rfl) ?_
        refine .q rfl rfl rfl (val_assign rfl) ?_
        refine .nil (cj ?_)
        refine .ret (fret (res2 rfl rfl rfl) ?_)
        first | (rw [hb_a hc0] at hRR; exact hRR _ _ ⟨_, ⟨⟨_, [], 0⟩, rfl, rfl, .none⟩, H4.sub .nil⟩) | (rw [hb_d hc0 hc1 hc2] at hRR; exact hRR _ _ ⟨_, ⟨⟨_, [], 0⟩, rfl, rfl, .none⟩, H4.sub .nil⟩) | (rw [hb_b hc0 hc1] at hRR; exact hRR _ _ ⟨_, ⟨_, rfl, rfl, by assumption⟩, H4.sub (Ats_left _ _)⟩) | (rw [hb_c hc0 hc1 hc2] at hRR; exact hRR _ _ ⟨_, ⟨⟨_, _, 0⟩, rfl, rfl, by assumption⟩, H4.sub (Ats_left _ _)⟩)
      · refine .skip (cj ?_)
        refine .seq ?_
        refine .plain rfl ?_
        refine .q rfl rfl rfl (val_assign rfl) ?_
        refine .q rfl rfl rfl (val_assign rfl) ?_
        refine .nil (cj ?_)
        refine .ret (fret (res2 rfl rfl rfl) ?_)
        first | (rw [hb_a hc0] at hRR; exact hRR _ _ ⟨_, ⟨⟨_, [], 0⟩, rfl, rfl, .none⟩, H2.sub (.cons (.there .here) .nil)⟩) | (rw [hb_d hc0 hc1 hc2] at hRR; exact hRR _ _ ⟨_, ⟨⟨_, [], 0⟩, rfl, rfl, .none⟩, H2.sub (.cons (.there .here) .nil)⟩) | (rw [hb_b hc0 hc1] at hRR; exact hRR _ _ ⟨_, ⟨_, rfl, rfl, by assumption⟩, H2.sub (Ats_left _ _)⟩) | (rw [hb_c hc0 hc1 hc2] at hRR; exact hRR _ _ ⟨_, ⟨⟨_, _, 0⟩, rfl, rfl, by assumption⟩, H2.sub (Ats_left _ _)⟩)
theorem Ats_app : ∀ (A : List As) {B C D : List As}, Ats B C D → Ats (A ++ B) (A ++ C) D
  | [], _, _, _, h => h
  | f :: A, _, _, _, h => .cons .here (Ats_app A h)
abbrev HePost1 (c : Cf) (br bg bn : Nat) (q : HeB) : Ending → List As → Prop := fun e F' => ∃ (x : HX × List Rn), e = .returned (.tuple #[x.1.v, i64 q.how]) ∧ F' = (x.1.fx ++ robF br bg bn x.1.bu q.r q.g) ++ kinC c bn x.2 ∧ TeV q.tele x.1.v x.1.fx ∧ x.2.length = 17
theorem hear1_spec (c : Cf) (hm : MayOk c) (br bg bk bn bu : Nat) (r : Rb) (g : Gg) (rs : List Rn) (hrs : rs.length = 17) (hg : RunN g) (t : Te) :
    Sk.Spec Tryz.prog 34 #[ptr br, .agg (encT t).toArray] [gfix c bg bk, kblk bk (KF c), stepsA] (rblk br bg bn r (some ⟨bu, 0, none⟩) :: gblk2 bu g :: kinC c bn rs) (HePost1 c br bg bn (hearB c r (some g) t)) := by
  refine Spec.of_code (vs := [_, _]) (k0 := [(0, _), (1, _)]) 41 Tryz.func34 rfl Tryz.ntmps34 rfl (.cons (.cons .nil)) fun w X RR hRR H => ?_
  refine .seq ?_
  refine .plain rfl ?_
  refine .box rfl rfl rfl rfl rfl H (fun w1 b1 H1 => ⟨fun _ => trivial, ?_⟩)
  refine .q rfl rfl rfl (val_assign rfl) ?_
  refine .q rfl rfl rfl (val_assign rfl) ?_
  refine .nil (cj ?_)
  refine .seq ?_
  refine .seq ?_
  refine .drawS 18 (.cons (0, true) (.cons (1, true) (.cons (2, true) (.cons (3, true) (.cons (4, true) (.cons (5, true) (.cons (6, true) (.cons (7, true) (.cons (8, true) (.cons (9, true) (.cons (10, true) (.cons (11, true) (.cons (12, true) (.cons (13, true) (.cons (14, true) (.cons (15, true) (.cons (16, true) (.cons (17, true) .nil)))))))))))))))))) mo (by kernel_rfl) H1 (fun _ _ _ _ _ h => h) (fun w2 H2 => ?_)
  refine .p rfl rfl rfl (val_move rfl) ?_
  refine .p rfl rfl rfl (val_ptr_eq_nil Tryz.underlying30 rfl rfl rfl) ?_
  refine .p rfl rfl rfl (val_move rfl) ?_
  refine .p rfl rfl rfl (val_move rfl) ?_
  refine .p rfl rfl rfl (val_nilCheck rfl) ?_
  refine .p rfl rfl rfl (val_fieldAddr rfl fa_92_1) ?_
  refine .ps rfl rfl rfl rfl (ld_b rfl ob_84 (.own (.there .here)) rfl) ?_
  refine .p rfl rfl rfl (val_ptr_eq_nil Tryz.underlying84 rfl rfl rfl) ?_
  refine .p rfl rfl rfl (val_pick_f rfl rfl) ?_
  refine .p rfl rfl rfl (val_move rfl) ?_
  refine .p rfl rfl rfl (val_fieldAddr rfl fa_44_1) ?_
  refine .ps rfl rfl rfl rfl (ld_b rfl ob_3 (.own .here) rfl) ?_
  refine .p rfl rfl rfl (val_move rfl) ?_
  refine .p rfl rfl rfl (val_nilCheck rfl) ?_
  refine .p rfl rfl rfl (val_fieldAddr rfl fa_92_0) ?_
  refine .ps rfl rfl rfl rfl (ld_b rfl ob_3 (.own (.there .here)) rfl) ?_
  refine .p rfl rfl rfl (val_neq rfl rfl rfl) ?_
  refine .p rfl rfl rfl (val_pick_f rfl rfl) ?_
  refine .nil (cj ?_)
  refine .cond rfl (fun hc0 => ?_) (fun hc0 => ?_)
  · refine .seq ?_
    refine .plain rfl ?_
    refine .q rfl rfl rfl (val_assign rfl) ?_
    refine .q rfl rfl rfl (val_assign rfl) ?_
    refine .nil (cj ?_)
    refine .ret (fret (res2 rfl rfl rfl) ?_)
    first | (rw [hb_a hc0] at hRR; exact hRR _ _ ⟨_, ⟨(⟨_, [], bu⟩, rs), rfl, rfl, .none, hrs⟩, H2.sub (.cons (.there .here) (.cons (.there .here) (.cons (.there .here) (.cons (.there .here) .nil))))⟩) | (rw [hb_d hc0 hc1 hc2] at hRR; exact hRR _ _ ⟨_, ⟨(⟨_, [], bu⟩, rs), rfl, rfl, .none, hrs⟩, H2.sub (.cons (.there .here) (.cons (.there .here) (.cons (.there .here) (.cons (.there .here) .nil))))⟩) | (rw [hb_b hc0 hc1] at hRR; exact hRR _ _ ⟨_, ⟨(_, rs), rfl, rfl, by assumption, hrs⟩, H2.sub (Ats_app _ (.cons (.there .here) (.cons (.there .here) .nil)))⟩) | (rw [hb_c1 hc0 hc1 hc2] at hRR; exact hRR _ _ ⟨_, ⟨(⟨_, [], bu⟩, rs1), rfl, rfl, .none, hrs1⟩, H2.sub (.cons (.there .here) (.cons (.there .here) (.cons (.there .here) (.cons (.there .here) .nil))))⟩)
  · refine .skip (cj ?_)
    refine .seq ?_
    refine .seq ?_
    refine .plain rfl ?_
    refine .q rfl rfl rfl (val_fieldAddr rfl fa_44_0) ?_
    refine .qs rfl rfl rfl H2 (ld_b rfl ob_3 (.own .here) rfl) ?_
    refine .nil (cj ?_)
    refine .block ?_
    refine .seq ?_
    refine .plain rfl ?_
    refine .q rfl rfl rfl (val_eql rfl rfl rfl) ?_
    refine .q rfl rfl rfl (val_assign rfl) ?_
    refine .nil (cj ?_)
    refine .cond rfl (fun hc1 => ?_) (fun hc1 => ?_)
    · refine .seq ?_
      refine .plain rfl ?_
      refine .q rfl rfl rfl (val_move rfl) ?_
      refine .qs rfl rfl rfl H2 (ld_w rfl ag_44 (.own .here) rfl) ?_
      refine .callx rfl rfl rfl en70 (.cons rfl (.cons rfl .nil)) (goes1_spec c hm _ bg bk bn bu r g t) H2 (.cons (.there .here) (.cons (.there .here) .nil)) (.ro .here (.ro (.there .here) (.ro (.there (.there .here)) .nil))) (fun x3 w3 C3 H3 => ⟨fun _ => trivial, ?_⟩)
      refine .q rfl rfl rfl (val_extract rfl rfl) ?_
      refine .q rfl rfl rfl (val_extract rfl rfl) ?_
      refine .q rfl rfl rfl (val_assign rfl) ?_
      refine .q rfl rfl rfl (val_assign rfl) ?_
      refine .nil (cj ?_)
      refine .ret (fret (res2 rfl rfl rfl) ?_)
      first | (rw [hb_a hc0] at hRR; exact hRR _ _ ⟨_, ⟨(⟨_, [], bu⟩, rs), rfl, rfl, .none, hrs⟩, H3.sub .nil⟩) | (rw [hb_d hc0 hc1 hc2] at hRR; exact hRR _ _ ⟨_, ⟨(⟨_, [], bu⟩, rs), rfl, rfl, .none, hrs⟩, H3.sub .nil⟩) | (rw [hb_b hc0 hc1] at hRR; exact hRR _ _ ⟨_, ⟨(_, rs), rfl, rfl, by assumption, hrs⟩, H3.sub (Ats_app _ (.cons (.there .here) (.cons (.there .here) .nil)))⟩) | (rw [hb_c1 hc0 hc1 hc2] at hRR; exact hRR _ _ ⟨_, ⟨(⟨_, [], bu⟩, rs1), rfl, rfl, .none, hrs1⟩, H3.sub .nil⟩)
    · refine .seq ?_
      refine .plain rfl ?_
      refine .q rfl rfl rfl (val_eql rfl rfl rfl) ?_
      refine .q rfl rfl rfl (val_assign rfl) ?_
      refine .nil (cj ?_)
      refine .cond rfl (fun hc2 => ?_) (fun hc2 => ?_)
      · refine .seq ?_
        refine .plain rfl ?_
        refine .q rfl rfl rfl (val_move rfl) ?_
        refine .q rfl rfl rfl (val_fieldAddr rfl fa_44_2) ?_
        refine .qs rfl rfl rfl H2 (ld_b rfl ob_3 (.own .here) rfl) ?_
        refine .callx rfl rfl rfl en71 (.cons rfl (.cons rfl .nil)) (stops1_spec c hm.num _ bg bn bu r g rs hrs hg t.epoch) H2 (.cons (.there .here) (.cons (.there .here) (.cons (.there .here) (.cons (.there .here) .nil)))) (.ro (.there (.there .here)) .nil) (fun rs1 w4 hrs1 H4 => ⟨fun _ => trivial, ?_⟩)
        refine .q rfl rfl rfl (val_extract rfl rfl) ?_
        refine .q rfl rfl rfl (val_extract rfl rfl) ?_
        refine .q rfl rfl rfl (val_assign rfl) ?_
        refine .q rfl rfl rfl (val_assign rfl) ?_
        refine .nil (cj ?_)
        refine .ret (fret (res2 rfl rfl rfl) ?_)
        first | (rw [hb_a hc0] at hRR; exact hRR _ _ ⟨_, ⟨(⟨_, [], bu⟩, rs), rfl, rfl, .none, hrs⟩, H4.sub (.cons .here (.cons .here (.cons .here (.cons .here .nil))))⟩) | (rw [hb_d hc0 hc1 hc2] at hRR; exact hRR _ _ ⟨_, ⟨(⟨_, [], bu⟩, rs), rfl, rfl, .none, hrs⟩, H4.sub (.cons .here (.cons .here (.cons .here (.cons .here .nil))))⟩) | (rw [hb_b hc0 hc1] at hRR; exact hRR _ _ ⟨_, ⟨(_, rs), rfl, rfl, by assumption, hrs⟩, H4.sub (Ats_app _ (.cons (.there .here) (.cons (.there .here) .nil)))⟩) | (rw [hb_c1 hc0 hc1 hc2] at hRR; exact hRR _ _ ⟨_, ⟨(⟨_, [], bu⟩, rs1), rfl, rfl, .none, hrs1⟩, H4.sub (.cons .here (.cons .here (.cons .here (.cons .here .nil))))⟩)
      · refine .skip (cj ?_)
        refine .seq ?_
        refine .plain rfl ?_
        refine .q rfl rfl rfl (val_assign rfl) ?_
        refine .q rfl rfl rfl (val_assign rfl) ?_
        refine .nil (cj ?_)
        refine .ret (fret (res2 rfl rfl rfl) ?_)
        first | (rw [hb_a hc0] at hRR; exact hRR _ _ ⟨_, ⟨(⟨_, [], bu⟩, rs), rfl, rfl, .none, hrs⟩, H2.sub (.cons (.there .here) (.cons (.there .here) (.cons (.there .here) (.cons (.there .here) .nil))))⟩) | (rw [hb_d hc0 hc1 hc2] at hRR; exact hRR _ _ ⟨_, ⟨(⟨_, [], bu⟩, rs), rfl, rfl, .none, hrs⟩, H2.sub (.cons (.there .here) (.cons (.there .here) (.cons (.there .here) (.cons (.there .here) .nil))))⟩) | (rw [hb_b hc0 hc1] at hRR; exact hRR _ _ ⟨_, ⟨(_, rs), rfl, rfl, by assumption, hrs⟩, H2.sub (Ats_app _ (.cons (.there .here) (.cons (.there .here) .nil)))⟩) | (rw [hb_c1 hc0 hc1 hc2] at hRR; exact hRR _ _ ⟨_, ⟨(⟨_, [], bu⟩, rs1), rfl, rfl, .none, hrs1⟩, H2.sub (.cons (.there .here) (.cons (.there .here) (.cons (.there .here) (.cons (.there .here) .nil))))⟩)
end Go.Proofs.YtmbibkifbehgnaaGreatDoor
/-! ## SkCmb: MY OWN ENGINE, part 13: contracts turned: opened, framed, weakened. -/
namespace Go.Proofs.YtmbibkifbehgnaaGreatDoor.Sk
open Go
set_option linter.unusedVariables false
set_option linter.unusedSimpArgs false
section
variable {P : Program} {f : FuncId} {args : Array Value} {R F Rc Fc Fr : List As} {Post Post' : Ending → List As → Prop}
def pureA (p : Prop) : As where
  on X w := (∀ k, ¬ X k) ∧ p
  loc X w w' h _ := h
  lt X w h k hk := absurd hk (h.1 k)
theorem Own.pure {p : Prop} {F' : List As} (h : At F (pureA p) F') {X : Nat → Prop} {w : World} (hF : Own F X w) : p := by
  obtain ⟨Y, hY, _⟩ := Own.mem h.mem hF
  exact hY.2
theorem Own.nil_end {X : Nat → Prop} {w : World} (h : Own F X w) : Own (F ++ []) X w := by simpa using h
theorem Own.perm {G : List As} (h : Ats F G []) {X : Nat → Prop} {w : World} (hF : Own F X w) : Own G X w := by
  obtain ⟨X1, X2, h1, h2, _, h4⟩ := Own.picks h hF
  have e : X = X1 := funext fun k => propext ((h4 k).trans ⟨fun h => h.resolve_right (h2 k), .inl⟩)
  rw [e]; exact h1
/-- one that owns nothing is put in front -/
theorem Own.consE {g : As} {X : Nat → Prop} {w : World} (hg : g.on (fun _ => False) w) (hF : Own F X w) : Own (g :: F) X w := ⟨fun _ => False, X, hg, hF, fun _ h => h.elim, fun k => by simp⟩
theorem Own.exIn {ι : Type} {fA : ι → List As} {X : Nat → Prop} {w : World} (i : ι) (h : Own (fA i ++ F) X w) : Own (exAs fA :: F) X w := by
  obtain ⟨X1, X2, h1, h2, h3, h4⟩ := Own.split h
  exact ⟨X1, X2, ⟨i, h1⟩, h2, h3, h4⟩
theorem Own.exOut {ι : Type} {fA : ι → List As} {X : Nat → Prop} {w : World} (h : Own (exAs fA :: F) X w) : ∃ i, Own (fA i ++ F) X w := by
  obtain ⟨X1, X2, ⟨i, h1⟩, h2, h3, h4⟩ := h
  have e : X = fun k => X1 k ∨ X2 k := funext fun k => propext (h4 k)
  exact ⟨i, by rw [e]; exact Own.append h1 h2 h3⟩
theorem Spec.openF {ι : Type} {fA : ι → List As} (h : ∀ i, Sk.Spec P f args R (fA i ++ F) Post) : Sk.Spec P f args R (exAs fA :: F) Post := fun w X hF hR => by
  obtain ⟨i, hi⟩ := hF.exOut
  exact h i w X hi hR
theorem Spec.openR {ι : Type} {fA : ι → List As} (h : ∀ i, Sk.Spec P f args (fA i ++ R) F Post) : Sk.Spec P f args (exAs fA :: R) F Post := fun w X hF hR => by
  obtain ⟨Y, ⟨i, hi⟩, hd⟩ := hR _ List.mem_cons_self
  refine h i w X hF fun r hr => ?_
  rcases List.mem_append.1 hr with hr | hr
  · obtain ⟨Z, hZ, hs⟩ := Own.mem hr hi
    exact ⟨Z, hZ, fun k hk => hd k (hs k hk)⟩
  · exact hR r (List.mem_cons_of_mem _ hr)
theorem Spec.of_pure {p : Prop} {F' : List As} (hat : At F (pureA p) F') (h : p → Sk.Spec P f args R F Post) : Sk.Spec P f args R F Post := fun w X hF hR => h (Own.pure hat hF) w X hF hR
theorem Spec.conseq (h : Sk.Spec P f args R F Post) (hp : ∀ e F', Post e F' → ∃ F'', Post' e F'' ∧ ∀ X w, Own F' X w → ∃ X', Own F'' X' w ∧ ∀ k, X' k → X k) : Sk.Spec P f args R F Post' := fun w X hF hR =>
  (h w X hF hR).mono fun e w' ⟨F', X', h1, h2, h3, h4⟩ => by
    obtain ⟨F'', g1, g2⟩ := hp e F' h1
    obtain ⟨X'', g3, g4⟩ := g2 X' w' h2
    exact ⟨F'', X'', g1, g3, h3, fun k hk => h4 k (g4 k hk)⟩
theorem Spec.conseq0 (h : Sk.Spec P f args R F Post) (hp : ∀ e F', Post e F' → Post' e F') : Sk.Spec P f args R F Post' := h.conseq fun e F' h => ⟨F', hp e F' h, fun X w hX => ⟨X, hX, fun _ h => h⟩⟩
theorem Spec.frame (h : Sk.Spec P f args Rc Fc Post) (hF : Ats F Fc Fr) (hR : Sub R Fr Rc) : Sk.Spec P f args R F (fun e F'' => ∃ F', Post e F' ∧ F'' = F' ++ Fr) := fun w X hFw hRw => by
  refine (h.use (St.start hFw hRw) hF hR).mono fun e w' ⟨F', hp, H⟩ => ?_
  obtain ⟨X', h1, h2, h3⟩ := H.done
  exact ⟨_, X', ⟨F', hp, rfl⟩, h1, h2, h3⟩
theorem Spec.ro (h : Sk.Spec P f args Rc [] Post) (hR : Sub R [] Rc) : Sk.Spec P f args R [] Post := (h.frame .nil hR).conseq fun e F' ⟨F1, h1, h2⟩ => ⟨F1, h1, fun X w hX => ⟨X, by rw [h2] at hX; simpa using hX, fun _ h => h⟩⟩
theorem Ats.left : ∀ (A B : List As), Ats (A ++ B) A B
  | [], B => .nil
  | f :: A, B => .cons .here (Ats.left A B)
theorem Ats.app : ∀ (A : List As) {B C D : List As}, Ats B C D → Ats (A ++ B) (A ++ C) D
  | [], _, _, _, h => h
  | f :: A, _, _, _, h => .cons .here (Ats.app A h)
theorem Ats.there {g : As} {F G H : List As} (h : Ats F G H) : Ats (g :: F) G (g :: H) := by
  induction h with
  | nil => exact .nil
  | cons h _ ih => exact .cons (.there h) ih
theorem Ats.skip : ∀ (A : List As) {F G H : List As}, Ats F G H → Ats (A ++ F) G (A ++ H)
  | [], _, _, _, h => h
  | _ :: A, _, _, _, h => (Ats.skip A h).there
theorem Ats.comp {F G H K L : List As} (h : Ats F G H) : Ats H K L → Ats F (G ++ K) L := by
  induction h with
  | nil => exact fun h => h
  | cons h _ ih => exact fun hk => .cons h (ih hk)
theorem Ats.refl_nil (A : List As) : Ats (A ++ []) A [] := by
  rw [List.append_nil]; exact Ats.refl A
theorem Ats.swap (A B : List As) : Ats (A ++ B) (B ++ A) [] := Ats.comp (H := A ++ []) (Ats.skip A (Ats.refl B)) (Ats.refl_nil A)
theorem Sub.nil_all {R F : List As} : Sub R F [] := .nil
theorem Own.sub {G H : List As} (h : Ats F G H) {X : Nat → Prop} {w : World} (hF : Own F X w) : ∃ X', Own G X' w ∧ ∀ k, X' k → X k := by
  obtain ⟨X1, X2, h1, h2, _, h4⟩ := Own.picks h hF
  exact ⟨X1, h1, fun k hk => (h4 k).2 (.inl hk)⟩
end
/-- A branch; behind it the slot is known. -/
theorem CJ.condK {P : Program} {nt : NT} {Q : Exit → Act → World → Prop} {k : L} {w : World} {t : Nat} {b : Bool} {c d : Code} (hl : look k t = some (.bool b)) (ht : b = true → CJ P nt c Q ((t, .bool true) :: k) w) (hf : b = false → CJ P nt d Q ((t, .bool false) :: k) w) : CJ P nt (.cond (.tmp t) c d) Q k w := by
  have key : ∀ (v : Bool), b = v → ∀ a, Kn nt k a → Kn nt ((t, .bool v) :: k) a := by
    rintro v rfl a ha
    refine ⟨ha.size, ha.defers, fun t' u h => ?_⟩
    simp only [look] at h
    split at h
    · rename_i hb
      obtain rfl := Nat.eq_of_beq_eq_true hb
      cases h
      exact ha.known _ _ hl
    · exact ha.known t' u h
  cases hb : b with
  | true => exact CJ.cond_t (by rw [← hb]; exact hl) fun a ha => ht hb a (key true hb a ha)
  | false => exact CJ.cond_f (by rw [← hb]; exact hl) fun a ha => hf hb a (key false hb a ha)
end Go.Proofs.YtmbibkifbehgnaaGreatDoor.Sk
/-! ## K8: A robot as one thing in memory: its contracts (plain Lean, from the walks). -/
namespace Go.Proofs.YtmbibkifbehgnaaGreatDoor
open Go Sk
set_option linter.unusedVariables false
set_option linter.unusedSimpArgs false
structure RX where
  bg : Nat
  bk : Nat
  bn : Nat
  bu : Nat
  rs : { l : List Rn // l.length = 17 }
abbrev robE (c : Cf) (x : RX) : List As := [gfix c x.bg x.bk, kblk x.bk (KF c), blk x.bn (kcs c.unit c.accel c.speed x.rs.1) 147, kinR c.unit c.accel c.speed x.rs.1]
abbrev robL (c : Cf) (br : Nat) (r : Rb) (g : Option Gg) (x : RX) : List As := robF br x.bg x.bn x.bu r g ++ robE c x
/-- a robot -/
def robA (c : Cf) (br : Nat) (r : Rb) (g : Option Gg) : As := exAs (robL c br r g)
theorem robA_in {c : Cf} {br : Nat} {r : Rb} {g : Option Gg} {F : List As} {X : Nat → Prop} {w : World} (x : RX) (h : Own (robL c br r g x ++ F) X w) : Own (robA c br r g :: F) X w := Own.exIn x h
section
variable {c : Cf} {br : Nat} {r : Rb} {g : Option Gg}
theorem epochA_spec : Sk.Spec Tryz.prog 35 #[ptr br] [robA c br r g] [] fun e F' => e = .returned (i64 r.epoch) ∧ F' = [] := by
  refine Spec.openR fun x => ?_
  cases g with
  | none => exact (epoch_spec br x.bg x.bn r none).ro (.ro .here .nil)
  | some u => exact (epoch_spec br x.bg x.bn r _).ro (.ro .here .nil)
theorem poseA_spec : Sk.Spec Tryz.prog 59 #[ptr br] [robA c br r g] [] fun e F' => e = .returned (.agg (encP r.pose).toArray) ∧ F' = [] := by
  refine Spec.openR fun x => ?_
  cases g with
  | none => exact (pose_spec br x.bg x.bn r none).ro (.ro .here .nil)
  | some u => exact (pose_spec br x.bg x.bn r _).ro (.ro .here .nil)
theorem loadA_spec : Sk.Spec Tryz.prog 60 #[ptr br] [robA c br r g] [] fun e F' => e = .returned (i64 r.load) ∧ F' = [] := by
  refine Spec.openR fun x => ?_
  cases g with
  | none => exact (load_spec br x.bg x.bn r none).ro (.ro .here .nil)
  | some u => exact (load_spec br x.bg x.bn r _).ro (.ro .here .nil)
theorem nowA_spec : Sk.Spec Tryz.prog 55 #[ptr br] [robA c br r g] [] fun e F' => e = .returned (.tuple #[.agg (encM (nowM g)).toArray, .bool g.isSome]) ∧ F' = [] := by
  refine Spec.openR fun x => ?_
  cases g with
  | none => exact (now0_spec br x.bg x.bn r).ro (.ro .here .nil)
  | some u => exact (now1_spec br x.bg x.bn x.bu r u).ro (.ro .here (.ro (.there .here) .nil))
theorem tellA_spec : Sk.Spec Tryz.prog 58 #[ptr br] [robA c br r g] [] fun e F' => ∃ b : Nat, e = .returned (.slice (some ⟨b, 0, none⟩) 1 1) ∧ F' = [blk b (encT (tellB r)) 44] ∧ True := by
  refine Spec.openR fun x => ?_
  cases g with
  | none => exact (tell_spec br x.bg x.bn r none).ro (.ro .here .nil)
  | some u => exact (tell_spec br x.bg x.bn r _).ro (.ro .here .nil)
theorem sameA_spec (b : Nat) (c' : Cf) (q : Rw) : Sk.Spec Tryz.prog 48 #[ptr br, ptr b] [robA c br r g, wblk b c' q] [] fun e F' => e = .returned (.bool (sameB r g q)) ∧ F' = [] := by
  refine Spec.openR fun x => ?_
  cases g with
  | none => exact (same0_spec br x.bg x.bn x.bu b c' r q).ro (.ro .here (.ro (.there (.there (.there (.there (.there .here))))) .nil))
  | some u => exact (same1_spec br x.bg x.bn x.bu b c' r u q).ro (.ro .here (.ro (.there .here) (.ro (.there (.there (.there (.there (.there (.there .here)))))) .nil)))
def tickO (r : Rb) : Option Gg → TR
  | none => ⟨mv0, 0, r, none⟩
  | some g => tickB r g
theorem tickA_spec : Sk.Spec Tryz.prog 41 #[ptr br] [] [robA c br r g] fun e F' => e = .returned (.tuple #[.agg (encM (tickO r g).m).toArray, i64 (tickO r g).how]) ∧ F' = [robA c br (tickO r g).r (tickO r g).g] := by
  refine Spec.openF fun x => ?_
  cases g with
  | none =>
    refine ((tick0_spec br x.bg x.bn r).frame (F := robL c br r none x ++ []) (.cons .here .nil) .nil).conseq ?_
    rintro e F' ⟨F1, ⟨rfl, rfl⟩, rfl⟩
    exact ⟨_, ⟨rfl, rfl⟩, fun X w h => ⟨X, robA_in x h, fun _ h => h⟩⟩
  | some u =>
    refine ((tick1_spec br x.bg x.bn x.bu r u).frame (F := robL c br r (some u) x ++ []) (.cons .here (.cons .here .nil)) .nil).conseq ?_
    rintro e F' ⟨F1, ⟨rfl, rfl⟩, rfl⟩
    exact ⟨_, ⟨rfl, rfl⟩, fun X w h => ⟨X, robA_in x (by simpa [robL, tickO] using h), fun _ h => h⟩⟩
def delayO (r : Rb) (g : Option Gg) (n : Int) : Rb := if g.isSome then delayB r n else r
theorem delayA_spec (n : Int) : Sk.Spec Tryz.prog 43 #[ptr br, i64 n] [] [robA c br r g] fun e F' => e = .returned (.tuple #[]) ∧ F' = [robA c br (delayO r g n) g] := by
  refine Spec.openF fun x => ?_
  cases g with
  | none =>
    refine ((delay0_spec br x.bg x.bn r n).frame (F := robL c br r none x ++ []) (.cons .here .nil) .nil).conseq ?_
    rintro e F' ⟨F1, ⟨rfl, rfl⟩, rfl⟩
    exact ⟨_, ⟨rfl, rfl⟩, fun X w h => ⟨X, robA_in x h, fun _ h => h⟩⟩
  | some u =>
    refine ((delay1_spec br x.bg x.bn x.bu r u n).frame (F := robL c br r (some u) x ++ []) (.cons .here .nil) (.own .here .nil)).conseq ?_
    rintro e F' ⟨F1, ⟨rfl, rfl⟩, rfl⟩
    exact ⟨_, ⟨rfl, rfl⟩, fun X w h => ⟨X, robA_in x h, fun _ h => h⟩⟩
theorem carryA_spec (n : Int) : Sk.Spec Tryz.prog 45 #[ptr br, i64 n] [] [robA c br r g] fun e F' => e = .returned (.tuple #[]) ∧ F' = [robA c br { r with load := n } g] := by
  refine Spec.openF fun x => ?_
  cases g with
  | none =>
    refine ((carry_spec br x.bg x.bn r none n).frame (F := robL c br r none x ++ []) (.cons .here .nil) .nil).conseq ?_
    rintro e F' ⟨F1, ⟨rfl, rfl⟩, rfl⟩
    exact ⟨_, ⟨rfl, rfl⟩, fun X w h => ⟨X, robA_in x h, fun _ h => h⟩⟩
  | some u =>
    refine ((carry_spec br x.bg x.bn r _ n).frame (F := robL c br r (some u) x ++ []) (.cons .here .nil) .nil).conseq ?_
    rintro e F' ⟨F1, ⟨rfl, rfl⟩, rfl⟩
    exact ⟨_, ⟨rfl, rfl⟩, fun X w h => ⟨X, robA_in x h, fun _ h => h⟩⟩
/-- What is asked of a move under way. -/
def RunO : Option Gg → Prop
  | none => True
  | some g => RunN g
structure HV where
  v : Value
  fx : List As
theorem hearA_spec (hm : MayOk c) (hg : RunO g) (t : Te) : Sk.Spec Tryz.prog 34 #[ptr br, .agg (encT t).toArray] [stepsA] [robA c br r g] fun e F' => ∃ x : HV, e = .returned (.tuple #[x.v, i64 (hearB c r g t).how]) ∧ F' = robA c br (hearB c r g t).r (hearB c r g t).g :: x.fx ∧ TeV (hearB c r g t).tele x.v x.fx := by
  refine Spec.openF fun x => ?_
  cases g with
  | none =>
    refine ((hear0_spec c hm br x.bg x.bk x.bn r t).frame (F := robL c br r none x ++ []) (.cons .here .nil) (.own .here (.own (.there .here) (.ro .here .nil)))).conseq ?_
    rintro e F' ⟨F1, ⟨y, rfl, rfl, hy⟩, rfl⟩
    refine ⟨_, ⟨⟨y.v, y.fx⟩, rfl, rfl, hy⟩, fun X w h => ⟨X, robA_in { x with bu := y.bu } ?_, fun _ h => h⟩⟩
    refine Own.perm ?_ h
    have h1 := Ats.comp (Ats.skip y.fx (Ats.left (robF br x.bg x.bn y.bu (hearB c r none t).r (hearB c r none t).g) (robE c x))) (Ats.comp (H := y.fx ++ []) (Ats.skip y.fx (Ats.refl (robE c x))) (Ats.refl_nil y.fx))
    simpa [robL] using h1
  | some u =>
    refine ((hear1_spec c hm br x.bg x.bk x.bn x.bu r u x.rs.1 x.rs.2 hg t).frame (F := robL c br r (some u) x ++ []) (.cons .here (.cons .here (.cons (.there (.there .here)) (.cons (.there (.there .here)) .nil)))) (.own .here (.own (.there .here) (.ro .here .nil)))).conseq ?_
    rintro e F' ⟨F1, ⟨y, rfl, rfl, hy, hl⟩, rfl⟩
    refine ⟨_, ⟨⟨y.1.v, y.1.fx⟩, rfl, rfl, hy⟩, fun X w h => ⟨X, robA_in ⟨x.bg, x.bk, x.bn, y.1.bu, ⟨y.2, hl⟩⟩ ?_, fun _ h => h⟩⟩
    refine Own.perm ?_ h
    have hC : Ats (kinC c x.bn y.2 ++ [gfix c x.bg x.bk, kblk x.bk (KF c)]) (robE c ⟨x.bg, x.bk, x.bn, y.1.bu, ⟨y.2, hl⟩⟩) [] := .cons (.there (.there .here)) (.cons (.there (.there .here)) (.cons .here (.cons .here .nil)))
    have h1 := Ats.comp (Ats.skip y.1.fx (Ats.left (robF br x.bg x.bn y.1.bu (hearB c r (some u) t).r (hearB c r (some u) t).g) _)) (Ats.comp (H := y.1.fx ++ []) (Ats.skip y.1.fx hC) (Ats.refl_nil y.1.fx))
    simpa [robL] using h1
end
end Go.Proofs.YtmbibkifbehgnaaGreatDoor
/-! ## V1: THE PLAIN LAW of the robot: the program's and the document's do and tell alike. -/
namespace Go.Proofs.YtmbibkifbehgnaaGreatDoor
open Go Sk
set_option linter.unusedVariables false
set_option linter.unusedSimpArgs false
/-- a run that may still be cut -/
abbrev RunOk (c : Cf) (u : Gg) : Prop := u.move.kind = 1 → u.cut = false → (1 ≤ u.move.n ∧ u.move.n ≤ 16) ∧ inR c u.move.fr.x u.move.fr.y = true ∧ withinB u.move.dir 0 3 = true
structure Rel (c : Cf) (r : Rb) (g : Option Gg) (q : Rw) : Prop where
  i : r.i = q.i
  pose : r.pose = q.pose
  load : r.load = q.load
  epoch : r.epoch = q.epoch
  num : r.num = q.num
  stop : r.stopping = q.stopping
  m : nowM g = q.m
  u : g.isSome = q.under
  und : ∀ u, g = some u → q.left = u.left ∧ q.gone = u.t ∧ q.cut = u.cut ∧ q.wait = r.delay ∧ RunOk c u
  idle : g = none → r.delay = 0
  ep : 0 ≤ q.epoch
section
variable {c c' : Cf} {r : Rb} {g : Option Gg} {q : Rw} {t : Te}
theorem Rel.runO (h : Rel c r g q) : RunO g := by
  cases g with
  | none => trivial
  | some u => exact fun h1 h2 => ((h.und u rfl).2.2.2.2 h1 h2).1
theorem Rel.runW (h : Rel c r g q) : RunW q := by
  intro h1 h2
  cases g with
  | none =>
    have hm := h.m
    rw [← hm] at h1
    simp [nowM, mv0] at h1
  | some u =>
    have hm : u.move = q.m := h.m
    obtain ⟨_, _, h3, _, h4⟩ := h.und u rfl
    rw [← hm]
    exact (h4 (by rw [hm]; exact h1) (by rw [← h3]; exact h2)).1
theorem Rel.tell (h : Rel c r g q) : tellB r = tellW q := by
  unfold tellB tellW
  rw [h.i, h.pose, h.load, h.epoch, h.num]
theorem Rel.same (h : Rel c r g q) : sameB r g q = true := by
  unfold sameB
  simp [h.pose, h.load, h.epoch, h.m, h.u, h.tell]
theorem Rel.new {i : Int} {p : Ps} : Rel c ⟨i, p, 0, 0, 0, false, 0⟩ none (rw0 i p) where
  i := rfl
  pose := rfl
  load := rfl
  epoch := rfl
  num := rfl
  stop := rfl
  m := rfl
  u := rfl
  und := fun u h => by cases h
  idle := fun _ => rfl
  ep := Int.le_refl _
theorem tick_rel (h : Rel c r g q) : (tickO r g).m = (tickW q).m ∧ (tickO r g).how = (tickW q).how ∧ Rel c (tickO r g).r (tickO r g).g (tickW q).r := by
  cases g with
  | none =>
    have hu : q.under = false := h.u.symm
    unfold tickO tickW
    rw [if_pos hu]
    exact ⟨rfl, rfl, h⟩
  | some u =>
    have hu : ¬ q.under = false := by rw [← h.u]; simp
    have hm : u.move = q.m := h.m
    obtain ⟨h1, h2, h3, h4, h5⟩ := h.und u rfl
    show (tickB r u).m = (tickW q).m ∧ (tickB r u).how = (tickW q).how ∧ Rel c (tickB r u).r (tickB r u).g (tickW q).r
    unfold tickB tickW
    rw [if_neg hu, h4, h1, h2]
    by_cases a1 : 0 < r.delay
    · rw [if_pos a1, if_pos a1]
      exact ⟨rfl, rfl, { h with m := h.m, u := h.u, und := (fun v hv => by cases hv; exact ⟨rfl, rfl, h3, rfl, h5⟩), idle := (fun e => by cases e) }⟩
    rw [if_neg a1, if_neg a1]
    by_cases a2 : 0 < w64 (u.left - 1)
    · rw [if_pos a2, if_pos a2]
      exact ⟨rfl, rfl, { h with m := h.m, u := h.u, und := (fun v hv => by cases hv; exact ⟨rfl, rfl, h3, rfl, h5⟩), idle := (fun e => by cases e) }⟩
    rw [if_neg a2, if_neg a2, h.stop]
    by_cases a3 : q.stopping = true
    · rw [if_pos a3, if_pos a3]
      exact ⟨hm, rfl, { i := h.i, pose := by simp [hm], load := h.load, epoch := h.epoch, num := h.num, stop := rfl, m := rfl, u := rfl, und := (fun v hv => by cases hv), idle := (fun _ => rfl), ep := h.ep }⟩
    · rw [if_neg a3, if_neg a3]
      exact ⟨hm, rfl, { i := h.i, pose := by simp [hm], load := h.load, epoch := h.epoch, num := by simp [h.num], stop := rfl, m := rfl, u := rfl, und := (fun v hv => by cases hv), idle := (fun _ => rfl), ep := h.ep }⟩
theorem delay_rel (h : Rel c r g q) (n : Int) : Rel c (delayO r g n) g (delayW q n) := by
  cases g with
  | none =>
    have hu : q.under = false := h.u.symm
    unfold delayO delayW
    rw [if_neg (by simp), if_neg (by simp [hu])]
    exact h
  | some u =>
    have hu : q.under = true := h.u.symm
    obtain ⟨h1, h2, h3, h4, h5⟩ := h.und u rfl
    unfold delayO delayB delayW
    rw [if_pos (by simp), h4]
    by_cases hn : n ≤ 0
    · rw [if_pos hn, if_neg (by omega)]
      exact h
    · rw [if_neg hn, if_pos ⟨hu, by omega⟩]
      exact { h with m := h.m, u := h.u, und := (fun v hv => by cases hv; exact ⟨h1, h2, h3, rfl, h5⟩), idle := (fun e => by cases e) }
theorem carry_rel (h : Rel c r g q) (n : Int) : Rel c { r with load := n } g { q with load := n } := { h with load := rfl, und := h.und, idle := h.idle }
/-- A go-ahead of which the document and the program think alike. -/
def TeOk (t : Te) : Prop := t.kind = 1 → t.move.en ≤ t.move.st → lessI t.move.en t.move.st = 0
theorem legal_runs {m : Mv} (h : legalR c m = true) (hk : m.kind = 1) : (1 ≤ m.n ∧ m.n ≤ 16) ∧ inR c m.fr.x m.fr.y = true ∧ withinB m.dir 0 3 = true := by
  unfold legalR at h
  split at h
  · cases h
  · rename_i hf
    simp only [Bool.not_eq_false] at hf
    try rw [if_pos hk] at h
    simp only [Bool.and_eq_true] at h
    refine ⟨by simpa [withinB] using h.1, ?_, h.2.1⟩
    unfold fitsR openR at hf
    simp only [Bool.and_eq_true] at hf
    exact hf.1.1
theorem go_rel (h : Rel c r g q) (ht : t.move.en ≤ t.move.st → lessI t.move.en t.move.st = 0) : (goB c r g t).tele = (goW c q t).tele ∧ (goB c r g t).how = (goW c q t).how ∧ Rel c r (goB c r g t).g (goW c q t).r := by
  unfold goB goW
  rw [h.epoch, h.tell, h.num, h.pose]
  by_cases h1 : t.epoch < q.epoch
  · rw [if_pos h1, if_pos h1]; exact ⟨rfl, rfl, h⟩
  rw [if_neg h1, if_neg h1]
  by_cases h2 : q.epoch < t.epoch ∨ q.under = true
  · rw [if_pos (show q.epoch < t.epoch ∨ g.isSome = true by rw [h.u]; exact h2), if_pos h2]; exact ⟨rfl, rfl, h⟩
  rw [if_neg (show ¬ (q.epoch < t.epoch ∨ g.isSome = true) by rw [h.u]; exact h2), if_neg h2]
  by_cases h3 : 0 < q.num ∧ t.num = q.num
  · rw [if_pos h3, if_pos ⟨h3.2, h3.1⟩]; exact ⟨rfl, rfl, h⟩
  rw [if_neg h3, if_neg (show ¬ (t.num = q.num ∧ 0 < q.num) from fun e => h3 ⟨e.2, e.1⟩)]
  have hg : g = none := by
    cases g with
    | none => rfl
    | some u => exact absurd (.inr h.u.symm) h2
  by_cases h4 : GoOkW c q t
  · have h5 : t.num = w64 (q.num + 1) ∧ t.move.fr = q.pose ∧ legalR c t.move = true ∧ ¬ t.move.en ≤ t.move.st ∧ lessI t.move.en t.move.st ≠ 0 := ⟨h4.1, h4.2.1, h4.2.2.1, fun e => h4.2.2.2 (ht e), h4.2.2.2⟩
    rw [if_pos h5, if_pos h4]
    refine ⟨rfl, rfl, { h with m := rfl, u := rfl, und := (fun v hv => ?_), idle := (fun e => by cases e) }⟩
    cases hv
    exact ⟨rfl, rfl, rfl, (h.idle hg).symm, fun hk _ => legal_runs h4.2.2.1 hk⟩
  · have h5 : ¬ (t.num = w64 (q.num + 1) ∧ t.move.fr = q.pose ∧ legalR c t.move = true ∧ ¬ t.move.en ≤ t.move.st ∧ lessI t.move.en t.move.st ≠ 0) := fun e => h4 ⟨e.1, e.2.1, e.2.2.1, e.2.2.2.2⟩
    rw [if_neg h5, if_neg h4]
    exact ⟨rfl, rfl, h⟩
theorem cut_rel (hn : NumOk c) {u : Gg} (h : Rel c r (some u) q) : Rel c r (some (cutG c u)) (cutW c q) := by
  have hm : u.move = q.m := h.m
  obtain ⟨h1, h2, h3, h4, h5⟩ := h.und u rfl
  unfold cutG cutW
  by_cases hk : q.m.kind = 1 ∧ q.cut = false
  · rw [if_neg (by rw [hm, ← h3, hk.2]; simp [hk.1]), if_pos hk, h2, hm]
    obtain ⟨g1, g2, g3⟩ := h5 (by rw [hm]; exact hk.1) (by rw [← h3]; exact hk.2)
    rw [hm] at g1 g2 g3
    have hend : shiftR q.m.fr q.m.dir (stopN c.unit c.accel c.speed q.m.n u.t).1 = endW q.m (stopN c.unit c.accel c.speed q.m.n u.t).1 := by
      unfold endW
      by_cases hs : shiftOk q.m.dir (stopN c.unit c.accel c.speed q.m.n u.t).1 = true
      · rw [if_pos hs]
        have h9 := hs
        simp only [shiftOk, withinB, Bool.and_eq_true, decide_eq_true_eq] at h9
        obtain ⟨j, hj⟩ : ∃ j : Nat, (stopN c.unit c.accel c.speed q.m.n u.t).1 = (j : Int) := ⟨_, (Int.toNat_of_nonneg h9.1.1).symm⟩
        rw [hj] at h9 ⊢
        exact shift_eq hn g2 g3 (by omega)
      · rw [if_neg hs]
        unfold shiftR
        rw [if_neg hs]
    exact { h with m := by simp [nowM, hend], u := h.u, und := (fun v hv => by cases hv; exact ⟨rfl, by first | rfl | exact h2, rfl, h4, fun _ e => by cases e⟩), idle := (fun e => by cases e) }
  · rw [if_pos (by
      rw [hm, ← h3]
      rcases Classical.em (q.m.kind = 1) with e | e
      · exact .inr (by simpa using fun e2 => hk ⟨e, e2⟩)
      · exact .inl e), if_neg hk]
    exact h
theorem stop_rel (hn : NumOk c) (h : Rel c r g q) (ep : Int) : (match g with
      | none => (⟨(stopB r ep).tele, (stopB r ep).how, (stopB r ep).r, none⟩ : HeB)
      | some u => ⟨none, 0, (stop1B c r u ep).r, some (stop1B c r u ep).g⟩).tele = (stopW c q ep).tele ∧ (match g with
      | none => (⟨(stopB r ep).tele, (stopB r ep).how, (stopB r ep).r, none⟩ : HeB)
      | some u => ⟨none, 0, (stop1B c r u ep).r, some (stop1B c r u ep).g⟩).how = (stopW c q ep).how ∧ Rel c (match g with
      | none => (⟨(stopB r ep).tele, (stopB r ep).how, (stopB r ep).r, none⟩ : HeB)
      | some u => ⟨none, 0, (stop1B c r u ep).r, some (stop1B c r u ep).g⟩).r (match g with
      | none => (⟨(stopB r ep).tele, (stopB r ep).how, (stopB r ep).r, none⟩ : HeB)
      | some u => ⟨none, 0, (stop1B c r u ep).r, some (stop1B c r u ep).g⟩).g (stopW c q ep).r := by
  have hep := h.ep
  cases g with
  | none =>
    have hu : q.under = false := h.u.symm
    have ht : ∀ e, tellB { r with epoch := e, num := 0 } = tellW { q with epoch := e, num := 0 } := fun e => by unfold tellB tellW; simp [h.i, h.pose, h.load]
    dsimp only
    unfold stopB stopW
    rw [h.epoch, h.tell, h.num]
    by_cases h1 : ep < q.epoch
    · rw [if_pos h1, if_pos h1]; exact ⟨rfl, rfl, h⟩
    rw [if_neg h1, if_neg h1]
    by_cases h2 : q.epoch < ep
    · rw [if_pos h2, if_neg (by omega : ¬ ep = 0), if_neg (by omega : ¬ ep = q.epoch), if_pos hu]
      exact ⟨by rw [ht], rfl, { h with epoch := rfl, num := rfl, und := h.und, idle := h.idle, ep := by show 0 ≤ ep; omega }⟩
    · rw [if_neg h2, if_pos (by omega : ep = q.epoch)]
      by_cases h3 : q.epoch = 0 ∨ q.num ≠ 0
      · rw [if_pos h3, if_neg (fun e => h3.elim (fun e2 => by omega) (fun e2 => e2 e.2.2))]
        exact ⟨rfl, rfl, h⟩
      · rw [if_neg h3, if_pos ⟨by
          have : ¬ q.epoch = 0 := fun e => h3 (.inl e)
          omega, hu, Classical.byContradiction fun e => h3 (.inr e)⟩]
        exact ⟨rfl, rfl, h⟩
  | some u =>
    have hu : q.under = true := h.u.symm
    dsimp only
    unfold stop1B stopW
    rw [h.epoch]
    by_cases h1 : ep < q.epoch
    · rw [if_pos h1, if_neg (by omega)]; exact ⟨rfl, rfl, h⟩
    rw [if_neg h1]
    by_cases h2 : q.epoch < ep
    · rw [if_pos h2, if_neg (by omega), if_neg (by simp [hu])]
      have h' : Rel c { r with epoch := ep, num := 0, stopping := true } (some u) { q with epoch := ep, num := 0, stopping := true } := { h with epoch := rfl, num := rfl, stop := rfl, und := h.und, idle := h.idle, ep := by show 0 ≤ ep; omega }
      exact ⟨rfl, rfl, cut_rel hn h'⟩
    · rw [if_neg h2, if_pos (by omega), if_neg (by simp [hu])]
      exact ⟨rfl, rfl, h⟩
theorem hear_rel (hn : NumOk c) (h : Rel c r g q) (ht : TeOk t) : (hearB c r g t).tele = (hearW c q t).tele ∧ (hearB c r g t).how = (hearW c q t).how ∧ Rel c (hearB c r g t).r (hearB c r g t).g (hearW c q t).r := by
  unfold hearB hearW
  rw [h.i]
  by_cases h1 : t.robot ≠ q.i
  · rw [if_pos h1, if_pos h1]; exact ⟨rfl, rfl, h⟩
  rw [if_neg h1, if_neg h1]
  by_cases h2 : t.kind = 1
  · rw [if_pos h2, if_pos h2]
    exact go_rel h (ht h2)
  rw [if_neg h2, if_neg h2]
  by_cases h3 : t.kind = 2
  · rw [if_pos h3, if_pos h3]
    exact stop_rel hn h t.epoch
  · rw [if_neg h3, if_neg h3]; exact ⟨rfl, rfl, h⟩
theorem hear_sim (hs : SimC c c') : hearB c' r g t = hearB c r g t := by
  have e1 : c'.unit = c.unit := by rw [hs.eq]
  have e2 : c'.accel = c.accel := by rw [hs.eq]
  have e3 : c'.speed = c.speed := by rw [hs.eq]
  have e4 : ∀ u, cutG c' u = cutG c u := fun u => by unfold cutG; rw [e1, e2, e3]
  have e5 : ∀ u, stop1B c' r u t.epoch = stop1B c r u t.epoch := fun u => by unfold stop1B; rw [e4]
  have e6 : goB c' r g t = goB c r g t := by unfold goB; rw [legal_sim hs]
  unfold hearB
  rw [e6]
  cases g with
  | none => rfl
  | some u => simp only [e5]
end
end Go.Proofs.YtmbibkifbehgnaaGreatDoor
/-! ## V2: Walk of law18's do: a call at both robots, which think alike. -/
namespace Go.Proofs.YtmbibkifbehgnaaGreatDoor
open Go Sk
set_option linter.unusedVariables false
set_option linter.unusedSimpArgs false
/-- no telegram, or one -/
structure SV where
  A : Option Addr
  cap : Nat
abbrev teV (o : Option Te) (x : SV) : Value := .slice x.A o.toList.length x.cap
abbrev teA (o : Option Te) (x : SV) : As := arr x.A (o.toList.flatMap encT)
theorem blk_arr {b : Nat} {cs : List Value} {T : TypeId} {X : Nat → Prop} {w : World} (h : (blk b cs T).on X w) : (arr (some ⟨b, 0, none⟩) cs).on X w :=
  .inr ⟨b, 0, rfl, h.1, (Array.getElem?_eq_some_iff.1 h.2).1, fun j u hu => by simp [World.cell?, h.2, hu]⟩
theorem Own.one {f : As} {X : Nat → Prop} {w : World} (h : f.on X w) : Own [f] X w := ⟨X, fun _ => False, h, fun _ h => h, fun _ _ h => h, fun k => by simp⟩
theorem TeV.arr {o : Option Te} {v : Value} {fs : List As} (h : TeV o v fs) : ∃ x : SV, v = teV o x ∧ ∀ X w, Own fs X w → Own [teA o x] X w := by
  cases h with
  | none => exact ⟨⟨Option.none, 0⟩, rfl, fun X w h => Own.one (.inl ⟨rfl, h⟩)⟩
  | some b t => exact ⟨⟨_, 1⟩, rfl, fun X w ⟨X1, X2, h1, h2, _, h4⟩ => Own.one (by
      have e : X = X1 := funext fun k => propext ((h4 k).trans ⟨fun h => h.resolve_right (h2 k), .inl⟩)
      rw [e]
      show (Sk.arr (Option.some ⟨b, 0, Option.none⟩) ([t].flatMap encT)).on X1 w
      simpa using blk_arr h1)⟩
theorem hearA2_spec {c : Cf} {br : Nat} {r : Rb} {g : Option Gg} (hm : MayOk c) (hg : RunO g) (t : Te) : Sk.Spec Tryz.prog 34 #[ptr br, .agg (encT t).toArray] [stepsA] [robA c br r g] fun e F' => ∃ x : SV, e = .returned (.tuple #[teV (hearB c r g t).tele x, i64 (hearB c r g t).how]) ∧ F' = [robA c br (hearB c r g t).r (hearB c r g t).g, teA (hearB c r g t).tele x] ∧ True := by
  refine (hearA_spec hm hg t).conseq ?_
  rintro e F' ⟨y, rfl, rfl, hy⟩
  obtain ⟨x, hx, hown⟩ := hy.arr
  refine ⟨_, ⟨x, by rw [hx], rfl, trivial⟩, fun X w ⟨X1, X2, h1, h2, h3, h4⟩ => ⟨X, ⟨X1, X2, h1, hown X2 w h2, h3, h4⟩, fun _ h => h⟩⟩
theorem hearW2_spec (b : Nat) (c : Cf) (hc : c.Fit) (hnum : NumOk c) (q : Rw) (hg : RunW q) (t : Te) : Sk.Spec Tryz.prog 46 #[ptr b, .agg (encT t).toArray] [cb c] [wblk b c q] fun e F' => ∃ x : SV, e = .returned (.tuple #[teV (hearW c q t).tele x, i64 (hearW c q t).how]) ∧ F' = [wblk b c (hearW c q t).r, teA (hearW c q t).tele x] ∧ True := by
  refine (hearW_spec b c hc hnum q hg t).conseq ?_
  rintro e F' ⟨y, rfl, rfl, hy⟩
  obtain ⟨x, hx, hown⟩ := hy.arr
  refine ⟨_, ⟨x, by rw [hx], rfl, trivial⟩, fun X w h => ⟨X, ?_, fun _ h => h⟩⟩
  obtain ⟨X1, X2, h1, h2, h6, h7⟩ := Own.perm (Ats.swap _ _) h
  exact ⟨X1, X2, h1, hown X2 w h2, h6, h7⟩
structure Op18 where
  kind : Int
  n : Int
  t : Te
abbrev encO (x : Op18) : List Value := i64 x.kind :: i64 x.n :: encT x.t
structure DX where
  r : Rb
  g : Option Gg
  q : Rw
structure DL where
  i : Nat
  r : Rb
  g : Option Gg
  q : Rw
theorem fa_48_0 (b o : Nat) (w : World) : (Instr.fieldAt 48 (.pointer (some ⟨b, o, none⟩)) 0).run Tryz.prog w = .ok (.pointer (some ⟨b, o + 0, none⟩)) w := by kernel_rfl
theorem fa_48_1 (b o : Nat) (w : World) : (Instr.fieldAt 48 (.pointer (some ⟨b, o, none⟩)) 1).run Tryz.prog w = .ok (.pointer (some ⟨b, o + 1, none⟩)) w := by kernel_rfl
theorem fa_48_2 (b o : Nat) (w : World) : (Instr.fieldAt 48 (.pointer (some ⟨b, o, none⟩)) 2).run Tryz.prog w = .ok (.pointer (some ⟨b, o + 2, none⟩)) w := by kernel_rfl
theorem en22 : Enters Tryz.prog 22 := fun args w => by kernel_rfl
theorem en34 : Enters Tryz.prog 34 := fun args w => by kernel_rfl
theorem en41 : Enters Tryz.prog 41 := fun args w => by kernel_rfl
theorem en42 : Enters Tryz.prog 42 := fun args w => by kernel_rfl
theorem en43 : Enters Tryz.prog 43 := fun args w => by kernel_rfl
theorem en44 : Enters Tryz.prog 44 := fun args w => by kernel_rfl
theorem en45 : Enters Tryz.prog 45 := fun args w => by kernel_rfl
theorem en46 : Enters Tryz.prog 46 := fun args w => by kernel_rfl
theorem en48 : Enters Tryz.prog 48 := fun args w => by kernel_rfl
theorem tele_len (o : Option Te) : o.toList.length ≤ 1000000 := by cases o <;> simp
theorem do_spec (c c' : Cf) (hs : SimC c c') (hc : c.Fit) (hm : MayOk c) (hm' : MayOk c') (br b : Nat) (r : Rb) (g : Option Gg) (q : Rw) (hrel : Rel c r g q) (x : Op18) (ht : placeN x.kind 8 < 3 → TeOk x.t) :
    Sk.Spec Tryz.prog 15 #[ptr br, ptr b, .agg (encO x).toArray] [cb c, stepsA] [robA c' br r g, wblk b c q] fun e F' => ∃ y : DX, e = .returned (.bool true) ∧ F' = [robA c' br y.r y.g, wblk b c y.q] ∧ Rel c y.r y.g y.q := by
  have hp8 := placeN_rng (v := x.kind) (n := 8) (by decide)
  have hp9 := placeN_rng (v := x.n) (n := 9) (by decide)
  have hp40 := placeN_rng (v := x.n) (n := 40) (by decide)
  refine Spec.of_code (vs := [_, _, _]) (k0 := [(0, _), (1, _), (2, _)]) 100 Tryz.func15 rfl Tryz.ntmps15 rfl (.cons (.cons (.cons .nil))) fun w X RR hRR H => ?_
  refine .seq ?_
  refine .plain rfl ?_
  refine .box rfl rfl rfl rfl rfl H (fun w1 b1 H1 => ⟨fun _ => trivial, ?_⟩)
  refine .q rfl rfl rfl (val_assign rfl) ?_
  refine .nil (cj ?_)
  refine .seq ?_
  refine .seq ?_
  refine .plain rfl ?_
  refine .q rfl rfl rfl (val_fieldAddr rfl fa_48_0) ?_
  refine .qs rfl rfl rfl H1 (ld_b rfl ob_3 (.own .here) rfl) ?_
  refine .call1 rfl rfl rfl en22 (.cons rfl (.cons rfl .nil)) (place_spec _ _ (by omega)) H1 .nil .nil (fun w2 H2 => ⟨fun _ => trivial, ?_⟩)
  refine .nil (cj ?_)
  refine .block ?_
  refine .seq ?_
  refine .seq ?_
  refine .plain rfl ?_
  refine .q rfl rfl rfl (val_eql rfl rfl rfl) ?_
  refine .q rfl rfl rfl (val_assign rfl) ?_
  refine .nil (cj ?_)
  refine .condK rfl (fun hc0 => ?_) (fun hc0 => ?_)
  · refine .skip (cj ?_)
    refine .cond_t rfl ?_
    refine .seq ?_
    refine .plain rfl ?_
    refine .q rfl rfl rfl (val_assign rfl) ?_
    refine .nil (cj ?_)
    refine .block ?_
    refine .loop (ι := DL) (fun y => [(0, ptr br), (1, ptr b), (5, ptr b1), (7, i64 (y.i : Int))]) (fun y w' => St w w' X [cb c, stepsA] [blk b1 (encO x) 48, robA c' br y.r y.g, wblk b c y.q] ∧ Rel c y.r y.g y.q ∧ (y.i : Int) ≤ 1 + placeN x.n 9) (fun y => 10 - y.i) ⟨0, r, g, q⟩ (by repeat (first | exact Pick.nil | refine Pick.cons rfl ?_)) ⟨H2, hrel, (show ((0 : Nat) : Int) ≤ 1 + placeN x.n 9 by omega)⟩ ?_
    rintro y w5 ⟨H3, hr, hi⟩
    refine .seq ?_
    refine .seq ?_
    refine .plain rfl ?_
    refine .q rfl rfl rfl (val_move rfl) ?_
    refine .q rfl rfl rfl (val_fieldAddr rfl fa_48_1) ?_
    refine .qs rfl rfl rfl H3 (ld_b rfl ob_3 (.own .here) rfl) ?_
    refine .call1 rfl rfl rfl en22 (.cons rfl (.cons rfl .nil)) (place_spec _ _ (by omega)) H3 .nil .nil (fun w4 H4 => ⟨fun _ => trivial, ?_⟩)
    refine .q rfl rfl rfl (val_add rfl rfl (z := 1 + placeN x.n 9) (w64_of (by omega))) ?_
    refine .q rfl rfl rfl (val_lss rfl rfl rfl) ?_
    refine .nil (cj ?_)
    refine .cond rfl (fun hc3 => ?_) (fun hc3 => ?_)
    · have hlt := of_decide_eq_true hc3
      have hT := tick_rel hr
      refine .skip (cj ?_)
      refine .seq ?_
      refine .block ?_
      refine .seq ?_
      refine .plain rfl ?_
      refine .q rfl rfl rfl (val_move rfl) ?_
      refine .call1 rfl rfl rfl en41 (.cons rfl .nil) tickA_spec H4 (.cons (.there .here) .nil) .nil (fun w5 H5 => ⟨fun _ => trivial, ?_⟩)
      refine .q rfl rfl rfl (val_move rfl) ?_
      refine .q rfl rfl rfl (val_extract rfl rfl) ?_
      refine .q rfl rfl rfl (val_extract rfl rfl) ?_
      refine .alloc rfl rfl rfl ze_42 rfl H5 (fun w6 b6 H6 => ⟨fun _ => trivial, ?_⟩)
      refine .store rfl rfl rfl rfl rfl sz_42 rfl H6 .here (.here (.cons (.cons (.cons (.cons (.cons (.cons (.cons (.cons (.cons (.cons (.cons .nil)))))))))))) (fun w7 H7 => ⟨fun _ => trivial, ?_⟩)
      refine .q rfl rfl rfl (val_assign rfl) ?_
      refine .nil (cj ?_)
      refine .seq ?_
      refine .plain rfl ?_
      refine .q rfl rfl rfl (val_move rfl) ?_
      refine .call1 rfl rfl rfl en42 (.cons rfl .nil) (tickW_spec _ c _) H7 (.cons (.there (.there (.there .here))) .nil) .nil (fun w8 H8 => ⟨fun _ => trivial, ?_⟩)
      refine .q rfl rfl rfl (val_move rfl) ?_
      refine .q rfl rfl rfl (val_extract rfl rfl) ?_
      refine .q rfl rfl rfl (val_extract rfl rfl) ?_
      refine .alloc rfl rfl rfl ze_42 rfl H8 (fun w9 b9 H9 => ⟨fun _ => trivial, ?_⟩)
      refine .store rfl rfl rfl rfl rfl sz_42 rfl H9 .here (.here (.cons (.cons (.cons (.cons (.cons (.cons (.cons (.cons (.cons (.cons (.cons .nil)))))))))))) (fun w10 H10 => ⟨fun _ => trivial, ?_⟩)
      refine .q rfl rfl rfl (val_assign rfl) ?_
      refine .nil (cj ?_)
      refine .seq ?_
      refine .plain rfl ?_
      refine .qs rfl rfl rfl H10 (ld_w rfl ag_42 (.own (.there (.there .here))) rfl) ?_
      refine .qs rfl rfl rfl H10 (ld_w rfl ag_42 (.own .here) rfl) ?_
      refine .q rfl rfl rfl (val_binrun rfl rfl seq_42_neq) ?_
      refine .q rfl rfl rfl (val_move rfl) ?_
      refine .case (t := 67) rfl (fun hs67 => ?_) (fun hs67 => ?_)
      · exfalso; have h9 := of_decide_eq_false (nt hs67); exact h9 hT.1
      · refine .q rfl rfl rfl (val_move rfl) ?_
        refine .q rfl rfl rfl (val_move rfl) ?_
        refine .q rfl rfl rfl (val_neq rfl rfl rfl) ?_
        refine .q rfl rfl rfl (val_pick_f rfl rfl) ?_
        refine .nil (cj ?_)
        refine .cond rfl (fun hc4 => ?_) (fun hc4 => ?_)
        · exfalso; rw [hT.2.1] at hc4; simp at hc4
        · refine .skip (cj ?_)
          refine .plain rfl ?_
          refine .q rfl rfl rfl (val_move rfl) ?_
          refine .q rfl rfl rfl (val_add rfl rfl (z := ((y.i + 1 : Nat) : Int)) (w64_of (by omega))) ?_
          refine .q rfl rfl rfl (val_assign rfl) ?_
          refine .nil ?_
          intro act0 hact0; change Exists _
          refine ⟨⟨y.i + 1, _, _, _⟩, Pick.kn (by repeat (first | exact Pick.nil | refine Pick.cons rfl ?_)) hact0, ⟨H10.sub (.cons (.there (.there (.there (.there .here)))) (.cons (.there (.there (.there .here))) (.cons (.there .here) .nil))), hT.2.2, by dsimp only; omega⟩, (by dsimp only; omega)⟩
    · refine .exit (cj ?_)
      refine .seq ?_
      refine .plain rfl ?_
      refine .q rfl rfl rfl (val_move rfl) ?_
      refine .q rfl rfl rfl (val_move rfl) ?_
      first | (refine .call1 rfl rfl rfl en48 (.cons rfl (.cons rfl .nil)) (sameA_spec b c { q with load := x.n }) H4 .nil (.own (.there .here) (.own (.there (.there .here)) .nil)) (fun w11 H11 => ⟨fun _ => trivial, ?_⟩)) | (refine .call1 rfl rfl rfl en48 (.cons rfl (.cons rfl .nil)) (sameA_spec _ c _) H4 .nil (.own (.there .here) (.own (.there (.there .here)) .nil)) (fun w11 H11 => ⟨fun _ => trivial, ?_⟩))
      refine .q rfl rfl rfl (val_assign rfl) ?_
      refine .nil (cj ?_)
      refine .ret (fret (res1 rfl rfl) ?_)
      first | (rw [hr.same]; exact hRR _ _ ⟨_, ⟨⟨_, _, _⟩, rfl, rfl, hr⟩, H11.sub (.cons (.there .here) (.cons (.there .here) .nil))⟩) | (rw [(delay_rel hrel _).same]; exact hRR _ _ ⟨_, ⟨⟨_, _, _⟩, rfl, rfl, delay_rel hrel _⟩, H11.sub (.cons (.there .here) (.cons (.there .here) .nil))⟩) | (rw [(carry_rel hrel x.n).same]; exact hRR _ _ ⟨_, ⟨⟨_, _, _⟩, rfl, rfl, carry_rel hrel x.n⟩, H11.sub (.cons (.there .here) (.cons (.there .here) .nil))⟩) | (rw [hS.same]; exact hRR _ _ ⟨_, ⟨⟨_, _, _⟩, rfl, rfl, hS⟩, H11.sub (.cons (.there .here) (.cons (.there .here) .nil))⟩)
  · refine .seq ?_
    refine .plain rfl ?_
    refine .q rfl rfl rfl (val_eql rfl rfl rfl) ?_
    refine .q rfl rfl rfl (val_assign rfl) ?_
    refine .nil (cj ?_)
    refine .condK rfl (fun hc1 => ?_) (fun hc1 => ?_)
    · refine .skip (cj ?_)
      refine .cond_t rfl ?_
      refine .seq ?_
      refine .plain rfl ?_
      refine .q rfl rfl rfl (val_assign rfl) ?_
      refine .nil (cj ?_)
      refine .block ?_
      refine .loop (ι := DL) (fun y => [(0, ptr br), (1, ptr b), (5, ptr b1), (7, i64 (y.i : Int))]) (fun y w' => St w w' X [cb c, stepsA] [blk b1 (encO x) 48, robA c' br y.r y.g, wblk b c y.q] ∧ Rel c y.r y.g y.q ∧ (y.i : Int) ≤ 1 + placeN x.n 9) (fun y => 10 - y.i) ⟨0, r, g, q⟩ (by repeat (first | exact Pick.nil | refine Pick.cons rfl ?_)) ⟨H2, hrel, (show ((0 : Nat) : Int) ≤ 1 + placeN x.n 9 by omega)⟩ ?_
      rintro y w5 ⟨H12, hr, hi⟩
      refine .seq ?_
      refine .seq ?_
      refine .plain rfl ?_
      refine .q rfl rfl rfl (val_move rfl) ?_
      refine .q rfl rfl rfl (val_fieldAddr rfl fa_48_1) ?_
      refine .qs rfl rfl rfl H12 (ld_b rfl ob_3 (.own .here) rfl) ?_
      refine .call1 rfl rfl rfl en22 (.cons rfl (.cons rfl .nil)) (place_spec _ _ (by omega)) H12 .nil .nil (fun w13 H13 => ⟨fun _ => trivial, ?_⟩)
      refine .q rfl rfl rfl (val_add rfl rfl (z := 1 + placeN x.n 9) (w64_of (by omega))) ?_
      refine .q rfl rfl rfl (val_lss rfl rfl rfl) ?_
      refine .nil (cj ?_)
      refine .cond rfl (fun hc3 => ?_) (fun hc3 => ?_)
      · have hlt := of_decide_eq_true hc3
        have hT := tick_rel hr
        refine .skip (cj ?_)
        refine .seq ?_
        refine .block ?_
        refine .seq ?_
        refine .plain rfl ?_
        refine .q rfl rfl rfl (val_move rfl) ?_
        refine .call1 rfl rfl rfl en41 (.cons rfl .nil) tickA_spec H13 (.cons (.there .here) .nil) .nil (fun w14 H14 => ⟨fun _ => trivial, ?_⟩)
        refine .q rfl rfl rfl (val_move rfl) ?_
        refine .q rfl rfl rfl (val_extract rfl rfl) ?_
        refine .q rfl rfl rfl (val_extract rfl rfl) ?_
        refine .alloc rfl rfl rfl ze_42 rfl H14 (fun w15 b15 H15 => ⟨fun _ => trivial, ?_⟩)
        refine .store rfl rfl rfl rfl rfl sz_42 rfl H15 .here (.here (.cons (.cons (.cons (.cons (.cons (.cons (.cons (.cons (.cons (.cons (.cons .nil)))))))))))) (fun w16 H16 => ⟨fun _ => trivial, ?_⟩)
        refine .q rfl rfl rfl (val_assign rfl) ?_
        refine .nil (cj ?_)
        refine .seq ?_
        refine .plain rfl ?_
        refine .q rfl rfl rfl (val_move rfl) ?_
        refine .call1 rfl rfl rfl en42 (.cons rfl .nil) (tickW_spec _ c _) H16 (.cons (.there (.there (.there .here))) .nil) .nil (fun w17 H17 => ⟨fun _ => trivial, ?_⟩)
        refine .q rfl rfl rfl (val_move rfl) ?_
        refine .q rfl rfl rfl (val_extract rfl rfl) ?_
        refine .q rfl rfl rfl (val_extract rfl rfl) ?_
        refine .alloc rfl rfl rfl ze_42 rfl H17 (fun w18 b18 H18 => ⟨fun _ => trivial, ?_⟩)
        refine .store rfl rfl rfl rfl rfl sz_42 rfl H18 .here (.here (.cons (.cons (.cons (.cons (.cons (.cons (.cons (.cons (.cons (.cons (.cons .nil)))))))))))) (fun w19 H19 => ⟨fun _ => trivial, ?_⟩)
        refine .q rfl rfl rfl (val_assign rfl) ?_
        refine .nil (cj ?_)
        refine .seq ?_
        refine .plain rfl ?_
        refine .qs rfl rfl rfl H19 (ld_w rfl ag_42 (.own (.there (.there .here))) rfl) ?_
        refine .qs rfl rfl rfl H19 (ld_w rfl ag_42 (.own .here) rfl) ?_
        refine .q rfl rfl rfl (val_binrun rfl rfl seq_42_neq) ?_
        refine .q rfl rfl rfl (val_move rfl) ?_
        refine .case (t := 67) rfl (fun hs67 => ?_) (fun hs67 => ?_)
        · exfalso; have h9 := of_decide_eq_false (nt hs67); exact h9 hT.1
        · refine .q rfl rfl rfl (val_move rfl) ?_
          refine .q rfl rfl rfl (val_move rfl) ?_
          refine .q rfl rfl rfl (val_neq rfl rfl rfl) ?_
          refine .q rfl rfl rfl (val_pick_f rfl rfl) ?_
          refine .nil (cj ?_)
          refine .cond rfl (fun hc4 => ?_) (fun hc4 => ?_)
          · exfalso; rw [hT.2.1] at hc4; simp at hc4
          · refine .skip (cj ?_)
            refine .plain rfl ?_
            refine .q rfl rfl rfl (val_move rfl) ?_
            refine .q rfl rfl rfl (val_add rfl rfl (z := ((y.i + 1 : Nat) : Int)) (w64_of (by omega))) ?_
            refine .q rfl rfl rfl (val_assign rfl) ?_
            refine .nil ?_
            intro act0 hact0; change Exists _
            refine ⟨⟨y.i + 1, _, _, _⟩, Pick.kn (by repeat (first | exact Pick.nil | refine Pick.cons rfl ?_)) hact0, ⟨H19.sub (.cons (.there (.there (.there (.there .here)))) (.cons (.there (.there (.there .here))) (.cons (.there .here) .nil))), hT.2.2, by dsimp only; omega⟩, (by dsimp only; omega)⟩
      · refine .exit (cj ?_)
        refine .seq ?_
        refine .plain rfl ?_
        refine .q rfl rfl rfl (val_move rfl) ?_
        refine .q rfl rfl rfl (val_move rfl) ?_
        first | (refine .call1 rfl rfl rfl en48 (.cons rfl (.cons rfl .nil)) (sameA_spec b c { q with load := x.n }) H13 .nil (.own (.there .here) (.own (.there (.there .here)) .nil)) (fun w20 H20 => ⟨fun _ => trivial, ?_⟩)) | (refine .call1 rfl rfl rfl en48 (.cons rfl (.cons rfl .nil)) (sameA_spec _ c _) H13 .nil (.own (.there .here) (.own (.there (.there .here)) .nil)) (fun w20 H20 => ⟨fun _ => trivial, ?_⟩))
        refine .q rfl rfl rfl (val_assign rfl) ?_
        refine .nil (cj ?_)
        refine .ret (fret (res1 rfl rfl) ?_)
        first | (rw [hr.same]; exact hRR _ _ ⟨_, ⟨⟨_, _, _⟩, rfl, rfl, hr⟩, H20.sub (.cons (.there .here) (.cons (.there .here) .nil))⟩) | (rw [(delay_rel hrel _).same]; exact hRR _ _ ⟨_, ⟨⟨_, _, _⟩, rfl, rfl, delay_rel hrel _⟩, H20.sub (.cons (.there .here) (.cons (.there .here) .nil))⟩) | (rw [(carry_rel hrel x.n).same]; exact hRR _ _ ⟨_, ⟨⟨_, _, _⟩, rfl, rfl, carry_rel hrel x.n⟩, H20.sub (.cons (.there .here) (.cons (.there .here) .nil))⟩) | (rw [hS.same]; exact hRR _ _ ⟨_, ⟨⟨_, _, _⟩, rfl, rfl, hS⟩, H20.sub (.cons (.there .here) (.cons (.there .here) .nil))⟩)
    · refine .plain rfl ?_
      refine .q rfl rfl rfl (val_eql rfl rfl rfl) ?_
      refine .q rfl rfl rfl (val_assign rfl) ?_
      refine .nil (cj ?_)
      refine .cond rfl (fun hc2 => ?_) (fun hc2 => ?_)
      · refine .seq ?_
        refine .plain rfl ?_
        refine .q rfl rfl rfl (val_assign rfl) ?_
        refine .nil (cj ?_)
        refine .block ?_
        refine .loop (ι := DL) (fun y => [(0, ptr br), (1, ptr b), (5, ptr b1), (7, i64 (y.i : Int))]) (fun y w' => St w w' X [cb c, stepsA] [blk b1 (encO x) 48, robA c' br y.r y.g, wblk b c y.q] ∧ Rel c y.r y.g y.q ∧ (y.i : Int) ≤ 1 + placeN x.n 9) (fun y => 10 - y.i) ⟨0, r, g, q⟩ (by repeat (first | exact Pick.nil | refine Pick.cons rfl ?_)) ⟨H2, hrel, (show ((0 : Nat) : Int) ≤ 1 + placeN x.n 9 by omega)⟩ ?_
        rintro y w5 ⟨H21, hr, hi⟩
        refine .seq ?_
        refine .seq ?_
        refine .plain rfl ?_
        refine .q rfl rfl rfl (val_move rfl) ?_
        refine .q rfl rfl rfl (val_fieldAddr rfl fa_48_1) ?_
        refine .qs rfl rfl rfl H21 (ld_b rfl ob_3 (.own .here) rfl) ?_
        refine .call1 rfl rfl rfl en22 (.cons rfl (.cons rfl .nil)) (place_spec _ _ (by omega)) H21 .nil .nil (fun w22 H22 => ⟨fun _ => trivial, ?_⟩)
        refine .q rfl rfl rfl (val_add rfl rfl (z := 1 + placeN x.n 9) (w64_of (by omega))) ?_
        refine .q rfl rfl rfl (val_lss rfl rfl rfl) ?_
        refine .nil (cj ?_)
        refine .cond rfl (fun hc3 => ?_) (fun hc3 => ?_)
        · have hlt := of_decide_eq_true hc3
          have hT := tick_rel hr
          refine .skip (cj ?_)
          refine .seq ?_
          refine .block ?_
          refine .seq ?_
          refine .plain rfl ?_
          refine .q rfl rfl rfl (val_move rfl) ?_
          refine .call1 rfl rfl rfl en41 (.cons rfl .nil) tickA_spec H22 (.cons (.there .here) .nil) .nil (fun w23 H23 => ⟨fun _ => trivial, ?_⟩)
          refine .q rfl rfl rfl (val_move rfl) ?_
          refine .q rfl rfl rfl (val_extract rfl rfl) ?_
          refine .q rfl rfl rfl (val_extract rfl rfl) ?_
          refine .alloc rfl rfl rfl ze_42 rfl H23 (fun w24 b24 H24 => ⟨fun _ => trivial, ?_⟩)
          refine .store rfl rfl rfl rfl rfl sz_42 rfl H24 .here (.here (.cons (.cons (.cons (.cons (.cons (.cons (.cons (.cons (.cons (.cons (.cons .nil)))))))))))) (fun w25 H25 => ⟨fun _ => trivial, ?_⟩)
          refine .q rfl rfl rfl (val_assign rfl) ?_
          refine .nil (cj ?_)
          refine .seq ?_
          refine .plain rfl ?_
          refine .q rfl rfl rfl (val_move rfl) ?_
          refine .call1 rfl rfl rfl en42 (.cons rfl .nil) (tickW_spec _ c _) H25 (.cons (.there (.there (.there .here))) .nil) .nil (fun w26 H26 => ⟨fun _ => trivial, ?_⟩)
          refine .q rfl rfl rfl (val_move rfl) ?_
          refine .q rfl rfl rfl (val_extract rfl rfl) ?_
          refine .q rfl rfl rfl (val_extract rfl rfl) ?_
          refine .alloc rfl rfl rfl ze_42 rfl H26 (fun w27 b27 H27 => ⟨fun _ => trivial, ?_⟩)
          refine .store rfl rfl rfl rfl rfl sz_42 rfl H27 .here (.here (.cons (.cons (.cons (.cons (.cons (.cons (.cons (.cons (.cons (.cons (.cons .nil)))))))))))) (fun w28 H28 => ⟨fun _ => trivial, ?_⟩)
          refine .q rfl rfl rfl (val_assign rfl) ?_
          refine .nil (cj ?_)
          refine .seq ?_
          refine .plain rfl ?_
          refine .qs rfl rfl rfl H28 (ld_w rfl ag_42 (.own (.there (.there .here))) rfl) ?_
          refine .qs rfl rfl rfl H28 (ld_w rfl ag_42 (.own .here) rfl) ?_
          refine .q rfl rfl rfl (val_binrun rfl rfl seq_42_neq) ?_
          refine .q rfl rfl rfl (val_move rfl) ?_
          refine .case (t := 67) rfl (fun hs67 => ?_) (fun hs67 => ?_)
          · exfalso; have h9 := of_decide_eq_false (nt hs67); exact h9 hT.1
          · refine .q rfl rfl rfl (val_move rfl) ?_
            refine .q rfl rfl rfl (val_move rfl) ?_
            refine .q rfl rfl rfl (val_neq rfl rfl rfl) ?_
            refine .q rfl rfl rfl (val_pick_f rfl rfl) ?_
            refine .nil (cj ?_)
            refine .cond rfl (fun hc4 => ?_) (fun hc4 => ?_)
            · exfalso; rw [hT.2.1] at hc4; simp at hc4
            · refine .skip (cj ?_)
              refine .plain rfl ?_
              refine .q rfl rfl rfl (val_move rfl) ?_
              refine .q rfl rfl rfl (val_add rfl rfl (z := ((y.i + 1 : Nat) : Int)) (w64_of (by omega))) ?_
              refine .q rfl rfl rfl (val_assign rfl) ?_
              refine .nil ?_
              intro act0 hact0; change Exists _
              refine ⟨⟨y.i + 1, _, _, _⟩, Pick.kn (by repeat (first | exact Pick.nil | refine Pick.cons rfl ?_)) hact0, ⟨H28.sub (.cons (.there (.there (.there (.there .here)))) (.cons (.there (.there (.there .here))) (.cons (.there .here) .nil))), hT.2.2, by dsimp only; omega⟩, (by dsimp only; omega)⟩
        · refine .exit (cj ?_)
          refine .seq ?_
          refine .plain rfl ?_
          refine .q rfl rfl rfl (val_move rfl) ?_
          refine .q rfl rfl rfl (val_move rfl) ?_
          first | (refine .call1 rfl rfl rfl en48 (.cons rfl (.cons rfl .nil)) (sameA_spec b c { q with load := x.n }) H22 .nil (.own (.there .here) (.own (.there (.there .here)) .nil)) (fun w29 H29 => ⟨fun _ => trivial, ?_⟩)) | (refine .call1 rfl rfl rfl en48 (.cons rfl (.cons rfl .nil)) (sameA_spec _ c _) H22 .nil (.own (.there .here) (.own (.there (.there .here)) .nil)) (fun w29 H29 => ⟨fun _ => trivial, ?_⟩))
          refine .q rfl rfl rfl (val_assign rfl) ?_
          refine .nil (cj ?_)
          refine .ret (fret (res1 rfl rfl) ?_)
          first | (rw [hr.same]; exact hRR _ _ ⟨_, ⟨⟨_, _, _⟩, rfl, rfl, hr⟩, H29.sub (.cons (.there .here) (.cons (.there .here) .nil))⟩) | (rw [(delay_rel hrel _).same]; exact hRR _ _ ⟨_, ⟨⟨_, _, _⟩, rfl, rfl, delay_rel hrel _⟩, H29.sub (.cons (.there .here) (.cons (.there .here) .nil))⟩) | (rw [(carry_rel hrel x.n).same]; exact hRR _ _ ⟨_, ⟨⟨_, _, _⟩, rfl, rfl, carry_rel hrel x.n⟩, H29.sub (.cons (.there .here) (.cons (.there .here) .nil))⟩) | (rw [hS.same]; exact hRR _ _ ⟨_, ⟨⟨_, _, _⟩, rfl, rfl, hS⟩, H29.sub (.cons (.there .here) (.cons (.there .here) .nil))⟩)
      · refine .seq ?_
        refine .plain rfl ?_
        refine .q rfl rfl rfl (val_eql rfl rfl rfl) ?_
        refine .q rfl rfl rfl (val_assign rfl) ?_
        refine .nil (cj ?_)
        refine .cond rfl (fun hc5 => ?_) (fun hc5 => ?_)
        · refine .seq ?_
          refine .plain rfl ?_
          refine .q rfl rfl rfl (val_move rfl) ?_
          refine .q rfl rfl rfl (val_fieldAddr rfl fa_48_1) ?_
          refine .qs rfl rfl rfl H2 (ld_b rfl ob_3 (.own .here) rfl) ?_
          refine .call1 rfl rfl rfl en22 (.cons rfl (.cons rfl .nil)) (place_spec _ _ (by omega)) H2 .nil .nil (fun w30 H30 => ⟨fun _ => trivial, ?_⟩)
          refine .q rfl rfl rfl (val_sub rfl rfl (z := placeN x.n 40 - 5) (w64_of (by omega))) ?_
          refine .call1 rfl rfl rfl en43 (.cons rfl (.cons rfl .nil)) (delayA_spec _) H30 (.cons (.there .here) .nil) .nil (fun w31 H31 => ⟨fun _ => trivial, ?_⟩)
          refine .nil (cj ?_)
          refine .plain rfl ?_
          refine .q rfl rfl rfl (val_move rfl) ?_
          refine .q rfl rfl rfl (val_fieldAddr rfl fa_48_1) ?_
          refine .qs rfl rfl rfl H31 (ld_b rfl ob_3 (.own (.there .here)) rfl) ?_
          refine .call1 rfl rfl rfl en22 (.cons rfl (.cons rfl .nil)) (place_spec _ _ (by omega)) H31 .nil .nil (fun w32 H32 => ⟨fun _ => trivial, ?_⟩)
          refine .q rfl rfl rfl (val_sub rfl rfl (z := placeN x.n 40 - 5) (w64_of (by omega))) ?_
          refine .call1 rfl rfl rfl en44 (.cons rfl (.cons rfl .nil)) (delayW_spec _ c _ _) H32 (.cons (.there (.there .here)) .nil) .nil (fun w33 H33 => ⟨fun _ => trivial, ?_⟩)
          refine .nil (cj ?_)
          refine .seq ?_
          refine .plain rfl ?_
          refine .q rfl rfl rfl (val_move rfl) ?_
          refine .q rfl rfl rfl (val_move rfl) ?_
          first | (refine .call1 rfl rfl rfl en48 (.cons rfl (.cons rfl .nil)) (sameA_spec b c { q with load := x.n }) H33 .nil (.own (.there .here) (.own .here .nil)) (fun w34 H34 => ⟨fun _ => trivial, ?_⟩)) | (refine .call1 rfl rfl rfl en48 (.cons rfl (.cons rfl .nil)) (sameA_spec _ c _) H33 .nil (.own (.there .here) (.own .here .nil)) (fun w34 H34 => ⟨fun _ => trivial, ?_⟩))
          refine .q rfl rfl rfl (val_assign rfl) ?_
          refine .nil (cj ?_)
          refine .ret (fret (res1 rfl rfl) ?_)
          first | (rw [hr.same]; exact hRR _ _ ⟨_, ⟨⟨_, _, _⟩, rfl, rfl, hr⟩, H34.sub (.cons (.there .here) (.cons .here .nil))⟩) | (rw [(delay_rel hrel _).same]; exact hRR _ _ ⟨_, ⟨⟨_, _, _⟩, rfl, rfl, delay_rel hrel _⟩, H34.sub (.cons (.there .here) (.cons .here .nil))⟩) | (rw [(carry_rel hrel x.n).same]; exact hRR _ _ ⟨_, ⟨⟨_, _, _⟩, rfl, rfl, carry_rel hrel x.n⟩, H34.sub (.cons (.there .here) (.cons .here .nil))⟩) | (rw [hS.same]; exact hRR _ _ ⟨_, ⟨⟨_, _, _⟩, rfl, rfl, hS⟩, H34.sub (.cons (.there .here) (.cons .here .nil))⟩)
        · refine .seq ?_
          refine .plain rfl ?_
          refine .q rfl rfl rfl (val_eql rfl rfl rfl) ?_
          refine .q rfl rfl rfl (val_assign rfl) ?_
          refine .nil (cj ?_)
          refine .cond rfl (fun hc6 => ?_) (fun hc6 => ?_)
          · refine .seq ?_
            refine .plain rfl ?_
            refine .q rfl rfl rfl (val_move rfl) ?_
            refine .q rfl rfl rfl (val_fieldAddr rfl fa_48_1) ?_
            refine .qs rfl rfl rfl H2 (ld_b rfl ob_3 (.own .here) rfl) ?_
            refine .call1 rfl rfl rfl en45 (.cons rfl (.cons rfl .nil)) (carryA_spec _) H2 (.cons (.there .here) .nil) .nil (fun w35 H35 => ⟨fun _ => trivial, ?_⟩)
            refine .nil (cj ?_)
            refine .plain rfl ?_
            refine .q rfl rfl rfl (val_move rfl) ?_
            refine .q rfl rfl rfl (val_fieldAddr rfl fa_48_1) ?_
            refine .qs rfl rfl rfl H35 (ld_b rfl ob_3 (.own (.there .here)) rfl) ?_
            refine .q rfl rfl rfl (val_nilCheck rfl) ?_
            refine .q rfl rfl rfl (val_fieldAddr rfl fa_50_3) ?_
            refine .store rfl rfl rfl rfl rfl sz_3 rfl H35 (.there (.there .here)) (by repeat constructor) (fun w36 H36 => ⟨fun _ => trivial, ?_⟩)
            refine .nil (cj ?_)
            refine .seq ?_
            refine .plain rfl ?_
            refine .q rfl rfl rfl (val_move rfl) ?_
            refine .q rfl rfl rfl (val_move rfl) ?_
            first | (refine .call1 rfl rfl rfl en48 (.cons rfl (.cons rfl .nil)) (sameA_spec b c { q with load := x.n }) H36 .nil (.own (.there .here) (.own .here .nil)) (fun w37 H37 => ⟨fun _ => trivial, ?_⟩)) | (refine .call1 rfl rfl rfl en48 (.cons rfl (.cons rfl .nil)) (sameA_spec _ c _) H36 .nil (.own (.there .here) (.own .here .nil)) (fun w37 H37 => ⟨fun _ => trivial, ?_⟩))
            refine .q rfl rfl rfl (val_assign rfl) ?_
            refine .nil (cj ?_)
            refine .ret (fret (res1 rfl rfl) ?_)
            first | (rw [hr.same]; exact hRR _ _ ⟨_, ⟨⟨_, _, _⟩, rfl, rfl, hr⟩, H37.sub (.cons (.there .here) (.cons .here .nil))⟩) | (rw [(delay_rel hrel _).same]; exact hRR _ _ ⟨_, ⟨⟨_, _, _⟩, rfl, rfl, delay_rel hrel _⟩, H37.sub (.cons (.there .here) (.cons .here .nil))⟩) | (rw [(carry_rel hrel x.n).same]; exact hRR _ _ ⟨_, ⟨⟨_, _, _⟩, rfl, rfl, carry_rel hrel x.n⟩, H37.sub (.cons (.there .here) (.cons .here .nil))⟩) | (rw [hS.same]; exact hRR _ _ ⟨_, ⟨⟨_, _, _⟩, rfl, rfl, hS⟩, H37.sub (.cons (.there .here) (.cons .here .nil))⟩)
          · refine .seq ?_
            have hH := hear_rel hm.num hrel (ht (by simp at hc0 hc1 hc2 hc5 hc6; omega))
            have hS : Rel c (hearB c' r g x.t).r (hearB c' r g x.t).g (hearW c q x.t).r := by rw [hear_sim hs]; exact hH.2.2
            refine .plain rfl ?_
            refine .q rfl rfl rfl (val_move rfl) ?_
            refine .q rfl rfl rfl (val_fieldAddr rfl fa_48_2) ?_
            refine .qs rfl rfl rfl H2 (ld_blks rfl ag_44 (.own .here) (by repeat constructor)) ?_
            refine .callx rfl rfl rfl en34 (.cons rfl (.cons rfl .nil)) (hearA2_spec hm' hrel.runO _) H2 (.cons (.there .here) .nil) (.ro (.there .here) .nil) (fun y38 w38 C38 H38 => ⟨fun _ => trivial, ?_⟩)
            refine .q rfl rfl rfl (val_move rfl) ?_
            refine .q rfl rfl rfl (val_extract rfl rfl) ?_
            refine .q rfl rfl rfl (val_extract rfl rfl) ?_
            refine .q rfl rfl rfl (val_assign rfl) ?_
            refine .q rfl rfl rfl (val_assign rfl) ?_
            refine .nil (cj ?_)
            refine .seq ?_
            refine .plain rfl ?_
            refine .q rfl rfl rfl (val_move rfl) ?_
            refine .q rfl rfl rfl (val_fieldAddr rfl fa_48_2) ?_
            refine .qs rfl rfl rfl H38 (ld_blks rfl ag_44 (.own (.there (.there .here))) (by repeat constructor)) ?_
            refine .callx rfl rfl rfl en46 (.cons rfl (.cons rfl .nil)) (hearW2_spec _ c hc hm.num _ hrel.runW _) H38 (.cons (.there (.there (.there .here))) .nil) (.ro .here .nil) (fun y39 w39 C39 H39 => ⟨fun _ => trivial, ?_⟩)
            refine .q rfl rfl rfl (val_move rfl) ?_
            refine .q rfl rfl rfl (val_extract rfl rfl) ?_
            refine .q rfl rfl rfl (val_extract rfl rfl) ?_
            refine .q rfl rfl rfl (val_assign rfl) ?_
            refine .q rfl rfl rfl (val_assign rfl) ?_
            refine .nil (cj ?_)
            refine .seq ?_
            refine .plain rfl ?_
            refine .q rfl rfl rfl (val_move rfl) ?_
            refine .q rfl rfl rfl (val_move rfl) ?_
            refine .call1 rfl rfl rfl en47 (.cons rfl (.cons rfl .nil)) (sameTeles_spec _ _ _ _ (hearB c' r g x.t).tele.toList (hearW c q x.t).tele.toList (tele_len _) (tele_len _)) H39 .nil (.own (.there (.there (.there .here))) (.own (.there .here) .nil)) (fun w40 H40 => ⟨fun _ => trivial, ?_⟩)
            refine .q rfl rfl rfl (val_not rfl rfl) ?_
            refine .q rfl rfl rfl (val_move rfl) ?_
            refine .case (t := 37) rfl (fun hs37 => ?_) (fun hs37 => ?_)
            · exfalso; have h9 := of_decide_eq_false (nt hs37); rw [hear_sim hs] at h9; exact h9 (congrArg Option.toList hH.1)
            · refine .q rfl rfl rfl (val_move rfl) ?_
              refine .q rfl rfl rfl (val_move rfl) ?_
              refine .q rfl rfl rfl (val_neq rfl rfl rfl) ?_
              refine .q rfl rfl rfl (val_pick_f rfl rfl) ?_
              refine .nil (cj ?_)
              refine .cond rfl (fun hc7 => ?_) (fun hc7 => ?_)
              · exfalso; rw [hear_sim hs, hH.2.1] at hc7; simp at hc7
              · refine .skip (cj ?_)
                refine .seq ?_
                refine .plain rfl ?_
                refine .q rfl rfl rfl (val_move rfl) ?_
                refine .q rfl rfl rfl (val_move rfl) ?_
                first | (refine .call1 rfl rfl rfl en48 (.cons rfl (.cons rfl .nil)) (sameA_spec b c { q with load := x.n }) H40 .nil (.own (.there (.there .here)) (.own .here .nil)) (fun w41 H41 => ⟨fun _ => trivial, ?_⟩)) | (refine .call1 rfl rfl rfl en48 (.cons rfl (.cons rfl .nil)) (sameA_spec _ c _) H40 .nil (.own (.there (.there .here)) (.own .here .nil)) (fun w41 H41 => ⟨fun _ => trivial, ?_⟩))
                refine .q rfl rfl rfl (val_assign rfl) ?_
                refine .nil (cj ?_)
                refine .ret (fret (res1 rfl rfl) ?_)
                first | (rw [hr.same]; exact hRR _ _ ⟨_, ⟨⟨_, _, _⟩, rfl, rfl, hr⟩, H41.sub (.cons (.there (.there .here)) (.cons .here .nil))⟩) | (rw [(delay_rel hrel _).same]; exact hRR _ _ ⟨_, ⟨⟨_, _, _⟩, rfl, rfl, delay_rel hrel _⟩, H41.sub (.cons (.there (.there .here)) (.cons .here .nil))⟩) | (rw [(carry_rel hrel x.n).same]; exact hRR _ _ ⟨_, ⟨⟨_, _, _⟩, rfl, rfl, carry_rel hrel x.n⟩, H41.sub (.cons (.there (.there .here)) (.cons .here .nil))⟩) | (rw [hS.same]; exact hRR _ _ ⟨_, ⟨⟨_, _, _⟩, rfl, rfl, hS⟩, H41.sub (.cons (.there (.there .here)) (.cons .here .nil))⟩)
end Go.Proofs.YtmbibkifbehgnaaGreatDoor
/-! ## V3: A new robot as one thing; walks of law18's conf and awake. -/
namespace Go.Proofs.YtmbibkifbehgnaaGreatDoor
open Go Sk
set_option linter.unusedVariables false
set_option linter.unusedSimpArgs false
theorem kin0_kcs (u a s : Int) : kin0 u a s = kcs u a s (List.replicate 17 none) := rfl
theorem kinR_new {u a v : Int} {w : World} : (kinR u a v (List.replicate 17 none)).on (fun _ => False) w := ⟨fun j A len cap h => absurd (List.mem_of_getElem? h) (fun h1 => by rw [List.mem_replicate] at h1; cases h1.2), fun k (h : False) => h.elim⟩
theorem robotNewA_spec (c : Cf) (hc : c.Fit) (hm : MayOk c) (i : Nat) (p : Ps) (hp : c.robots[i]? = some p) : Sk.Spec Tryz.prog 11 #[.agg (encCf c).toArray, i64 (i : Int)] [cb c, cp c, cr c, cs c, binsA c, stepsA] []
    fun e F' => ∃ br : Nat, e = .returned (.tuple #[ptr br, i64 0]) ∧ F' = [robA c br ⟨i, p, 0, 0, 0, false, 0⟩ none] ∧ True := by
  refine (robotNew_spec c hc hm i p hp).conseq ?_
  rintro e F' ⟨x, rfl, rfl, _⟩
  refine ⟨_, ⟨x.br, rfl, rfl, trivial⟩, fun X w h => ⟨X, robA_in ⟨x.bg, x.bk, x.bn, 0, ⟨List.replicate 17 none, by simp⟩⟩ ?_, fun _ h => h⟩⟩
  rw [kin0_kcs] at h
  exact Own.perm (.cons (.there .here) (.cons (.there .here) (.cons (.there .here) (.cons (.there .here) (.cons .here .nil))))) (Own.consE (kinR_new (u := c.unit) (a := c.accel) (v := c.speed)) h)
/-- law18's config -/
def cf18 (b : Nat) : Cf := ⟨4, 1, 1, none, 0, [], none, 0, [], some ⟨b, 0, none⟩, 1, [ps0], none, 0, [], 10, 2, 4, 2, 3, 1, 1, 1, false⟩
theorem cf18_fit (b : Nat) : (cf18 b).Fit := ⟨Nat.zero_le _, Nat.zero_le _, (show 1 ≤ maxLen by decide), Nat.zero_le _, fun x hx => (by cases hx), fun _ => ⟨rfl, rfl⟩, fun _ => ⟨rfl, rfl⟩, fun h => (by cases h), fun _ => ⟨rfl, rfl⟩⟩
theorem cf18_may (b : Nat) : MayOk (cf18 b) where
  num := ⟨by simp [cf18], by simp [cf18], by simp [cf18], by simp [cf18], by simp [cf18], by simp [cf18], by simp [cf18], by simp [cf18], by simp [cf18], by simp [cf18], by simp [cf18]⟩
  bl := Nat.zero_le _
  pl := Nat.zero_le _
  rl := (show 1 ≤ 8 by decide)
  blocked := fun i x h => by simp [cf18] at h
  ports := fun i x h => by simp [cf18] at h
  robots := fun i p h => by
    have h1 := List.mem_of_getElem? h
    rw [show (cf18 b).robots = [ps0] from rfl, List.mem_singleton] at h1
    subst h1; rfl
  cells := fun i x h => by
    have h1 := List.mem_of_getElem? h
    have e : (cf18 b).robots.flatMap cellsL = [⟨0, 0⟩, ⟨1, 0⟩] := rfl
    rw [e] at h1 ⊢
    rcases (by simpa using h1 : x = ⟨0, 0⟩ ∨ x = ⟨1, 0⟩) with rfl | rfl <;> decide
  bins := ⟨fun i s h => by simp [cf18] at h, fun i k s t _ h => by simp [cf18] at h, by simp [cf18], fun i x h => by simp [cf18] at h, fun i k x y _ h => by simp [cf18] at h⟩
theorem bs_40_1_0 (x0_0_0_ : Int) (x0_0_1_ : Int) (x0_1_ : Bool) : Tryz.prog.builtSlice 40 1 [(0, .agg (List.toArray [.int .i64 x0_0_0_, .int .i64 x0_0_1_, .bool x0_1_]))] = some (List.toArray [.int .i64 x0_0_0_, .int .i64 x0_0_1_, .bool x0_1_]) := by kernel_rfl
theorem mk_26_0_1_2_7_8_9_10_11_12_13_14_5 (x0_ : Int) (x1_ : Int) (x2_ : Int) (x7_ : Int) (x8_ : Int) (x9_ : Int) (x10_ : Int) (x11_ : Int) (x12_ : Int) (x13_ : Int) (x14_ : Int) (x5_A : Option Addr) (x5_n : Nat) (x5_c : Nat) : Tryz.prog.built 26 [(0, .int .i64 x0_), (1, .int .i64 x1_), (2, .int .i64 x2_), (7, .int .i64 x7_), (8, .int .i64 x8_), (9, .int .i64 x9_), (10, .int .i64 x10_), (11, .int .i64 x11_), (12, .int .i64 x12_), (13, .int .i64 x13_), (14, .int .i64 x14_), (5, .slice x5_A x5_n x5_c)] = some (List.toArray [.int .i64 x0_, .int .i64 x1_, .int .i64 x2_, .slice none 0 0, .slice none 0 0, .slice x5_A x5_n x5_c, .slice none 0 0, .int .i64 x7_, .int .i64 x8_, .int .i64 x9_, .int .i64 x10_, .int .i64 x11_, .int .i64 x12_, .int .i64 x13_, .int .i64 x14_, .bool false]) := by kernel_rfl
theorem conf18_spec : Sk.Spec Tryz.prog 33 #[] [] [] fun e F' => ∃ b : Nat, e = .returned (.agg (encCf (cf18 b)).toArray) ∧ F' = [blk b (encP ps0) 40] ∧ True := by
  refine Spec.of_code (vs := []) (k0 := []) 4 Tryz.func33 rfl Tryz.ntmps33 rfl .nil fun w X RR hRR H => ?_
  refine .seq ?_
  refine .plain rfl ?_
  refine .alloc rfl rfl rfl ze_26 rfl H (fun w1 b1 H1 => ⟨fun _ => trivial, ?_⟩)
  refine .nil (cj ?_)
  refine .seq ?_
  refine .plain rfl ?_
  refine .q rfl rfl rfl (val_mk .nil mk_40_) ?_
  refine .lit rfl rfl rfl Tryz.underlying23 (.cons rfl .nil) (bs_40_1_0 _ _ _) H1 (fun w2 b2 H2 => ⟨fun _ => trivial, ?_⟩)
  refine .q rfl rfl rfl (val_mk (.cons rfl (.cons rfl (.cons rfl (.cons rfl (.cons rfl (.cons rfl (.cons rfl (.cons rfl (.cons rfl (.cons rfl (.cons rfl (.cons rfl .nil)))))))))))) (mk_26_0_1_2_7_8_9_10_11_12_13_14_5 _ _ _ _ _ _ _ _ _ _ _ _ _ _)) ?_
  refine .store rfl rfl rfl rfl rfl sz_26 rfl H2 (.there .here) (by repeat constructor) (fun w3 H3 => ⟨fun _ => trivial, ?_⟩)
  refine .nil (cj ?_)
  refine .ret (fret (resc rfl rfl (lds_w ag_26 (.own .here) rfl H3)) ?_)
  exact hRR _ _ ⟨_, ⟨_, rfl, rfl, trivial⟩, H3.sub (.cons (.there .here) .nil)⟩
end Go.Proofs.YtmbibkifbehgnaaGreatDoor
/-! ## V4: Walk of law18's awake. -/
namespace Go.Proofs.YtmbibkifbehgnaaGreatDoor
open Go Sk
set_option linter.unusedVariables false
set_option linter.unusedSimpArgs false
theorem ro0 {w0 w : World} {M : Nat → Prop} {R F : List As} (f : As) (hf : f.on (fun _ => False) w) (H : St w0 w M R F) : St w0 w M (f :: R) F := by
  obtain ⟨⟨X, h1, h2, h3⟩, h4⟩ := H
  refine ⟨⟨X, h1, fun r hr => ?_, h3⟩, h4⟩
  rcases List.mem_cons.1 hr with rfl | hr
  · exact ⟨_, hf, fun _ h => h.elim⟩
  · exact h2 r hr
theorem arr_none {w : World} : (arr none []).on (fun _ => False) w := .inl ⟨rfl, fun _ h => h⟩
theorem bins_none {c : Cf} (h : c.stacks = []) {w : World} : (binsA c).on (fun _ => False) w := ⟨fun s hs => absurd hs (by rw [h]; simp), fun k (h : False) => h.elim⟩
theorem cf18_ro {b : Nat} {w0 w : World} {M : Nat → Prop} {R F F' : List As} (H : St w0 w M R F) (hat : At F (blk b (encP ps0) 40) F') :
    St w0 w M (binsA (cf18 b) :: cs (cf18 b) :: cp (cf18 b) :: cb (cf18 b) :: cr (cf18 b) :: R) F' := by
  have H1 : St w0 w M (cr (cf18 b) :: R) F' := H.blkArr hat
  have H2 : St w0 w M (cb (cf18 b) :: cr (cf18 b) :: R) F' := ro0 _ arr_none H1
  have H3 : St w0 w M (cp (cf18 b) :: cb (cf18 b) :: cr (cf18 b) :: R) F' := ro0 _ arr_none H2
  have H4 : St w0 w M (cs (cf18 b) :: cp (cf18 b) :: cb (cf18 b) :: cr (cf18 b) :: R) F' := ro0 _ arr_none H3
  exact ro0 _ (bins_none rfl) H4
def rb18 (e : Int) : Rb := ⟨0, ps0, 0, e, 0, false, 0⟩
def ta18 : Te := ⟨2, 0, 1, 0, mv0, ps0, 0⟩
def tb18 : Te := ⟨1, 0, 0, 1, mv0, ps0, 0⟩
theorem hb18a (b : Nat) : hearB (cf18 b) (rb18 0) none ta18 = ⟨some ⟨4, 0, 1, 0, mv0, ps0, 0⟩, 3, rb18 1, none⟩ := rfl
theorem hb18b (b : Nat) : hearB (cf18 b) (rb18 1) none tb18 = ⟨none, 2, rb18 1, none⟩ := rfl
theorem hear18a (b br : Nat) : Sk.Spec Tryz.prog 34 #[ptr br, .agg (encT ta18).toArray] [stepsA] [robA (cf18 b) br (rb18 0) none] fun e F' => ∃ x : SV, e = .returned (.tuple #[.slice x.A 1 x.cap, i64 3]) ∧ F' = [robA (cf18 b) br (rb18 1) none, arr x.A ([(⟨4, 0, 1, 0, mv0, ps0, 0⟩ : Te)].flatMap encT)] ∧ True := by
  have h := hearA2_spec (br := br) (r := rb18 0) (g := none) (cf18_may b) trivial ta18
  rw [hb18a] at h
  exact h
theorem hear18b (b br : Nat) : Sk.Spec Tryz.prog 34 #[ptr br, .agg (encT tb18).toArray] [stepsA] [robA (cf18 b) br (rb18 1) none] fun e F' => ∃ x : SV, e = .returned (.tuple #[.slice x.A 0 x.cap, i64 2]) ∧ F' = [robA (cf18 b) br (rb18 1) none, arr x.A (([] : List Te).flatMap encT)] ∧ True := by
  have h := hearA2_spec (br := br) (r := rb18 1) (g := none) (cf18_may b) trivial tb18
  rw [hb18b] at h
  exact h
theorem en11 : Enters Tryz.prog 11 := fun args w => by kernel_rfl
theorem en33 : Enters Tryz.prog 33 := fun args w => by kernel_rfl
theorem mk_44_0_2 (x0_ : Int) (x2_ : Int) : Tryz.prog.built 44 [(0, .int .i64 x0_), (2, .int .i64 x2_)] = some (List.toArray [.int .i64 x0_, .int .i64 0, .int .i64 x2_, .int .i64 0, .int .i64 0, .int .i64 0, .int .i64 0, .int .i64 0, .int .i64 0, .bool false, .int .i64 0, .int .i64 0, .bool false, .int .i64 0, .int .i64 0, .int .i64 0, .int .i64 0, .bool false, .int .i64 0]) := by kernel_rfl
theorem mk_44_0_3 (x0_ : Int) (x3_ : Int) : Tryz.prog.built 44 [(0, .int .i64 x0_), (3, .int .i64 x3_)] = some (List.toArray [.int .i64 x0_, .int .i64 0, .int .i64 0, .int .i64 x3_, .int .i64 0, .int .i64 0, .int .i64 0, .int .i64 0, .int .i64 0, .bool false, .int .i64 0, .int .i64 0, .bool false, .int .i64 0, .int .i64 0, .int .i64 0, .int .i64 0, .bool false, .int .i64 0]) := by kernel_rfl
theorem awake18_spec : Sk.Spec Tryz.prog 10 #[] [stepsA] [] fun e F' => e = .returned (.bool true) ∧ F' = [] := by
  refine Spec.of_code (vs := []) (k0 := []) 53 Tryz.func10 rfl Tryz.ntmps10 rfl .nil fun w X RR hRR H => ?_
  refine .seq ?_
  refine .plain rfl ?_
  refine .q rfl rfl rfl (val_assign rfl) ?_
  refine .nil (cj ?_)
  refine .seq ?_
  refine .plain rfl ?_
  refine .callx rfl rfl rfl en33 .nil conf18_spec H .nil .nil (fun b1 w1 C1 H1 => ⟨fun _ => trivial, ?_⟩)
  have HA2 := cf18_ro H1 .here
  refine .callx rfl rfl rfl en11 (.cons rfl (.cons rfl .nil)) (robotNewA_spec (cf18 _) (cf18_fit _) (cf18_may _) 0 ps0 rfl) HA2 .nil (.ro (.there (.there (.there .here))) (.ro (.there (.there .here)) (.ro (.there (.there (.there (.there .here)))) (.ro (.there .here) (.ro .here (.ro (.there (.there (.there (.there (.there .here))))) .nil)))))) (fun br2 w2 C2 H2 => ⟨fun _ => trivial, ?_⟩)
  refine .q rfl rfl rfl (val_move rfl) ?_
  refine .q rfl rfl rfl (val_extract rfl rfl) ?_
  refine .q rfl rfl rfl (val_extract rfl rfl) ?_
  refine .q rfl rfl rfl (val_assign rfl) ?_
  refine .q rfl rfl rfl (val_assign rfl) ?_
  refine .nil (cj ?_)
  refine .seq ?_
  refine .seq ?_
  refine .plain rfl ?_
  refine .q rfl rfl rfl (val_move rfl) ?_
  refine .q rfl rfl rfl (val_neq rfl rfl rfl) ?_
  refine .q rfl rfl rfl (val_move rfl) ?_
  refine .case (t := 14) rfl (fun hs14 => ?_) (fun hs14 => ?_)
  · exfalso; cases hs14
  · refine .q rfl rfl rfl (val_move rfl) ?_
    refine .q rfl rfl rfl (val_ptr_eq_nil Tryz.underlying30 rfl rfl rfl) ?_
    refine .q rfl rfl rfl (val_pick_f rfl rfl) ?_
    refine .nil (cj ?_)
    refine .cond_f rfl ?_
    refine .skip (cj ?_)
    refine .seq ?_
    refine .plain rfl ?_
    refine .q rfl rfl rfl (val_move rfl) ?_
    refine .q rfl rfl rfl (val_mk (.cons rfl (.cons rfl .nil)) (mk_44_0_2 _ _)) ?_
    refine .callx rfl rfl rfl en34 (.cons rfl (.cons rfl .nil)) (hear18a _ _) H2 (.cons .here .nil) (.ro (.there (.there (.there (.there (.there .here))))) .nil) (fun y3 w3 C3 H3 => ⟨fun _ => trivial, ?_⟩)
    refine .q rfl rfl rfl (val_move rfl) ?_
    refine .q rfl rfl rfl (val_extract rfl rfl) ?_
    refine .q rfl rfl rfl (val_extract rfl rfl) ?_
    refine .q rfl rfl rfl (val_assign rfl) ?_
    refine .q rfl rfl rfl (val_assign rfl) ?_
    refine .nil (cj ?_)
    refine .seq ?_
    refine .plain rfl ?_
    refine .q rfl rfl rfl (val_move rfl) ?_
    refine .q rfl rfl rfl (val_mk (.cons rfl (.cons rfl .nil)) (mk_44_0_3 _ _)) ?_
    refine .callx rfl rfl rfl en34 (.cons rfl (.cons rfl .nil)) (hear18b _ _) H3 (.cons .here .nil) (.ro (.there (.there (.there (.there (.there .here))))) .nil) (fun y4 w4 C4 H4 => ⟨fun _ => trivial, ?_⟩)
    refine .q rfl rfl rfl (val_move rfl) ?_
    refine .q rfl rfl rfl (val_extract rfl rfl) ?_
    refine .q rfl rfl rfl (val_extract rfl rfl) ?_
    refine .q rfl rfl rfl (val_assign rfl) ?_
    refine .q rfl rfl rfl (val_assign rfl) ?_
    refine .nil (cj ?_)
    refine .seq ?_
    refine .plain rfl ?_
    refine .q rfl rfl rfl (val_move rfl) ?_
    refine .q rfl rfl rfl (val_len Tryz.underlying70 rfl) ?_
    refine .q rfl rfl rfl (val_eql rfl rfl rfl) ?_
    refine .q rfl rfl rfl (val_move rfl) ?_
    refine .case (t := 33) rfl (fun hs33 => ?_) (fun hs33 => ?_)
    · refine .q rfl rfl rfl (val_move rfl) ?_
      obtain ⟨b9, o9, hA9⟩ := Has.base (.own (.there (.there .here))) H4 (by simp)
      refine .q rfl rfl rfl (val_ix el_70 hA9 rfl rfl (i := 0) rfl (by decide)) ?_
      refine .q rfl rfl rfl (val_fieldAddr rfl fa_44_0) ?_
      refine .qs rfl rfl rfl H4 (ld_el rfl ob_3 (.add .base) hA9 (.own (.there (.there .here))) encT_len (by first | assumption | rfl) rfl) ?_
      refine .q rfl rfl rfl (val_eql rfl rfl rfl) ?_
      refine .q rfl rfl rfl (val_pick_t rfl rfl) ?_
      refine .q rfl rfl rfl (val_move rfl) ?_
      refine .case (t := 40) rfl (fun hs40 => ?_) (fun hs40 => ?_)
      · refine .q rfl rfl rfl (val_move rfl) ?_
        refine .q rfl rfl rfl (val_eql rfl rfl rfl) ?_
        refine .q rfl rfl rfl (val_pick_t rfl rfl) ?_
        refine .q rfl rfl rfl (val_move rfl) ?_
        refine .case (t := 44) rfl (fun hs44 => ?_) (fun hs44 => ?_)
        · refine .q rfl rfl rfl (val_move rfl) ?_
          refine .q rfl rfl rfl (val_eql rfl rfl rfl) ?_
          refine .q rfl rfl rfl (val_pick_t rfl rfl) ?_
          refine .q rfl rfl rfl (val_move rfl) ?_
          refine .case (t := 48) rfl (fun hs48 => ?_) (fun hs48 => ?_)
          · refine .q rfl rfl rfl (val_move rfl) ?_
            refine .call1 rfl rfl rfl en35 (.cons rfl .nil) epochA_spec H4 .nil (.own .here .nil) (fun w5 H5 => ⟨fun _ => trivial, ?_⟩)
            refine .q rfl rfl rfl (val_eql rfl rfl rfl) ?_
            refine .q rfl rfl rfl (val_pick_t rfl rfl) ?_
            refine .q rfl rfl rfl (val_assign rfl) ?_
            refine .nil (cj ?_)
            refine .ret (fret (res1 rfl rfl) ?_)
            refine hRR _ _ ⟨_, ⟨?_, rfl⟩, (H5.rest (.ro (.there (.there (.there (.there (.there .here))))) .nil)).sub .nil⟩
            rfl
          · exfalso; cases hs48
        · exfalso; cases hs44
      · exfalso; cases hs40
    · exfalso; cases hs33
end Go.Proofs.YtmbibkifbehgnaaGreatDoor
/-! ## V5: Walk of law18's gos. -/
namespace Go.Proofs.YtmbibkifbehgnaaGreatDoor
open Go Sk
set_option linter.unusedVariables false
set_option linter.unusedSimpArgs false
theorem runs_ok {c : Cf} {p : Ps} {d : Int} : ∀ (f n : Nat) (m : Mv), m ∈ runsR c p d f n → legalR c m = true ∧ m.kind = 1
  | 0, _, m, h => by cases h
  | f + 1, n, m, h => by
    unfold runsR at h
    split at h
    · rename_i hl
      rcases List.mem_cons.1 h with rfl | h
      · exact ⟨hl, rfl⟩
      · exact runs_ok f (n + 1) m h
    · cases h
theorem moves_ok {c : Cf} {p : Ps} {m : Mv} (h : m ∈ movesR c p) : legalR c m = true ∧ (m.kind = 1 ∨ m.kind = 2) := by
  unfold movesR at h
  split at h
  · rcases List.mem_append.1 h with h | h
    · obtain ⟨d, _, h⟩ := List.mem_flatMap.1 h
      have := runs_ok _ _ _ h
      exact ⟨this.1, .inl this.2⟩
    · split at h
      · rename_i hl
        obtain rfl := List.mem_singleton.1 h
        exact ⟨hl, .inr rfl⟩
      · cases h
  · cases h
theorem moves_len {c : Cf} {p : Ps} : (movesR c p).length ≤ 65 := by
  unfold movesR
  split
  · have h : ∀ (k : Nat), ((List.range k).flatMap fun (d : Nat) => runsR c p (d : Int) 16 1).length ≤ 16 * k := by
      intro k
      induction k with
      | zero => simp
      | succ k ih =>
        rw [range_snoc, List.length_append]
        have := runs_len (c := c) (p := p) (d := (k : Int)) 16 1
        omega
    have h4 := h 4
    rw [List.length_append]
    split <;> simp only [List.length_singleton, List.length_nil] <;> omega
  · simp
theorem lasts_rng {c : Cf} (hn : NumOk c) {m : Mv} (hk : m.kind = 1 ∨ m.kind = 2) (hm : m.kind = 1 → 1 ≤ m.n ∧ m.n ≤ 16) : 1 ≤ lasts c m ∧ lasts c m ≤ 16000 := by
  have hu := hn.unit
  have ht := hn.turn
  unfold lasts
  rcases hk with hk | hk
  · rw [if_pos hk]
    have h1 := prof_pos (a := c.accel) (v := c.speed) hu.1 (hm hk).1
    have h2 := prof_len (a := c.accel) (v := c.speed) hu (hm hk)
    omega
  · rw [if_neg (by omega), if_pos hk]
    omega
theorem en39 : Enters Tryz.prog 39 := fun args w => by kernel_rfl
theorem en40 : Enters Tryz.prog 40 := fun args w => by kernel_rfl
theorem el_94  : elB Tryz.prog 94 11 = true := by kernel_rfl
theorem mk_42_0_3_4_6 (x0_ : Int) (x3_0_0_ : Int) (x3_0_1_ : Int) (x3_1_ : Bool) (x4_0_0_ : Int) (x4_0_1_ : Int) (x4_1_ : Bool) (x6_ : Int) : Tryz.prog.built 42 [(0, .int .i64 x0_), (3, .agg (List.toArray [.int .i64 x3_0_0_, .int .i64 x3_0_1_, .bool x3_1_])), (4, .agg (List.toArray [.int .i64 x4_0_0_, .int .i64 x4_0_1_, .bool x4_1_])), (6, .int .i64 x6_)] = some (List.toArray [.int .i64 x0_, .int .i64 0, .int .i64 0, .int .i64 x3_0_0_, .int .i64 x3_0_1_, .bool x3_1_, .int .i64 x4_0_0_, .int .i64 x4_0_1_, .bool x4_1_, .int .i64 0, .int .i64 x6_]) := by kernel_rfl
theorem sz_44  : (Tryz.prog.info? 44).map (·.size) = some 19 := by kernel_rfl
theorem ze_44  : (Tryz.prog.info? 44).bind (·.zero) = some (.agg (List.toArray [.int .i64 0, .int .i64 0, .int .i64 0, .int .i64 0, .int .i64 0, .int .i64 0, .int .i64 0, .int .i64 0, .int .i64 0, .bool false, .int .i64 0, .int .i64 0, .bool false, .int .i64 0, .int .i64 0, .int .i64 0, .int .i64 0, .bool false, .int .i64 0])) := by kernel_rfl
theorem gos_spec (c : Cf) (hc : c.Fit) (hnum : NumOk c) (b : Nat) (q : Rw) (n late : Int) : Sk.Spec Tryz.prog 14 #[.agg (encCf c).toArray, ptr b, i64 n, i64 late] [cb c, wblk b c q] [] fun e F' => ∃ t : Te, e = .returned (.agg (encT t).toArray) ∧ F' = [] ∧ TeOk t := by
  have hlen := moves_len (c := c) (p := q.pose)
  have hho := hnum.hoist
  refine Spec.of_code (vs := [_, _, _, _]) (k0 := [(0, _), (1, _), (2, _), (3, _)]) 70 Tryz.func14 rfl Tryz.ntmps14 rfl (.cons (.cons (.cons (.cons .nil)))) fun w X RR hRR H => ?_
  refine .seq ?_
  refine .plain rfl ?_
  refine .box rfl rfl rfl rfl rfl H (fun w1 b1 H1 => ⟨fun _ => trivial, ?_⟩)
  refine .alloc rfl rfl rfl ze_44 rfl H1 (fun w2 b2 H2 => ⟨fun _ => trivial, ?_⟩)
  refine .nil (cj ?_)
  refine .seq ?_
  refine .drawS 7 (.cons (0, true) (.cons (1, true) (.cons (2, true) (.cons (3, true) (.cons (4, true) (.cons (5, false) (.cons (6, true) .nil))))))) mo (by kernel_rfl) H2 (fun _ _ _ _ _ h => h) (fun w3 H3 => ?_)
  refine .ps rfl rfl rfl rfl (ld_w rfl ag_26 (.own (.there .here)) rfl) ?_
  refine .p rfl rfl rfl (val_move rfl) ?_
  refine .p rfl rfl rfl (val_nilCheck rfl) ?_
  refine .p rfl rfl rfl (val_fieldAddr rfl fa_50_2) ?_
  refine .ps rfl rfl rfl rfl (ld_blks rfl ag_40 (.ro (.there .here)) (by repeat constructor)) ?_
  refine .callx rfl rfl rfl en39 (.cons rfl (.cons rfl .nil)) (movesR_spec c hc q.pose) H3 .nil (.ro .here .nil) (fun v4 w4 C4 H4 => ⟨fun _ => (H4.sub (.cons (.there .here) (.cons (.there .here) .nil))), ?_⟩)
  refine .p rfl rfl rfl (val_assign rfl) ?_
  refine .nil (cj ?_)
  refine .seq ?_
  obtain ⟨A9, cap9, hv9, hn9, H5⟩ := St.rowArr H4 .here
  rw [hv9]
  refine .drawS 15 (.cons (0, true) (.cons (1, true) (.cons (2, true) (.cons (3, true) (.cons (4, true) (.cons (5, true) (.cons (6, true) (.cons (7, true) (.cons (8, true) (.cons (9, true) (.cons (10, true) (.cons (11, true) (.cons (12, true) (.cons (13, true) (.cons (14, false) (.cons (15, false) .nil)))))))))))))))) mo (by kernel_rfl) H5 (fun _ _ _ _ _ h => h) (fun w6 H6 => ?_)
  refine .p rfl rfl rfl (val_move rfl) ?_
  refine .p rfl rfl rfl (val_nilCheck rfl) ?_
  refine .p rfl rfl rfl (val_fieldAddr rfl fa_50_1) ?_
  refine .ps rfl rfl rfl rfl (ld_b rfl ob_3 (.ro (.there (.there .here))) rfl) ?_
  refine .p rfl rfl rfl (val_move rfl) ?_
  refine .p rfl rfl rfl (val_nilCheck rfl) ?_
  refine .p rfl rfl rfl (val_fieldAddr rfl fa_50_4) ?_
  refine .ps rfl rfl rfl rfl (ld_b rfl ob_3 (.ro (.there (.there .here))) rfl) ?_
  refine .p rfl rfl rfl (val_move rfl) ?_
  refine .p rfl rfl rfl (val_nilCheck rfl) ?_
  refine .p rfl rfl rfl (val_fieldAddr rfl fa_50_5) ?_
  refine .ps rfl rfl rfl rfl (ld_b rfl ob_3 (.ro (.there (.there .here))) rfl) ?_
  refine .p rfl rfl rfl (val_add rfl rfl rfl) ?_
  refine .p rfl rfl rfl (val_mk (.cons rfl (.cons rfl (.cons rfl (.cons rfl .nil)))) (mk_44_0_1_2_3 _ _ _ _)) ?_
  refine .alloc rfl rfl rfl ze_44 rfl H6 (fun w7 b7 H7 => ⟨fun _ => (H7.sub (.cons (.there .here) (.cons (.there .here) .nil))), ?_⟩)
  refine .store rfl rfl rfl rfl rfl sz_44 rfl H7 .here (by repeat constructor) (fun w8 H8 => ⟨fun h => absurd h (by decide), ?_⟩)
  refine .nil (cj ?_)
  refine .seq ?_
  refine .seq ?_
  refine .plain rfl ?_
  refine .q rfl rfl rfl (val_move rfl) ?_
  refine .q rfl rfl rfl (val_len Tryz.underlying94 rfl) ?_
  refine .q rfl rfl rfl (val_eql rfl rfl rfl) ?_
  refine .nil (cj ?_)
  refine .cond rfl (fun hc0 => ?_) (fun hc0 => ?_)
  · refine .seq ?_
    refine .drawS 12 (.cons (0, true) (.cons (1, true) (.cons (2, true) (.cons (3, true) (.cons (4, true) (.cons (5, true) (.cons (6, true) (.cons (7, true) (.cons (8, true) (.cons (9, true) (.cons (10, true) (.cons (11, true) (.cons (12, false) .nil))))))))))))) mo (by kernel_rfl) H8 (fun _ _ _ _ _ h => h) (fun w9 H9 => ?_)
    refine .p rfl rfl rfl (val_move rfl) ?_
    refine .p rfl rfl rfl (val_nilCheck rfl) ?_
    refine .p rfl rfl rfl (val_fieldAddr rfl fa_50_2) ?_
    refine .ps rfl rfl rfl rfl (ld_blks rfl ag_40 (.ro (.there (.there .here))) (by repeat constructor)) ?_
    refine .p rfl rfl rfl (val_move rfl) ?_
    refine .p rfl rfl rfl (val_nilCheck rfl) ?_
    refine .p rfl rfl rfl (val_fieldAddr rfl fa_50_2) ?_
    refine .ps rfl rfl rfl rfl (ld_blks rfl ag_40 (.ro (.there (.there .here))) (by repeat constructor)) ?_
    refine .p rfl rfl rfl (val_fieldAddr rfl fa_26_11) ?_
    refine .ps rfl rfl rfl rfl (ld_b rfl ob_3 (.own (.there (.there .here))) rfl) ?_
    refine .p rfl rfl rfl (val_mk (.cons rfl (.cons rfl (.cons rfl (.cons rfl .nil)))) (mk_42_0_3_4_6 _ _ _ _ _ _ _ _)) ?_
    refine .p rfl rfl rfl (val_fieldAddr rfl fa_44_4) ?_
    refine .store rfl rfl rfl rfl rfl sz_42 rfl H9 .here (by repeat constructor) (fun w10 H10 => ⟨fun h => absurd h (by decide), ?_⟩)
    refine .nil (cj ?_)
    refine .seq ?_
    refine .plain rfl ?_
    refine .qs rfl rfl rfl H10 (ld_w rfl ag_44 (.own .here) rfl) ?_
    refine .store rfl rfl rfl rfl rfl sz_44 rfl H10 (.there .here) (by repeat constructor) (fun w11 H11 => ⟨fun _ => trivial, ?_⟩)
    refine .nil (cj ?_)
    refine .ret (fret (resc rfl rfl (lds_w ag_44 (.own .here) rfl H11)) ?_)
    first | exact hRR _ _ ⟨_, ⟨⟨1, q.i, q.epoch, w64 (q.num + 1), ⟨3, 0, 0, q.pose, q.pose, 0, c.hoist⟩, ps0, 0⟩, rfl, rfl, fun _ h => absurd h (by dsimp only; omega)⟩, (H11.rest (.ro (.there .here) (.ro (.there (.there .here)) .nil))).sub .nil⟩ | exact hRR _ _ ⟨_, ⟨⟨1, q.i, q.epoch, w64 (q.num + 1), { m9 with st := placeN late 1000, en := placeN late 1000 + lasts c { m9 with st := placeN late 1000 } }, ps0, 0⟩, rfl, rfl, fun _ h => absurd h (by dsimp only; omega)⟩, (H11.rest (.ro (.there .here) (.ro (.there (.there .here)) .nil))).sub .nil⟩
  · have hpl : (0 : Int) < ((movesR c q.pose).length : Int) ∧ ((movesR c q.pose).length : Int) ≤ 1000000000 := by simp only [beq_eq_false_iff_ne, ne_eq] at hc0; omega
    have hpr := placeN_rng (v := n) hpl.1
    obtain ⟨k9, hk9⟩ : ∃ k : Nat, placeN n ((movesR c q.pose).length : Int) = (k : Int) := ⟨_, (Int.toNat_of_nonneg hpr.1).symm⟩
    have hkl : k9 < (movesR c q.pose).length := by omega
    obtain ⟨m9, hm9⟩ : ∃ m, (movesR c q.pose)[k9]? = some m := ⟨_, List.getElem?_eq_getElem hkl⟩
    obtain ⟨b9, o9, hB⟩ := Has.base (.ro .here) H8 (nil_of_flat encM_len (by decide) hkl)
    have hmk : legalR c m9 = true ∧ (m9.kind = 1 ∨ m9.kind = 2) ∧ (m9.kind = 1 → 1 ≤ m9.n ∧ m9.n ≤ 16) := by
      have h9 := moves_ok (List.mem_of_getElem? hm9)
      exact ⟨h9.1, h9.2, fun hk => (legal_runs h9.1 hk).1⟩
    have hla := lasts_rng hnum (m := { m9 with st := placeN late 1000 }) hmk.2.1 hmk.2.2
    have hpt := placeN_rng (v := late) (n := 1000) (by decide)
    have hw9 : w64 (placeN late 1000 + lasts c { m9 with st := placeN late 1000 }) = placeN late 1000 + lasts c { m9 with st := placeN late 1000 } := w64_of (by omega)
    refine .skip (cj ?_)
    refine .seq ?_
    refine .plain rfl ?_
    refine .q rfl rfl rfl (val_move rfl) ?_
    refine .q rfl rfl rfl (val_move rfl) ?_
    refine .q rfl rfl rfl (val_move rfl) ?_
    refine .q rfl rfl rfl (val_len Tryz.underlying94 rfl) ?_
    refine .call1 rfl rfl rfl en22 (.cons rfl (.cons rfl .nil)) (place_spec n _ hpl) H8 .nil .nil (fun w12 H12 => ⟨fun _ => trivial, ?_⟩)
    refine .q rfl rfl rfl (val_ix el_94 hB rfl rfl hk9 hkl) ?_
    refine .qs rfl rfl rfl H12 (ld_ela rfl ag_42 .base hB (.ro .here) encM_len (by first | assumption | rfl)) ?_
    refine .q rfl rfl rfl (val_fieldAddr rfl fa_44_4) ?_
    refine .store rfl rfl rfl rfl rfl sz_42 rfl H12 .here (.skip (.skip (.skip (.skip (.here (.cons (.cons (.cons (.cons (.cons (.cons (.cons (.cons (.cons (.cons (.cons .nil)))))))))))))))) (fun w13 H13 => ⟨fun _ => trivial, ?_⟩)
    refine .nil (cj ?_)
    refine .seq ?_
    refine .plain rfl ?_
    refine .q rfl rfl rfl (val_move rfl) ?_
    refine .call1 rfl rfl rfl en22 (.cons rfl (.cons rfl .nil)) (place_spec _ _ (by omega)) H13 .nil .nil (fun w14 H14 => ⟨fun _ => trivial, ?_⟩)
    refine .q rfl rfl rfl (val_fieldAddr rfl fa_44_4) ?_
    refine .q rfl rfl rfl (val_fieldAddr rfl fa_42_5) ?_
    refine .store rfl rfl rfl rfl rfl sz_3 rfl H14 .here (by repeat constructor) (fun w15 H15 => ⟨fun _ => trivial, ?_⟩)
    refine .nil (cj ?_)
    refine .seq ?_
    refine .drawS 8 (.cons (0, true) (.cons (1, true) (.cons (2, true) (.cons (3, true) (.cons (4, true) (.cons (5, true) (.cons (6, false) (.cons (7, true) (.cons (8, true) (.cons (9, true) (.cons (10, false) .nil))))))))))) mo (by kernel_rfl) H15 (fun _ _ _ _ _ h => h) (fun w16 H16 => ?_)
    refine .p rfl rfl rfl (val_fieldAddr rfl fa_44_4) ?_
    refine .p rfl rfl rfl (val_fieldAddr rfl fa_42_5) ?_
    refine .ps rfl rfl rfl rfl (ld_b rfl ob_3 (.own .here) rfl) ?_
    refine .ps rfl rfl rfl rfl (ld_w rfl ag_26 (.own (.there (.there .here))) rfl) ?_
    refine .p rfl rfl rfl (val_fieldAddr rfl fa_44_4) ?_
    refine .ps rfl rfl rfl rfl (ld_blks rfl ag_42 (.own .here) (by repeat constructor)) ?_
    refine .call1 rfl rfl rfl en40 (.cons rfl (.cons rfl .nil)) (lastsR_spec c hnum { m9 with st := placeN late 1000 } hmk.2.2) H16 .nil .nil (fun w17 H17 => ⟨fun _ => H17, ?_⟩)
    refine .p rfl rfl rfl (val_add rfl rfl hw9) ?_
    refine .p rfl rfl rfl (val_fieldAddr rfl fa_44_4) ?_
    refine .p rfl rfl rfl (val_fieldAddr rfl fa_42_6) ?_
    refine .store rfl rfl rfl rfl rfl sz_3 rfl H17 .here (by repeat constructor) (fun w18 H18 => ⟨fun h => absurd h (by decide), ?_⟩)
    refine .nil (cj ?_)
    refine .seq ?_
    refine .plain rfl ?_
    refine .qs rfl rfl rfl H18 (ld_w rfl ag_44 (.own .here) rfl) ?_
    refine .store rfl rfl rfl rfl rfl sz_44 rfl H18 (.there .here) (by repeat constructor) (fun w19 H19 => ⟨fun _ => trivial, ?_⟩)
    refine .nil (cj ?_)
    refine .ret (fret (resc rfl rfl (lds_w ag_44 (.own .here) rfl H19)) ?_)
    first | exact hRR _ _ ⟨_, ⟨⟨1, q.i, q.epoch, w64 (q.num + 1), ⟨3, 0, 0, q.pose, q.pose, 0, c.hoist⟩, ps0, 0⟩, rfl, rfl, fun _ h => absurd h (by dsimp only; omega)⟩, (H19.rest (.ro (.there .here) (.ro (.there (.there .here)) .nil))).sub .nil⟩ | exact hRR _ _ ⟨_, ⟨⟨1, q.i, q.epoch, w64 (q.num + 1), { m9 with st := placeN late 1000, en := placeN late 1000 + lasts c { m9 with st := placeN late 1000 } }, ps0, 0⟩, rfl, rfl, fun _ h => absurd h (by dsimp only; omega)⟩, (H19.rest (.ro (.there .here) (.ro (.there (.there .here)) .nil))).sub .nil⟩
end Go.Proofs.YtmbibkifbehgnaaGreatDoor
