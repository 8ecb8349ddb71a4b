/-
  My walks and plain laws, part 4 of 5, joined by a program of my own: N5, N6, N7, N8, N9, K6, Q16, K7, SkCmb, K8, SkStar, D1, D2, D3, D4, D5, V1, V2, V3, V4, D6.
-/
import Derived.Test.YtmbibkifbehgnaaGreatDoorZ3
namespace Go.Proofs.YtmbibkifbehgnaaGreatDoor
open Go Sk
set_option linter.unusedVariables false
set_option linter.unusedSimpArgs false
theorem fa_142_1 (b o : Nat) (w : World) : (Instr.fieldAt 142 (.pointer (some ⟨b, o, none⟩)) 1).run Tryz.prog w = .ok (.pointer (some ⟨b, o + 0, none⟩)) w := by kernel_rfl
theorem fa_142_2 (b o : Nat) (w : World) : (Instr.fieldAt 142 (.pointer (some ⟨b, o, none⟩)) 2).run Tryz.prog w = .ok (.pointer (some ⟨b, o + 1, none⟩)) w := by kernel_rfl
theorem en162 : Enters Tryz.prog 162 := fun args w => by kernel_rfl
theorem en163 : Enters Tryz.prog 163 := fun args w => by kernel_rfl
theorem en164 : Enters Tryz.prog 164 := fun args w => by kernel_rfl
theorem en166 : Enters Tryz.prog 166 := fun args w => by kernel_rfl
theorem en167 : Enters Tryz.prog 167 := fun args w => by kernel_rfl
theorem en168 : Enters Tryz.prog 168 := fun args w => by kernel_rfl
theorem set_at {α : Type} {l : List α} {i : Nat} {x y : α} (h : l[i]? = some x) : (l.set i y)[i]? = some y := by simp [lt_of_some h]
theorem set_ne {α : Type} {l : List α} {i j : Nat} {x y : α} (hij : i ≠ j) (h : l[j]? = some x) : (l.set i y)[j]? = some x := by rw [List.getElem?_set_ne hij]; exact h
abbrev kset (cs : List Value) (o : Nat) (v : Value) : List Value := (((cs.set (o + 1) (.int .i32 1)).set (o + 3) v).set o (.int .u32 1)).set (o + 1) (.int .i32 0)
abbrev ksF (bn o : Nat) (cs : List Value) (l : List Int) (v : Value) : List As := [row v 3 1 l.length (l.flatMap encI), blk bn (kset cs o v) 147]
section
variable (bk b2 br bn o : Nat) (cs : List Value) (u a vm n : Int) (hu : 1 ≤ u ∧ u ≤ 1000) (ha : 1 ≤ a ∧ a ≤ 1000) (hv : 1 ≤ vm ∧ vm ≤ 1000) (hn : 1 ≤ n ∧ n ≤ 16) (ho : 3 ≤ o)
    (h0 : cs[0]? = some (i64 u)) (h1 : cs[1]? = some (i64 a)) (h2 : cs[2]? = some (i64 vm)) (hp : cs[o + 3]? = some (.slice none 0 0)) (hd : cs[o]? = some (.int .u32 0)) (hl : cs[o + 1]? = some (.int .i32 0))
include hu ha hv hn ho h0 h1 h2 hp hd hl
theorem doSlow_spec : Sk.Spec Tryz.prog 164 #[.pointer (some ⟨bn, o, none⟩), .func (.func 162) #[] #[ptr bk, ptr b2, ptr br]] [blk bk [ptr bn] 87, blk b2 [i64 n] 3, blk br [.pointer (some ⟨bn, o, none⟩)] 224] [blk bn cs 147]
      fun e F' => ∃ v, e = .returned (.tuple #[]) ∧ F' = ksF bn o cs (prof u a vm n) v ∧ True := by
  have hd1 : (cs.set (o + 1) (.int .i32 1))[o]? = some (.int .u32 0) := set_ne (by omega) hd
  have hl1 : (cs.set (o + 1) (.int .i32 1))[o + 1]? = some (.int .i32 1) := set_at hl
  have g0 : (cs.set (o + 1) (.int .i32 1))[0]? = some (i64 u) := set_ne (by omega) h0
  have g1 : (cs.set (o + 1) (.int .i32 1))[1]? = some (i64 a) := set_ne (by omega) h1
  have g2 : (cs.set (o + 1) (.int .i32 1))[2]? = some (i64 vm) := set_ne (by omega) h2
  have gp : (cs.set (o + 1) (.int .i32 1))[o + 3]? = some (.slice none 0 0) := set_ne (by omega) hp
  have hd2 : ∀ v, ((cs.set (o + 1) (.int .i32 1)).set (o + 3) v)[o]? = some (.int .u32 0) := fun v => set_ne (by omega) hd1
  have hl3 : ∀ v, (((cs.set (o + 1) (.int .i32 1)).set (o + 3) v).set o (.int .u32 1))[o + 1]? = some (.int .i32 1) := fun v => set_ne (by omega) (set_ne (by omega) hl1)
  refine Spec.of_codeM (vs := [_, _]) (k0 := [(0, _), (1, _)]) 21 Tryz.func164 rfl Tryz.ntmps164 rfl (.cons (.cons .nil)) fun w X RR hRR H => ?_
  refine .seq ?_
  refine .plain rfl ?_
  refine .q rfl rfl rfl (val_move rfl) ?_
  refine .q rfl rfl rfl (val_nilCheck rfl) ?_
  refine .q rfl rfl rfl (val_fieldAddr rfl fa_142_2) ?_
  refine .call1 rfl rfl rfl en166 (.cons rfl .nil) (mlock_spec bn (o + 1) cs 147 hl) H (.cons .here .nil) .nil (fun w1 H1 => ⟨fun _ => trivial, ?_⟩)
  refine .nil (cj ?_)
  refine .seq ?_
  refine .plain rfl ?_
  refine .q rfl rfl rfl (val_move rfl) ?_
  refine .q rfl rfl rfl (val_nilCheck rfl) ?_
  refine .q rfl rfl rfl (val_fieldAddr rfl fa_142_2) ?_
  refine .defer rfl rfl (.cons rfl .nil) (fun _ => trivial) ?_
  refine .nil (cj ?_)
  refine .seq ?_
  refine .plain rfl ?_
  refine .q rfl rfl rfl (val_move rfl) ?_
  refine .q rfl rfl rfl (val_nilCheck rfl) ?_
  refine .q rfl rfl rfl (val_fieldAddr rfl fa_142_1) ?_
  refine .call1 rfl rfl rfl en163 (.cons rfl .nil) (flag_spec bn o _ 147 0 hd1) H1 .nil (.own .here .nil) (fun w2 H2 => ⟨fun _ => trivial, ?_⟩)
  refine .q rfl rfl rfl (val_not rfl rfl) ?_
  refine .nil (cj ?_)
  refine .cond_t rfl ?_
  refine .seq ?_
  refine .plain rfl ?_
  refine .q rfl rfl rfl (val_move rfl) ?_
  refine .q rfl rfl rfl (val_nilCheck rfl) ?_
  refine .q rfl rfl rfl (val_fieldAddr rfl fa_142_1) ?_
  refine .defer rfl rfl (.cons rfl (.cons rfl .nil)) (fun _ => trivial) ?_
  refine .nil (cj ?_)
  refine .plain rfl ?_
  refine .q rfl rfl rfl (val_move rfl) ?_
  refine .callv rfl rfl rfl rfl en162 .nil (places1_spec bk b2 br bn o _ u a vm n hu ha hv hn g0 g1 g2 gp) H2 (.cons .here .nil) (.ro .here (.ro (.there .here) (.ro (.there (.there .here)) .nil))) (fun e F9 h9 => by obtain ⟨x9, h9, _⟩ := h9; exact ⟨_, h9⟩) ?_
  rintro v9 F9 w3 ⟨v8, hv9, rfl, C3⟩ H3; cases hv9
  refine ⟨fun _ => trivial, ?_⟩
  refine .nil ?_
  refine fendM fun tmps9 => ?_
  refine leaves_call en168 (setFlag_spec bn o _ 147 0 (hd2 v8)) H3 (.cons .here .nil) .nil (fun w8 H8 => ?_)
  refine leaves_call en167 (munlock_spec bn (o + 1) _ 147 (hl3 v8)) H8 (.cons .here .nil) .nil (fun w9 H9 => ?_)
  refine leaves_nil rfl (hRR _ _ ⟨_, ⟨v8, rfl, rfl, trivial⟩, H9.sub (.cons (.there .here) (.cons .here .nil))⟩)
theorem do1_spec : Sk.Spec Tryz.prog 161 #[.pointer (some ⟨bn, o, none⟩), .func (.func 162) #[] #[ptr bk, ptr b2, ptr br]] [blk bk [ptr bn] 87, blk b2 [i64 n] 3, blk br [.pointer (some ⟨bn, o, none⟩)] 224] [blk bn cs 147]
      fun e F' => ∃ v, e = .returned (.tuple #[]) ∧ F' = ksF bn o cs (prof u a vm n) v ∧ True := by
  refine Spec.of_code (vs := [_, _]) (k0 := [(0, _), (1, _)]) 12 Tryz.func161 rfl Tryz.ntmps161 rfl (.cons (.cons .nil)) fun w X RR hRR H => ?_
  refine .seq ?_
  refine .plain rfl ?_
  refine .q rfl rfl rfl (val_move rfl) ?_
  refine .q rfl rfl rfl (val_nilCheck rfl) ?_
  refine .q rfl rfl rfl (val_fieldAddr rfl fa_142_1) ?_
  refine .call1 rfl rfl rfl en163 (.cons rfl .nil) (flag_spec bn o cs 147 0 hd) H .nil (.own .here .nil) (fun w1 H1 => ⟨fun _ => trivial, ?_⟩)
  refine .q rfl rfl rfl (val_not rfl rfl) ?_
  refine .nil (cj ?_)
  refine .cond_t rfl ?_
  refine .plain rfl ?_
  refine .q rfl rfl rfl (val_move rfl) ?_
  refine .q rfl rfl rfl (val_move rfl) ?_
  refine .callx rfl rfl rfl en164 (.cons rfl (.cons rfl .nil)) (doSlow_spec bk b2 br bn o cs u a vm n hu ha hv hn ho h0 h1 h2 hp hd hl) H1 (.cons .here .nil) (.ro .here (.ro (.there .here) (.ro (.there (.there .here)) .nil))) (fun v2 w2 C2 H2 => ⟨fun _ => trivial, ?_⟩)
  refine .nil (fend (res0 rfl) ?_)
  exact hRR _ _ ⟨_, ⟨_, rfl, rfl, trivial⟩, H2.sub (.cons .here (.cons .here .nil))⟩
end
theorem do2_spec (bn o : Nat) (cs : List Value) (f : Value) (hd : cs[o]? = some (.int .u32 1)) : Sk.Spec Tryz.prog 161 #[.pointer (some ⟨bn, o, none⟩), f] [blk bn cs 147] [] fun e F' => e = .returned (.tuple #[]) ∧ F' = [] := by
  refine Spec.of_code (vs := [_, _]) (k0 := [(0, _), (1, _)]) 12 Tryz.func161 rfl Tryz.ntmps161 rfl (.cons (.cons .nil)) fun w X RR hRR H => ?_
  refine .seq ?_
  refine .plain rfl ?_
  refine .q rfl rfl rfl (val_move rfl) ?_
  refine .q rfl rfl rfl (val_nilCheck rfl) ?_
  refine .q rfl rfl rfl (val_fieldAddr rfl fa_142_1) ?_
  refine .call1 rfl rfl rfl en163 (.cons rfl .nil) (flag_spec bn o cs 147 1 hd) H .nil (.ro .here .nil) (fun w1 H1 => ⟨fun _ => trivial, ?_⟩)
  refine .q rfl rfl rfl (val_not rfl rfl) ?_
  refine .nil (cj ?_)
  refine .cond_f rfl ?_
  refine .skip (fend (res0 rfl) ?_)
  refine hRR _ _ ⟨_, ⟨?_, rfl⟩, H1.sub .nil⟩
  rfl
end Go.Proofs.YtmbibkifbehgnaaGreatDoor
namespace Go.Proofs.YtmbibkifbehgnaaGreatDoor
open Go Sk
set_option linter.unusedVariables false
set_option linter.unusedSimpArgs false
/-- a run: not reckoned; or where its places lie, how many, room for how many -/
abbrev Rn := Option (Option Addr × Nat × Nat)
def encRn : Rn → List Value
  | none => runZ
  | some (A, len, cap) => [.int .u32 1, .int .i32 0, .int .u32 0, .slice A len cap]
theorem encRn_len : ∀ r, (encRn r).length = 4
  | none => rfl
  | some (A, len, cap) => rfl
/-- a Kin's cells -/
def kcs (u a v : Int) (rs : List Rn) : List Value := i64 u :: i64 a :: i64 v :: rs.flatMap encRn
/-- what the runs that were reckoned lie in -/
def kinR (u a v : Int) (rs : List Rn) : As where
  on X w := (∀ (j : Nat) (A : Option Addr) (len cap : Nat), rs[j]? = some (some (A, len, cap)) → len = (prof u a v (j : Int)).length ∧ ∃ Y, (arr A ((prof u a v (j : Int)).flatMap encI)).on Y w ∧ ∀ k, Y k → X k) ∧ ∀ k, X k → k < w.heap.size
  loc X w w' h hk := ⟨fun j A len cap hj => by
    obtain ⟨h1, Y, h2, h3⟩ := h.1 j A len cap hj
    exact ⟨h1, Y, (arr A _).loc Y w w' h2 (fun k hy => hk k (h3 k hy)), h3⟩, fun k hx => by
    have h1 := h.2 k hx
    have h2 := hk k hx
    rw [Array.getElem?_eq_getElem h1] at h2
    exact (Array.getElem?_eq_some_iff.1 h2).1⟩
  lt X w h := h.2
abbrev kinF (bn : Nat) (u a v : Int) (rs : List Rn) : List As := [blk bn (kcs u a v rs) 147, kinR u a v rs]
theorem kcs_get {u a v : Int} {rs : List Rn} {j : Nat} {r : Rn} (h : rs[j]? = some r) {c : Nat} (hc : c < 4) : (kcs u a v rs)[3 + j * 4 + c]? = (encRn r)[c]? := by
  unfold kcs
  rw [show 3 + j * 4 + c = (j * 4 + c) + 1 + 1 + 1 by omega]
  simp only [List.getElem?_cons_succ]
  exact flat_get encRn_len rs j c r h hc
theorem St.kinGet {w0 w : World} {M : Nat → Prop} {R F F' : List As} {u a v : Int} {rs : List Rn} {j : Nat} {A : Option Addr} {len cap : Nat} (H : St w0 w M R F) (hat : At F (kinR u a v rs) F') (h : rs[j]? = some (some (A, len, cap))) :
    len = (prof u a v (j : Int)).length ∧ ∃ Y, (arr A ((prof u a v (j : Int)).flatMap encI)).on Y w := by
  obtain ⟨Y, hY⟩ := H.has (.inr hat.mem)
  obtain ⟨h1, Z, h2, _⟩ := hY.1 j A len cap h
  exact ⟨h1, Z, h2⟩
theorem St.kinAdd {w0 w : World} {M : Nat → Prop} {R F : List As} {u a v : Int} {rs : List Rn} {j : Nat} {A : Option Addr} {cap : Nat} (H : St w0 w M R (arr A ((prof u a v (j : Int)).flatMap encI) :: kinR u a v rs :: F)) :
    St w0 w M R (kinR u a v (rs.set j (some (A, (prof u a v (j : Int)).length, cap))) :: F) := H.map fun X h => by
  obtain ⟨X1, X2, h1, ⟨X3, X4, h3, h4, h34, h2⟩, h12, h⟩ := h
  refine ⟨fun k => X1 k ∨ X3 k, X4, ⟨fun i B len c hi => ?_, fun k hk => ?_⟩, h4, ?_, fun k => ?_⟩
  · by_cases hij : j = i
    · subst hij
      rw [List.getElem?_set_self' ] at hi
      cases hr : rs[j]? with
      | none => rw [hr] at hi; cases hi
      | some r =>
        rw [hr] at hi
        simp at hi
        obtain ⟨rfl, rfl, rfl⟩ := hi
        exact ⟨rfl, X1, h1, fun k hk => .inl hk⟩
    · rw [List.getElem?_set_ne hij] at hi
      obtain ⟨g1, Y, g2, g3⟩ := h3.1 i B len c hi
      exact ⟨g1, Y, g2, fun k hk => .inr (g3 k hk)⟩
  · rcases hk with hk | hk
    · exact (arr A _).lt X1 w h1 k hk
    · exact h3.2 k hk
  · rintro k (hk | hk) h'
    · exact h12 k hk ((h2 k).2 (.inr h'))
    · exact h34 k hk h'
  · rw [h k, h2 k]
    constructor
    · rintro (h | h | h)
      · exact .inl (.inl h)
      · exact .inl (.inr h)
      · exact .inr h
    · rintro ((h | h) | h)
      · exact .inl h
      · exact .inr (.inl h)
      · exact .inr (.inr h)
theorem kset_kcs {u a v : Int} {rs : List Rn} {j : Nat} {A : Option Addr} {len cap : Nat} (h : rs[j]? = some none) : kset (kcs u a v rs) (3 + j * 4) (.slice A len cap) = kcs u a v (rs.set j (some (A, len, cap))) := by
  obtain ⟨hj, hr⟩ := List.getElem?_eq_some_iff.1 h
  have e : rs = rs.take j ++ none :: rs.drop (j + 1) := by
    conv => lhs; rw [← List.take_append_drop j rs, List.drop_eq_getElem_cons hj, hr]
  have e2 : rs.set j (some (A, len, cap)) = rs.take j ++ some (A, len, cap) :: rs.drop (j + 1) := by
    rw [List.set_eq_take_append_cons_drop, if_pos hj]
  have hl : ((rs.take j).flatMap encRn).length = j * 4 := by
    rw [flat_len encRn_len, List.length_take, Nat.min_eq_left (by omega)]
  have key : ∀ (P : List Value) (n : Nat) (y : List Value) (S : List Value) (c : Nat) (x : Value), P.length = n → c < y.length → (P ++ (y ++ S)).set (n + c) x = P ++ (y.set c x ++ S) := by
    rintro P n y S c x rfl hc
    rw [List.set_append_right _ _ (by omega), Nat.add_sub_cancel_left, List.set_append_left _ _ hc]
  have k0 : kcs u a v rs = ([i64 u, i64 a, i64 v] ++ (rs.take j).flatMap encRn) ++ (runZ ++ (rs.drop (j + 1)).flatMap encRn) := by
    conv => lhs; rw [e]
    simp [kcs, encRn]
  have hP : ([i64 u, i64 a, i64 v] ++ (rs.take j).flatMap encRn).length = 3 + j * 4 := by
    rw [List.length_append, hl]; rfl
  unfold kset
  rw [k0, key _ _ _ _ 1 _ hP (by decide), key _ _ _ _ 3 _ hP (by simp), ← Nat.add_zero (3 + j * 4), key _ _ _ _ 0 _ (by rw [hP]) (by simp), Nat.add_zero, key _ _ _ _ 1 _ hP (by simp), e2]
  simp [kcs, encRn]
end Go.Proofs.YtmbibkifbehgnaaGreatDoor
namespace Go.Proofs.YtmbibkifbehgnaaGreatDoor
open Go Sk
set_option linter.unusedVariables false
set_option linter.unusedSimpArgs false
theorem fa_144_0 (b o : Nat) (w : World) : (Instr.fieldAt 144 (.pointer (some ⟨b, o, none⟩)) 0).run Tryz.prog w = .ok (.pointer (some ⟨b, o + 0, none⟩)) w := by kernel_rfl
theorem fa_147_3 (b o : Nat) (w : World) : (Instr.fieldAt 147 (.pointer (some ⟨b, o, none⟩)) 3).run Tryz.prog w = .ok (.pointer (some ⟨b, o + 3, none⟩)) w := by kernel_rfl
theorem en157 : Enters Tryz.prog 157 := fun args w => by kernel_rfl
theorem en161 : Enters Tryz.prog 161 := fun args w => by kernel_rfl
theorem ar_145  : arB Tryz.prog 145 17 4 = true := by kernel_rfl
theorem sz_224  : (Tryz.prog.info? 224).map (·.size) = some 1 := by kernel_rfl
theorem ze_224  : (Tryz.prog.info? 224).bind (·.zero) = some (.pointer none) := by kernel_rfl
theorem profF_last {a v e : Int} (ha : 1 ≤ a) (hv : 1 ≤ v) : ∀ (f : Nat) (p s : Int), 0 ≤ s → p < e → e - p ≤ f → (profF a v e f p s)[(profF a v e f p s).length - 1]? = some e
  | 0, p, s, _, h, h2 => by omega
  | f + 1, p, s, hs, h, h2 => by
    have hnx := nextN_rng (a := a) (r := e - p) (s := s) (v := v) ha (by omega) hs hv
    unfold profF
    rw [if_pos h]
    by_cases hpe : p + nextN a (e - p) s v < e
    · have ih := profF_last ha hv f (p + nextN a (e - p) s v) (nextN a (e - p) s v) (by omega) hpe (by omega)
      have hlt := lt_of_some ih
      simp only [List.length_cons, Nat.add_sub_cancel]
      rw [show (profF a v e f (p + nextN a (e - p) s v) (nextN a (e - p) s v)).length = ((profF a v e f (p + nextN a (e - p) s v) (nextN a (e - p) s v)).length - 1) + 1 by omega, List.getElem?_cons_succ]
      exact ih
    · rw [prof_stop (decide_eq_false hpe)]
      simp
      omega
theorem prof_last {u a v n : Int} (hu : 1 ≤ u) (ha : 1 ≤ a) (hv : 1 ≤ v) (hn : 1 ≤ n) : (prof u a v n)[(prof u a v n).length - 1]? = some (n * u) := by
  have h : 0 < n * u := Int.mul_pos (by omega) (by omega)
  exact profF_last ha hv _ 0 0 (Int.le_refl 0) h (by omega)
theorem atN_min {u a v n t : Int} (hu : 1 ≤ u ∧ u ≤ 1000) (ha : 1 ≤ a ∧ a ≤ 1000) (hv : 1 ≤ v ∧ v ≤ 1000) (hn : 1 ≤ n ∧ n ≤ 16) (h : ¬ t < 1) : ∃ i : Nat, min t ((prof u a v n).length : Int) - 1 = (i : Int) ∧ i < (prof u a v n).length ∧ (prof u a v n)[i]? = some (atN u a v n t) := by
  have hp := prof_pos (a := a) (v := v) hu.1 hn.1
  unfold atN
  rw [if_neg h]
  by_cases h2 : ((prof u a v n).length : Int) ≤ t
  · rw [if_pos h2]
    exact ⟨(prof u a v n).length - 1, by omega, by omega, prof_last hu.1 ha.1 hv.1 hn.1⟩
  · rw [if_neg h2]
    exact ⟨(t - 1).toNat, by omega, by omega, getD_get (by omega) 0⟩
structure PX where
  A : Option Addr
  cap : Nat
  rs : List Rn
theorem ld_krun {P : Program} {nt : NT} {k : L} {R F : List As} {M : Nat → Prop} {w0 : World} {X : Operand} {t : TypeId} {b o : Nat} {i : Nat} {z : Int} {A : Option Addr} {u a v : Int} {rs : List Rn} {j len cap : Nat}
    (hx : ev k X = some (.pointer (some ⟨b, o + i * 1, none⟩))) (ht : oneB P t = true) (hA : A = some ⟨b, o, none⟩) (hf : Has R F (kinR u a v rs)) (hr : rs[j]? = some (some (A, len, cap))) (hi : (prof u a v (j : Int))[i]? = some z) : ValS P nt (fun w => St w0 w M R F) k (.load t X) (.int .i64 z) :=
  ld_one hx ht hf fun Y w hb => by
    subst hA
    obtain ⟨_, Z, hZ, _⟩ := hb.1 j _ len cap hr
    exact arr_cell (flat_get encI_len _ i 0 z hi (by decide)) Z w hZ
section
variable (bn : Nat) (u a vm : Int) (rs : List Rn) (hu : 1 ≤ u ∧ u ≤ 1000) (ha : 1 ≤ a ∧ a ≤ 1000) (hv : 1 ≤ vm ∧ vm ≤ 1000) (hrs : rs.length = 17) (j : Nat) (hj : 1 ≤ j ∧ j ≤ 16)
include hu ha hv hrs hj
abbrev PlPost : Ending → List As → Prop := fun e F' => ∃ x : PX, e = .returned (.slice x.A (prof u a vm (j : Int)).length x.cap) ∧ F' = kinF bn u a vm x.rs ∧ x.rs.length = 17 ∧ x.rs[j]? = some (some (x.A, (prof u a vm (j : Int)).length, x.cap))
theorem places_a (hr : rs[j]? = some none) : Sk.Spec Tryz.prog 157 #[ptr bn, i64 (j : Int)] [] (kinF bn u a vm rs) (PlPost bn u a vm j) := by
  have h0 : (kcs u a vm rs)[0]? = some (i64 u) := rfl
  have h1 : (kcs u a vm rs)[1]? = some (i64 a) := rfl
  have h2 : (kcs u a vm rs)[2]? = some (i64 vm) := rfl
  have hd : (kcs u a vm rs)[3 + j * 4]? = some (.int .u32 0) := kcs_get hr (c := 0) (by decide)
  have hl : (kcs u a vm rs)[3 + j * 4 + 1]? = some (.int .i32 0) := kcs_get hr (by decide)
  have hp : (kcs u a vm rs)[3 + j * 4 + 3]? = some (.slice none 0 0) := kcs_get hr (by decide)
  have hg : ∀ v, (kset (kcs u a vm rs) (3 + j * 4) v)[3 + j * 4 + 3]? = some v := fun v => set_ne (by omega) (set_ne (by omega) (set_at (set_ne (by omega) hp)))
  refine Spec.of_code (vs := [_, _]) (k0 := [(0, _), (1, _)]) 37 Tryz.func157 rfl Tryz.ntmps157 rfl (.cons (.cons .nil)) fun w X RR hRR H => ?_
  refine .seq ?_
  refine .plain rfl ?_
  refine .box rfl rfl rfl rfl rfl H (fun w1 b1 H1 => ⟨fun _ => trivial, ?_⟩)
  refine .box rfl rfl rfl rfl rfl H1 (fun w2 b2 H2 => ⟨fun _ => trivial, ?_⟩)
  refine .q rfl rfl rfl (val_assign rfl) ?_
  refine .nil (cj ?_)
  refine .seq ?_
  refine .seq ?_
  refine .plain rfl ?_
  refine .qs rfl rfl rfl H2 (ld_b rfl ob_87 (.own (.there .here)) rfl) ?_
  refine .q rfl rfl rfl (val_ptr_eq_nil Tryz.underlying87 rfl rfl rfl) ?_
  refine .q rfl rfl rfl (val_move rfl) ?_
  refine .qs rfl rfl rfl H2 (ld_b rfl ob_87 (.own (.there .here)) rfl) ?_
  refine .q rfl rfl rfl (val_nilCheck rfl) ?_
  refine .q rfl rfl rfl (val_fieldAddr rfl fa_147_0) ?_
  refine .qs rfl rfl rfl H2 (ld_b rfl ob_3 (.own (.there (.there .here))) h0) ?_
  refine .q rfl rfl rfl (val_lss rfl rfl rfl) ?_
  refine .q rfl rfl rfl (val_pick_f rfl rfl) ?_
  refine .q rfl rfl rfl (val_move rfl) ?_
  refine .case (t := 15) rfl (fun hs15 => ?_) (fun hs15 => ?_)
  · exfalso; have h9 := of_decide_eq_true hs15; omega
  · refine .qs rfl rfl rfl H2 (ld_b rfl ob_3 (.own .here) rfl) ?_
    refine .q rfl rfl rfl (val_lss rfl rfl rfl) ?_
    refine .q rfl rfl rfl (val_pick_f rfl rfl) ?_
    refine .q rfl rfl rfl (val_move rfl) ?_
    refine .case (t := 19) rfl (fun hs19 => ?_) (fun hs19 => ?_)
    · exfalso; have h9 := of_decide_eq_true hs19; omega
    · refine .qs rfl rfl rfl H2 (ld_b rfl ob_3 (.own .here) rfl) ?_
      refine .q rfl rfl rfl (val_gtr rfl rfl rfl) ?_
      refine .q rfl rfl rfl (val_pick_f rfl rfl) ?_
      refine .nil (cj ?_)
      refine .cond rfl (fun hc0 => ?_) (fun hc0 => ?_)
      · exfalso; have h9 := of_decide_eq_true hc0; omega
      · refine .skip (cj ?_)
        refine .seq ?_
        refine .drawS 6 (.cons (0, true) (.cons (1, true) (.cons (2, true) (.cons (3, true) (.cons (4, true) (.cons (5, false) (.cons (6, false) .nil))))))) mo (by kernel_rfl) H2 (fun _ _ _ _ _ h => h) (fun w3 H3 => ?_)
        refine .ps rfl rfl rfl rfl (ld_b rfl ob_87 (.own (.there .here)) rfl) ?_
        refine .ps rfl rfl rfl rfl (ld_b rfl ob_3 (.own .here) rfl) ?_
        refine .p rfl rfl rfl (val_nilCheck rfl) ?_
        refine .p rfl rfl rfl (val_fieldAddr rfl fa_147_3) ?_
        refine .p rfl rfl rfl (val_ixa ar_145 rfl rfl rfl (by omega)) ?_
        refine .alloc rfl rfl rfl ze_224 rfl H3 (fun w4 b4 H4 => ⟨fun _ => (H4.sub (.cons (.there .here) (.cons (.there .here) (.cons (.there .here) (.cons (.there .here) .nil))))), ?_⟩)
        refine .store rfl rfl rfl rfl rfl sz_224 rfl H4 .here (by repeat constructor) (fun w5 H5 => ⟨fun h => absurd h (by decide), ?_⟩)
        refine .nil (cj ?_)
        refine .seq ?_
        refine .plain rfl ?_
        refine .qs rfl rfl rfl H5 (ld_b rfl ob_224 (.own .here) rfl) ?_
        refine .q rfl rfl rfl (val_nilCheck rfl) ?_
        refine .q rfl rfl rfl (val_fieldAddr rfl fa_144_0) ?_
        refine .q rfl rfl rfl (val_makeFunc .nil (.cons rfl (.cons rfl (.cons rfl .nil)))) ?_
        refine .callx rfl rfl rfl en161 (.cons rfl (.cons rfl .nil)) (do1_spec _ _ _ bn _ _ u a vm _ hu ha hv (by omega) (by omega) h0 h1 h2 hp hd hl) H5 (.cons (.there (.there (.there .here))) .nil) (.own (.there (.there .here)) (.own (.there .here) (.own .here .nil))) (fun v8 w6 C6 H6 => ⟨fun _ => trivial, ?_⟩)
        obtain ⟨Aq, capq, rfl, hnq, H7⟩ := St.rowOwn H6 .here
        refine .nil (cj ?_)
        refine .seq ?_
        refine .plain rfl ?_
        refine .qs rfl rfl rfl H7 (ld_b rfl ob_224 (.own (.there (.there .here))) rfl) ?_
        refine .q rfl rfl rfl (val_nilCheck rfl) ?_
        refine .q rfl rfl rfl (val_fieldAddr rfl fa_144_1) ?_
        refine .qs rfl rfl rfl H7 (ld_b rfl ob_27 (.own (.there .here)) (hg _)) ?_
        refine .q rfl rfl rfl (val_assign rfl) ?_
        refine .nil (cj ?_)
        refine .ret (fret (res1 rfl rfl) ?_)
        have H9 : St _ _ _ _ (arr Aq _ :: kinR _ _ _ rs :: [blk bn _ 147]) := H7.sub (.cons .here (.cons (.there (.there (.there (.there .here)))) (.cons .here .nil)))
        have H10 : St _ _ _ _ [kinR _ _ _ _, blk bn (kset (kcs u a vm rs) (3 + j * 4) (.slice Aq _ capq)) 147] := St.kinAdd (cap := capq) H9
        rw [kset_kcs hr] at H10
        exact hRR _ _ ⟨_, ⟨⟨Aq, capq, _⟩, rfl, rfl, by simpa using hrs, set_at hr⟩, H10.sub (.cons (.there .here) (.cons .here .nil))⟩
theorem places_b (A : Option Addr) (len cap : Nat) (hr : rs[j]? = some (some (A, len, cap))) : Sk.Spec Tryz.prog 157 #[ptr bn, i64 (j : Int)] [] (kinF bn u a vm rs) (PlPost bn u a vm j) := by
  have _h1 := ha
  have _h2 := hv
  have h0 : (kcs u a vm rs)[0]? = some (i64 u) := rfl
  have hd : (kcs u a vm rs)[3 + j * 4]? = some (.int .u32 1) := kcs_get hr (c := 0) (by decide)
  have hg : (kcs u a vm rs)[3 + j * 4 + 3]? = some (.slice A len cap) := kcs_get hr (c := 3) (by decide)
  refine Spec.of_code (vs := [_, _]) (k0 := [(0, _), (1, _)]) 37 Tryz.func157 rfl Tryz.ntmps157 rfl (.cons (.cons .nil)) fun w X RR hRR H => ?_
  obtain ⟨hlen, _⟩ := St.kinGet H (.there .here) hr
  refine .seq ?_
  refine .plain rfl ?_
  refine .box rfl rfl rfl rfl rfl H (fun w1 b1 H1 => ⟨fun _ => trivial, ?_⟩)
  refine .box rfl rfl rfl rfl rfl H1 (fun w2 b2 H2 => ⟨fun _ => trivial, ?_⟩)
  refine .q rfl rfl rfl (val_assign rfl) ?_
  refine .nil (cj ?_)
  refine .seq ?_
  refine .seq ?_
  refine .plain rfl ?_
  refine .qs rfl rfl rfl H2 (ld_b rfl ob_87 (.own (.there .here)) rfl) ?_
  refine .q rfl rfl rfl (val_ptr_eq_nil Tryz.underlying87 rfl rfl rfl) ?_
  refine .q rfl rfl rfl (val_move rfl) ?_
  refine .qs rfl rfl rfl H2 (ld_b rfl ob_87 (.own (.there .here)) rfl) ?_
  refine .q rfl rfl rfl (val_nilCheck rfl) ?_
  refine .q rfl rfl rfl (val_fieldAddr rfl fa_147_0) ?_
  refine .qs rfl rfl rfl H2 (ld_b rfl ob_3 (.own (.there (.there .here))) h0) ?_
  refine .q rfl rfl rfl (val_lss rfl rfl rfl) ?_
  refine .q rfl rfl rfl (val_pick_f rfl rfl) ?_
  refine .q rfl rfl rfl (val_move rfl) ?_
  refine .case (t := 15) rfl (fun hs15 => ?_) (fun hs15 => ?_)
  · exfalso; have h9 := of_decide_eq_true hs15; omega
  · refine .qs rfl rfl rfl H2 (ld_b rfl ob_3 (.own .here) rfl) ?_
    refine .q rfl rfl rfl (val_lss rfl rfl rfl) ?_
    refine .q rfl rfl rfl (val_pick_f rfl rfl) ?_
    refine .q rfl rfl rfl (val_move rfl) ?_
    refine .case (t := 19) rfl (fun hs19 => ?_) (fun hs19 => ?_)
    · exfalso; have h9 := of_decide_eq_true hs19; omega
    · refine .qs rfl rfl rfl H2 (ld_b rfl ob_3 (.own .here) rfl) ?_
      refine .q rfl rfl rfl (val_gtr rfl rfl rfl) ?_
      refine .q rfl rfl rfl (val_pick_f rfl rfl) ?_
      refine .nil (cj ?_)
      refine .cond rfl (fun hc0 => ?_) (fun hc0 => ?_)
      · exfalso; have h9 := of_decide_eq_true hc0; omega
      · refine .skip (cj ?_)
        refine .seq ?_
        refine .drawS 6 (.cons (0, true) (.cons (1, true) (.cons (2, true) (.cons (3, true) (.cons (4, true) (.cons (5, false) (.cons (6, false) .nil))))))) mo (by kernel_rfl) H2 (fun _ _ _ _ _ h => h) (fun w3 H3 => ?_)
        refine .ps rfl rfl rfl rfl (ld_b rfl ob_87 (.own (.there .here)) rfl) ?_
        refine .ps rfl rfl rfl rfl (ld_b rfl ob_3 (.own .here) rfl) ?_
        refine .p rfl rfl rfl (val_nilCheck rfl) ?_
        refine .p rfl rfl rfl (val_fieldAddr rfl fa_147_3) ?_
        refine .p rfl rfl rfl (val_ixa ar_145 rfl rfl rfl (by omega)) ?_
        refine .alloc rfl rfl rfl ze_224 rfl H3 (fun w4 b4 H4 => ⟨fun _ => (H4.sub (.cons (.there .here) (.cons (.there .here) (.cons (.there .here) (.cons (.there .here) .nil))))), ?_⟩)
        refine .store rfl rfl rfl rfl rfl sz_224 rfl H4 .here (by repeat constructor) (fun w5 H5 => ⟨fun h => absurd h (by decide), ?_⟩)
        refine .nil (cj ?_)
        refine .seq ?_
        refine .plain rfl ?_
        refine .qs rfl rfl rfl H5 (ld_b rfl ob_224 (.own .here) rfl) ?_
        refine .q rfl rfl rfl (val_nilCheck rfl) ?_
        refine .q rfl rfl rfl (val_fieldAddr rfl fa_144_0) ?_
        refine .q rfl rfl rfl (val_makeFunc .nil (.cons rfl (.cons rfl (.cons rfl .nil)))) ?_
        refine .call1 rfl rfl rfl en161 (.cons rfl (.cons rfl .nil)) (do2_spec bn _ _ _ hd) H5 .nil (.own (.there (.there (.there .here))) .nil) (fun w6 H6 => ⟨fun _ => trivial, ?_⟩)
        refine .nil (cj ?_)
        refine .seq ?_
        refine .plain rfl ?_
        refine .qs rfl rfl rfl H6 (ld_b rfl ob_224 (.own .here) rfl) ?_
        refine .q rfl rfl rfl (val_nilCheck rfl) ?_
        refine .q rfl rfl rfl (val_fieldAddr rfl fa_144_1) ?_
        refine .qs rfl rfl rfl H6 (ld_b rfl ob_27 (.own (.there (.there (.there .here)))) hg) ?_
        refine .q rfl rfl rfl (val_assign rfl) ?_
        refine .nil (cj ?_)
        refine .ret (fret (res1 rfl rfl) ?_)
        subst hlen
        exact hRR _ _ ⟨_, ⟨⟨A, cap, rs⟩, rfl, rfl, hrs, hr⟩, H6.sub (.cons (.there (.there (.there .here))) (.cons (.there (.there (.there .here))) .nil))⟩
theorem placesK_spec : Sk.Spec Tryz.prog 157 #[ptr bn, i64 (j : Int)] [] (kinF bn u a vm rs) (PlPost bn u a vm j) := by
  have hlt : j < rs.length := by omega
  cases hr : rs[j] with
  | none => exact places_a bn u a vm rs hu ha hv hrs j hj (by rw [List.getElem?_eq_getElem hlt, hr])
  | some r =>
    obtain ⟨A, len, cap⟩ := r
    exact places_b bn u a vm rs hu ha hv hrs j hj A len cap (by rw [List.getElem?_eq_getElem hlt, hr])
end
section
variable (bn : Nat) (u a vm : Int) (rs : List Rn) (hu : 1 ≤ u ∧ u ≤ 1000) (ha : 1 ≤ a ∧ a ≤ 1000) (hv : 1 ≤ vm ∧ vm ≤ 1000) (hrs : rs.length = 17) (j : Nat) (hj : 1 ≤ j ∧ j ≤ 16)
include hu ha hv hrs hj
abbrev KPost (v : Value) : Ending → List As → Prop := fun e F' => ∃ rs' : List Rn, e = .returned v ∧ F' = kinF bn u a vm rs' ∧ rs'.length = 17
theorem timeK_spec : Sk.Spec Tryz.prog 144 #[ptr bn, i64 (j : Int)] [] (kinF bn u a vm rs) (KPost bn u a vm (i64 ((prof u a vm (j : Int)).length : Int))) := by
  refine Spec.of_code (vs := [_, _]) (k0 := [(0, _), (1, _)]) 9 Tryz.func144 rfl Tryz.ntmps144 rfl (.cons (.cons .nil)) fun w X RR hRR H => ?_
  refine .seq ?_
  refine .plain rfl ?_
  refine .q rfl rfl rfl (val_assign rfl) ?_
  refine .nil (cj ?_)
  refine .seq ?_
  refine .plain rfl ?_
  refine .q rfl rfl rfl (val_move rfl) ?_
  refine .q rfl rfl rfl (val_move rfl) ?_
  refine .callx rfl rfl rfl en157 (.cons rfl (.cons rfl .nil)) (placesK_spec bn u a vm _ hu ha hv hrs j hj) H (.cons .here (.cons .here .nil)) .nil (fun x1 w1 ⟨hrs1, hr1⟩ H1 => ⟨fun _ => trivial, ?_⟩)
  refine .q rfl rfl rfl (val_len Tryz.underlying27 rfl) ?_
  refine .q rfl rfl rfl (val_assign rfl) ?_
  refine .nil (cj ?_)
  refine .ret (fret (res1 rfl rfl) ?_)
  exact hRR _ _ ⟨_, ⟨_, rfl, rfl, hrs1⟩, H1.sub (.cons .here (.cons .here .nil))⟩
theorem atK_spec (t : Int) : Sk.Spec Tryz.prog 145 #[ptr bn, i64 (j : Int), i64 t] [] (kinF bn u a vm rs) (KPost bn u a vm (i64 (atN u a vm (j : Int) t))) := by
  have hp := prof_pos (a := a) (v := vm) (n := (j : Int)) hu.1 (by omega)
  have hlen := prof_len (a := a) (v := vm) (n := (j : Int)) hu (by omega)
  refine Spec.of_code (vs := [_, _, _]) (k0 := [(0, _), (1, _), (2, _)]) 26 Tryz.func145 rfl Tryz.ntmps145 rfl (.cons (.cons (.cons .nil))) fun w X RR hRR H => ?_
  refine .seq ?_
  refine .plain rfl ?_
  refine .q rfl rfl rfl (val_assign rfl) ?_
  refine .nil (cj ?_)
  refine .seq ?_
  refine .plain rfl ?_
  refine .q rfl rfl rfl (val_move rfl) ?_
  refine .q rfl rfl rfl (val_move rfl) ?_
  refine .callx rfl rfl rfl en157 (.cons rfl (.cons rfl .nil)) (placesK_spec bn u a vm _ hu ha hv hrs j hj) H (.cons .here (.cons .here .nil)) .nil (fun x1 w1 ⟨hrs1, hr1⟩ H1 => ⟨fun _ => trivial, ?_⟩)
  refine .q rfl rfl rfl (val_assign rfl) ?_
  refine .nil (cj ?_)
  refine .seq ?_
  refine .seq ?_
  refine .plain rfl ?_
  refine .q rfl rfl rfl (val_move rfl) ?_
  refine .q rfl rfl rfl (val_lss rfl rfl rfl) ?_
  refine .q rfl rfl rfl (val_move rfl) ?_
  refine .case (t := 13) rfl (fun hs13 => ?_) (fun hs13 => ?_)
  · refine .no rfl rfl rfl ?_
    refine .no rfl rfl rfl ?_
    refine .no rfl rfl rfl ?_
    refine .q rfl rfl rfl (val_pick_t rfl rfl) ?_
    refine .nil (cj ?_)
    refine .cond_t rfl ?_
    refine .seq ?_
    refine .plain rfl ?_
    refine .q rfl rfl rfl (val_assign rfl) ?_
    refine .nil (cj ?_)
    refine .ret (fret (res1 rfl rfl) ?_)
    first | (rw [at_0 hs13] at hRR; exact hRR _ _ ⟨_, ⟨_, rfl, rfl, hrs1⟩, H1.sub (.cons .here (.cons .here .nil))⟩) | exact hRR _ _ ⟨_, ⟨_, rfl, rfl, hrs1⟩, H1.sub (.cons .here (.cons .here .nil))⟩
  · refine .q rfl rfl rfl (val_move rfl) ?_
    refine .q rfl rfl rfl (val_len Tryz.underlying27 rfl) ?_
    refine .q rfl rfl rfl (val_eql rfl rfl rfl) ?_
    refine .q rfl rfl rfl (val_pick_f rfl rfl) ?_
    refine .nil (cj ?_)
    refine .cond rfl (fun hc0 => ?_) (fun hc0 => ?_)
    · first | (exfalso; have h9 := eq_of_beq hc0; omega) | skip
    · refine .skip (cj ?_)
      refine .seq ?_
      have h1 := of_decide_eq_false hs13
      obtain ⟨i, hi1, hi2, hi3⟩ := atN_min (t := t) hu ha hv (show 1 ≤ (j : Int) ∧ (j : Int) ≤ 16 by omega) h1
      obtain ⟨_, Y9, hY9⟩ := St.kinGet H1 (.there .here) hr1
      obtain ⟨b9, o9, hA9⟩ : ∃ b o, x1.A = some ⟨b, o, none⟩ := by
        rcases hY9 with ⟨h, _⟩ | ⟨b, o, h, _⟩
        · exfalso
          have h9 := congrArg List.length h
          rw [flat_len encI_len, List.length_nil, Nat.mul_one] at h9
          omega
        · exact ⟨b, o, h⟩
      have hw9 : w64 (min t ((prof u a vm (j : Int)).length : Int) - 1) = min t ((prof u a vm (j : Int)).length : Int) - 1 := w64_of (by omega)
      refine .plain rfl ?_
      refine .q rfl rfl rfl (val_move rfl) ?_
      refine .q rfl rfl rfl (val_move rfl) ?_
      refine .q rfl rfl rfl (val_move rfl) ?_
      refine .q rfl rfl rfl (val_len Tryz.underlying27 rfl) ?_
      refine .q rfl rfl rfl (val_min rfl rfl rfl) ?_
      refine .q rfl rfl rfl (val_sub rfl rfl hw9) ?_
      refine .q rfl rfl rfl (val_ix el_27 hA9 rfl rfl hi1 hi2) ?_
      refine .qs rfl rfl rfl H1 (ld_krun rfl ob_3 hA9 (.own (.there .here)) hr1 hi3) ?_
      refine .q rfl rfl rfl (val_assign rfl) ?_
      refine .nil (cj ?_)
      refine .ret (fret (res1 rfl rfl) ?_)
      first | (rw [at_0 hs13] at hRR; exact hRR _ _ ⟨_, ⟨_, rfl, rfl, hrs1⟩, H1.sub (.cons .here (.cons .here .nil))⟩) | exact hRR _ _ ⟨_, ⟨_, rfl, rfl, hrs1⟩, H1.sub (.cons .here (.cons .here .nil))⟩
end
end Go.Proofs.YtmbibkifbehgnaaGreatDoor
namespace Go.Proofs.YtmbibkifbehgnaaGreatDoor
open Go Sk
set_option linter.unusedVariables false
set_option linter.unusedSimpArgs false
theorem en145 : Enters Tryz.prog 145 := fun args w => by kernel_rfl
section
variable (bn : Nat) (u a vm : Int) (rs : List Rn) (hu : 1 ≤ u ∧ u ≤ 1000) (ha : 1 ≤ a ∧ a ≤ 1000) (hv : 1 ≤ vm ∧ vm ≤ 1000) (hrs : rs.length = 17) (j : Nat) (hj : 1 ≤ j ∧ j ≤ 16)
include hu ha hv hrs hj
theorem speedK_spec (t : Int) (ht : t ≤ 100000) : Sk.Spec Tryz.prog 146 #[ptr bn, i64 (j : Int), i64 t] [] (kinF bn u a vm rs) (KPost bn u a vm (i64 (speedN u a vm (j : Int) t))) := by
  have r1 := atN_rng (t := t) hu ha.1 hv.1 (show 1 ≤ (j : Int) ∧ (j : Int) ≤ 16 by omega)
  have r2 := atN_rng (t := t - 1) hu ha.1 hv.1 (show 1 ≤ (j : Int) ∧ (j : Int) ≤ 16 by omega)
  refine Spec.of_code (vs := [_, _, _]) (k0 := [(0, _), (1, _), (2, _)]) 19 Tryz.func146 rfl Tryz.ntmps146 rfl (.cons (.cons (.cons .nil))) fun w X RR hRR H => ?_
  refine .seq ?_
  refine .plain rfl ?_
  refine .q rfl rfl rfl (val_assign rfl) ?_
  refine .nil (cj ?_)
  refine .seq ?_
  refine .seq ?_
  refine .plain rfl ?_
  refine .q rfl rfl rfl (val_move rfl) ?_
  refine .q rfl rfl rfl (val_lss rfl rfl rfl) ?_
  refine .nil (cj ?_)
  refine .cond rfl (fun hc0 => ?_) (fun hc0 => ?_)
  · refine .seq ?_
    refine .plain rfl ?_
    refine .q rfl rfl rfl (val_assign rfl) ?_
    refine .nil (cj ?_)
    refine .ret (fret (res1 rfl rfl) ?_)
    first | (rw [sp_0 hc0] at hRR; exact hRR _ _ ⟨_, ⟨_, rfl, rfl, hrs⟩, H.sub (.cons .here (.cons .here .nil))⟩) | (rw [sp_1 hc0] at hRR; exact hRR _ _ ⟨_, ⟨_, rfl, rfl, by assumption⟩, H.sub (.cons .here (.cons .here .nil))⟩)
  · have h1 := of_decide_eq_false hc0
    refine .skip (cj ?_)
    refine .seq ?_
    refine .plain rfl ?_
    refine .q rfl rfl rfl (val_move rfl) ?_
    refine .q rfl rfl rfl (val_move rfl) ?_
    refine .q rfl rfl rfl (val_move rfl) ?_
    refine .callx rfl rfl rfl en145 (.cons rfl (.cons rfl (.cons rfl .nil))) (atK_spec bn u a vm _ hu ha hv hrs j hj _) H (.cons .here (.cons .here .nil)) .nil (fun rs1 w1 hrs1 H1 => ⟨fun _ => trivial, ?_⟩)
    refine .q rfl rfl rfl (val_move rfl) ?_
    refine .q rfl rfl rfl (val_move rfl) ?_
    refine .q rfl rfl rfl (val_move rfl) ?_
    refine .q rfl rfl rfl (val_sub rfl rfl (w64_of (by omega))) ?_
    refine .callx rfl rfl rfl en145 (.cons rfl (.cons rfl (.cons rfl .nil))) (atK_spec bn u a vm _ hu ha hv hrs1 j hj _) H1 (.cons .here (.cons .here .nil)) .nil (fun rs2 w2 hrs2 H2 => ⟨fun _ => trivial, ?_⟩)
    refine .q rfl rfl rfl (val_sub rfl rfl (w64_of (by omega))) ?_
    refine .q rfl rfl rfl (val_assign rfl) ?_
    refine .nil (cj ?_)
    refine .ret (fret (res1 rfl rfl) ?_)
    first | (rw [sp_0 hc0] at hRR; exact hRR _ _ ⟨_, ⟨_, rfl, rfl, hrs⟩, H2.sub (.cons .here (.cons .here .nil))⟩) | (rw [sp_1 hc0] at hRR; exact hRR _ _ ⟨_, ⟨_, rfl, rfl, by assumption⟩, H2.sub (.cons .here (.cons .here .nil))⟩)
end
end Go.Proofs.YtmbibkifbehgnaaGreatDoor
namespace Go.Proofs.YtmbibkifbehgnaaGreatDoor
open Go Sk
set_option linter.unusedVariables false
set_option linter.unusedSimpArgs false
theorem en144 : Enters Tryz.prog 144 := fun args w => by kernel_rfl
theorem en146 : Enters Tryz.prog 146 := fun args w => by kernel_rfl
theorem seq_fall {a e : Int} : ∀ (f : Nat) (p s : Int), (seqF a e true f s p s).length = fallF a e f p s
  | 0, _, _ => rfl
  | f + 1, p, s => by
    unfold seqF fallF
    split
    · rw [show (bif true then nextN a (e - p) s s else s) = nextN a (e - p) s s from rfl, List.length_cons, seq_fall f]
    · rfl
theorem fall_le {a e : Int} : ∀ (f : Nat) (p s : Int), fallF a e f p s ≤ f
  | 0, _, _ => Nat.le_refl _
  | f + 1, p, s => by
    unfold fallF
    split
    · have := fall_le (a := a) (e := e) f (p + nextN a (e - p) s s) (nextN a (e - p) s s)
      omega
    · omega
section
variable (bn : Nat) (u a vm : Int) (rs : List Rn) (hu : 1 ≤ u ∧ u ≤ 1000) (ha : 1 ≤ a ∧ a ≤ 1000) (hv : 1 ≤ vm ∧ vm ≤ 1000) (hrs : rs.length = 17) (j : Nat) (hj : 1 ≤ j ∧ j ≤ 16)
include hu ha hv hrs hj
theorem stopK_spec (t : Int) : Sk.Spec Tryz.prog 116 #[ptr bn, i64 (j : Int), i64 t] [] (kinF bn u a vm rs) (KPost bn u a vm (.tuple #[i64 (stopN u a vm (j : Int) t).1, i64 (stopN u a vm (j : Int) t).2])) := by
  have hn : 1 ≤ (j : Int) ∧ (j : Int) ≤ 16 := by omega
  have hp := prof_pos (a := a) (v := vm) (n := (j : Int)) hu.1 (by omega)
  have hlen := prof_len (a := a) (v := vm) (n := (j : Int)) hu (by omega)
  refine Spec.of_codeM (vs := [_, _, _]) (k0 := [(0, _), (1, _), (2, _)]) 67 Tryz.func116 rfl Tryz.ntmps116 rfl (.cons (.cons (.cons .nil))) fun w X RR hRR H => ?_
  refine .seq ?_
  refine .plain rfl ?_
  refine .q rfl rfl rfl (val_assign rfl) ?_
  refine .q rfl rfl rfl (val_assign rfl) ?_
  refine .nil (cj ?_)
  refine .seq ?_
  refine .seq ?_
  refine .plain rfl ?_
  refine .q rfl rfl rfl (val_move rfl) ?_
  refine .q rfl rfl rfl (val_move rfl) ?_
  refine .callx rfl rfl rfl en144 (.cons rfl (.cons rfl .nil)) (timeK_spec bn u a vm _ hu ha hv hrs j hj) H (.cons .here (.cons .here .nil)) .nil (fun rs1 w1 hrs1 H1 => ⟨fun _ => trivial, ?_⟩)
  refine .q rfl rfl rfl (val_assign rfl) ?_
  refine .nil (cj ?_)
  refine .block ?_
  refine .seq ?_
  refine .plain rfl ?_
  refine .q rfl rfl rfl (val_move rfl) ?_
  refine .q rfl rfl rfl (val_lss rfl rfl rfl) ?_
  refine .q rfl rfl rfl (val_move rfl) ?_
  refine .case (t := 19) rfl (fun hs19 => ?_) (fun hs19 => ?_)
  · refine .no rfl rfl rfl ?_
    refine .no rfl rfl rfl ?_
    refine .q rfl rfl rfl (val_pick_t rfl rfl) ?_
    refine .q rfl rfl rfl (val_assign rfl) ?_
    refine .nil (cj ?_)
    refine .cond_t rfl ?_
    refine .seq ?_
    refine .plain rfl ?_
    refine .q rfl rfl rfl (val_assign rfl) ?_
    refine .q rfl rfl rfl (val_assign rfl) ?_
    refine .nil (cj ?_)
    refine .ret (mret0 (res2 rfl rfl rfl) ?_)
    first | (rw [so_0 hs19] at hRR; exact hRR _ _ ⟨_, ⟨_, rfl, rfl, by assumption⟩, H1.sub (.cons .here (.cons .here .nil))⟩) | (rw [so_1 hs19 hc1] at hRR; exact hRR _ _ ⟨_, ⟨_, rfl, rfl, by assumption⟩, H1.sub (.cons .here (.cons .here .nil))⟩) | (rw [so_2 hs19 hc1, ← seq_fall] at hRR; exact hRR _ _ ⟨_, ⟨_, rfl, rfl, by assumption⟩, H1.sub (.cons .here (.cons .here .nil))⟩)
  · refine .q rfl rfl rfl (val_move rfl) ?_
    refine .q rfl rfl rfl (val_eql rfl rfl rfl) ?_
    refine .q rfl rfl rfl (val_pick_f rfl rfl) ?_
    refine .q rfl rfl rfl (val_assign rfl) ?_
    refine .nil (cj ?_)
    refine .cond rfl (fun hc0 => ?_) (fun hc0 => ?_)
    · exfalso; have h9 := eq_of_beq hc0; omega
    · refine .seq ?_
      refine .plain rfl ?_
      refine .q rfl rfl rfl (val_move rfl) ?_
      refine .q rfl rfl rfl (val_move rfl) ?_
      refine .q rfl rfl rfl (val_geq rfl rfl rfl) ?_
      refine .q rfl rfl rfl (val_assign rfl) ?_
      refine .nil (cj ?_)
      refine .cond rfl (fun hc1 => ?_) (fun hc1 => ?_)
      · refine .seq ?_
        refine .plain rfl ?_
        refine .q rfl rfl rfl (val_move rfl) ?_
        refine .q rfl rfl rfl (val_assign rfl) ?_
        refine .q rfl rfl rfl (val_assign rfl) ?_
        refine .nil (cj ?_)
        refine .ret (mret0 (res2 rfl rfl rfl) ?_)
        first | (rw [so_0 hs19] at hRR; exact hRR _ _ ⟨_, ⟨_, rfl, rfl, by assumption⟩, H1.sub (.cons .here (.cons .here .nil))⟩) | (rw [so_1 hs19 hc1] at hRR; exact hRR _ _ ⟨_, ⟨_, rfl, rfl, by assumption⟩, H1.sub (.cons .here (.cons .here .nil))⟩) | (rw [so_2 hs19 hc1, ← seq_fall] at hRR; exact hRR _ _ ⟨_, ⟨_, rfl, rfl, by assumption⟩, H1.sub (.cons .here (.cons .here .nil))⟩)
      · refine .skip (cj ?_)
        refine .seq ?_
        have h1 := of_decide_eq_false hs19
        have h2 := of_decide_eq_false hc1
        have hat := atN_rng (t := t) hu ha.1 hv.1 hn
        have hsp := speedN_rng (t := t) hu ha.1 hv.1 hn (by omega) (by omega)
        have hbr := brakeN_rng (s := speedN u a vm (j : Int) t) ha.1 (by omega)
        have hce := Int.ediv_mul_le (atN u a vm (j : Int) t + brakeN a (speedN u a vm (j : Int) t) + u - 1) (show u ≠ 0 by omega)
        have hce2 := Int.lt_ediv_add_one_mul_self (atN u a vm (j : Int) t + brakeN a (speedN u a vm (j : Int) t) + u - 1) (show 0 < u by omega)
        rw [Int.add_mul, Int.one_mul] at hce2
        have hcl : 0 ≤ (atN u a vm (j : Int) t + brakeN a (speedN u a vm (j : Int) t) + u - 1) / u := Int.ediv_nonneg (by omega) (by omega)
        have hcu : (atN u a vm (j : Int) t + brakeN a (speedN u a vm (j : Int) t) + u - 1) / u ≤ atN u a vm (j : Int) t + brakeN a (speedN u a vm (j : Int) t) + u - 1 := Int.ediv_le_self _ (by omega)
        have hdef : stopCells u a vm (j : Int) t = (atN u a vm (j : Int) t + brakeN a (speedN u a vm (j : Int) t) + u - 1) / u := rfl
        have hq : w64 ((atN u a vm (j : Int) t + brakeN a (speedN u a vm (j : Int) t) + u - 1).tdiv u) = stopCells u a vm (j : Int) t := by rw [Int.tdiv_eq_ediv_of_nonneg (by omega), hdef]; exact w64_of (by omega)
        rw [← hdef] at hce hce2 hcl hcu
        have hwe : w64 (stopCells u a vm (j : Int) t * u) = stopCells u a vm (j : Int) t * u := w64_of (by omega)
        refine .plain rfl ?_
        refine .q rfl rfl rfl (val_move rfl) ?_
        refine .q rfl rfl rfl (val_move rfl) ?_
        refine .q rfl rfl rfl (val_move rfl) ?_
        refine .callx rfl rfl rfl en145 (.cons rfl (.cons rfl (.cons rfl .nil))) (atK_spec bn u a vm _ hu ha hv (by assumption) j hj t) H1 (.cons .here (.cons .here .nil)) .nil (fun rs2 w2 hrs2 H2 => ⟨fun _ => trivial, ?_⟩)
        refine .q rfl rfl rfl (val_move rfl) ?_
        refine .q rfl rfl rfl (val_move rfl) ?_
        refine .q rfl rfl rfl (val_move rfl) ?_
        refine .callx rfl rfl rfl en146 (.cons rfl (.cons rfl (.cons rfl .nil))) (speedK_spec bn u a vm _ hu ha hv (by assumption) j hj t (by omega)) H2 (.cons .here (.cons .here .nil)) .nil (fun rs3 w3 hrs3 H3 => ⟨fun _ => trivial, ?_⟩)
        refine .q rfl rfl rfl (val_assign rfl) ?_
        refine .q rfl rfl rfl (val_assign rfl) ?_
        refine .nil (cj ?_)
        refine .seq ?_
        refine .drawS 17 (.cons (0, true) (.cons (1, true) (.cons (2, true) (.cons (5, true) (.cons (6, true) (.cons (7, true) (.cons (8, true) (.cons (11, true) (.cons (12, true) (.cons (13, true) (.cons (14, true) (.cons (3, false) (.cons (4, true) (.cons (9, true) (.cons (10, true) (.cons (15, true) (.cons (16, true) .nil))))))))))))))))) mo (by kernel_rfl) H3 (fun _ _ _ _ _ h => h) (fun w4 H4 => ?_)
        refine .p rfl rfl rfl (val_move rfl) ?_
        refine .p rfl rfl rfl (val_move rfl) ?_
        refine .p rfl rfl rfl (val_move rfl) ?_
        refine .p rfl rfl rfl (val_move rfl) ?_
        refine .p rfl rfl rfl (val_nilCheck rfl) ?_
        refine .p rfl rfl rfl (val_fieldAddr rfl fa_147_0) ?_
        refine .ps rfl rfl rfl rfl (ld_b rfl ob_3 (.own .here) rfl) ?_
        refine .p rfl rfl rfl (val_move rfl) ?_
        refine .p rfl rfl rfl (val_nilCheck rfl) ?_
        refine .p rfl rfl rfl (val_fieldAddr rfl fa_147_0) ?_
        refine .ps rfl rfl rfl rfl (ld_b rfl ob_3 (.own .here) rfl) ?_
        refine .call1 rfl rfl rfl en147 (.cons rfl (.cons rfl .nil)) (brakeK_spec (blk bn (kcs u a vm _) 147) bn u a vm _ (krd_blk rfl rfl rfl) ha (by omega)) H4 .nil (.own .here .nil) (fun w5 H5 => ⟨fun _ => H5, ?_⟩)
        refine .p rfl rfl rfl (val_add rfl rfl (w64_of (by omega))) ?_
        refine .p rfl rfl rfl (val_add rfl rfl (w64_of (by omega))) ?_
        refine .p rfl rfl rfl (val_sub rfl rfl (w64_of (by omega))) ?_
        refine .p rfl rfl rfl (val_quo rfl rfl (by omega) hq) ?_
        refine .p rfl rfl rfl (val_assign rfl) ?_
        refine .nil (cj ?_)
        refine .seq ?_
        refine .plain rfl ?_
        refine .alloc rfl rfl rfl ze_3 rfl H5 (fun w6 b6 H6 => ⟨fun _ => trivial, ?_⟩)
        refine .store rfl rfl rfl rfl rfl sz_3 rfl H6 .here (by repeat constructor) (fun w7 H7 => ⟨fun _ => trivial, ?_⟩)
        refine .nil (cj ?_)
        refine .seq ?_
        refine .seq ?_
        refine .plain rfl ?_
        refine .q rfl rfl rfl (val_move rfl) ?_
        refine .q rfl rfl rfl (val_move rfl) ?_
        refine .q rfl rfl rfl (val_move rfl) ?_
        refine .q rfl rfl rfl (val_move rfl) ?_
        refine .q rfl rfl rfl (val_move rfl) ?_
        refine .q rfl rfl rfl (val_nilCheck rfl) ?_
        refine .q rfl rfl rfl (val_fieldAddr rfl fa_147_0) ?_
        refine .qs rfl rfl rfl H7 (ld_b rfl ob_3 (.own (.there .here)) rfl) ?_
        refine .q rfl rfl rfl (val_mul rfl rfl hwe) ?_
        refine .callx rfl rfl rfl en148 (.cons rfl (.cons rfl (.cons rfl (.cons rfl (.cons rfl .nil))))) (steps_spec _ _ _ _ _ _) H7 .nil .nil (fun x8 w8 C8 H8 => ⟨fun _ => trivial, ?_⟩)
        refine .nil (cj ?_)
        refine .block ?_
        have HX3 := H8.sub (.cons (.there (.there (.there (.there (.there .here))))) (.cons (.there (.there (.there (.there (.there .here))))) (.cons (.there (.there (.there (.there (.there .here))))) (.cons .here (.cons .here (.cons .here (.cons .here (.cons .here .nil))))))))
        refine .range (fun pre => [blk b6 [i64 (pre.length : Int)] 3, blk bn (kcs u a vm _) 147, kinR u a vm _]) (fun x => [(12, ptr b6)]) rfl en158 rfl (stepsK_seq _ bn u a vm (atN u a vm (j : Int) t) (speedN u a vm (j : Int) t) (stopCells u a vm (j : Int) t * u) true (stopCells u a vm (j : Int) t * u - atN u a vm (j : Int) t).toNat ha hv (by omega) (fun _ => by omega) (by omega) (by omega) (by omega)) HX3 (fun L pre => krd_sep (krd_blk (bn := bn) (T := 147) rfl rfl rfl) (by simp; exact .inr (.inr (.inl rfl)))) ?_ ?_ ?_
        · intro l9 x9 w9
          refine .skip ?_
          intro a9 ha9
          exact ⟨rfl, rfl, Pick.kn (by repeat (first | exact Pick.nil | refine Pick.cons rfl ?_)) ha9⟩
        · intro l9 pre9 x9 w8 w9 X9 hpx HB
          have hw9 : w64 ((pre9.length : Int) + 1) = (((pre9 ++ [x9]).length : Nat) : Int) := by
            have h9 := hpx.length_le
            rw [show (bif true then speedN u a vm (j : Int) t else vm) = speedN u a vm (j : Int) t from rfl, seq_fall] at h9
            have h10 := fall_le (a := a) (e := stopCells u a vm (j : Int) t * u) (stopCells u a vm (j : Int) t * u - atN u a vm (j : Int) t).toNat (atN u a vm (j : Int) t) (speedN u a vm (j : Int) t)
            rw [List.length_append, List.length_singleton] at h9 ⊢
            rw [w64_of (by omega)]; omega
          refine .block ?_
          refine .plain rfl (by kernel_rfl) (fun _ _ h => h) ?_
          refine .qs rfl rfl rfl HB (ld_b rfl ob_3 (.own .here) rfl) ?_
          refine .q rfl rfl rfl (val_add rfl rfl hw9) ?_
          refine .store rfl rfl rfl rfl rfl sz_3 rfl HB .here (by repeat constructor) (fun w9 H9 => ⟨fun _ => trivial, ?_⟩)
          refine .nil ?_
          intro a9 _
          exact H9.sub (.cons .here (.cons .here (.cons .here .nil)))
        · intro w9 D9 HD
          refine id (cj ?_)
          refine .seq ?_
          refine .drawS 4 (.cons (0, true) (.cons (1, true) (.cons (2, true) (.cons (3, true) .nil)))) mo (by kernel_rfl) HD (fun _ _ _ _ _ h => h) (fun w10 H10 => ?_)
          refine .p rfl rfl rfl (val_move rfl) ?_
          refine .ps rfl rfl rfl rfl (ld_b rfl ob_3 (.own (.there .here)) rfl) ?_
          refine .p rfl rfl rfl (val_assign rfl) ?_
          refine .p rfl rfl rfl (val_assign rfl) ?_
          refine .nil (cj ?_)
          refine .ret (mret H10 .here (fun w11 => res2 rfl rfl rfl) (fun w11 H11 => ?_))
          first | (rw [so_0 hs19] at hRR; exact hRR _ _ ⟨_, ⟨_, rfl, rfl, by assumption⟩, H11.sub (.cons (.there .here) (.cons (.there .here) .nil))⟩) | (rw [so_1 hs19 hc1] at hRR; exact hRR _ _ ⟨_, ⟨_, rfl, rfl, by assumption⟩, H11.sub (.cons (.there .here) (.cons (.there .here) .nil))⟩) | (rw [so_2 hs19 hc1, ← seq_fall] at hRR; exact hRR _ _ ⟨_, ⟨_, rfl, rfl, by assumption⟩, H11.sub (.cons (.there .here) (.cons (.there .here) .nil))⟩)
end
end Go.Proofs.YtmbibkifbehgnaaGreatDoor
namespace Go.Proofs.YtmbibkifbehgnaaGreatDoor
open Go Sk
set_option linter.unusedVariables false
set_option linter.unusedSimpArgs false
theorem fa_92_2 (b o : Nat) (w : World) : (Instr.fieldAt 92 (.pointer (some ⟨b, o, none⟩)) 2).run Tryz.prog w = .ok (.pointer (some ⟨b, o + 2, none⟩)) w := by kernel_rfl
theorem fa_156_3 (b o : Nat) (w : World) : (Instr.fieldAt 156 (.pointer (some ⟨b, o, none⟩)) 3).run Tryz.prog w = .ok (.pointer (some ⟨b, o + 13, none⟩)) w := by kernel_rfl
theorem en96 : Enters Tryz.prog 96 := fun args w => by kernel_rfl
theorem en116 : Enters Tryz.prog 116 := fun args w => by kernel_rfl
theorem stopKn_spec (bn : Nat) (u a vm : Int) (rs : List Rn) (hu : 1 ≤ u ∧ u ≤ 1000) (ha : 1 ≤ a ∧ a ≤ 1000) (hv : 1 ≤ vm ∧ vm ≤ 1000) (hrs : rs.length = 17) (n t : Int) (hn : 1 ≤ n ∧ n ≤ 16) :
    Sk.Spec Tryz.prog 116 #[ptr bn, i64 n, i64 t] [] (kinF bn u a vm rs) (KPost bn u a vm (.tuple #[i64 (stopN u a vm n t).1, i64 (stopN u a vm n t).2])) := by
  obtain ⟨j, rfl⟩ : ∃ j : Nat, n = (j : Int) := ⟨n.toNat, by omega⟩
  exact stopK_spec bn u a vm rs hu ha hv hrs j (by omega) t
/-- a run under way is cut -/
def cutG (c : Cf) (g : Gg) : Gg :=
  if g.move.kind ≠ 1 ∨ g.cut = true then g
  else { move := { g.move with n := (stopN c.unit c.accel c.speed g.move.n g.t).1, to := shiftR g.move.fr g.move.dir (stopN c.unit c.accel c.speed g.move.n g.t).1 }, t := g.t, left := max 1 (stopN c.unit c.accel c.speed g.move.n g.t).2, cut := true }
theorem cut_a {c : Cf} {g : Gg} (h : (g.move.kind != 1) = true) : cutG c g = g := by unfold cutG; rw [if_pos (.inl (by simpa using h))]
theorem cut_b {c : Cf} {g : Gg} (h : g.cut = true) : cutG c g = g := by unfold cutG; rw [if_pos (.inr h)]
theorem cut_c {c : Cf} {g : Gg} (h : (g.move.kind != 1) = false) (h2 : g.cut = false) : cutG c g = { move := { g.move with n := (stopN c.unit c.accel c.speed g.move.n g.t).1, to := shiftR g.move.fr g.move.dir (stopN c.unit c.accel c.speed g.move.n g.t).1 }, t := g.t, left := max 1 (stopN c.unit c.accel c.speed g.move.n g.t).2, cut := true } := by
  unfold cutG; rw [if_neg]
  simp at h
  simp [h, h2]
abbrev kinC (c : Cf) (bn : Nat) (rs : List Rn) : List As := kinF bn c.unit c.accel c.speed rs
abbrev RunN (g : Gg) : Prop := g.move.kind = 1 → g.cut = false → 1 ≤ g.move.n ∧ g.move.n ≤ 16
theorem cuts_spec (c : Cf) (hnum : NumOk c) (br bg bn bu : Nat) (r : Rb) (g : Gg) (rs : List Rn) (hrs : rs.length = 17) (hg : RunN g) :
    Sk.Spec Tryz.prog 96 #[ptr br] [rblk br bg bn r (some ⟨bu, 0, none⟩), stepsA] (gblk2 bu g :: kinC c bn rs) fun e F' => ∃ rs' : List Rn, e = .returned (.tuple #[]) ∧ F' = gblk2 bu (cutG c g) :: kinC c bn rs' ∧ rs'.length = 17 := by
  refine Spec.of_code (vs := [_]) (k0 := [(0, _)]) 74 Tryz.func96 rfl Tryz.ntmps96 rfl (.cons .nil) fun w X RR hRR H => ?_
  refine .seq ?_
  refine .plain rfl ?_
  refine .q rfl rfl rfl (val_move rfl) ?_
  refine .q rfl rfl rfl (val_nilCheck rfl) ?_
  refine .q rfl rfl rfl (val_fieldAddr rfl fa_92_7) ?_
  refine .qs rfl rfl rfl H (ld_b rfl ob_90 (.ro .here) rfl) ?_
  refine .q rfl rfl rfl (val_assign rfl) ?_
  refine .nil (cj ?_)
  refine .seq ?_
  refine .seq ?_
  refine .plain rfl ?_
  refine .q rfl rfl rfl (val_move rfl) ?_
  refine .q rfl rfl rfl (val_nilCheck rfl) ?_
  refine .q rfl rfl rfl (val_fieldAddr rfl fa_156_0) ?_
  refine .q rfl rfl rfl (val_fieldAddr rfl fa_42_0) ?_
  refine .qs rfl rfl rfl H (ld_b rfl ob_3 (.own .here) rfl) ?_
  refine .q rfl rfl rfl (val_neq rfl rfl rfl) ?_
  refine .q rfl rfl rfl (val_move rfl) ?_
  refine .case (t := 15) rfl (fun hs15 => ?_) (fun hs15 => ?_)
  · refine .no rfl rfl rfl ?_
    refine .no rfl rfl rfl ?_
    refine .no rfl rfl rfl ?_
    refine .no rfl rfl rfl ?_
    refine .q rfl rfl rfl (val_pick_t rfl rfl) ?_
    refine .nil (cj ?_)
    refine .cond_t rfl ?_
    refine .ret (fret (res0 rfl) ?_)
    first | (rw [cut_a hs15] at hRR; exact hRR _ _ ⟨_, ⟨_, rfl, rfl, hrs⟩, H.sub (.cons .here (.cons .here (.cons .here .nil)))⟩) | (rw [cut_b hc0] at hRR; exact hRR _ _ ⟨_, ⟨_, rfl, rfl, hrs⟩, H.sub (.cons .here (.cons .here (.cons .here .nil)))⟩) | (rw [cut_c hs15 hc0] at hRR; exact hRR _ _ ⟨_, ⟨_, rfl, rfl, hrs1⟩, H.sub (.cons .here (.cons .here (.cons .here .nil)))⟩)
  · refine .q rfl rfl rfl (val_move rfl) ?_
    refine .q rfl rfl rfl (val_nilCheck rfl) ?_
    refine .q rfl rfl rfl (val_fieldAddr rfl fa_156_3) ?_
    refine .qs rfl rfl rfl H (ld_b rfl ob_4 (.own .here) rfl) ?_
    refine .q rfl rfl rfl (val_pick_f rfl rfl) ?_
    refine .nil (cj ?_)
    refine .cond rfl (fun hc0 => ?_) (fun hc0 => ?_)
    · refine .ret (fret (res0 rfl) ?_)
      first | (rw [cut_a hs15] at hRR; exact hRR _ _ ⟨_, ⟨_, rfl, rfl, hrs⟩, H.sub (.cons .here (.cons .here (.cons .here .nil)))⟩) | (rw [cut_b hc0] at hRR; exact hRR _ _ ⟨_, ⟨_, rfl, rfl, hrs⟩, H.sub (.cons .here (.cons .here (.cons .here .nil)))⟩) | (rw [cut_c hs15 hc0] at hRR; exact hRR _ _ ⟨_, ⟨_, rfl, rfl, hrs1⟩, H.sub (.cons .here (.cons .here (.cons .here .nil)))⟩)
    · refine .skip (cj ?_)
      refine .seq ?_
      refine .drawS2 19 (.cons (0, true) (.cons (1, true) (.cons (2, true) (.cons (3, true) (.cons (4, true) (.cons (5, true) (.cons (6, true) (.cons (7, true) (.cons (8, true) (.cons (9, true) (.cons (10, true) (.cons (11, true) (.cons (12, true) (.cons (13, false) (.cons (14, true) (.cons (15, true) (.cons (16, true) (.cons (17, true) (.cons (18, true) .nil))))))))))))))))))) mo (by kernel_rfl) H (.cons .here .nil) (fun _ _ _ _ _ h => h) (fun w1 H1 => ?_)
      refine .p rfl rfl rfl (val_move rfl) ?_
      refine .p rfl rfl rfl (val_nilCheck rfl) ?_
      refine .p rfl rfl rfl (val_fieldAddr rfl fa_92_2) ?_
      refine .ps rfl rfl rfl rfl (ld_b rfl ob_87 (.ro .here) rfl) ?_
      refine .p rfl rfl rfl (val_move rfl) ?_
      refine .p rfl rfl rfl (val_nilCheck rfl) ?_
      refine .p rfl rfl rfl (val_fieldAddr rfl fa_156_0) ?_
      refine .p rfl rfl rfl (val_fieldAddr rfl fa_42_2) ?_
      refine .ps rfl rfl rfl rfl (ld_b rfl ob_3 (.own .here) rfl) ?_
      refine .p rfl rfl rfl (val_move rfl) ?_
      refine .p rfl rfl rfl (val_nilCheck rfl) ?_
      refine .p rfl rfl rfl (val_fieldAddr rfl fa_156_1) ?_
      refine .ps rfl rfl rfl rfl (ld_b rfl ob_3 (.own .here) rfl) ?_
      refine .callx rfl rfl rfl en116 (.cons rfl (.cons rfl (.cons rfl .nil))) (stopKn_spec bn c.unit c.accel c.speed rs hnum.unit hnum.accel hnum.speed hrs g.move.n g.t (hg (by simpa using hs15) hc0)) H1 (.cons (.there .here) (.cons (.there .here) .nil)) .nil (fun rs1 w2 hrs1 H2 => ⟨fun _ => (H2.sub (.cons (.there (.there .here)) .nil)), ?_⟩)
      refine .p rfl rfl rfl (val_move rfl) ?_
      refine .p rfl rfl rfl (val_extract rfl rfl) ?_
      refine .p rfl rfl rfl (val_extract rfl rfl) ?_
      refine .p rfl rfl rfl (val_assign rfl) ?_
      refine .p rfl rfl rfl (val_assign rfl) ?_
      refine .nil (cj ?_)
      refine .seq ?_
      refine .plain rfl ?_
      refine .q rfl rfl rfl (val_move rfl) ?_
      refine .q rfl rfl rfl (val_nilCheck rfl) ?_
      refine .q rfl rfl rfl (val_fieldAddr rfl fa_156_3) ?_
      refine .store rfl rfl rfl rfl rfl sz_4 rfl H2 (.there (.there .here)) (by repeat constructor) (fun w3 H3 => ⟨fun _ => trivial, ?_⟩)
      refine .nil (cj ?_)
      refine .seq ?_
      refine .plain rfl ?_
      refine .q rfl rfl rfl (val_move rfl) ?_
      refine .q rfl rfl rfl (val_move rfl) ?_
      refine .q rfl rfl rfl (val_max rfl rfl rfl) ?_
      refine .q rfl rfl rfl (val_nilCheck rfl) ?_
      refine .q rfl rfl rfl (val_fieldAddr rfl fa_156_2) ?_
      refine .store rfl rfl rfl rfl rfl sz_3 rfl H3 .here (by repeat constructor) (fun w4 H4 => ⟨fun _ => trivial, ?_⟩)
      refine .nil (cj ?_)
      refine .seq ?_
      refine .plain rfl ?_
      refine .q rfl rfl rfl (val_move rfl) ?_
      refine .q rfl rfl rfl (val_move rfl) ?_
      refine .q rfl rfl rfl (val_nilCheck rfl) ?_
      refine .q rfl rfl rfl (val_fieldAddr rfl fa_156_0) ?_
      refine .q rfl rfl rfl (val_fieldAddr rfl fa_42_2) ?_
      refine .store rfl rfl rfl rfl rfl sz_3 rfl H4 .here (by repeat constructor) (fun w5 H5 => ⟨fun _ => trivial, ?_⟩)
      refine .nil (cj ?_)
      refine .drawS2 19 (.cons (0, true) (.cons (1, true) (.cons (2, true) (.cons (3, true) (.cons (4, true) (.cons (5, true) (.cons (6, true) (.cons (7, true) (.cons (8, true) (.cons (9, true) (.cons (10, true) (.cons (11, true) (.cons (12, true) (.cons (13, true) (.cons (14, true) (.cons (15, true) (.cons (16, false) (.cons (17, true) (.cons (18, true) (.cons (19, true) (.cons (20, true) (.cons (21, true) (.cons (22, true) (.cons (23, false) .nil)))))))))))))))))))))))) mo (by kernel_rfl) H5 (.cons .here .nil) (fun _ _ _ _ _ h => h) (fun w6 H6 => ?_)
      refine .p rfl rfl rfl (val_move rfl) ?_
      refine .p rfl rfl rfl (val_move rfl) ?_
      refine .p rfl rfl rfl (val_nilCheck rfl) ?_
      refine .p rfl rfl rfl (val_fieldAddr rfl fa_92_1) ?_
      refine .ps rfl rfl rfl rfl (ld_b rfl ob_84 (.ro .here) rfl) ?_
      refine .p rfl rfl rfl (val_move rfl) ?_
      refine .p rfl rfl rfl (val_nilCheck rfl) ?_
      refine .p rfl rfl rfl (val_fieldAddr rfl fa_156_0) ?_
      refine .p rfl rfl rfl (val_fieldAddr rfl fa_42_3) ?_
      refine .ps rfl rfl rfl rfl (ld_blks rfl ag_40 (.own .here) (by repeat constructor)) ?_
      refine .p rfl rfl rfl (val_move rfl) ?_
      refine .p rfl rfl rfl (val_nilCheck rfl) ?_
      refine .p rfl rfl rfl (val_fieldAddr rfl fa_156_0) ?_
      refine .p rfl rfl rfl (val_fieldAddr rfl fa_42_1) ?_
      refine .ps rfl rfl rfl rfl (ld_b rfl ob_3 (.own .here) rfl) ?_
      refine .p rfl rfl rfl (val_move rfl) ?_
      refine .call1 rfl rfl rfl en117 (.cons rfl (.cons rfl (.cons rfl (.cons rfl .nil)))) (shift_spec _ _ _ _ _ _) H6 .nil (.ro (.there .here) .nil) (fun w7 H7 => ⟨fun _ => (H7.sub (.cons .here .nil)), ?_⟩)
      refine .p rfl rfl rfl (val_move rfl) ?_
      refine .p rfl rfl rfl (val_extract rfl rfl) ?_
      refine .p rfl rfl rfl (val_extract rfl rfl) ?_
      refine .p rfl rfl rfl (val_nilCheck rfl) ?_
      refine .p rfl rfl rfl (val_fieldAddr rfl fa_156_0) ?_
      refine .p rfl rfl rfl (val_fieldAddr rfl fa_42_4) ?_
      refine .store rfl rfl rfl rfl rfl sz_40 rfl H7 .here (.skip (.skip (.skip (.skip (.skip (.skip (.here (.cons (.cons (.cons .nil)))))))))) (fun w8 H8 => ⟨fun h => absurd h (by decide), ?_⟩)
      refine .nil (fend (res0 rfl) ?_)
      first | (rw [cut_a hs15] at hRR; exact hRR _ _ ⟨_, ⟨_, rfl, rfl, hrs⟩, H8.sub (.cons .here (.cons .here (.cons .here .nil)))⟩) | (rw [cut_b hc0] at hRR; exact hRR _ _ ⟨_, ⟨_, rfl, rfl, hrs⟩, H8.sub (.cons .here (.cons .here (.cons .here .nil)))⟩) | (rw [cut_c hs15 hc0] at hRR; exact hRR _ _ ⟨_, ⟨_, rfl, rfl, hrs1⟩, H8.sub (.cons .here (.cons .here (.cons .here .nil)))⟩)
structure St1 where
  r : Rb
  g : Gg
def stop1B (c : Cf) (r : Rb) (g : Gg) (ep : Int) : St1 := if r.epoch < ep then ⟨{ r with epoch := ep, num := 0, stopping := true }, cutG c g⟩ else ⟨r, g⟩
theorem s1_a {c : Cf} {r : Rb} {g : Gg} {ep : Int} (h : decide (r.epoch < ep) = true) : stop1B c r g ep = ⟨{ r with epoch := ep, num := 0, stopping := true }, cutG c g⟩ := by unfold stop1B; rw [if_pos (of_decide_eq_true h)]
theorem s1_b {c : Cf} {r : Rb} {g : Gg} {ep : Int} (h : decide (r.epoch < ep) = false) : stop1B c r g ep = ⟨r, g⟩ := by unfold stop1B; rw [if_neg (of_decide_eq_false h)]
theorem s1_c {c : Cf} {r : Rb} {g : Gg} {ep : Int} (h : decide (ep < r.epoch) = true) : stop1B c r g ep = ⟨r, g⟩ := by
  have := of_decide_eq_true h
  unfold stop1B; rw [if_neg (by omega)]
theorem stops1_spec (c : Cf) (hnum : NumOk c) (br bg bn bu : Nat) (r : Rb) (g : Gg) (rs : List Rn) (hrs : rs.length = 17) (hg : RunN g) (ep : Int) :
    Sk.Spec Tryz.prog 71 #[ptr br, i64 ep] [stepsA] (rblk br bg bn r (some ⟨bu, 0, none⟩) :: gblk2 bu g :: kinC c bn rs) fun e F' => ∃ rs' : List Rn, e = .returned (.tuple #[.slice none 0 0, i64 0]) ∧ F' = rblk br bg bn (stop1B c r g ep).r (some ⟨bu, 0, none⟩) :: gblk2 bu (stop1B c r g ep).g :: kinC c bn rs' ∧ rs'.length = 17 := by
  refine Spec.of_code (vs := [_, _]) (k0 := [(0, _), (1, _)]) 60 Tryz.func71 rfl Tryz.ntmps71 rfl (.cons (.cons .nil)) fun w X RR hRR H => ?_
  refine .seq ?_
  refine .plain rfl ?_
  refine .q rfl rfl rfl (val_assign rfl) ?_
  refine .q rfl rfl rfl (val_assign rfl) ?_
  refine .nil (cj ?_)
  refine .seq ?_
  refine .plain rfl ?_
  refine .q rfl rfl rfl (val_assign rfl) ?_
  refine .nil (cj ?_)
  refine .seq ?_
  refine .block ?_
  refine .seq ?_
  refine .block ?_
  refine .seq ?_
  refine .block ?_
  refine .seq ?_
  refine .block ?_
  refine .seq ?_
  refine .seq ?_
  refine .seq ?_
  refine .plain rfl ?_
  refine .q rfl rfl rfl (val_move rfl) ?_
  refine .q rfl rfl rfl (val_move rfl) ?_
  refine .q rfl rfl rfl (val_nilCheck rfl) ?_
  refine .q rfl rfl rfl (val_fieldAddr rfl fa_92_5) ?_
  refine .qs rfl rfl rfl H (ld_b rfl ob_3 (.own .here) rfl) ?_
  refine .q rfl rfl rfl (val_lss rfl rfl rfl) ?_
  refine .q rfl rfl rfl (val_assign rfl) ?_
  refine .nil (cj ?_)
  refine .cond rfl (fun hc0 => ?_) (fun hc0 => ?_)
  · refine .exit (cj ?_)
    refine .seq ?_
    refine .seq ?_
    refine .plain rfl ?_
    refine .q rfl rfl rfl (val_assign rfl) ?_
    refine .q rfl rfl rfl (val_assign rfl) ?_
    refine .nil (cj ?_)
    refine .ret (fret (res2 rfl rfl rfl) ?_)
    first | (rw [s1_c hc0] at hRR; exact hRR _ _ ⟨_, ⟨_, rfl, rfl, hrs⟩, H.sub (.cons .here (.cons .here (.cons .here (.cons .here .nil))))⟩) | (rw [s1_a hc1] at hRR; exact hRR _ _ ⟨_, ⟨_, rfl, rfl, by assumption⟩, H.sub (.cons .here (.cons .here (.cons .here (.cons .here .nil))))⟩) | (rw [s1_b hc1] at hRR; exact hRR _ _ ⟨_, ⟨_, rfl, rfl, hrs⟩, H.sub (.cons .here (.cons .here (.cons .here (.cons .here .nil))))⟩)
  · refine .skip (cj ?_)
    refine .seq ?_
    refine .plain rfl ?_
    refine .q rfl rfl rfl (val_move rfl) ?_
    refine .q rfl rfl rfl (val_move rfl) ?_
    refine .q rfl rfl rfl (val_nilCheck rfl) ?_
    refine .q rfl rfl rfl (val_fieldAddr rfl fa_92_5) ?_
    refine .qs rfl rfl rfl H (ld_b rfl ob_3 (.own .here) rfl) ?_
    refine .q rfl rfl rfl (val_gtr rfl rfl rfl) ?_
    refine .q rfl rfl rfl (val_assign rfl) ?_
    refine .nil (cj ?_)
    refine .cond rfl (fun hc1 => ?_) (fun hc1 => ?_)
    · refine .exit (cj ?_)
      refine .seq ?_
      refine .plain rfl ?_
      refine .q rfl rfl rfl (val_move rfl) ?_
      refine .q rfl rfl rfl (val_move rfl) ?_
      refine .q rfl rfl rfl (val_move rfl) ?_
      refine .q rfl rfl rfl (val_nilCheck rfl) ?_
      refine .q rfl rfl rfl (val_fieldAddr rfl fa_92_5) ?_
      refine .store rfl rfl rfl rfl rfl sz_3 rfl H .here (by repeat constructor) (fun w1 H1 => ⟨fun _ => trivial, ?_⟩)
      refine .q rfl rfl rfl (val_nilCheck rfl) ?_
      refine .q rfl rfl rfl (val_fieldAddr rfl fa_92_6) ?_
      refine .store rfl rfl rfl rfl rfl sz_3 rfl H1 .here (by repeat constructor) (fun w2 H2 => ⟨fun _ => trivial, ?_⟩)
      refine .nil (cj ?_)
      refine .seq ?_
      refine .seq ?_
      refine .plain rfl ?_
      refine .q rfl rfl rfl (val_move rfl) ?_
      refine .q rfl rfl rfl (val_nilCheck rfl) ?_
      refine .q rfl rfl rfl (val_fieldAddr rfl fa_92_7) ?_
      refine .qs rfl rfl rfl H2 (ld_b rfl ob_90 (.own .here) rfl) ?_
      refine .q rfl rfl rfl (val_ptr_ne_nil Tryz.underlying90 rfl rfl rfl) ?_
      refine .nil (cj ?_)
      refine .cond_t rfl ?_
      refine .seq ?_
      refine .plain rfl ?_
      refine .q rfl rfl rfl (val_move rfl) ?_
      refine .q rfl rfl rfl (val_nilCheck rfl) ?_
      refine .q rfl rfl rfl (val_fieldAddr rfl fa_92_8) ?_
      refine .store rfl rfl rfl rfl rfl sz_4 rfl H2 .here (by repeat constructor) (fun w3 H3 => ⟨fun _ => trivial, ?_⟩)
      refine .nil (cj ?_)
      refine .seq ?_
      refine .plain rfl ?_
      refine .q rfl rfl rfl (val_move rfl) ?_
      refine .callx rfl rfl rfl en96 (.cons rfl .nil) (cuts_spec c hnum br bg bn bu { r with epoch := ep, num := 0, stopping := true } g rs hrs hg) H3 (.cons (.there .here) (.cons (.there .here) (.cons (.there .here) .nil))) (.own .here (.ro .here .nil)) (fun rs4 w4 hrs4 H4 => ⟨fun _ => trivial, ?_⟩)
      refine .nil (cj ?_)
      refine .seq ?_
      refine .plain rfl ?_
      refine .q rfl rfl rfl (val_assign rfl) ?_
      refine .q rfl rfl rfl (val_assign rfl) ?_
      refine .nil (cj ?_)
      refine .ret (fret (res2 rfl rfl rfl) ?_)
      first | (rw [s1_c hc0] at hRR; exact hRR _ _ ⟨_, ⟨_, rfl, rfl, hrs⟩, H4.sub (.cons (.there (.there (.there .here))) (.cons .here (.cons .here (.cons .here .nil))))⟩) | (rw [s1_a hc1] at hRR; exact hRR _ _ ⟨_, ⟨_, rfl, rfl, by assumption⟩, H4.sub (.cons (.there (.there (.there .here))) (.cons .here (.cons .here (.cons .here .nil))))⟩) | (rw [s1_b hc1] at hRR; exact hRR _ _ ⟨_, ⟨_, rfl, rfl, hrs⟩, H4.sub (.cons (.there (.there (.there .here))) (.cons .here (.cons .here (.cons .here .nil))))⟩)
    · refine .skip (cj ?_)
      refine .exit (cj ?_)
      refine .seq ?_
      refine .seq ?_
      refine .plain rfl ?_
      refine .q rfl rfl rfl (val_move rfl) ?_
      refine .q rfl rfl rfl (val_nilCheck rfl) ?_
      refine .q rfl rfl rfl (val_fieldAddr rfl fa_92_5) ?_
      refine .qs rfl rfl rfl H (ld_b rfl ob_3 (.own .here) rfl) ?_
      refine .q rfl rfl rfl (val_eql rfl rfl rfl) ?_
      refine .q rfl rfl rfl (val_move rfl) ?_
      refine .case (t := 43) rfl (fun hs43 => ?_) (fun hs43 => ?_)
      · refine .no rfl rfl rfl ?_
        refine .no rfl rfl rfl ?_
        refine .no rfl rfl rfl ?_
        refine .no rfl rfl rfl ?_
        refine .no rfl rfl rfl ?_
        refine .q rfl rfl rfl (val_pick_t rfl rfl) ?_
        refine .q rfl rfl rfl (val_move rfl) ?_
        refine .no rfl rfl rfl ?_
        refine .no rfl rfl rfl ?_
        refine .no rfl rfl rfl ?_
        refine .no rfl rfl rfl ?_
        refine .no rfl rfl rfl ?_
        refine .q rfl rfl rfl (val_pick_t rfl rfl) ?_
        refine .nil (cj ?_)
        refine .cond_t rfl ?_
        refine .seq ?_
        refine .plain rfl ?_
        refine .q rfl rfl rfl (val_assign rfl) ?_
        refine .q rfl rfl rfl (val_assign rfl) ?_
        refine .nil (cj ?_)
        refine .ret (fret (res2 rfl rfl rfl) ?_)
        first | (rw [s1_c hc0] at hRR; exact hRR _ _ ⟨_, ⟨_, rfl, rfl, hrs⟩, H.sub (.cons .here (.cons .here (.cons .here (.cons .here .nil))))⟩) | (rw [s1_a hc1] at hRR; exact hRR _ _ ⟨_, ⟨_, rfl, rfl, by assumption⟩, H.sub (.cons .here (.cons .here (.cons .here (.cons .here .nil))))⟩) | (rw [s1_b hc1] at hRR; exact hRR _ _ ⟨_, ⟨_, rfl, rfl, hrs⟩, H.sub (.cons .here (.cons .here (.cons .here (.cons .here .nil))))⟩)
      · refine .q rfl rfl rfl (val_move rfl) ?_
        refine .q rfl rfl rfl (val_nilCheck rfl) ?_
        refine .q rfl rfl rfl (val_fieldAddr rfl fa_92_7) ?_
        refine .qs rfl rfl rfl H (ld_b rfl ob_90 (.own .here) rfl) ?_
        refine .q rfl rfl rfl (val_ptr_ne_nil Tryz.underlying90 rfl rfl rfl) ?_
        refine .q rfl rfl rfl (val_pick_f rfl rfl) ?_
        refine .q rfl rfl rfl (val_move rfl) ?_
        refine .no rfl rfl rfl ?_
        refine .no rfl rfl rfl ?_
        refine .no rfl rfl rfl ?_
        refine .no rfl rfl rfl ?_
        refine .no rfl rfl rfl ?_
        refine .q rfl rfl rfl (val_pick_t rfl rfl) ?_
        refine .nil (cj ?_)
        refine .cond_t rfl ?_
        refine .seq ?_
        refine .plain rfl ?_
        refine .q rfl rfl rfl (val_assign rfl) ?_
        refine .q rfl rfl rfl (val_assign rfl) ?_
        refine .nil (cj ?_)
        refine .ret (fret (res2 rfl rfl rfl) ?_)
        first | (rw [s1_c hc0] at hRR; exact hRR _ _ ⟨_, ⟨_, rfl, rfl, hrs⟩, H.sub (.cons .here (.cons .here (.cons .here (.cons .here .nil))))⟩) | (rw [s1_a hc1] at hRR; exact hRR _ _ ⟨_, ⟨_, rfl, rfl, by assumption⟩, H.sub (.cons .here (.cons .here (.cons .here (.cons .here .nil))))⟩) | (rw [s1_b hc1] at hRR; exact hRR _ _ ⟨_, ⟨_, rfl, rfl, hrs⟩, H.sub (.cons .here (.cons .here (.cons .here (.cons .here .nil))))⟩)
end Go.Proofs.YtmbibkifbehgnaaGreatDoor
namespace Go.Proofs.YtmbibkifbehgnaaGreatDoor
open Go Sk
set_option linter.unusedVariables false
set_option linter.unusedSimpArgs false
theorem fa_44_0 (b o : Nat) (w : World) : (Instr.fieldAt 44 (.pointer (some ⟨b, o, none⟩)) 0).run Tryz.prog w = .ok (.pointer (some ⟨b, o + 0, none⟩)) w := by kernel_rfl
theorem fa_44_1 (b o : Nat) (w : World) : (Instr.fieldAt 44 (.pointer (some ⟨b, o, none⟩)) 1).run Tryz.prog w = .ok (.pointer (some ⟨b, o + 1, none⟩)) w := by kernel_rfl
section
variable {c : Cf} {q : Rw} {ep : Int}
end
section
variable {c : Cf} {q : Rw} {t : Te}
end
theorem Ats_left : ∀ (A B : List As), Ats (A ++ B) A B
  | [], B => .nil
  | f :: A, B => .cons .here (Ats_left A B)
end Go.Proofs.YtmbibkifbehgnaaGreatDoor
namespace Go.Proofs.YtmbibkifbehgnaaGreatDoor
open Go Sk
set_option linter.unusedVariables false
set_option linter.unusedSimpArgs false
theorem en70 : Enters Tryz.prog 70 := fun args w => by kernel_rfl
theorem en71 : Enters Tryz.prog 71 := fun args w => by kernel_rfl
structure HeB where
  tele : Option Te
  how : Int
  r : Rb
  g : Option Gg
/-- a telegram comes -/
def hearB (c : Cf) (r : Rb) (g : Option Gg) (t : Te) : HeB :=
  if t.robot ≠ r.i then ⟨none, 0, r, g⟩
  else if t.kind = 1 then ⟨(goB c r g t).tele, (goB c r g t).how, r, (goB c r g t).g⟩
  else if t.kind = 2 then (match g with
    | none => ⟨(stopB r t.epoch).tele, (stopB r t.epoch).how, (stopB r t.epoch).r, none⟩
    | some u => ⟨none, 0, (stop1B c r u t.epoch).r, some (stop1B c r u t.epoch).g⟩)
  else ⟨none, 0, r, g⟩
section
variable {c : Cf} {r : Rb} {g : Option Gg} {t : Te}
theorem hb_a (h : (t.robot != r.i) = true) : hearB c r g t = ⟨none, 0, r, g⟩ := by unfold hearB; rw [if_pos (by simpa using h)]
theorem hb_b (h : (t.robot != r.i) = false) (h1 : (t.kind == 1) = true) : hearB c r g t = ⟨(goB c r g t).tele, (goB c r g t).how, r, (goB c r g t).g⟩ := by unfold hearB; rw [if_neg (by simpa using h), if_pos (by simpa using h1)]
theorem hb_c (h : (t.robot != r.i) = false) (h1 : (t.kind == 1) = false) (h2 : (t.kind == 2) = true) : hearB c r none t = ⟨(stopB r t.epoch).tele, (stopB r t.epoch).how, (stopB r t.epoch).r, none⟩ := by unfold hearB; rw [if_neg (by simpa using h), if_neg (by simpa using h1), if_pos (by simpa using h2)]
theorem hb_c1 {u : Gg} (h : (t.robot != r.i) = false) (h1 : (t.kind == 1) = false) (h2 : (t.kind == 2) = true) : hearB c r (some u) t = ⟨none, 0, (stop1B c r u t.epoch).r, some (stop1B c r u t.epoch).g⟩ := by unfold hearB; rw [if_neg (by simpa using h), if_neg (by simpa using h1), if_pos (by simpa using h2)]
theorem hb_d (h : (t.robot != r.i) = false) (h1 : (t.kind == 1) = false) (h2 : (t.kind == 2) = false) : hearB c r g t = ⟨none, 0, r, g⟩ := by unfold hearB; rw [if_neg (by simpa using h), if_neg (by simpa using h1), if_neg (by simpa using h2)]
end
abbrev HePost (br bg bn : Nat) (q : HeB) : Ending → List As → Prop := fun e F' => ∃ x : HX, e = .returned (.tuple #[x.v, i64 q.how]) ∧ F' = x.fx ++ robF br bg bn x.bu q.r q.g ∧ TeV q.tele x.v x.fx
theorem hear0_spec (c : Cf) (hm : MayOk c) (br bg bk bn : Nat) (r : Rb) (t : Te) : Sk.Spec Tryz.prog 34 #[ptr br, .agg (encT t).toArray] [gfix c bg bk, kblk bk (KF c), stepsA] [rblk br bg bn r none] (HePost br bg bn (hearB c r none t)) := by
  refine Spec.of_code (vs := [_, _]) (k0 := [(0, _), (1, _)]) 41 Tryz.func34 rfl Tryz.ntmps34 rfl (.cons (.cons .nil)) fun w X RR hRR H => ?_
  refine .seq ?_
  refine .plain rfl ?_
  refine .box rfl rfl rfl rfl rfl H (fun w1 b1 H1 => ⟨fun _ => trivial, ?_⟩)
  refine .q rfl rfl rfl (val_assign rfl) ?_
  refine .q rfl rfl rfl (val_assign rfl) ?_
  refine .nil (cj ?_)
  refine .seq ?_
  refine .seq ?_
  refine .drawS 18 (.cons (0, true) (.cons (1, true) (.cons (2, true) (.cons (3, true) (.cons (4, true) (.cons (5, true) (.cons (6, true) (.cons (7, true) (.cons (8, true) (.cons (9, true) (.cons (10, true) (.cons (11, true) (.cons (12, true) (.cons (13, true) (.cons (14, true) (.cons (15, true) (.cons (16, true) (.cons (17, true) .nil)))))))))))))))))) mo (by kernel_rfl) H1 (fun _ _ _ _ _ h => h) (fun w2 H2 => ?_)
  refine .p rfl rfl rfl (val_move rfl) ?_
  refine .p rfl rfl rfl (val_ptr_eq_nil Tryz.underlying30 rfl rfl rfl) ?_
  refine .p rfl rfl rfl (val_move rfl) ?_
  refine .p rfl rfl rfl (val_move rfl) ?_
  refine .p rfl rfl rfl (val_nilCheck rfl) ?_
  refine .p rfl rfl rfl (val_fieldAddr rfl fa_92_1) ?_
  refine .ps rfl rfl rfl rfl (ld_b rfl ob_84 (.own (.there .here)) rfl) ?_
  refine .p rfl rfl rfl (val_ptr_eq_nil Tryz.underlying84 rfl rfl rfl) ?_
  refine .p rfl rfl rfl (val_pick_f rfl rfl) ?_
  refine .p rfl rfl rfl (val_move rfl) ?_
  refine .p rfl rfl rfl (val_fieldAddr rfl fa_44_1) ?_
  refine .ps rfl rfl rfl rfl (ld_b rfl ob_3 (.own .here) rfl) ?_
  refine .p rfl rfl rfl (val_move rfl) ?_
  refine .p rfl rfl rfl (val_nilCheck rfl) ?_
  refine .p rfl rfl rfl (val_fieldAddr rfl fa_92_0) ?_
  refine .ps rfl rfl rfl rfl (ld_b rfl ob_3 (.own (.there .here)) rfl) ?_
  refine .p rfl rfl rfl (val_neq rfl rfl rfl) ?_
  refine .p rfl rfl rfl (val_pick_f rfl rfl) ?_
  refine .nil (cj ?_)
  refine .cond rfl (fun hc0 => ?_) (fun hc0 => ?_)
  · refine .seq ?_
    refine .plain rfl ?_
    refine .q rfl rfl rfl (val_assign rfl) ?_
    refine .q rfl rfl rfl (val_assign rfl) ?_
    refine .nil (cj ?_)
    refine .ret (fret (res2 rfl rfl rfl) ?_)
    first | (rw [hb_a hc0] at hRR; exact hRR _ _ ⟨_, ⟨⟨_, [], 0⟩, rfl, rfl, .none⟩, H2.sub (.cons (.there .here) .nil)⟩) | (rw [hb_d hc0 hc1 hc2] at hRR; exact hRR _ _ ⟨_, ⟨⟨_, [], 0⟩, rfl, rfl, .none⟩, H2.sub (.cons (.there .here) .nil)⟩) | (rw [hb_b hc0 hc1] at hRR; exact hRR _ _ ⟨_, ⟨_, rfl, rfl, by assumption⟩, H2.sub (Ats_left _ _)⟩) | (rw [hb_c hc0 hc1 hc2] at hRR; exact hRR _ _ ⟨_, ⟨⟨_, _, 0⟩, rfl, rfl, by assumption⟩, H2.sub (Ats_left _ _)⟩)
  · refine .skip (cj ?_)
    refine .seq ?_
    refine .seq ?_
    refine .plain rfl ?_
    refine .q rfl rfl rfl (val_fieldAddr rfl fa_44_0) ?_
    refine .qs rfl rfl rfl H2 (ld_b rfl ob_3 (.own .here) rfl) ?_
    refine .nil (cj ?_)
    refine .block ?_
    refine .seq ?_
    refine .plain rfl ?_
    refine .q rfl rfl rfl (val_eql rfl rfl rfl) ?_
    refine .q rfl rfl rfl (val_assign rfl) ?_
    refine .nil (cj ?_)
    refine .cond rfl (fun hc1 => ?_) (fun hc1 => ?_)
    · refine .seq ?_
      refine .plain rfl ?_
      refine .q rfl rfl rfl (val_move rfl) ?_
      refine .qs rfl rfl rfl H2 (ld_w rfl ag_44 (.own .here) rfl) ?_
      refine .callx rfl rfl rfl en70 (.cons rfl (.cons rfl .nil)) (goes0_spec c hm _ bg bk bn r t) H2 (.cons (.there .here) .nil) (.ro .here (.ro (.there .here) (.ro (.there (.there .here)) .nil))) (fun x3 w3 C3 H3 => ⟨fun _ => trivial, ?_⟩)
      refine .q rfl rfl rfl (val_extract rfl rfl) ?_
      refine .q rfl rfl rfl (val_extract rfl rfl) ?_
      refine .q rfl rfl rfl (val_assign rfl) ?_
      refine .q rfl rfl rfl (val_assign rfl) ?_
      refine .nil (cj ?_)
      refine .ret (fret (res2 rfl rfl rfl) ?_)
      first | (rw [hb_a hc0] at hRR; exact hRR _ _ ⟨_, ⟨⟨_, [], 0⟩, rfl, rfl, .none⟩, H3.sub .nil⟩) | (rw [hb_d hc0 hc1 hc2] at hRR; exact hRR _ _ ⟨_, ⟨⟨_, [], 0⟩, rfl, rfl, .none⟩, H3.sub .nil⟩) | (rw [hb_b hc0 hc1] at hRR; exact hRR _ _ ⟨_, ⟨_, rfl, rfl, by assumption⟩, H3.sub (Ats_left _ _)⟩) | (rw [hb_c hc0 hc1 hc2] at hRR; exact hRR _ _ ⟨_, ⟨⟨_, _, 0⟩, rfl, rfl, by assumption⟩, H3.sub (Ats_left _ _)⟩)
    · refine .seq ?_
      refine .plain rfl ?_
      refine .q rfl rfl rfl (val_eql rfl rfl rfl) ?_
      refine .q rfl rfl rfl (val_assign rfl) ?_
      refine .nil (cj ?_)
      refine .cond rfl (fun hc2 => ?_) (fun hc2 => ?_)
      · refine .seq ?_
        refine .plain rfl ?_
        refine .q rfl rfl rfl (val_move rfl) ?_
        refine .q rfl rfl rfl (val_fieldAddr rfl fa_44_2) ?_
        refine .qs rfl rfl rfl H2 (ld_b rfl ob_3 (.own .here) rfl) ?_
        refine .callx rfl rfl rfl en71 (.cons rfl (.cons rfl .nil)) (stops0_spec _ _ _ r _) H2 (.cons (.there .here) .nil) .nil (fun x4 w4 C4 H4 => ⟨fun _ => trivial, ?_⟩)
        refine .q rfl rfl rfl (val_extract rfl rfl) ?_
        refine .q rfl rfl rfl (val_extract rfl rfl) ?_
        refine .q rfl rfl rfl (val_assign rfl) ?_
        refine .q rfl rfl rfl (val_assign rfl) ?_
        refine .nil (cj ?_)
        refine .ret (fret (res2 rfl rfl rfl) ?_)
        first | (rw [hb_a hc0] at hRR; exact hRR _ _ ⟨_, ⟨⟨_, [], 0⟩, rfl, rfl, .none⟩, H4.sub .nil⟩) | (rw [hb_d hc0 hc1 hc2] at hRR; exact hRR _ _ ⟨_, ⟨⟨_, [], 0⟩, rfl, rfl, .none⟩, H4.sub .nil⟩) | (rw [hb_b hc0 hc1] at hRR; exact hRR _ _ ⟨_, ⟨_, rfl, rfl, by assumption⟩, H4.sub (Ats_left _ _)⟩) | (rw [hb_c hc0 hc1 hc2] at hRR; exact hRR _ _ ⟨_, ⟨⟨_, _, 0⟩, rfl, rfl, by assumption⟩, H4.sub (Ats_left _ _)⟩)
      · refine .skip (cj ?_)
        refine .seq ?_
        refine .plain rfl ?_
        refine .q rfl rfl rfl (val_assign rfl) ?_
        refine .q rfl rfl rfl (val_assign rfl) ?_
        refine .nil (cj ?_)
        refine .ret (fret (res2 rfl rfl rfl) ?_)
        first | (rw [hb_a hc0] at hRR; exact hRR _ _ ⟨_, ⟨⟨_, [], 0⟩, rfl, rfl, .none⟩, H2.sub (.cons (.there .here) .nil)⟩) | (rw [hb_d hc0 hc1 hc2] at hRR; exact hRR _ _ ⟨_, ⟨⟨_, [], 0⟩, rfl, rfl, .none⟩, H2.sub (.cons (.there .here) .nil)⟩) | (rw [hb_b hc0 hc1] at hRR; exact hRR _ _ ⟨_, ⟨_, rfl, rfl, by assumption⟩, H2.sub (Ats_left _ _)⟩) | (rw [hb_c hc0 hc1 hc2] at hRR; exact hRR _ _ ⟨_, ⟨⟨_, _, 0⟩, rfl, rfl, by assumption⟩, H2.sub (Ats_left _ _)⟩)
theorem Ats_app : ∀ (A : List As) {B C D : List As}, Ats B C D → Ats (A ++ B) (A ++ C) D
  | [], _, _, _, h => h
  | f :: A, _, _, _, h => .cons .here (Ats_app A h)
abbrev HePost1 (c : Cf) (br bg bn : Nat) (q : HeB) : Ending → List As → Prop := fun e F' => ∃ (x : HX × List Rn), e = .returned (.tuple #[x.1.v, i64 q.how]) ∧ F' = (x.1.fx ++ robF br bg bn x.1.bu q.r q.g) ++ kinC c bn x.2 ∧ TeV q.tele x.1.v x.1.fx ∧ x.2.length = 17
theorem hear1_spec (c : Cf) (hm : MayOk c) (br bg bk bn bu : Nat) (r : Rb) (g : Gg) (rs : List Rn) (hrs : rs.length = 17) (hg : RunN g) (t : Te) :
    Sk.Spec Tryz.prog 34 #[ptr br, .agg (encT t).toArray] [gfix c bg bk, kblk bk (KF c), stepsA] (rblk br bg bn r (some ⟨bu, 0, none⟩) :: gblk2 bu g :: kinC c bn rs) (HePost1 c br bg bn (hearB c r (some g) t)) := by
  refine Spec.of_code (vs := [_, _]) (k0 := [(0, _), (1, _)]) 41 Tryz.func34 rfl Tryz.ntmps34 rfl (.cons (.cons .nil)) fun w X RR hRR H => ?_
  refine .seq ?_
  refine .plain rfl ?_
  refine .box rfl rfl rfl rfl rfl H (fun w1 b1 H1 => ⟨fun _ => trivial, ?_⟩)
  refine .q rfl rfl rfl (val_assign rfl) ?_
  refine .q rfl rfl rfl (val_assign rfl) ?_
  refine .nil (cj ?_)
  refine .seq ?_
  refine .seq ?_
  refine .drawS 18 (.cons (0, true) (.cons (1, true) (.cons (2, true) (.cons (3, true) (.cons (4, true) (.cons (5, true) (.cons (6, true) (.cons (7, true) (.cons (8, true) (.cons (9, true) (.cons (10, true) (.cons (11, true) (.cons (12, true) (.cons (13, true) (.cons (14, true) (.cons (15, true) (.cons (16, true) (.cons (17, true) .nil)))))))))))))))))) mo (by kernel_rfl) H1 (fun _ _ _ _ _ h => h) (fun w2 H2 => ?_)
  refine .p rfl rfl rfl (val_move rfl) ?_
  refine .p rfl rfl rfl (val_ptr_eq_nil Tryz.underlying30 rfl rfl rfl) ?_
  refine .p rfl rfl rfl (val_move rfl) ?_
  refine .p rfl rfl rfl (val_move rfl) ?_
  refine .p rfl rfl rfl (val_nilCheck rfl) ?_
  refine .p rfl rfl rfl (val_fieldAddr rfl fa_92_1) ?_
  refine .ps rfl rfl rfl rfl (ld_b rfl ob_84 (.own (.there .here)) rfl) ?_
  refine .p rfl rfl rfl (val_ptr_eq_nil Tryz.underlying84 rfl rfl rfl) ?_
  refine .p rfl rfl rfl (val_pick_f rfl rfl) ?_
  refine .p rfl rfl rfl (val_move rfl) ?_
  refine .p rfl rfl rfl (val_fieldAddr rfl fa_44_1) ?_
  refine .ps rfl rfl rfl rfl (ld_b rfl ob_3 (.own .here) rfl) ?_
  refine .p rfl rfl rfl (val_move rfl) ?_
  refine .p rfl rfl rfl (val_nilCheck rfl) ?_
  refine .p rfl rfl rfl (val_fieldAddr rfl fa_92_0) ?_
  refine .ps rfl rfl rfl rfl (ld_b rfl ob_3 (.own (.there .here)) rfl) ?_
  refine .p rfl rfl rfl (val_neq rfl rfl rfl) ?_
  refine .p rfl rfl rfl (val_pick_f rfl rfl) ?_
  refine .nil (cj ?_)
  refine .cond rfl (fun hc0 => ?_) (fun hc0 => ?_)
  · refine .seq ?_
    refine .plain rfl ?_
    refine .q rfl rfl rfl (val_assign rfl) ?_
    refine .q rfl rfl rfl (val_assign rfl) ?_
    refine .nil (cj ?_)
    refine .ret (fret (res2 rfl rfl rfl) ?_)
    first | (rw [hb_a hc0] at hRR; exact hRR _ _ ⟨_, ⟨(⟨_, [], bu⟩, rs), rfl, rfl, .none, hrs⟩, H2.sub (.cons (.there .here) (.cons (.there .here) (.cons (.there .here) (.cons (.there .here) .nil))))⟩) | (rw [hb_d hc0 hc1 hc2] at hRR; exact hRR _ _ ⟨_, ⟨(⟨_, [], bu⟩, rs), rfl, rfl, .none, hrs⟩, H2.sub (.cons (.there .here) (.cons (.there .here) (.cons (.there .here) (.cons (.there .here) .nil))))⟩) | (rw [hb_b hc0 hc1] at hRR; exact hRR _ _ ⟨_, ⟨(_, rs), rfl, rfl, by assumption, hrs⟩, H2.sub (Ats_app _ (.cons (.there .here) (.cons (.there .here) .nil)))⟩) | (rw [hb_c1 hc0 hc1 hc2] at hRR; exact hRR _ _ ⟨_, ⟨(⟨_, [], bu⟩, rs1), rfl, rfl, .none, hrs1⟩, H2.sub (.cons (.there .here) (.cons (.there .here) (.cons (.there .here) (.cons (.there .here) .nil))))⟩)
  · refine .skip (cj ?_)
    refine .seq ?_
    refine .seq ?_
    refine .plain rfl ?_
    refine .q rfl rfl rfl (val_fieldAddr rfl fa_44_0) ?_
    refine .qs rfl rfl rfl H2 (ld_b rfl ob_3 (.own .here) rfl) ?_
    refine .nil (cj ?_)
    refine .block ?_
    refine .seq ?_
    refine .plain rfl ?_
    refine .q rfl rfl rfl (val_eql rfl rfl rfl) ?_
    refine .q rfl rfl rfl (val_assign rfl) ?_
    refine .nil (cj ?_)
    refine .cond rfl (fun hc1 => ?_) (fun hc1 => ?_)
    · refine .seq ?_
      refine .plain rfl ?_
      refine .q rfl rfl rfl (val_move rfl) ?_
      refine .qs rfl rfl rfl H2 (ld_w rfl ag_44 (.own .here) rfl) ?_
      refine .callx rfl rfl rfl en70 (.cons rfl (.cons rfl .nil)) (goes1_spec c hm _ bg bk bn bu r g t) H2 (.cons (.there .here) (.cons (.there .here) .nil)) (.ro .here (.ro (.there .here) (.ro (.there (.there .here)) .nil))) (fun x3 w3 C3 H3 => ⟨fun _ => trivial, ?_⟩)
      refine .q rfl rfl rfl (val_extract rfl rfl) ?_
      refine .q rfl rfl rfl (val_extract rfl rfl) ?_
      refine .q rfl rfl rfl (val_assign rfl) ?_
      refine .q rfl rfl rfl (val_assign rfl) ?_
      refine .nil (cj ?_)
      refine .ret (fret (res2 rfl rfl rfl) ?_)
      first | (rw [hb_a hc0] at hRR; exact hRR _ _ ⟨_, ⟨(⟨_, [], bu⟩, rs), rfl, rfl, .none, hrs⟩, H3.sub .nil⟩) | (rw [hb_d hc0 hc1 hc2] at hRR; exact hRR _ _ ⟨_, ⟨(⟨_, [], bu⟩, rs), rfl, rfl, .none, hrs⟩, H3.sub .nil⟩) | (rw [hb_b hc0 hc1] at hRR; exact hRR _ _ ⟨_, ⟨(_, rs), rfl, rfl, by assumption, hrs⟩, H3.sub (Ats_app _ (.cons (.there .here) (.cons (.there .here) .nil)))⟩) | (rw [hb_c1 hc0 hc1 hc2] at hRR; exact hRR _ _ ⟨_, ⟨(⟨_, [], bu⟩, rs1), rfl, rfl, .none, hrs1⟩, H3.sub .nil⟩)
    · refine .seq ?_
      refine .plain rfl ?_
      refine .q rfl rfl rfl (val_eql rfl rfl rfl) ?_
      refine .q rfl rfl rfl (val_assign rfl) ?_
      refine .nil (cj ?_)
      refine .cond rfl (fun hc2 => ?_) (fun hc2 => ?_)
      · refine .seq ?_
        refine .plain rfl ?_
        refine .q rfl rfl rfl (val_move rfl) ?_
        refine .q rfl rfl rfl (val_fieldAddr rfl fa_44_2) ?_
        refine .qs rfl rfl rfl H2 (ld_b rfl ob_3 (.own .here) rfl) ?_
        refine .callx rfl rfl rfl en71 (.cons rfl (.cons rfl .nil)) (stops1_spec c hm.num _ bg bn bu r g rs hrs hg t.epoch) H2 (.cons (.there .here) (.cons (.there .here) (.cons (.there .here) (.cons (.there .here) .nil)))) (.ro (.there (.there .here)) .nil) (fun rs1 w4 hrs1 H4 => ⟨fun _ => trivial, ?_⟩)
        refine .q rfl rfl rfl (val_extract rfl rfl) ?_
        refine .q rfl rfl rfl (val_extract rfl rfl) ?_
        refine .q rfl rfl rfl (val_assign rfl) ?_
        refine .q rfl rfl rfl (val_assign rfl) ?_
        refine .nil (cj ?_)
        refine .ret (fret (res2 rfl rfl rfl) ?_)
        first | (rw [hb_a hc0] at hRR; exact hRR _ _ ⟨_, ⟨(⟨_, [], bu⟩, rs), rfl, rfl, .none, hrs⟩, H4.sub (.cons .here (.cons .here (.cons .here (.cons .here .nil))))⟩) | (rw [hb_d hc0 hc1 hc2] at hRR; exact hRR _ _ ⟨_, ⟨(⟨_, [], bu⟩, rs), rfl, rfl, .none, hrs⟩, H4.sub (.cons .here (.cons .here (.cons .here (.cons .here .nil))))⟩) | (rw [hb_b hc0 hc1] at hRR; exact hRR _ _ ⟨_, ⟨(_, rs), rfl, rfl, by assumption, hrs⟩, H4.sub (Ats_app _ (.cons (.there .here) (.cons (.there .here) .nil)))⟩) | (rw [hb_c1 hc0 hc1 hc2] at hRR; exact hRR _ _ ⟨_, ⟨(⟨_, [], bu⟩, rs1), rfl, rfl, .none, hrs1⟩, H4.sub (.cons .here (.cons .here (.cons .here (.cons .here .nil))))⟩)
      · refine .skip (cj ?_)
        refine .seq ?_
        refine .plain rfl ?_
        refine .q rfl rfl rfl (val_assign rfl) ?_
        refine .q rfl rfl rfl (val_assign rfl) ?_
        refine .nil (cj ?_)
        refine .ret (fret (res2 rfl rfl rfl) ?_)
        first | (rw [hb_a hc0] at hRR; exact hRR _ _ ⟨_, ⟨(⟨_, [], bu⟩, rs), rfl, rfl, .none, hrs⟩, H2.sub (.cons (.there .here) (.cons (.there .here) (.cons (.there .here) (.cons (.there .here) .nil))))⟩) | (rw [hb_d hc0 hc1 hc2] at hRR; exact hRR _ _ ⟨_, ⟨(⟨_, [], bu⟩, rs), rfl, rfl, .none, hrs⟩, H2.sub (.cons (.there .here) (.cons (.there .here) (.cons (.there .here) (.cons (.there .here) .nil))))⟩) | (rw [hb_b hc0 hc1] at hRR; exact hRR _ _ ⟨_, ⟨(_, rs), rfl, rfl, by assumption, hrs⟩, H2.sub (Ats_app _ (.cons (.there .here) (.cons (.there .here) .nil)))⟩) | (rw [hb_c1 hc0 hc1 hc2] at hRR; exact hRR _ _ ⟨_, ⟨(⟨_, [], bu⟩, rs1), rfl, rfl, .none, hrs1⟩, H2.sub (.cons (.there .here) (.cons (.there .here) (.cons (.there .here) (.cons (.there .here) .nil))))⟩)
end Go.Proofs.YtmbibkifbehgnaaGreatDoor
namespace Go.Proofs.YtmbibkifbehgnaaGreatDoor.Sk
open Go
set_option linter.unusedVariables false
set_option linter.unusedSimpArgs false
section
variable {P : Program} {f : FuncId} {args : Array Value} {R F Rc Fc Fr : List As} {Post Post' : Ending → List As → Prop}
def pureA (p : Prop) : As where
  on X w := (∀ k, ¬ X k) ∧ p
  loc X w w' h _ := h
  lt X w h k hk := absurd hk (h.1 k)
theorem Own.pure {p : Prop} {F' : List As} (h : At F (pureA p) F') {X : Nat → Prop} {w : World} (hF : Own F X w) : p := by
  obtain ⟨Y, hY, _⟩ := Own.mem h.mem hF
  exact hY.2
theorem Own.nil_end {X : Nat → Prop} {w : World} (h : Own F X w) : Own (F ++ []) X w := by simpa using h
theorem Own.perm {G : List As} (h : Ats F G []) {X : Nat → Prop} {w : World} (hF : Own F X w) : Own G X w := by
  obtain ⟨X1, X2, h1, h2, _, h4⟩ := Own.picks h hF
  have e : X = X1 := funext fun k => propext ((h4 k).trans ⟨fun h => h.resolve_right (h2 k), .inl⟩)
  rw [e]; exact h1
/-- one that owns nothing is put in front -/
theorem Own.consE {g : As} {X : Nat → Prop} {w : World} (hg : g.on (fun _ => False) w) (hF : Own F X w) : Own (g :: F) X w := ⟨fun _ => False, X, hg, hF, fun _ h => h.elim, fun k => by simp⟩
theorem Own.exIn {ι : Type} {fA : ι → List As} {X : Nat → Prop} {w : World} (i : ι) (h : Own (fA i ++ F) X w) : Own (exAs fA :: F) X w := by
  obtain ⟨X1, X2, h1, h2, h3, h4⟩ := Own.split h
  exact ⟨X1, X2, ⟨i, h1⟩, h2, h3, h4⟩
theorem Own.exOut {ι : Type} {fA : ι → List As} {X : Nat → Prop} {w : World} (h : Own (exAs fA :: F) X w) : ∃ i, Own (fA i ++ F) X w := by
  obtain ⟨X1, X2, ⟨i, h1⟩, h2, h3, h4⟩ := h
  have e : X = fun k => X1 k ∨ X2 k := funext fun k => propext (h4 k)
  exact ⟨i, by rw [e]; exact Own.append h1 h2 h3⟩
theorem Spec.openF {ι : Type} {fA : ι → List As} (h : ∀ i, Sk.Spec P f args R (fA i ++ F) Post) : Sk.Spec P f args R (exAs fA :: F) Post := fun w X hF hR => by
  obtain ⟨i, hi⟩ := hF.exOut
  exact h i w X hi hR
theorem Spec.openR {ι : Type} {fA : ι → List As} (h : ∀ i, Sk.Spec P f args (fA i ++ R) F Post) : Sk.Spec P f args (exAs fA :: R) F Post := fun w X hF hR => by
  obtain ⟨Y, ⟨i, hi⟩, hd⟩ := hR _ List.mem_cons_self
  refine h i w X hF fun r hr => ?_
  rcases List.mem_append.1 hr with hr | hr
  · obtain ⟨Z, hZ, hs⟩ := Own.mem hr hi
    exact ⟨Z, hZ, fun k hk => hd k (hs k hk)⟩
  · exact hR r (List.mem_cons_of_mem _ hr)
theorem Spec.of_pure {p : Prop} {F' : List As} (hat : At F (pureA p) F') (h : p → Sk.Spec P f args R F Post) : Sk.Spec P f args R F Post := fun w X hF hR => h (Own.pure hat hF) w X hF hR
theorem Spec.conseq (h : Sk.Spec P f args R F Post) (hp : ∀ e F', Post e F' → ∃ F'', Post' e F'' ∧ ∀ X w, Own F' X w → ∃ X', Own F'' X' w ∧ ∀ k, X' k → X k) : Sk.Spec P f args R F Post' := fun w X hF hR =>
  (h w X hF hR).mono fun e w' ⟨F', X', h1, h2, h3, h4⟩ => by
    obtain ⟨F'', g1, g2⟩ := hp e F' h1
    obtain ⟨X'', g3, g4⟩ := g2 X' w' h2
    exact ⟨F'', X'', g1, g3, h3, fun k hk => h4 k (g4 k hk)⟩
theorem Spec.conseq0 (h : Sk.Spec P f args R F Post) (hp : ∀ e F', Post e F' → Post' e F') : Sk.Spec P f args R F Post' := h.conseq fun e F' h => ⟨F', hp e F' h, fun X w hX => ⟨X, hX, fun _ h => h⟩⟩
theorem Spec.frame (h : Sk.Spec P f args Rc Fc Post) (hF : Ats F Fc Fr) (hR : Sub R Fr Rc) : Sk.Spec P f args R F (fun e F'' => ∃ F', Post e F' ∧ F'' = F' ++ Fr) := fun w X hFw hRw => by
  refine (h.use (St.start hFw hRw) hF hR).mono fun e w' ⟨F', hp, H⟩ => ?_
  obtain ⟨X', h1, h2, h3⟩ := H.done
  exact ⟨_, X', ⟨F', hp, rfl⟩, h1, h2, h3⟩
theorem Spec.ro (h : Sk.Spec P f args Rc [] Post) (hR : Sub R [] Rc) : Sk.Spec P f args R [] Post := (h.frame .nil hR).conseq fun e F' ⟨F1, h1, h2⟩ => ⟨F1, h1, fun X w hX => ⟨X, by rw [h2] at hX; simpa using hX, fun _ h => h⟩⟩
theorem Ats.left : ∀ (A B : List As), Ats (A ++ B) A B
  | [], B => .nil
  | f :: A, B => .cons .here (Ats.left A B)
theorem Ats.app : ∀ (A : List As) {B C D : List As}, Ats B C D → Ats (A ++ B) (A ++ C) D
  | [], _, _, _, h => h
  | f :: A, _, _, _, h => .cons .here (Ats.app A h)
theorem Ats.there {g : As} {F G H : List As} (h : Ats F G H) : Ats (g :: F) G (g :: H) := by
  induction h with
  | nil => exact .nil
  | cons h _ ih => exact .cons (.there h) ih
theorem Ats.skip : ∀ (A : List As) {F G H : List As}, Ats F G H → Ats (A ++ F) G (A ++ H)
  | [], _, _, _, h => h
  | _ :: A, _, _, _, h => (Ats.skip A h).there
theorem Ats.comp {F G H K L : List As} (h : Ats F G H) : Ats H K L → Ats F (G ++ K) L := by
  induction h with
  | nil => exact fun h => h
  | cons h _ ih => exact fun hk => .cons h (ih hk)
theorem Ats.refl_nil (A : List As) : Ats (A ++ []) A [] := by
  rw [List.append_nil]; exact Ats.refl A
theorem Ats.swap (A B : List As) : Ats (A ++ B) (B ++ A) [] := Ats.comp (H := A ++ []) (Ats.skip A (Ats.refl B)) (Ats.refl_nil A)
theorem Sub.nil_all {R F : List As} : Sub R F [] := .nil
theorem Own.sub {G H : List As} (h : Ats F G H) {X : Nat → Prop} {w : World} (hF : Own F X w) : ∃ X', Own G X' w ∧ ∀ k, X' k → X k := by
  obtain ⟨X1, X2, h1, h2, _, h4⟩ := Own.picks h hF
  exact ⟨X1, h1, fun k hk => (h4 k).2 (.inl hk)⟩
end
/-- A branch; behind it the slot is known. -/
theorem CJ.condK {P : Program} {nt : NT} {Q : Exit → Act → World → Prop} {k : L} {w : World} {t : Nat} {b : Bool} {c d : Code} (hl : look k t = some (.bool b)) (ht : b = true → CJ P nt c Q ((t, .bool true) :: k) w) (hf : b = false → CJ P nt d Q ((t, .bool false) :: k) w) : CJ P nt (.cond (.tmp t) c d) Q k w := by
  have key : ∀ (v : Bool), b = v → ∀ a, Kn nt k a → Kn nt ((t, .bool v) :: k) a := by
    rintro v rfl a ha
    refine ⟨ha.size, ha.defers, fun t' u h => ?_⟩
    simp only [look] at h
    split at h
    · rename_i hb
      obtain rfl := Nat.eq_of_beq_eq_true hb
      cases h
      exact ha.known _ _ hl
    · exact ha.known t' u h
  cases hb : b with
  | true => exact CJ.cond_t (by rw [← hb]; exact hl) fun a ha => ht hb a (key true hb a ha)
  | false => exact CJ.cond_f (by rw [← hb]; exact hl) fun a ha => hf hb a (key false hb a ha)
end Go.Proofs.YtmbibkifbehgnaaGreatDoor.Sk
namespace Go.Proofs.YtmbibkifbehgnaaGreatDoor
open Go Sk
set_option linter.unusedVariables false
set_option linter.unusedSimpArgs false
structure RX where
  bg : Nat
  bk : Nat
  bn : Nat
  bu : Nat
  rs : { l : List Rn // l.length = 17 }
abbrev robE (c : Cf) (x : RX) : List As := [gfix c x.bg x.bk, kblk x.bk (KF c), blk x.bn (kcs c.unit c.accel c.speed x.rs.1) 147, kinR c.unit c.accel c.speed x.rs.1]
abbrev robL (c : Cf) (br : Nat) (r : Rb) (g : Option Gg) (x : RX) : List As := robF br x.bg x.bn x.bu r g ++ robE c x
/-- a robot -/
def robA (c : Cf) (br : Nat) (r : Rb) (g : Option Gg) : As := exAs (robL c br r g)
theorem robA_in {c : Cf} {br : Nat} {r : Rb} {g : Option Gg} {F : List As} {X : Nat → Prop} {w : World} (x : RX) (h : Own (robL c br r g x ++ F) X w) : Own (robA c br r g :: F) X w := Own.exIn x h
section
variable {c : Cf} {br : Nat} {r : Rb} {g : Option Gg}
theorem poseA_spec : Sk.Spec Tryz.prog 59 #[ptr br] [robA c br r g] [] fun e F' => e = .returned (.agg (encP r.pose).toArray) ∧ F' = [] := by
  refine Spec.openR fun x => ?_
  cases g with
  | none => exact (pose_spec br x.bg x.bn r none).ro (.ro .here .nil)
  | some u => exact (pose_spec br x.bg x.bn r _).ro (.ro .here .nil)
theorem nowA_spec : Sk.Spec Tryz.prog 55 #[ptr br] [robA c br r g] [] fun e F' => e = .returned (.tuple #[.agg (encM (nowM g)).toArray, .bool g.isSome]) ∧ F' = [] := by
  refine Spec.openR fun x => ?_
  cases g with
  | none => exact (now0_spec br x.bg x.bn r).ro (.ro .here .nil)
  | some u => exact (now1_spec br x.bg x.bn x.bu r u).ro (.ro .here (.ro (.there .here) .nil))
theorem tellA_spec : Sk.Spec Tryz.prog 58 #[ptr br] [robA c br r g] [] fun e F' => ∃ b : Nat, e = .returned (.slice (some ⟨b, 0, none⟩) 1 1) ∧ F' = [blk b (encT (tellB r)) 44] ∧ True := by
  refine Spec.openR fun x => ?_
  cases g with
  | none => exact (tell_spec br x.bg x.bn r none).ro (.ro .here .nil)
  | some u => exact (tell_spec br x.bg x.bn r _).ro (.ro .here .nil)
def tickO (r : Rb) : Option Gg → TR
  | none => ⟨mv0, 0, r, none⟩
  | some g => tickB r g
theorem tickA_spec : Sk.Spec Tryz.prog 41 #[ptr br] [] [robA c br r g] fun e F' => e = .returned (.tuple #[.agg (encM (tickO r g).m).toArray, i64 (tickO r g).how]) ∧ F' = [robA c br (tickO r g).r (tickO r g).g] := by
  refine Spec.openF fun x => ?_
  cases g with
  | none =>
    refine ((tick0_spec br x.bg x.bn r).frame (F := robL c br r none x ++ []) (.cons .here .nil) .nil).conseq ?_
    rintro e F' ⟨F1, ⟨rfl, rfl⟩, rfl⟩
    exact ⟨_, ⟨rfl, rfl⟩, fun X w h => ⟨X, robA_in x h, fun _ h => h⟩⟩
  | some u =>
    refine ((tick1_spec br x.bg x.bn x.bu r u).frame (F := robL c br r (some u) x ++ []) (.cons .here (.cons .here .nil)) .nil).conseq ?_
    rintro e F' ⟨F1, ⟨rfl, rfl⟩, rfl⟩
    exact ⟨_, ⟨rfl, rfl⟩, fun X w h => ⟨X, robA_in x (by simpa [robL, tickO] using h), fun _ h => h⟩⟩
def delayO (r : Rb) (g : Option Gg) (n : Int) : Rb := if g.isSome then delayB r n else r
theorem delayA_spec (n : Int) : Sk.Spec Tryz.prog 43 #[ptr br, i64 n] [] [robA c br r g] fun e F' => e = .returned (.tuple #[]) ∧ F' = [robA c br (delayO r g n) g] := by
  refine Spec.openF fun x => ?_
  cases g with
  | none =>
    refine ((delay0_spec br x.bg x.bn r n).frame (F := robL c br r none x ++ []) (.cons .here .nil) .nil).conseq ?_
    rintro e F' ⟨F1, ⟨rfl, rfl⟩, rfl⟩
    exact ⟨_, ⟨rfl, rfl⟩, fun X w h => ⟨X, robA_in x h, fun _ h => h⟩⟩
  | some u =>
    refine ((delay1_spec br x.bg x.bn x.bu r u n).frame (F := robL c br r (some u) x ++ []) (.cons .here .nil) (.own .here .nil)).conseq ?_
    rintro e F' ⟨F1, ⟨rfl, rfl⟩, rfl⟩
    exact ⟨_, ⟨rfl, rfl⟩, fun X w h => ⟨X, robA_in x h, fun _ h => h⟩⟩
theorem carryA_spec (n : Int) : Sk.Spec Tryz.prog 45 #[ptr br, i64 n] [] [robA c br r g] fun e F' => e = .returned (.tuple #[]) ∧ F' = [robA c br { r with load := n } g] := by
  refine Spec.openF fun x => ?_
  cases g with
  | none =>
    refine ((carry_spec br x.bg x.bn r none n).frame (F := robL c br r none x ++ []) (.cons .here .nil) .nil).conseq ?_
    rintro e F' ⟨F1, ⟨rfl, rfl⟩, rfl⟩
    exact ⟨_, ⟨rfl, rfl⟩, fun X w h => ⟨X, robA_in x h, fun _ h => h⟩⟩
  | some u =>
    refine ((carry_spec br x.bg x.bn r _ n).frame (F := robL c br r (some u) x ++ []) (.cons .here .nil) .nil).conseq ?_
    rintro e F' ⟨F1, ⟨rfl, rfl⟩, rfl⟩
    exact ⟨_, ⟨rfl, rfl⟩, fun X w h => ⟨X, robA_in x h, fun _ h => h⟩⟩
/-- What is asked of a move under way. -/
def RunO : Option Gg → Prop
  | none => True
  | some g => RunN g
structure HV where
  v : Value
  fx : List As
theorem hearA_spec (hm : MayOk c) (hg : RunO g) (t : Te) : Sk.Spec Tryz.prog 34 #[ptr br, .agg (encT t).toArray] [stepsA] [robA c br r g] fun e F' => ∃ x : HV, e = .returned (.tuple #[x.v, i64 (hearB c r g t).how]) ∧ F' = robA c br (hearB c r g t).r (hearB c r g t).g :: x.fx ∧ TeV (hearB c r g t).tele x.v x.fx := by
  refine Spec.openF fun x => ?_
  cases g with
  | none =>
    refine ((hear0_spec c hm br x.bg x.bk x.bn r t).frame (F := robL c br r none x ++ []) (.cons .here .nil) (.own .here (.own (.there .here) (.ro .here .nil)))).conseq ?_
    rintro e F' ⟨F1, ⟨y, rfl, rfl, hy⟩, rfl⟩
    refine ⟨_, ⟨⟨y.v, y.fx⟩, rfl, rfl, hy⟩, fun X w h => ⟨X, robA_in { x with bu := y.bu } ?_, fun _ h => h⟩⟩
    refine Own.perm ?_ h
    have h1 := Ats.comp (Ats.skip y.fx (Ats.left (robF br x.bg x.bn y.bu (hearB c r none t).r (hearB c r none t).g) (robE c x))) (Ats.comp (H := y.fx ++ []) (Ats.skip y.fx (Ats.refl (robE c x))) (Ats.refl_nil y.fx))
    simpa [robL] using h1
  | some u =>
    refine ((hear1_spec c hm br x.bg x.bk x.bn x.bu r u x.rs.1 x.rs.2 hg t).frame (F := robL c br r (some u) x ++ []) (.cons .here (.cons .here (.cons (.there (.there .here)) (.cons (.there (.there .here)) .nil)))) (.own .here (.own (.there .here) (.ro .here .nil)))).conseq ?_
    rintro e F' ⟨F1, ⟨y, rfl, rfl, hy, hl⟩, rfl⟩
    refine ⟨_, ⟨⟨y.1.v, y.1.fx⟩, rfl, rfl, hy⟩, fun X w h => ⟨X, robA_in ⟨x.bg, x.bk, x.bn, y.1.bu, ⟨y.2, hl⟩⟩ ?_, fun _ h => h⟩⟩
    refine Own.perm ?_ h
    have hC : Ats (kinC c x.bn y.2 ++ [gfix c x.bg x.bk, kblk x.bk (KF c)]) (robE c ⟨x.bg, x.bk, x.bn, y.1.bu, ⟨y.2, hl⟩⟩) [] := .cons (.there (.there .here)) (.cons (.there (.there .here)) (.cons .here (.cons .here .nil)))
    have h1 := Ats.comp (Ats.skip y.1.fx (Ats.left (robF br x.bg x.bn y.1.bu (hearB c r (some u) t).r (hearB c r (some u) t).g) _)) (Ats.comp (H := y.1.fx ++ []) (Ats.skip y.1.fx hC) (Ats.refl_nil y.1.fx))
    simpa [robL] using h1
end
end Go.Proofs.YtmbibkifbehgnaaGreatDoor
namespace Go.Proofs.YtmbibkifbehgnaaGreatDoor.Sk
open Go
set_option linter.unusedVariables false
set_option linter.unusedSimpArgs false
/-! ### 1. One of many -/
theorem At.nth : ∀ {fs : List As} {i : Nat} {f : As}, fs[i]? = some f → At fs f (fs.eraseIdx i)
  | [], i, f, h => by simp at h
  | g :: fs, 0, f, h => by
    obtain rfl : g = f := by simpa using h
    exact .here
  | g :: fs, i + 1, f, h => .there (At.nth (by simpa using h))
theorem At.appR {F F' : List As} {f : As} (h : At F f F') (K : List As) : At (F ++ K) f (F' ++ K) := by
  induction h with
  | here => exact .here
  | there _ ih => exact .there ih
theorem Ats.appR {F G H : List As} (h : Ats F G H) (K : List As) : Ats (F ++ K) G (H ++ K) := by
  induction h with
  | nil => exact .nil
  | cons h _ ih => exact .cons (h.appR K) ih
theorem Ats.put : ∀ {fs : List As} {i : Nat} (f : As), i < fs.length → Ats (f :: fs.eraseIdx i) (fs.set i f) []
  | [], i, f, h => absurd h (Nat.not_lt_zero _)
  | g :: fs, 0, f, h => Ats.refl _
  | g :: fs, i + 1, f, h => .cons (.there .here) (Ats.put f (by simpa using h))
section
variable {fs F : List As} {i : Nat} {f f' : As} {X : Nat → Prop} {w : World}
theorem Own.nthOut (hi : fs[i]? = some f) (h : Own (sep fs :: F) X w) : Own (f :: sep (fs.eraseIdx i) :: F) X w := by
  obtain ⟨X1, X2, h1, h2, h3, h4⟩ := Own.pick ((At.nth hi).appR F) h.sepOut
  exact ⟨X1, X2, h1, h2.sepIn, h3, h4⟩
theorem Own.sepOf {G F' : List As} (hG : Ats F G F') (h : Own F X w) : Own (sep G :: F') X w := by
  obtain ⟨X1, X2, h1, h2, h3, h4⟩ := Own.picks hG h
  exact ⟨X1, X2, h1, h2, h3, h4⟩
theorem Own.nthIn (hi : i < fs.length) (h : Own (f :: sep (fs.eraseIdx i) :: F) X w) : Own (sep (fs.set i f) :: F) X w := by
  have h0 : Own ((f :: fs.eraseIdx i) ++ F) X w := by
    obtain ⟨X1, X2, h1, h2, h3, h4⟩ := h
    exact ⟨X1, X2, h1, h2.sepOut, h3, h4⟩
  exact Own.sepOf (by simpa using (Ats.put f hi).appR F) h0
theorem Own.snoc (h : Own (f :: sep fs :: F) X w) : Own (sep (fs ++ [f]) :: F) X w := by
  have h0 : Own ((f :: fs) ++ F) X w := by
    obtain ⟨X1, X2, h1, h2, h3, h4⟩ := h
    exact ⟨X1, X2, h1, h2.sepOut, h3, h4⟩
  exact Own.sepOf (G := fs ++ [f]) (by simpa using (Ats.swap [f] fs).appR F) h0
end
theorem At.right : ∀ (A : List As) (f : As) (B : List As), ∃ C, At (A ++ f :: B) f C
  | [], f, B => ⟨B, .here⟩
  | a :: A, f, B => by
    obtain ⟨C, h⟩ := At.right A f B
    exact ⟨a :: C, .there h⟩
theorem Sub.sameAux : ∀ (A R F : List As), Sub (A ++ R) F R
  | A, [], F => .nil
  | A, f :: R, F => by
    obtain ⟨C, h⟩ := At.right A f R
    exact .ro h (by simpa using Sub.sameAux (A ++ [f]) R F)
theorem Sub.same (R F : List As) : Sub R F R := Sub.sameAux [] R F
section
variable {P : Program} {g : FuncId} {args : Array Value} {R F fs : List As} {i : Nat} {f f' : As} {Post : Ending → List As → Prop}
theorem Spec.nthR (hi : fs[i]? = some f) (h : Sk.Spec P g args (f :: R) F Post) : Sk.Spec P g args (sep fs :: R) F Post := fun w X hF hR => by
  refine h w X hF fun r hr => ?_
  rcases List.mem_cons.1 hr with rfl | hr
  · obtain ⟨Y, hY, hd⟩ := hR _ List.mem_cons_self
    obtain ⟨Z, hZ, hs⟩ := Own.mem (List.mem_of_getElem? hi) hY
    exact ⟨Z, hZ, fun k hk => hd k (hs k hk)⟩
  · exact hR r (List.mem_cons_of_mem _ hr)
theorem Spec.nthO (hi : fs[i]? = some f) (h : Sk.Spec P g args R (f :: sep (fs.eraseIdx i) :: F) Post) : Sk.Spec P g args R (sep fs :: F) Post := fun w X hF hR => h w X (hF.nthOut hi) hR
/-- one of many is turned -/
theorem Spec.nth1 {e0 : Ending} (hi : fs[i]? = some f) (h : Sk.Spec P g args R [f] fun e F' => e = e0 ∧ F' = [f']) : Sk.Spec P g args R [sep fs] fun e F' => e = e0 ∧ F' = [sep (fs.set i f')] := by
  refine Spec.nthO hi ((h.frame (F := [f, sep (fs.eraseIdx i)]) (.cons .here .nil) (Sub.same R _)).conseq ?_)
  rintro e F' ⟨F1, ⟨rfl, rfl⟩, rfl⟩
  exact ⟨_, ⟨rfl, rfl⟩, fun X w h => ⟨X, Own.nthIn (lt_of_some hi) h, fun _ h => h⟩⟩
theorem Spec.nthx {ι : Type} {val : ι → Ending} {G : ι → List As} {C : ι → Prop} (hi : fs[i]? = some f) (h : Sk.Spec P g args R [f] fun e F' => ∃ x, e = val x ∧ F' = f' :: G x ∧ C x) : Sk.Spec P g args R [sep fs] fun e F' => ∃ x, e = val x ∧ F' = sep (fs.set i f') :: G x ∧ C x := by
  refine Spec.nthO hi ((h.frame (F := [f, sep (fs.eraseIdx i)]) (.cons .here .nil) (Sub.same R _)).conseq ?_)
  rintro e F' ⟨F1, ⟨x, rfl, rfl, hc⟩, rfl⟩
  refine ⟨_, ⟨x, rfl, rfl, hc⟩, fun X w h => ⟨X, Own.nthIn (lt_of_some hi) ?_, fun _ h => h⟩⟩
  refine Own.perm ?_ h
  have h1 : Ats (G x ++ [sep (fs.eraseIdx i)]) (sep (fs.eraseIdx i) :: G x) [] := by simpa using Ats.swap (G x) [sep (fs.eraseIdx i)]
  exact .cons .here h1
end
section
variable {w0 w : World} {M : Nat → Prop} {R F F' fs : List As} {i : Nat} {f : As}
theorem St.nthOut (H : St w0 w M R F) (hat : At F (sep fs) F') (hi : fs[i]? = some f) : St w0 w M R (f :: sep (fs.eraseIdx i) :: F') := H.map fun X h => (Own.pick hat h).nthOut hi
theorem St.nthIn (H : St w0 w M R (f :: sep (fs.eraseIdx i) :: F)) (hi : i < fs.length) : St w0 w M R (sep (fs.set i f) :: F) := H.map fun X h => Own.nthIn hi h
theorem St.snoc (H : St w0 w M R (f :: sep fs :: F)) : St w0 w M R (sep (fs ++ [f]) :: F) := H.map fun X h => Own.snoc h
theorem St.sepNil (H : St w0 w M R F) : St w0 w M R (sep [] :: F) := H.map fun X h => Own.sepIn (L := []) h
theorem St.picks {G : List As} (H : St w0 w M R F) (h : Ats F G []) : St w0 w M R G := H.map fun X hX => Own.perm h hX
end
/-! ### 2. Rows -/
theorem row_short {X : Nat → Prop} {w : World} {A : Option Addr} {cap n m sz : Nat} {e : TypeId} {xs : List Value} (h : (row (.slice A n cap) e sz n xs).on X w) (hm : m ≤ n) : (row (.slice A m cap) e sz m (xs.take (m * sz))).on X w := by
  obtain ⟨⟨h1, h2⟩, h3⟩ := h
  have hl : (xs.take (m * sz)).length = m * sz := by
    rw [List.length_take, h1]
    exact Nat.min_eq_left (Nat.mul_le_mul_right _ hm)
  refine ⟨⟨hl, ?_⟩, fun k => by rw [h3 k]; cases A <;> simp [Value.ownBlock]⟩
  rcases h2 with ⟨hv, hn⟩ | ⟨g, cap', cur, hv, hb, hg, hc, hcm, hcs, ht⟩
  · left
    cases hv
    have : m = 0 := by omega
    subst this
    exact ⟨rfl, rfl⟩
  · right
    obtain ⟨rfl, _, rfl⟩ : A = _ ∧ n = n ∧ cap = cap' := by simpa using hv
    refine ⟨g, cap, cur, rfl, hb, hg, by omega, hcm, hcs, ?_⟩
    rw [← ht, List.take_take, Nat.min_eq_left (Nat.mul_le_mul_right _ hm)]
theorem St.rowShort {w0 w : World} {M : Nat → Prop} {R F F' : List As} {A : Option Addr} {cap n m sz : Nat} {e : TypeId} {xs : List Value} (H : St w0 w M R F) (hat : At F (row (.slice A n cap) e sz n xs) F') (hm : m ≤ n) :
    St w0 w M R (row (.slice A m cap) e sz m (xs.take (m * sz)) :: F') := H.map fun X h => Own.map1 (fun X w h => row_short h hm) (Own.pick hat h)
/-- an owned row, told as the block it lies in -/
theorem St.rowBlk {w0 w : World} {M : Nat → Prop} {R F F' : List As} {v : Value} {e : TypeId} {sz n : Nat} {xs : List Value} (H : St w0 w M R F) (hat : At F (row v e sz n xs) F') (hn : 0 < n) :
    ∃ g cap ys, v = .slice (some ⟨g, 0, none⟩) n cap ∧ n ≤ cap ∧ cap ≤ maxLen ∧ (xs ++ ys).length = cap * sz ∧ xs.length = n * sz ∧ St w0 w M R (blk g (xs ++ ys) e :: F') := by
  obtain ⟨⟨X, h1, h2, h3⟩, h4⟩ := H
  obtain ⟨X1, X2, ⟨hrow, hblk⟩, g2, g3, g4⟩ := Own.pick hat h1
  rcases hrow.2 with ⟨_, h0⟩ | ⟨g, cap, cur, rfl, hb, hg, hnc, hcm, hcs, htake⟩
  · omega
  · have e0 : xs ++ cur.toList.drop (n * sz) = cur.toList := by rw [← htake]; exact List.take_append_drop _ _
    refine ⟨g, cap, cur.toList.drop (n * sz), rfl, hnc, hcm, by rw [e0]; simpa using hcs, hrow.1, ⟨X, ⟨X1, X2, ⟨fun k => by rw [hblk k]; simp [Value.ownBlock, eq_comm], ?_⟩, g2, g3, g4⟩, h2, h3⟩, h4⟩
    rw [e0]
    simpa using hg
theorem St.blkRow' {w0 w : World} {M : Nat → Prop} {R F F' : List As} {b n cap : Nat} {xs ys : List Value} {e : TypeId} {sz : Nat} (H : St w0 w M R F) (hat : At F (blk b (xs ++ ys) e) F') (hc : (xs ++ ys).length = cap * sz) (hx : xs.length = n * sz) (hn : n ≤ cap) (hm : cap ≤ maxLen) :
    St w0 w M R (row (.slice (some ⟨b, 0, none⟩) n cap) e sz n xs :: F') := by
  have := H.blkRow hat hc hn hm
  rwa [← hx, List.take_left] at this
section
variable {P : Program} {nt : NT} {k : L} {t : TypeId} {X Y Z : Operand} {q q' : IntKind}
/-- x[:j] -/
theorem val_sliceH {sz len cap j : Nat} {z : Int} {A : Option Addr} (ht : elB P t sz = true) (hx : ev k X = some (.slice A len cap)) (hy : ev k Y = some (.int q z)) (hz : z = (j : Int)) (hj : j ≤ cap) :
    Val P nt k (.slice t X none (some Y) none) (.slice A j cap) := fun a ha d ty pos af g w => by
  obtain ⟨h1, h2⟩ := elB_spec ht
  subst hz
  have e : A.map (·.add (0 * sz)) = A := by cases A <;> simp [Addr.add]
  simp only [execOp, Option.map_some, Option.map_none, ha.ev hx, ha.ev hy, Sem.run_bind, run_sliceAt_slice w t _ none (some _) none h1, run_slice_h w t A len cap h1 q (j : Int) (by omega) (by omega), h2 w, Result.andThen_ok, sliced, Int.toNat_natCast, e, Nat.sub_zero, ite_self]; rfl
/-- x[:j:m] -/
theorem val_sliceM {sz len cap j m : Nat} {z y : Int} {A : Option Addr} (ht : elB P t sz = true) (hx : ev k X = some (.slice A len cap)) (hy : ev k Y = some (.int q z)) (hz : z = (j : Int)) (hu : ev k Z = some (.int q' y)) (hm : y = (m : Int)) (hj : j ≤ m) (hc : m ≤ cap) :
    Val P nt k (.slice t X none (some Y) (some Z)) (.slice A j m) := fun a ha d ty pos af g w => by
  obtain ⟨h1, h2⟩ := elB_spec ht
  subst hz hm
  have e : A.map (·.add (0 * sz)) = A := by cases A <;> simp [Addr.add]
  simp only [execOp, Option.map_some, Option.map_none, ha.ev hx, ha.ev hy, ha.ev hu, Sem.run_bind, run_sliceAt_slice w t _ none (some _) (some _) h1, run_slice_hm w t A len cap h1 q q' (j : Int) (m : Int) (by omega) (by omega) (by omega), h2 w, Result.andThen_ok, sliced, Int.toNat_natCast, e, Nat.sub_zero, ite_self]; rfl
end
/-- Cells that are read are fewer. -/
theorem arr_take {X : Nat → Prop} {w : World} {A : Option Addr} {cs : List Value} (n : Nat) (h : (arr A cs).on X w) : (arr A (cs.take n)).on X w := by
  rcases h with ⟨rfl, h⟩ | ⟨b, o, h1, h2, h3, h4⟩
  · exact .inl ⟨by simp, h⟩
  · refine .inr ⟨b, o, h1, h2, h3, fun j u hu => h4 j u ?_⟩
    rw [List.getElem?_take] at hu
    split at hu
    · exact hu
    · cases hu
/-- 'append' to a slice without room, of which only the cells are known: the outcome lies in a new block. -/
theorem St.appendFull {P : Program} {w0 w : World} {M : Nat → Prop} {R F : List As} {t ty e : TypeId} {sz bytes : Nat} (hap : apB P t e sz bytes = true) {n m c : Nat} {xs news : List Value} {A B : Option Addr} (H : St w0 w M R F) (hx : Src w A n n xs)
    (hlx : xs.length = n * sz) (hsrc : Src w B m c news) (hl : news.length = m * sz) (hm : 0 < m) (h63 : n + m ≤ maxLen) (hbytes : (n + m) * bytes ≤ 140737488355328) :
    ∃ v' w', (Builtin.append_ #[t, t] ty #[.slice A n n, .slice B m c]).run P w = .ok v' w' ∧ St w0 w' M R (row v' e sz (n + m) (xs ++ news) :: F) := by
  obtain ⟨i, z, ht, hi, hz, hsize, hby, hzs, hsz⟩ := apB_spec hap
  clear hap
  subst hsize
  subst hby
  have hlen : (xs ++ news).length = (n + m) * i.size := by rw [List.length_append, hlx, hl, Nat.add_mul]
  have fresh : ∀ (cs : Array Value) (cap : Nat), n + m ≤ cap → cap ≤ maxLen → cs.size = cap * i.size → cs.toList.take ((n + m) * i.size) = xs ++ news →
      St w0 (w.drew.alloc (.cells cs e)) M R (row (.slice (some ⟨w.heap.size, 0, none⟩) (n + m) cap) e i.size (n + m) (xs ++ news) :: F) := by
    intro cs cap hc hm hs htake
    have H3 := (St.drew H).alloc cs.toList e
    have H4 := St.blkRow (n := n + m) (cap := cap) (sz := i.size) H3 .here (by simpa using hs) hc hm
    rw [htake] at H4
    simpa using H4
  rcases hsrc with ⟨rfl, h0, _, _⟩ | ⟨a0, rfl, hnews⟩
  · omega
  · rcases hx with ⟨rfl, rfl, _, rfl⟩ | ⟨a1, rfl, holds⟩
    · have hr := run_append_nil (P := P) w t ty e i z ht hi hz a0 m c news hl hnews (by omega) (by simp only [maxLen] at h63; omega) (by have hb := hbytes; simp only [Nat.zero_add] at hb; omega)
      have hge := grownCap_ge w m 0 e
      refine ⟨_, _, hr, ?_⟩
      have := fresh (news.toArray ++ Builtin.zeroCells z.cells (grownCap w m 0 e - m)) (grownCap w m 0 e) (by omega) (grownCap_le_maxLen w m 0 e (by omega)) (by
        simp only [Array.size_append, List.size_toArray, size_zeroCells, hzs, hl, ← Nat.add_mul]
        congr 1
        omega) (by
        simp only [Array.toList_append, List.nil_append]
        rw [show (0 + m) * i.size = news.length by rw [hl, Nat.zero_add]]
        exact List.take_left)
      simpa using this
    · have hr := run_append_grow (P := P) w t ty e i z ht hi hz a1 n n xs hlx holds a0 m c news hl hnews (by omega) (by simp only [maxLen] at h63; omega) (growslice_fits (by omega) hbytes)
      have hge := grownCap_ge w (n + m) n e
      refine ⟨_, _, hr, ?_⟩
      have := fresh (xs.toArray ++ news.toArray ++ Builtin.zeroCells z.cells (grownCap w (n + m) n e - (n + m))) (grownCap w (n + m) n e) hge (grownCap_le_maxLen w (n + m) n e h63) (by
        simp only [Array.size_append, List.size_toArray, size_zeroCells, hzs, hlx, hl, ← Nat.add_mul]
        congr 1
        omega) (by
        simp only [Array.toList_append, List.append_assoc]
        rw [← List.append_assoc, ← hlen]
        exact List.take_left)
      exact this
section
variable {P : Program} {nt : NT} {k : L} {w0 w : World} {M : Nat → Prop} {R F : List As} {ops : Array Oper} {Q : Exit → Act → World → Prop} {S : World → Prop} {n i d : Nat} {ty : TypeId} {pos : String} {af : Array Edge} {g : Option (Nat × Bool)} {l : Tr}
theorem RJ.appendFull {s x : Operand} {t e : TypeId} {sz bytes n' m c : Nat} {xs news : List Value} {A B : Option Addr}
    (ho : ops[i]? = some (Oper.mk (some d) (.call ⟨.builtin .append, #[s, x], #[t, t]⟩) ty pos af g)) (hg : gd ops k g = some true) (hd : Nat.blt d nt.n = true) (ht : apB P t e sz bytes = true)
    (hs : ev k s = some (.slice A n' n')) (hx : ev k x = some (.slice B m c)) (H : St w0 w M R F) (hxs : Src w A n' n' xs) (hlx : xs.length = n' * sz) (hsrc : Src w B m c news) (hl : news.length = m * sz) (hm : 0 < m) (h63 : n' + m ≤ maxLen) (hbytes : (n' + m) * bytes ≤ 140737488355328)
    (h : ∀ v' w', St w0 w' M R (row v' e sz (n' + m) (xs ++ news) :: F) → (i < n → S w') ∧ RJ P nt ops Q S n l ((d, v') :: k) w') : RJ P nt ops Q S n (.cons (i, false) l) k w := by
  obtain ⟨v', w', hr, H'⟩ := H.appendFull (ty := ty) ht hxs hlx hsrc hl hm h63 hbytes
  have := h v' w' H'
  refine RJ.act ho hg hd (fun a ha => ?_) this.1 this.2
  simp only [execOp, resolve, List.map_toArray, List.map_cons, List.map_nil, ha.ev hs, ha.ev hx, invoke, builtin, Sem.run_bind, Sem.run_pure, Result.andThen_ok, hr]
end
end Go.Proofs.YtmbibkifbehgnaaGreatDoor.Sk
namespace Go.Proofs.YtmbibkifbehgnaaGreatDoor
open Go Sk
set_option linter.unusedVariables false
set_option linter.unusedSimpArgs false
set_option linter.unusedSectionVars false
theorem ap_57  : apB Tryz.prog 57 60 18 144 = true := by kernel_rfl
theorem ze_60  : (Tryz.prog.info? 60).bind (·.zero) = some (.agg (List.toArray [.int .i64 0, .int .i64 0, .int .i64 0, .int .i64 0, .int .i64 0, .int .i64 0, .bool false, .int .i64 0, .int .i64 0, .int .i64 0, .int .i64 0, .int .i64 0, .bool false, .int .i64 0, .int .i64 0, .bool false, .int .i64 0, .int .i64 0])) := by kernel_rfl
/-- a sight -/
structure Si where
  kind : Int
  tick : Int
  robot : Int
  bin : Int
  pose : Ps
  mv : Mv
abbrev encSi (s : Si) : List Value := [i64 s.kind, i64 s.tick, i64 s.robot, i64 s.bin, i64 s.pose.x, i64 s.pose.y, .bool s.pose.d, i64 s.mv.kind, i64 s.mv.dir, i64 s.mv.n, i64 s.mv.fr.x, i64 s.mv.fr.y, .bool s.mv.fr.d, i64 s.mv.to.x, i64 s.mv.to.y, .bool s.mv.to.d, i64 s.mv.st, i64 s.mv.en]
theorem encSi_len (s : Si) : (encSi s).length = 18 := rfl
theorem one_encSi {l : List Si} : ∀ u ∈ l.flatMap encSi, u.oneCell' = true := by
  intro u hu
  obtain ⟨b, _, hb⟩ := List.mem_flatMap.1 hu
  simp only [encSi, List.mem_cons, List.not_mem_nil, or_false] at hb
  rcases hb with rfl | rfl | rfl | rfl | rfl | rfl | rfl | rfl | rfl | rfl | rfl | rfl | rfl | rfl | rfl | rfl | rfl | rfl <;> rfl
theorem one_encI' {l : List Int} : ∀ u ∈ l.flatMap encI, u.oneCell' = true := by
  intro u hu
  obtain ⟨b, _, hb⟩ := List.mem_flatMap.1 hu
  obtain rfl : u = i64 b := by simpa using hb
  rfl
theorem listI_spec (A : Option Addr) (cap : Nat) (l : List Int) (hl : l.length ≤ 1000000) (hn : A = none → l.length = 0 ∧ cap = 0) : Sk.Spec Tryz.prog 85 #[.slice A l.length cap] [arr A (l.flatMap encI)] [] fun e F' => ∃ v, e = .returned v ∧ F' = [row v 3 1 l.length (l.flatMap encI)] ∧ True := by
  refine Spec.of_code (vs := [_]) (k0 := [(0, _)]) 14 Tryz.func85 rfl Tryz.ntmps85 rfl (.cons .nil) fun w X RR hRR H => ?_
  refine .seq ?_
  refine .plain rfl ?_
  refine .q rfl rfl rfl (val_assign rfl) ?_
  refine .nil (cj ?_)
  refine .seq ?_
  refine .seq ?_
  refine .plain rfl ?_
  refine .q rfl rfl rfl (val_move rfl) ?_
  refine .q rfl rfl rfl (val_len Tryz.underlying27 rfl) ?_
  refine .q rfl rfl rfl (val_eql rfl rfl rfl) ?_
  refine .nil (cj ?_)
  refine .cond rfl (fun hc0 => ?_) (fun hc0 => ?_)
  · have hl0 : l = [] := List.eq_nil_of_length_eq_zero (by simpa using hc0)
    refine .seq ?_
    refine .plain rfl ?_
    refine .q rfl rfl rfl (val_assign rfl) ?_
    refine .nil (cj ?_)
    refine .ret (fret (res1 rfl rfl) ?_)
    refine hRR _ _ ⟨_, ⟨_, rfl, rfl, trivial⟩, ?_⟩
    first | (subst hl0; exact (H.rowNil 3 1).sub (.cons .here .nil)) | (have h9 := H.blkRow (sz := 1) (n := l.length) (cap := l.length) .here (flat_len encI_len _) (Nat.le_refl _) (by simp only [maxLen]; omega); rw [List.take_of_length_le (by rw [flat_len encI_len]; exact Nat.le_refl _)] at h9; exact h9)
  · refine .skip (cj ?_)
    refine .seq ?_
    refine .plain rfl ?_
    refine .q rfl rfl rfl (val_move rfl) ?_
    refine .q rfl rfl rfl (val_len Tryz.underlying27 rfl) ?_
    refine .mk rfl rfl rfl ap_27 ze_3 rfl rfl (Nat.le_refl _) (by omega) (by simp only [maxLen]; omega) rfl H (fun w1 b1 H1 => ⟨fun _ => trivial, ?_⟩)
    refine .q rfl rfl rfl (val_assign rfl) ?_
    refine .nil (cj ?_)
    refine .seq ?_
    refine .plain rfl ?_
    refine .q rfl rfl rfl (val_move rfl) ?_
    refine .q rfl rfl rfl (val_move rfl) ?_
    refine .copy rfl rfl rfl ap_27 rfl rfl H1 .here (Has.srcArr (.ro .here) hn H1) (flat_len encI_len _) (zs_len) one_encI' (fun w2 H2 => ⟨fun _ => trivial, ?_⟩)
    refine .nil (cj ?_)
    refine .seq ?_
    refine .plain rfl ?_
    refine .q rfl rfl rfl (val_move rfl) ?_
    refine .q rfl rfl rfl (val_assign rfl) ?_
    refine .nil (cj ?_)
    refine .ret (fret (res1 rfl rfl) ?_)
    refine hRR _ _ ⟨_, ⟨_, rfl, rfl, trivial⟩, ?_⟩
    first | (subst hl0; exact (H2.rowNil 3 1).sub (.cons .here .nil)) | (have h9 := H2.blkRow (sz := 1) (n := l.length) (cap := l.length) .here (flat_len encI_len _) (Nat.le_refl _) (by simp only [maxLen]; omega); rw [List.take_of_length_le (by rw [flat_len encI_len]; exact Nat.le_refl _)] at h9; exact h9)
theorem listS_spec (A : Option Addr) (cap : Nat) (l : List Si) (hl : l.length ≤ 1000000) (hn : A = none → l.length = 0 ∧ cap = 0) : Sk.Spec Tryz.prog 51 #[.slice A l.length cap] [arr A (l.flatMap encSi)] [] fun e F' => ∃ v, e = .returned v ∧ F' = [row v 60 18 l.length (l.flatMap encSi)] ∧ True := by
  refine Spec.of_code (vs := [_]) (k0 := [(0, _)]) 14 Tryz.func51 rfl Tryz.ntmps51 rfl (.cons .nil) fun w X RR hRR H => ?_
  refine .seq ?_
  refine .plain rfl ?_
  refine .q rfl rfl rfl (val_assign rfl) ?_
  refine .nil (cj ?_)
  refine .seq ?_
  refine .seq ?_
  refine .plain rfl ?_
  refine .q rfl rfl rfl (val_move rfl) ?_
  refine .q rfl rfl rfl (val_len Tryz.underlying57 rfl) ?_
  refine .q rfl rfl rfl (val_eql rfl rfl rfl) ?_
  refine .nil (cj ?_)
  refine .cond rfl (fun hc0 => ?_) (fun hc0 => ?_)
  · have hl0 : l = [] := List.eq_nil_of_length_eq_zero (by simpa using hc0)
    refine .seq ?_
    refine .plain rfl ?_
    refine .q rfl rfl rfl (val_assign rfl) ?_
    refine .nil (cj ?_)
    refine .ret (fret (res1 rfl rfl) ?_)
    refine hRR _ _ ⟨_, ⟨_, rfl, rfl, trivial⟩, ?_⟩
    first | (subst hl0; exact (H.rowNil 60 18).sub (.cons .here .nil)) | (have h9 := H.blkRow (sz := 18) (n := l.length) (cap := l.length) .here (flat_len encSi_len _) (Nat.le_refl _) (by simp only [maxLen]; omega); rw [List.take_of_length_le (by rw [flat_len encSi_len]; exact Nat.le_refl _)] at h9; exact h9)
  · refine .skip (cj ?_)
    refine .seq ?_
    refine .plain rfl ?_
    refine .q rfl rfl rfl (val_move rfl) ?_
    refine .q rfl rfl rfl (val_len Tryz.underlying57 rfl) ?_
    refine .mk rfl rfl rfl ap_57 ze_60 rfl rfl (Nat.le_refl _) (by omega) (by simp only [maxLen]; omega) rfl H (fun w1 b1 H1 => ⟨fun _ => trivial, ?_⟩)
    refine .q rfl rfl rfl (val_assign rfl) ?_
    refine .nil (cj ?_)
    refine .seq ?_
    refine .plain rfl ?_
    refine .q rfl rfl rfl (val_move rfl) ?_
    refine .q rfl rfl rfl (val_move rfl) ?_
    refine .copy rfl rfl rfl ap_57 rfl rfl H1 .here (Has.srcArr (.ro .here) hn H1) (flat_len encSi_len _) (zs_len) one_encSi (fun w2 H2 => ⟨fun _ => trivial, ?_⟩)
    refine .nil (cj ?_)
    refine .seq ?_
    refine .plain rfl ?_
    refine .q rfl rfl rfl (val_move rfl) ?_
    refine .q rfl rfl rfl (val_assign rfl) ?_
    refine .nil (cj ?_)
    refine .ret (fret (res1 rfl rfl) ?_)
    refine hRR _ _ ⟨_, ⟨_, rfl, rfl, trivial⟩, ?_⟩
    first | (subst hl0; exact (H2.rowNil 60 18).sub (.cons .here .nil)) | (have h9 := H2.blkRow (sz := 18) (n := l.length) (cap := l.length) .here (flat_len encSi_len _) (Nat.le_refl _) (by simp only [maxLen]; omega); rw [List.take_of_length_le (by rw [flat_len encSi_len]; exact Nat.le_refl _)] at h9; exact h9)
theorem portFrom_bd (l : List Cl) (x y : Int) : -1 ≤ portFrom l x y ∧ portFrom l x y < (l.length : Int) := by
  unfold portFrom
  split
  · rename_i i h
    have := (List.findIdx?_eq_some_iff_findIdx_eq.1 h).1
    omega
  · omega
theorem KF_kinds {c : Cf} (hm : MayOk c) : Gd.Kinds ⟨c.w, c.h, KF c⟩ := ⟨fun i k h => by
  obtain ⟨n, _, rfl⟩ := List.mem_map.1 (List.mem_of_getElem? h)
  have := portFrom_bd c.ports (cellN c n).x (cellN c n).y
  have := hm.pl
  show -2 ≤ kR c _ _ ∧ kR c _ _ ≤ 8
  unfold kR
  split
  · omega
  · unfold kM
    split
    · omega
    · unfold kA
      split <;> omega⟩
section
variable (c : Cf) (hm : MayOk c) (bg bk : Nat) (x y : Int)
include hm
theorem gfix_eq : gblk bg (some ⟨bk, 0, none⟩) (area c) ⟨c.w, c.h, KF c⟩ = gfix c bg bk := by simp only [gblk, gfix, (KF_rel hm).len]
theorem openK_spec : Sk.Spec Tryz.prog 141 #[ptr bg, .agg #[i64 x, i64 y]] [gfix c bg bk, kblk bk (KF c)] [] fun e F' => e = .returned (.bool (openR c x y)) ∧ F' = [] := by
  have h := open_spec bg (some ⟨bk, 0, none⟩) (area c) ⟨c.w, c.h, KF c⟩ ((KF_rel hm).ok hm.num) x y
  rw [open_eq (KF_rel hm) hm.num, gfix_eq c hm] at h
  exact Spec.tell h (.cons .here (Tells.refl _) (.cons (.there .here) Tells.blk .nil))
/-- is there a port? -/
def isPort (c : Cf) (x y : Int) : Bool := decide (0 ≤ portB ⟨c.w, c.h, KF c⟩ x y)
theorem portK_spec : Sk.Spec Tryz.prog 91 #[ptr bg, .agg #[i64 x, i64 y]] [gfix c bg bk, kblk bk (KF c)] [] fun e F' => e = .returned (i64 (portB ⟨c.w, c.h, KF c⟩ x y)) ∧ F' = [] := by
  have h := port_spec bg (some ⟨bk, 0, none⟩) (area c) ⟨c.w, c.h, KF c⟩ ((KF_rel hm).ok hm.num) (KF_kinds hm) x y
  rw [gfix_eq c hm] at h
  exact Spec.tell h (.cons .here (Tells.refl _) (.cons (.there .here) Tells.blk .nil))
omit hm in
theorem numK_spec (hn : NumOk c) (hi : inR c x y = true) : Sk.Spec Tryz.prog 86 #[ptr bg, .agg #[i64 x, i64 y]] [gfix c bg bk] [] fun e F' => e = .returned (i64 ((numI c ⟨x, y⟩ : Nat) : Int)) ∧ F' = [] := by
  have h := number_spec bg (.slice (some ⟨bk, 0, none⟩) (area c) (area c)) ⟨c.w, c.h, List.replicate (area c) 0⟩ x y
  rw [(numI_lt hn hi).2 _ (by simp)] at h
  exact h
end
end Go.Proofs.YtmbibkifbehgnaaGreatDoor
namespace Go.Proofs.YtmbibkifbehgnaaGreatDoor
open Go Sk
set_option linter.unusedVariables false
set_option linter.unusedSimpArgs false
set_option linter.unusedSectionVars false
theorem fa_163_0 (b o : Nat) (w : World) : (Instr.fieldAt 163 (.pointer (some ⟨b, o, none⟩)) 0).run Tryz.prog w = .ok (.pointer (some ⟨b, o + 0, none⟩)) w := by kernel_rfl
theorem fa_163_4 (b o : Nat) (w : World) : (Instr.fieldAt 163 (.pointer (some ⟨b, o, none⟩)) 4).run Tryz.prog w = .ok (.pointer (some ⟨b, o + 4, none⟩)) w := by kernel_rfl
theorem fa_163_5 (b o : Nat) (w : World) : (Instr.fieldAt 163 (.pointer (some ⟨b, o, none⟩)) 5).run Tryz.prog w = .ok (.pointer (some ⟨b, o + 5, none⟩)) w := by kernel_rfl
theorem en110 : Enters Tryz.prog 110 := fun args w => by kernel_rfl
theorem el_161  : elB Tryz.prog 161 1 = true := by kernel_rfl
theorem ob_161  : oneB Tryz.prog 161 = true := by kernel_rfl
/-- a cell's bins: the slice, and what stands there -/
structure BN where
  v : Value
  l : List Int
abbrev rowB (b : BN) : As := row b.v 3 1 b.l.length (b.l.flatMap encI)
structure SX where
  bg : Nat
  bk : Nat
  bb : Nat
  bl : Nat
  bs : List BN
/-- the stacks' own block -/
abbrev tblk (c : Cf) (b : Nat) (x : SX) (n : Nat) : As := blk b [ptr x.bg, i64 c.w, i64 c.h, i64 c.height, .slice (some ⟨x.bb, 0, none⟩) (area c) (area c), .slice (some ⟨x.bl, 0, none⟩) n n] 163
section
variable (c : Cf) (hm : MayOk c) (b : Nat) (x : SX) (n : Nat) (px py : Int)
include hm
theorem at1_spec (ho : openR c px py = true) : Sk.Spec Tryz.prog 110 #[ptr b, .agg #[i64 px, i64 py]] [tblk c b x n, gfix c x.bg x.bk, kblk x.bk (KF c)] [] fun e F' => e = .returned (i64 ((numI c ⟨px, py⟩ : Nat) : Int)) ∧ F' = [] := by
  refine Spec.of_code (vs := [_, _]) (k0 := [(0, _), (1, _)]) 22 Tryz.func110 rfl Tryz.ntmps110 rfl (.cons (.cons .nil)) fun w X RR hRR H => ?_
  refine .seq ?_
  refine .plain rfl ?_
  refine .box rfl rfl rfl rfl rfl H (fun w1 b1 H1 => ⟨fun _ => trivial, ?_⟩)
  refine .q rfl rfl rfl (val_assign rfl) ?_
  refine .nil (cj ?_)
  refine .seq ?_
  refine .seq ?_
  refine .drawS 11 (.cons (0, true) (.cons (1, true) (.cons (2, true) (.cons (3, true) (.cons (4, true) (.cons (5, true) (.cons (6, true) (.cons (7, true) (.cons (8, false) (.cons (9, true) (.cons (10, true) .nil))))))))))) mo (by kernel_rfl) H1 (fun _ _ _ _ _ h => h) (fun w2 H2 => ?_)
  refine .p rfl rfl rfl (val_move rfl) ?_
  refine .p rfl rfl rfl (val_ptr_eq_nil Tryz.underlying108 rfl rfl rfl) ?_
  refine .p rfl rfl rfl (val_move rfl) ?_
  refine .p rfl rfl rfl (val_move rfl) ?_
  refine .p rfl rfl rfl (val_nilCheck rfl) ?_
  refine .p rfl rfl rfl (val_fieldAddr rfl fa_163_0) ?_
  refine .ps rfl rfl rfl rfl (ld_b rfl ob_84 (.ro .here) rfl) ?_
  refine .ps rfl rfl rfl rfl (ld_w rfl ag_38 (.own .here) rfl) ?_
  refine .call1 rfl rfl rfl en141 (.cons rfl (.cons rfl .nil)) (openK_spec c hm _ _ _ _) H2 .nil (.ro (.there .here) (.ro (.there (.there .here)) .nil)) (fun w3 H3 => ⟨fun _ => H3, ?_⟩)
  refine .p rfl rfl rfl (val_not rfl rfl) ?_
  refine .p rfl rfl rfl (val_pick_f rfl rfl) ?_
  refine .nil (cj ?_)
  refine .cond rfl (fun hc0 => ?_) (fun hc0 => ?_)
  · exfalso; simp [ho] at hc0
  · refine .skip (cj ?_)
    refine .seq ?_
    refine .drawS 7 (.cons (0, true) (.cons (1, true) (.cons (2, true) (.cons (3, true) (.cons (4, true) (.cons (5, false) (.cons (6, true) .nil))))))) mo (by kernel_rfl) H3 (fun _ _ _ _ _ h => h) (fun w4 H4 => ?_)
    refine .p rfl rfl rfl (val_move rfl) ?_
    refine .p rfl rfl rfl (val_nilCheck rfl) ?_
    refine .p rfl rfl rfl (val_fieldAddr rfl fa_163_0) ?_
    refine .ps rfl rfl rfl rfl (ld_b rfl ob_84 (.ro .here) rfl) ?_
    refine .ps rfl rfl rfl rfl (ld_w rfl ag_38 (.own .here) rfl) ?_
    refine .call1 rfl rfl rfl en86 (.cons rfl (.cons rfl .nil)) (numK_spec c _ _ _ _ hm.num (openR_in ho)) H4 .nil (.ro (.there .here) .nil) (fun w5 H5 => ⟨fun _ => H5, ?_⟩)
    refine .p rfl rfl rfl (val_assign rfl) ?_
    refine .nil (cj ?_)
    refine .ret (fret (res1 rfl rfl) ?_)
    refine hRR _ _ ⟨_, ⟨?_, rfl⟩, H5.sub .nil⟩
    rfl
theorem at0_spec (ho : openR c px py = false) : Sk.Spec Tryz.prog 110 #[ptr b, .agg #[i64 px, i64 py]] [tblk c b x n, gfix c x.bg x.bk, kblk x.bk (KF c)] [] fun e F' => e = .returned (i64 (-1)) ∧ F' = [] := by
  refine Spec.of_code (vs := [_, _]) (k0 := [(0, _), (1, _)]) 22 Tryz.func110 rfl Tryz.ntmps110 rfl (.cons (.cons .nil)) fun w X RR hRR H => ?_
  refine .seq ?_
  refine .plain rfl ?_
  refine .box rfl rfl rfl rfl rfl H (fun w1 b1 H1 => ⟨fun _ => trivial, ?_⟩)
  refine .q rfl rfl rfl (val_assign rfl) ?_
  refine .nil (cj ?_)
  refine .seq ?_
  refine .seq ?_
  refine .drawS 11 (.cons (0, true) (.cons (1, true) (.cons (2, true) (.cons (3, true) (.cons (4, true) (.cons (5, true) (.cons (6, true) (.cons (7, true) (.cons (8, false) (.cons (9, true) (.cons (10, true) .nil))))))))))) mo (by kernel_rfl) H1 (fun _ _ _ _ _ h => h) (fun w2 H2 => ?_)
  refine .p rfl rfl rfl (val_move rfl) ?_
  refine .p rfl rfl rfl (val_ptr_eq_nil Tryz.underlying108 rfl rfl rfl) ?_
  refine .p rfl rfl rfl (val_move rfl) ?_
  refine .p rfl rfl rfl (val_move rfl) ?_
  refine .p rfl rfl rfl (val_nilCheck rfl) ?_
  refine .p rfl rfl rfl (val_fieldAddr rfl fa_163_0) ?_
  refine .ps rfl rfl rfl rfl (ld_b rfl ob_84 (.ro .here) rfl) ?_
  refine .ps rfl rfl rfl rfl (ld_w rfl ag_38 (.own .here) rfl) ?_
  refine .call1 rfl rfl rfl en141 (.cons rfl (.cons rfl .nil)) (openK_spec c hm _ _ _ _) H2 .nil (.ro (.there .here) (.ro (.there (.there .here)) .nil)) (fun w3 H3 => ⟨fun _ => H3, ?_⟩)
  refine .p rfl rfl rfl (val_not rfl rfl) ?_
  refine .p rfl rfl rfl (val_pick_f rfl rfl) ?_
  refine .nil (cj ?_)
  refine .cond rfl (fun hc0 => ?_) (fun hc0 => ?_)
  · refine .seq ?_
    refine .plain rfl ?_
    refine .q rfl rfl rfl (val_assign rfl) ?_
    refine .nil (cj ?_)
    refine .ret (fret (res1 rfl rfl) ?_)
    refine hRR _ _ ⟨_, ⟨?_, rfl⟩, H3.sub .nil⟩
    rfl
  · exfalso; simp [ho] at hc0
end
theorem sload_spec (c : Cf) (b : Nat) (x : SX) (loads : List Int) (i : Nat) (z : Int) (hz : loads[i]? = some z) (hl : loads.length ≤ 8) : Sk.Spec Tryz.prog 89 #[ptr b, i64 (i : Int)] [tblk c b x loads.length, blk x.bl (loads.map fun z => i64 z) 3] [] fun e F' => e = .returned (i64 z) ∧ F' = [] := by
  have hi := lt_of_some hz
  refine Spec.of_code (vs := [_, _]) (k0 := [(0, _), (1, _)]) 27 Tryz.func89 rfl Tryz.ntmps89 rfl (.cons (.cons .nil)) fun w X RR hRR H => ?_
  refine .seq ?_
  refine .plain rfl ?_
  refine .q rfl rfl rfl (val_assign rfl) ?_
  refine .nil (cj ?_)
  refine .seq ?_
  refine .seq ?_
  refine .plain rfl ?_
  refine .q rfl rfl rfl (val_move rfl) ?_
  refine .q rfl rfl rfl (val_ptr_eq_nil Tryz.underlying108 rfl rfl rfl) ?_
  refine .q rfl rfl rfl (val_move rfl) ?_
  refine .q rfl rfl rfl (val_move rfl) ?_
  refine .q rfl rfl rfl (val_lss rfl rfl rfl) ?_
  refine .q rfl rfl rfl (val_pick_f rfl rfl) ?_
  refine .q rfl rfl rfl (val_move rfl) ?_
  refine .case (t := 11) rfl (fun hs11 => ?_) (fun hs11 => ?_)
  · exfalso; simp at hs11; omega
  · refine .q rfl rfl rfl (val_move rfl) ?_
    refine .q rfl rfl rfl (val_move rfl) ?_
    refine .q rfl rfl rfl (val_nilCheck rfl) ?_
    refine .q rfl rfl rfl (val_fieldAddr rfl fa_163_5) ?_
    refine .qs rfl rfl rfl H (ld_b rfl ob_27 (.ro .here) rfl) ?_
    refine .q rfl rfl rfl (val_len Tryz.underlying27 rfl) ?_
    refine .q rfl rfl rfl (val_geq rfl rfl rfl) ?_
    refine .q rfl rfl rfl (val_pick_f rfl rfl) ?_
    refine .nil (cj ?_)
    refine .cond rfl (fun hc0 => ?_) (fun hc0 => ?_)
    · exfalso; simp at hc0; omega
    · refine .skip (cj ?_)
      refine .seq ?_
      refine .plain rfl ?_
      refine .q rfl rfl rfl (val_move rfl) ?_
      refine .q rfl rfl rfl (val_nilCheck rfl) ?_
      refine .q rfl rfl rfl (val_fieldAddr rfl fa_163_5) ?_
      refine .qs rfl rfl rfl H (ld_b rfl ob_27 (.ro .here) rfl) ?_
      refine .q rfl rfl rfl (val_move rfl) ?_
      refine .q rfl rfl rfl (val_ix el_27 rfl rfl rfl rfl hi) ?_
      refine .qs rfl rfl rfl H (ld_b rfl ob_3 (.ro (.there .here)) (ix_map (by first | assumption | rfl))) ?_
      refine .q rfl rfl rfl (val_assign rfl) ?_
      refine .nil (cj ?_)
      refine .ret (fret (res1 rfl rfl) ?_)
      refine hRR _ _ ⟨_, ⟨?_, rfl⟩, H.sub .nil⟩
      rfl
/-- an owned row is read as an array -/
theorem Spec.rowR {P : Program} {f : FuncId} {args : Array Value} {A : Option Addr} {n cap : Nat} {e : TypeId} {sz : Nat} {xs : List Value} {R F : List As} {Post : Ending → List As → Prop} (h : Sk.Spec P f args (arr A xs :: R) F Post) : Sk.Spec P f args (row (.slice A n cap) e sz n xs :: R) F Post := by
  intro w X hF hR
  refine h w X hF fun r hr => ?_
  rcases List.mem_cons.1 hr with rfl | hr
  · obtain ⟨Y, ⟨hrow, hblk⟩, hd⟩ := hR _ List.mem_cons_self
    refine ⟨Y, ?_, hd⟩
    rcases hrow.2 with ⟨h1, h2⟩ | ⟨g, cap', cur, h1, hb, hg, hnc, hcm, hcs, htake⟩
    · cases h1
      exact .inl ⟨List.eq_nil_of_length_eq_zero (by simpa using hrow.1), fun k hk => by have := (hblk k).1 hk; simp [Value.ownBlock] at this⟩
    · obtain ⟨rfl, _, rfl⟩ : A = _ ∧ n = n ∧ cap = cap' := by simpa using h1
      refine .inr ⟨g, 0, rfl, fun k => by rw [hblk k]; simp [Value.ownBlock, eq_comm], (Array.getElem?_eq_some_iff.1 hg).1, fun j u hu => ?_⟩
      have := hrow.cells (g := g) rfl j u hu
      rwa [Sk.add_plain] at this
  · exact hR r (List.mem_cons_of_mem _ hr)
theorem top_spec (c : Cf) (hm : MayOk c) (b : Nat) (x : SX) (n : Nat) (px py : Int) (ho : openR c px py = true) {g cap : Nat} {l : List Int} (hb : x.bs[numI c ⟨px, py⟩]? = some ⟨.slice (some ⟨g, 0, none⟩) l.length cap, l⟩) (hl : l.length ≤ 8) {z : Int} (hz : l[l.length - 1]? = some z) :
    Sk.Spec Tryz.prog 111 #[ptr b, .agg #[i64 px, i64 py]] [arr (some ⟨g, 0, none⟩) (l.flatMap encI), tblk c b x n, gfix c x.bg x.bk, kblk x.bk (KF c), blk x.bb (x.bs.map fun b => b.v) 27] [] fun e F' => e = .returned (i64 z) ∧ F' = [] := by
  have hn := (numI_lt hm.num (openR_in ho)).1
  have hi := lt_of_some hz
  refine Spec.of_code (vs := [_, _]) (k0 := [(0, _), (1, _)]) 40 Tryz.func111 rfl Tryz.ntmps111 rfl (.cons (.cons .nil)) fun w X RR hRR H => ?_
  refine .seq ?_
  refine .plain rfl ?_
  refine .box rfl rfl rfl rfl rfl H (fun w1 b1 H1 => ⟨fun _ => trivial, ?_⟩)
  refine .q rfl rfl rfl (val_assign rfl) ?_
  refine .nil (cj ?_)
  refine .seq ?_
  refine .plain rfl ?_
  refine .q rfl rfl rfl (val_move rfl) ?_
  refine .qs rfl rfl rfl H1 (ld_w rfl ag_38 (.own .here) rfl) ?_
  refine .call1 rfl rfl rfl en110 (.cons rfl (.cons rfl .nil)) (at1_spec c hm _ _ _ _ _ ho) H1 .nil (.ro (.there .here) (.ro (.there (.there .here)) (.ro (.there (.there (.there .here))) .nil))) (fun w2 H2 => ⟨fun _ => trivial, ?_⟩)
  refine .q rfl rfl rfl (val_assign rfl) ?_
  refine .nil (cj ?_)
  refine .seq ?_
  refine .seq ?_
  refine .plain rfl ?_
  refine .q rfl rfl rfl (val_move rfl) ?_
  refine .q rfl rfl rfl (val_lss rfl rfl rfl) ?_
  refine .q rfl rfl rfl (val_move rfl) ?_
  refine .case (t := 11) rfl (fun hs11 => ?_) (fun hs11 => ?_)
  · exfalso; simp at hs11; omega
  · refine .q rfl rfl rfl (val_move rfl) ?_
    refine .q rfl rfl rfl (val_nilCheck rfl) ?_
    refine .q rfl rfl rfl (val_fieldAddr rfl fa_163_4) ?_
    refine .qs rfl rfl rfl H2 (ld_b rfl ob_161 (.ro (.there .here)) rfl) ?_
    refine .q rfl rfl rfl (val_move rfl) ?_
    refine .q rfl rfl rfl (val_ix el_161 rfl rfl rfl rfl hn) ?_
    refine .qs rfl rfl rfl H2 (ld_b rfl ob_27 (.ro (.there (.there (.there (.there .here))))) (ix_map (by first | assumption | rfl))) ?_
    refine .q rfl rfl rfl (val_len Tryz.underlying27 rfl) ?_
    refine .q rfl rfl rfl (val_eql rfl rfl rfl) ?_
    refine .q rfl rfl rfl (val_pick_f rfl rfl) ?_
    refine .nil (cj ?_)
    refine .cond rfl (fun hc0 => ?_) (fun hc0 => ?_)
    · exfalso; simp at hc0; subst hc0; simp at hz
    · refine .skip (cj ?_)
      refine .seq ?_
      refine .drawS 19 (.cons (0, true) (.cons (1, true) (.cons (2, true) (.cons (3, true) (.cons (4, true) (.cons (5, true) (.cons (6, true) (.cons (7, true) (.cons (8, true) (.cons (9, true) (.cons (10, true) (.cons (11, true) (.cons (12, true) (.cons (13, true) (.cons (14, true) (.cons (15, true) (.cons (16, true) (.cons (17, true) (.cons (18, true) .nil))))))))))))))))))) mo (by kernel_rfl) H2 (fun _ _ _ _ _ h => h) (fun w3 H3 => ?_)
      refine .p rfl rfl rfl (val_move rfl) ?_
      refine .p rfl rfl rfl (val_nilCheck rfl) ?_
      refine .p rfl rfl rfl (val_fieldAddr rfl fa_163_4) ?_
      refine .ps rfl rfl rfl rfl (ld_b rfl ob_161 (.ro (.there .here)) rfl) ?_
      refine .p rfl rfl rfl (val_move rfl) ?_
      refine .p rfl rfl rfl (val_ix el_161 rfl rfl rfl rfl hn) ?_
      refine .ps rfl rfl rfl rfl (ld_b rfl ob_27 (.ro (.there (.there (.there (.there .here))))) (ix_map (by first | assumption | rfl))) ?_
      refine .p rfl rfl rfl (val_move rfl) ?_
      refine .p rfl rfl rfl (val_nilCheck rfl) ?_
      refine .p rfl rfl rfl (val_fieldAddr rfl fa_163_4) ?_
      refine .ps rfl rfl rfl rfl (ld_b rfl ob_161 (.ro (.there .here)) rfl) ?_
      refine .p rfl rfl rfl (val_move rfl) ?_
      refine .p rfl rfl rfl (val_ix el_161 rfl rfl rfl rfl hn) ?_
      refine .ps rfl rfl rfl rfl (ld_b rfl ob_27 (.ro (.there (.there (.there (.there .here))))) (ix_map (by first | assumption | rfl))) ?_
      refine .p rfl rfl rfl (val_len Tryz.underlying27 rfl) ?_
      refine .p rfl rfl rfl (val_sub rfl rfl (z := ((l.length - 1 : Nat) : Int)) ((w64_of (by omega)).trans (by omega))) ?_
      refine .p rfl rfl rfl (val_ix el_27 rfl rfl rfl rfl hi) ?_
      refine .ps rfl rfl rfl rfl (ld_el rfl ob_3 .base rfl (.ro .here) encI_len (by first | assumption | rfl) rfl) ?_
      refine .p rfl rfl rfl (val_assign rfl) ?_
      refine .nil (cj ?_)
      refine .ret (fret (res1 rfl rfl) ?_)
      refine hRR _ _ ⟨_, ⟨?_, rfl⟩, H3.sub .nil⟩
      rfl
end Go.Proofs.YtmbibkifbehgnaaGreatDoor
namespace Go.Proofs.YtmbibkifbehgnaaGreatDoor
open Go Sk
set_option linter.unusedVariables false
set_option linter.unusedSimpArgs false
set_option linter.unusedSectionVars false
theorem fa_163_3 (b o : Nat) (w : World) : (Instr.fieldAt 163 (.pointer (some ⟨b, o, none⟩)) 3).run Tryz.prog w = .ok (.pointer (some ⟨b, o + 3, none⟩)) w := by kernel_rfl
theorem en91 : Enters Tryz.prog 91 := fun args w => by kernel_rfl
theorem en111 : Enters Tryz.prog 111 := fun args w => by kernel_rfl
/-- how many may stand at a cell -/
def roomI (c : Cf) (px py : Int) : Int := if isPort c px py then 1 else if stackedR c px py then c.height else 0
section
variable (c : Cf) (hm : MayOk c) (b : Nat) (x : SX) (loads : List Int) (i : Nat) (px py : Int) (hl8 : loads.length ≤ 8)
include hm hl8
theorem lift0_spec (ho : openR c px py = false) : Sk.Spec Tryz.prog 88 #[ptr b, i64 (i : Int), .agg #[i64 px, i64 py]] [tblk c b x loads.length, gfix c x.bg x.bk, kblk x.bk (KF c)] [] fun e F' => e = .returned (.tuple #[i64 0, i64 1]) ∧ F' = [] := by
  refine Spec.of_code (vs := [_, _, _]) (k0 := [(0, _), (1, _), (2, _)]) 82 Tryz.func88 rfl Tryz.ntmps88 rfl (.cons (.cons (.cons .nil))) fun w X RR hRR H => ?_
  refine .seq ?_
  refine .plain rfl ?_
  refine .box rfl rfl rfl rfl rfl H (fun w1 b1 H1 => ⟨fun _ => trivial, ?_⟩)
  refine .q rfl rfl rfl (val_assign rfl) ?_
  refine .q rfl rfl rfl (val_assign rfl) ?_
  refine .nil (cj ?_)
  refine .seq ?_
  refine .plain rfl ?_
  refine .q rfl rfl rfl (val_move rfl) ?_
  refine .qs rfl rfl rfl H1 (ld_w rfl ag_38 (.own .here) rfl) ?_
  refine .call1 rfl rfl rfl en110 (.cons rfl (.cons rfl .nil)) (at0_spec c hm _ _ _ _ _ ho) H1 .nil (.ro .here (.ro (.there .here) (.ro (.there (.there .here)) .nil))) (fun w2 H2 => ⟨fun _ => trivial, ?_⟩)
  refine .q rfl rfl rfl (val_assign rfl) ?_
  refine .nil (cj ?_)
  refine .seq ?_
  refine .block ?_
  refine .seq ?_
  refine .plain rfl ?_
  refine .q rfl rfl rfl (val_move rfl) ?_
  refine .q rfl rfl rfl (val_lss rfl rfl rfl) ?_
  refine .q rfl rfl rfl (val_move rfl) ?_
  refine .case (t := 16) rfl (fun hs16 => ?_) (fun hs16 => ?_)
  · refine .no rfl rfl rfl ?_
    refine .no rfl rfl rfl ?_
    refine .q rfl rfl rfl (val_pick_t rfl rfl) ?_
    refine .q rfl rfl rfl (val_move rfl) ?_
    refine .no rfl rfl rfl ?_
    refine .no rfl rfl rfl ?_
    refine .no rfl rfl rfl ?_
    refine .no rfl rfl rfl ?_
    refine .no rfl rfl rfl ?_
    refine .no rfl rfl rfl ?_
    refine .no rfl rfl rfl ?_
    refine .q rfl rfl rfl (val_pick_t rfl rfl) ?_
    refine .q rfl rfl rfl (val_assign rfl) ?_
    refine .nil (cj ?_)
    refine .cond_t rfl ?_
    refine .seq ?_
    refine .plain rfl ?_
    refine .q rfl rfl rfl (val_assign rfl) ?_
    refine .q rfl rfl rfl (val_assign rfl) ?_
    refine .nil (cj ?_)
    refine .ret (fret (res2 rfl rfl rfl) ?_)
    refine hRR _ _ ⟨_, ⟨?_, rfl⟩, H2.sub .nil⟩
    rfl
  · exfalso; simp at hs16
variable (z : Int) (hz : loads[i]? = some z) {A : Option Addr} {cap : Nat} {l : List Int} (ho : openR c px py = true) (hb : x.bs[numI c ⟨px, py⟩]? = some ⟨.slice A l.length cap, l⟩) (hl : l.length ≤ 8)
include hz hb hl ho
theorem lift1_spec (hno : z ≠ 0 ∨ l = []) : Sk.Spec Tryz.prog 88 #[ptr b, i64 (i : Int), .agg #[i64 px, i64 py]] [tblk c b x loads.length, gfix c x.bg x.bk, kblk x.bk (KF c), blk x.bb (x.bs.map fun b => b.v) 27, blk x.bl (loads.map fun z => i64 z) 3] [] fun e F' => e = .returned (.tuple #[i64 0, i64 (if z ≠ 0 then 8 else 3)]) ∧ F' = [] := by
  have hi := lt_of_some hz
  have hn := (numI_lt hm.num (openR_in ho)).1
  refine Spec.of_code (vs := [_, _, _]) (k0 := [(0, _), (1, _), (2, _)]) 82 Tryz.func88 rfl Tryz.ntmps88 rfl (.cons (.cons (.cons .nil))) fun w X RR hRR H => ?_
  refine .seq ?_
  refine .plain rfl ?_
  refine .box rfl rfl rfl rfl rfl H (fun w1 b1 H1 => ⟨fun _ => trivial, ?_⟩)
  refine .q rfl rfl rfl (val_assign rfl) ?_
  refine .q rfl rfl rfl (val_assign rfl) ?_
  refine .nil (cj ?_)
  refine .seq ?_
  refine .plain rfl ?_
  refine .q rfl rfl rfl (val_move rfl) ?_
  refine .qs rfl rfl rfl H1 (ld_w rfl ag_38 (.own .here) rfl) ?_
  refine .call1 rfl rfl rfl en110 (.cons rfl (.cons rfl .nil)) (at1_spec c hm _ _ _ _ _ ho) H1 .nil (.ro .here (.ro (.there .here) (.ro (.there (.there .here)) .nil))) (fun w2 H2 => ⟨fun _ => trivial, ?_⟩)
  refine .q rfl rfl rfl (val_assign rfl) ?_
  refine .nil (cj ?_)
  refine .seq ?_
  refine .block ?_
  refine .seq ?_
  refine .plain rfl ?_
  refine .q rfl rfl rfl (val_move rfl) ?_
  refine .q rfl rfl rfl (val_lss rfl rfl rfl) ?_
  refine .q rfl rfl rfl (val_move rfl) ?_
  refine .case (t := 16) rfl (fun hs16 => ?_) (fun hs16 => ?_)
  · exfalso; simp at hs16; omega
  · refine .q rfl rfl rfl (val_move rfl) ?_
    refine .q rfl rfl rfl (val_lss rfl rfl rfl) ?_
    refine .q rfl rfl rfl (val_pick_f rfl rfl) ?_
    refine .q rfl rfl rfl (val_move rfl) ?_
    refine .case (t := 20) rfl (fun hs20 => ?_) (fun hs20 => ?_)
    · exfalso; simp at hs20; omega
    · refine .q rfl rfl rfl (val_move rfl) ?_
      refine .q rfl rfl rfl (val_move rfl) ?_
      refine .q rfl rfl rfl (val_nilCheck rfl) ?_
      refine .q rfl rfl rfl (val_fieldAddr rfl fa_163_5) ?_
      refine .qs rfl rfl rfl H2 (ld_b rfl ob_27 (.ro .here) rfl) ?_
      refine .q rfl rfl rfl (val_len Tryz.underlying27 rfl) ?_
      refine .q rfl rfl rfl (val_geq rfl rfl rfl) ?_
      refine .q rfl rfl rfl (val_pick_f rfl rfl) ?_
      refine .q rfl rfl rfl (val_assign rfl) ?_
      refine .nil (cj ?_)
      refine .cond rfl (fun hc0 => ?_) (fun hc0 => ?_)
      · exfalso; simp at hc0; omega
      · refine .seq ?_
        refine .plain rfl ?_
        refine .q rfl rfl rfl (val_move rfl) ?_
        refine .q rfl rfl rfl (val_nilCheck rfl) ?_
        refine .q rfl rfl rfl (val_fieldAddr rfl fa_163_5) ?_
        refine .qs rfl rfl rfl H2 (ld_b rfl ob_27 (.ro .here) rfl) ?_
        refine .q rfl rfl rfl (val_move rfl) ?_
        refine .q rfl rfl rfl (val_ix el_27 rfl rfl rfl rfl hi) ?_
        refine .qs rfl rfl rfl H2 (ld_b rfl ob_3 (.ro (.there (.there (.there (.there .here))))) (ix_map (by first | assumption | rfl))) ?_
        refine .q rfl rfl rfl (val_neq rfl rfl rfl) ?_
        refine .q rfl rfl rfl (val_assign rfl) ?_
        refine .nil (cj ?_)
        refine .cond rfl (fun hc1 => ?_) (fun hc1 => ?_)
        · refine .seq ?_
          refine .plain rfl ?_
          refine .q rfl rfl rfl (val_assign rfl) ?_
          refine .q rfl rfl rfl (val_assign rfl) ?_
          refine .nil (cj ?_)
          refine .ret (fret (res2 rfl rfl rfl) ?_)
          refine hRR _ _ ⟨_, ⟨?_, rfl⟩, H2.sub .nil⟩
          simp at hc1; simp [hc1]
        · refine .seq ?_
          refine .plain rfl ?_
          refine .q rfl rfl rfl (val_move rfl) ?_
          refine .q rfl rfl rfl (val_nilCheck rfl) ?_
          refine .q rfl rfl rfl (val_fieldAddr rfl fa_163_4) ?_
          refine .qs rfl rfl rfl H2 (ld_b rfl ob_161 (.ro .here) rfl) ?_
          refine .q rfl rfl rfl (val_move rfl) ?_
          refine .q rfl rfl rfl (val_ix el_161 rfl rfl rfl rfl hn) ?_
          refine .qs rfl rfl rfl H2 (ld_b rfl ob_27 (.ro (.there (.there (.there .here)))) (ix_map (by first | assumption | rfl))) ?_
          refine .q rfl rfl rfl (val_len Tryz.underlying27 rfl) ?_
          refine .q rfl rfl rfl (val_eql rfl rfl rfl) ?_
          refine .q rfl rfl rfl (val_assign rfl) ?_
          refine .nil (cj ?_)
          refine .cond rfl (fun hc2 => ?_) (fun hc2 => ?_)
          · refine .seq ?_
            refine .plain rfl ?_
            refine .q rfl rfl rfl (val_assign rfl) ?_
            refine .q rfl rfl rfl (val_assign rfl) ?_
            refine .nil (cj ?_)
            refine .ret (fret (res2 rfl rfl rfl) ?_)
            refine hRR _ _ ⟨_, ⟨?_, rfl⟩, H2.sub .nil⟩
            simp at hc1; simp [hc1]
          · exfalso; simp at hc1 hc2; simp [hc1] at hno; simp [hno] at hc2
theorem lift2_spec {g : Nat} (hA : A = some ⟨g, 0, none⟩) (hcap : l.length ≤ cap) (h0 : z = 0) {u : Int} (hu : l[l.length - 1]? = some u) :
    Sk.Spec Tryz.prog 88 #[ptr b, i64 (i : Int), .agg #[i64 px, i64 py]] [tblk c b x loads.length, gfix c x.bg x.bk, kblk x.bk (KF c)] [blk x.bb (x.bs.map fun b => b.v) 27, row (.slice A l.length cap) 3 1 l.length (l.flatMap encI), blk x.bl (loads.map fun z => i64 z) 3] fun e F' => e = .returned (.tuple #[i64 u, i64 0]) ∧
      F' = [blk x.bb ((x.bs.map fun b => b.v).set (numI c ⟨px, py⟩) (.slice A (l.length - 1) cap)) 27, row (.slice A (l.length - 1) cap) 3 1 (l.length - 1) ((l.flatMap encI).take ((l.length - 1) * 1)), blk x.bl ((loads.map fun z => i64 z).set i (i64 u)) 3] := by
  subst hA
  have hi := lt_of_some hz
  have hn := (numI_lt hm.num (openR_in ho)).1
  have hbn := lt_of_some hb
  have hln := lt_of_some hu
  refine Spec.of_code (vs := [_, _, _]) (k0 := [(0, _), (1, _), (2, _)]) 82 Tryz.func88 rfl Tryz.ntmps88 rfl (.cons (.cons (.cons .nil))) fun w X RR hRR H => ?_
  refine .seq ?_
  refine .plain rfl ?_
  refine .box rfl rfl rfl rfl rfl H (fun w1 b1 H1 => ⟨fun _ => trivial, ?_⟩)
  refine .q rfl rfl rfl (val_assign rfl) ?_
  refine .q rfl rfl rfl (val_assign rfl) ?_
  refine .nil (cj ?_)
  refine .seq ?_
  refine .plain rfl ?_
  refine .q rfl rfl rfl (val_move rfl) ?_
  refine .qs rfl rfl rfl H1 (ld_w rfl ag_38 (.own .here) rfl) ?_
  refine .call1 rfl rfl rfl en110 (.cons rfl (.cons rfl .nil)) (at1_spec c hm _ _ _ _ _ ho) H1 .nil (.ro .here (.ro (.there .here) (.ro (.there (.there .here)) .nil))) (fun w2 H2 => ⟨fun _ => trivial, ?_⟩)
  refine .q rfl rfl rfl (val_assign rfl) ?_
  refine .nil (cj ?_)
  refine .seq ?_
  refine .block ?_
  refine .seq ?_
  refine .plain rfl ?_
  refine .q rfl rfl rfl (val_move rfl) ?_
  refine .q rfl rfl rfl (val_lss rfl rfl rfl) ?_
  refine .q rfl rfl rfl (val_move rfl) ?_
  refine .case (t := 16) rfl (fun hs16 => ?_) (fun hs16 => ?_)
  · exfalso; simp at hs16; omega
  · refine .q rfl rfl rfl (val_move rfl) ?_
    refine .q rfl rfl rfl (val_lss rfl rfl rfl) ?_
    refine .q rfl rfl rfl (val_pick_f rfl rfl) ?_
    refine .q rfl rfl rfl (val_move rfl) ?_
    refine .case (t := 20) rfl (fun hs20 => ?_) (fun hs20 => ?_)
    · exfalso; simp at hs20; omega
    · refine .q rfl rfl rfl (val_move rfl) ?_
      refine .q rfl rfl rfl (val_move rfl) ?_
      refine .q rfl rfl rfl (val_nilCheck rfl) ?_
      refine .q rfl rfl rfl (val_fieldAddr rfl fa_163_5) ?_
      refine .qs rfl rfl rfl H2 (ld_b rfl ob_27 (.ro .here) rfl) ?_
      refine .q rfl rfl rfl (val_len Tryz.underlying27 rfl) ?_
      refine .q rfl rfl rfl (val_geq rfl rfl rfl) ?_
      refine .q rfl rfl rfl (val_pick_f rfl rfl) ?_
      refine .q rfl rfl rfl (val_assign rfl) ?_
      refine .nil (cj ?_)
      refine .cond rfl (fun hc0 => ?_) (fun hc0 => ?_)
      · exfalso; simp at hc0; omega
      · refine .seq ?_
        refine .plain rfl ?_
        refine .q rfl rfl rfl (val_move rfl) ?_
        refine .q rfl rfl rfl (val_nilCheck rfl) ?_
        refine .q rfl rfl rfl (val_fieldAddr rfl fa_163_5) ?_
        refine .qs rfl rfl rfl H2 (ld_b rfl ob_27 (.ro .here) rfl) ?_
        refine .q rfl rfl rfl (val_move rfl) ?_
        refine .q rfl rfl rfl (val_ix el_27 rfl rfl rfl rfl hi) ?_
        refine .qs rfl rfl rfl H2 (ld_b rfl ob_3 (.own (.there (.there (.there .here)))) (ix_map (by first | assumption | rfl))) ?_
        refine .q rfl rfl rfl (val_neq rfl rfl rfl) ?_
        refine .q rfl rfl rfl (val_assign rfl) ?_
        refine .nil (cj ?_)
        refine .cond rfl (fun hc1 => ?_) (fun hc1 => ?_)
        · exfalso; simp [h0] at hc1
        · refine .seq ?_
          refine .plain rfl ?_
          refine .q rfl rfl rfl (val_move rfl) ?_
          refine .q rfl rfl rfl (val_nilCheck rfl) ?_
          refine .q rfl rfl rfl (val_fieldAddr rfl fa_163_4) ?_
          refine .qs rfl rfl rfl H2 (ld_b rfl ob_161 (.ro .here) rfl) ?_
          refine .q rfl rfl rfl (val_move rfl) ?_
          refine .q rfl rfl rfl (val_ix el_161 rfl rfl rfl rfl hn) ?_
          refine .qs rfl rfl rfl H2 (ld_b rfl ob_27 (.own (.there .here)) (ix_map (by first | assumption | rfl))) ?_
          refine .q rfl rfl rfl (val_len Tryz.underlying27 rfl) ?_
          refine .q rfl rfl rfl (val_eql rfl rfl rfl) ?_
          refine .q rfl rfl rfl (val_assign rfl) ?_
          refine .nil (cj ?_)
          refine .cond rfl (fun hc2 => ?_) (fun hc2 => ?_)
          · exfalso; simp at hc2; subst hc2; simp at hu
          · refine .skip (cj ?_)
            refine .seq ?_
            refine .plain rfl ?_
            refine .q rfl rfl rfl (val_move rfl) ?_
            refine .qs rfl rfl rfl H2 (ld_w rfl ag_38 (.own .here) rfl) ?_
            refine .call1 rfl rfl rfl en111 (.cons rfl (.cons rfl .nil)) (Spec.rowR (top_spec c hm _ _ _ _ _ ho hb hl hu)) H2 .nil (.own (.there (.there .here)) (.ro .here (.ro (.there .here) (.ro (.there (.there .here)) (.own (.there .here) .nil))))) (fun w3 H3 => ⟨fun _ => trivial, ?_⟩)
            refine .q rfl rfl rfl (val_assign rfl) ?_
            refine .nil (cj ?_)
            refine .seq ?_
            refine .drawS 23 (.cons (0, true) (.cons (1, true) (.cons (2, true) (.cons (3, true) (.cons (4, true) (.cons (5, true) (.cons (6, true) (.cons (7, true) (.cons (8, true) (.cons (9, true) (.cons (10, true) (.cons (11, true) (.cons (12, true) (.cons (13, true) (.cons (14, true) (.cons (15, true) (.cons (16, true) (.cons (17, true) (.cons (18, true) (.cons (19, true) (.cons (20, true) (.cons (21, true) (.cons (22, true) (.cons (23, false) .nil)))))))))))))))))))))))) mo (by kernel_rfl) H3 (fun _ _ _ _ _ h => h) (fun w4 H4 => ?_)
            refine .p rfl rfl rfl (val_move rfl) ?_
            refine .p rfl rfl rfl (val_nilCheck rfl) ?_
            refine .p rfl rfl rfl (val_fieldAddr rfl fa_163_4) ?_
            refine .ps rfl rfl rfl rfl (ld_b rfl ob_161 (.ro .here) rfl) ?_
            refine .p rfl rfl rfl (val_move rfl) ?_
            refine .p rfl rfl rfl (val_move rfl) ?_
            refine .p rfl rfl rfl (val_nilCheck rfl) ?_
            refine .p rfl rfl rfl (val_fieldAddr rfl fa_163_4) ?_
            refine .ps rfl rfl rfl rfl (ld_b rfl ob_161 (.ro .here) rfl) ?_
            refine .p rfl rfl rfl (val_move rfl) ?_
            refine .p rfl rfl rfl (val_ix el_161 rfl rfl rfl rfl hn) ?_
            refine .ps rfl rfl rfl rfl (ld_b rfl ob_27 (.own (.there .here)) (ix_map (by first | assumption | rfl))) ?_
            refine .p rfl rfl rfl (val_move rfl) ?_
            refine .p rfl rfl rfl (val_nilCheck rfl) ?_
            refine .p rfl rfl rfl (val_fieldAddr rfl fa_163_4) ?_
            refine .ps rfl rfl rfl rfl (ld_b rfl ob_161 (.ro .here) rfl) ?_
            refine .p rfl rfl rfl (val_move rfl) ?_
            refine .p rfl rfl rfl (val_ix el_161 rfl rfl rfl rfl hn) ?_
            refine .ps rfl rfl rfl rfl (ld_b rfl ob_27 (.own (.there .here)) (ix_map (by first | assumption | rfl))) ?_
            refine .p rfl rfl rfl (val_len Tryz.underlying27 rfl) ?_
            refine .p rfl rfl rfl (val_sub rfl rfl rfl) ?_
            refine .p rfl rfl rfl (val_sliceH (j := l.length - 1) el_27 rfl rfl ((w64_of (by omega)).trans (by omega)) (by omega)) ?_
            refine .p rfl rfl rfl (val_ix el_161 rfl rfl rfl rfl hn) ?_
            refine .store rfl rfl rfl rfl rfl sz_27 rfl H4 (.there .here) (by rw [Nat.zero_add, Nat.mul_one]; exact Spl_cell (by simpa using hbn)) (fun w5 H5 => ⟨fun h => absurd h (by decide), ?_⟩)
            refine .nil (cj ?_)
            refine .seq ?_
            refine .plain rfl ?_
            refine .q rfl rfl rfl (val_move rfl) ?_
            refine .q rfl rfl rfl (val_nilCheck rfl) ?_
            refine .q rfl rfl rfl (val_fieldAddr rfl fa_163_5) ?_
            refine .qs rfl rfl rfl H5 (ld_b rfl ob_27 (.ro .here) rfl) ?_
            refine .q rfl rfl rfl (val_move rfl) ?_
            refine .q rfl rfl rfl (val_move rfl) ?_
            refine .q rfl rfl rfl (val_ix el_27 rfl rfl rfl rfl hi) ?_
            refine .store rfl rfl rfl rfl rfl sz_3 rfl H5 (.there (.there (.there .here))) (by rw [Nat.zero_add, Nat.mul_one]; exact Spl_cell (by simpa using hi)) (fun w6 H6 => ⟨fun _ => trivial, ?_⟩)
            refine .nil (cj ?_)
            refine .seq ?_
            refine .plain rfl ?_
            refine .q rfl rfl rfl (val_move rfl) ?_
            refine .q rfl rfl rfl (val_assign rfl) ?_
            refine .q rfl rfl rfl (val_assign rfl) ?_
            refine .nil (cj ?_)
            refine .ret (fret (res2 rfl rfl rfl) ?_)
            have h9 := H6.rowShort (m := l.length - 1) (.there (.there (.there .here))) (by omega)
            refine hRR _ _ ⟨_, ⟨rfl, rfl⟩, h9.sub (.cons (.there (.there .here)) (.cons .here (.cons .here .nil)))⟩
end
section
variable (c : Cf) (hm : MayOk c) (b : Nat) (x : SX) (loads : List Int) (i : Nat) (px py : Int) (hl8 : loads.length ≤ 8)
include hm hl8
theorem drop0_spec (ho : openR c px py = false) : Sk.Spec Tryz.prog 90 #[ptr b, i64 (i : Int), .agg #[i64 px, i64 py]] [tblk c b x loads.length, gfix c x.bg x.bk, kblk x.bk (KF c)] [] fun e F' => e = .returned (i64 1) ∧ F' = [] := by
  refine Spec.of_code (vs := [_, _, _]) (k0 := [(0, _), (1, _), (2, _)]) 92 Tryz.func90 rfl Tryz.ntmps90 rfl (.cons (.cons (.cons .nil))) fun w X RR hRR H => ?_
  refine .seq ?_
  refine .plain rfl ?_
  refine .box rfl rfl rfl rfl rfl H (fun w1 b1 H1 => ⟨fun _ => trivial, ?_⟩)
  refine .q rfl rfl rfl (val_assign rfl) ?_
  refine .nil (cj ?_)
  refine .seq ?_
  refine .plain rfl ?_
  refine .q rfl rfl rfl (val_move rfl) ?_
  refine .qs rfl rfl rfl H1 (ld_w rfl ag_38 (.own .here) rfl) ?_
  refine .call1 rfl rfl rfl en110 (.cons rfl (.cons rfl .nil)) (at0_spec c hm _ _ _ _ _ ho) H1 .nil (.ro .here (.ro (.there .here) (.ro (.there (.there .here)) .nil))) (fun w2 H2 => ⟨fun _ => trivial, ?_⟩)
  refine .q rfl rfl rfl (val_assign rfl) ?_
  refine .nil (cj ?_)
  refine .seq ?_
  refine .seq ?_
  refine .plain rfl ?_
  refine .q rfl rfl rfl (val_move rfl) ?_
  refine .q rfl rfl rfl (val_lss rfl rfl rfl) ?_
  refine .q rfl rfl rfl (val_move rfl) ?_
  refine .case (t := 14) rfl (fun hs14 => ?_) (fun hs14 => ?_)
  · refine .no rfl rfl rfl ?_
    refine .no rfl rfl rfl ?_
    refine .q rfl rfl rfl (val_pick_t rfl rfl) ?_
    refine .q rfl rfl rfl (val_move rfl) ?_
    refine .no rfl rfl rfl ?_
    refine .no rfl rfl rfl ?_
    refine .no rfl rfl rfl ?_
    refine .no rfl rfl rfl ?_
    refine .no rfl rfl rfl ?_
    refine .no rfl rfl rfl ?_
    refine .no rfl rfl rfl ?_
    refine .q rfl rfl rfl (val_pick_t rfl rfl) ?_
    refine .nil (cj ?_)
    refine .cond_t rfl ?_
    refine .seq ?_
    refine .plain rfl ?_
    refine .q rfl rfl rfl (val_assign rfl) ?_
    refine .nil (cj ?_)
    refine .ret (fret (res1 rfl rfl) ?_)
    refine hRR _ _ ⟨_, ⟨?_, rfl⟩, H2.sub .nil⟩
    rfl
  · exfalso; simp at hs14
variable (z : Int) (hz : loads[i]? = some z) (ho : openR c px py = true)
include hz ho
theorem drop1_spec (h0 : z = 0) : Sk.Spec Tryz.prog 90 #[ptr b, i64 (i : Int), .agg #[i64 px, i64 py]] [tblk c b x loads.length, gfix c x.bg x.bk, kblk x.bk (KF c), blk x.bl (loads.map fun z => i64 z) 3] [] fun e F' => e = .returned (i64 8) ∧ F' = [] := by
  have hi := lt_of_some hz
  refine Spec.of_code (vs := [_, _, _]) (k0 := [(0, _), (1, _), (2, _)]) 92 Tryz.func90 rfl Tryz.ntmps90 rfl (.cons (.cons (.cons .nil))) fun w X RR hRR H => ?_
  refine .seq ?_
  refine .plain rfl ?_
  refine .box rfl rfl rfl rfl rfl H (fun w1 b1 H1 => ⟨fun _ => trivial, ?_⟩)
  refine .q rfl rfl rfl (val_assign rfl) ?_
  refine .nil (cj ?_)
  refine .seq ?_
  refine .plain rfl ?_
  refine .q rfl rfl rfl (val_move rfl) ?_
  refine .qs rfl rfl rfl H1 (ld_w rfl ag_38 (.own .here) rfl) ?_
  refine .call1 rfl rfl rfl en110 (.cons rfl (.cons rfl .nil)) (at1_spec c hm _ _ _ _ _ ho) H1 .nil (.ro .here (.ro (.there .here) (.ro (.there (.there .here)) .nil))) (fun w2 H2 => ⟨fun _ => trivial, ?_⟩)
  refine .q rfl rfl rfl (val_assign rfl) ?_
  refine .nil (cj ?_)
  refine .seq ?_
  refine .seq ?_
  refine .plain rfl ?_
  refine .q rfl rfl rfl (val_move rfl) ?_
  refine .q rfl rfl rfl (val_lss rfl rfl rfl) ?_
  refine .q rfl rfl rfl (val_move rfl) ?_
  refine .case (t := 14) rfl (fun hs14 => ?_) (fun hs14 => ?_)
  · exfalso; simp at hs14; omega
  · refine .q rfl rfl rfl (val_move rfl) ?_
    refine .q rfl rfl rfl (val_lss rfl rfl rfl) ?_
    refine .q rfl rfl rfl (val_pick_f rfl rfl) ?_
    refine .q rfl rfl rfl (val_move rfl) ?_
    refine .case (t := 18) rfl (fun hs18 => ?_) (fun hs18 => ?_)
    · exfalso; simp at hs18; omega
    · refine .q rfl rfl rfl (val_move rfl) ?_
      refine .q rfl rfl rfl (val_move rfl) ?_
      refine .q rfl rfl rfl (val_nilCheck rfl) ?_
      refine .q rfl rfl rfl (val_fieldAddr rfl fa_163_5) ?_
      refine .qs rfl rfl rfl H2 (ld_b rfl ob_27 (.ro .here) rfl) ?_
      refine .q rfl rfl rfl (val_len Tryz.underlying27 rfl) ?_
      refine .q rfl rfl rfl (val_geq rfl rfl rfl) ?_
      refine .q rfl rfl rfl (val_pick_f rfl rfl) ?_
      refine .nil (cj ?_)
      refine .cond rfl (fun hc0 => ?_) (fun hc0 => ?_)
      · exfalso; simp at hc0; omega
      · refine .skip (cj ?_)
        refine .seq ?_
        refine .seq ?_
        refine .plain rfl ?_
        refine .q rfl rfl rfl (val_move rfl) ?_
        refine .q rfl rfl rfl (val_nilCheck rfl) ?_
        refine .q rfl rfl rfl (val_fieldAddr rfl fa_163_5) ?_
        refine .qs rfl rfl rfl H2 (ld_b rfl ob_27 (.ro .here) rfl) ?_
        refine .q rfl rfl rfl (val_move rfl) ?_
        refine .q rfl rfl rfl (val_ix el_27 rfl rfl rfl rfl hi) ?_
        refine .qs rfl rfl rfl H2 (ld_b rfl ob_3 (.ro (.there (.there (.there .here)))) (ix_map (by first | assumption | rfl))) ?_
        refine .q rfl rfl rfl (val_eql rfl rfl rfl) ?_
        refine .nil (cj ?_)
        refine .cond rfl (fun hc1 => ?_) (fun hc1 => ?_)
        · refine .seq ?_
          refine .plain rfl ?_
          refine .q rfl rfl rfl (val_assign rfl) ?_
          refine .nil (cj ?_)
          refine .ret (fret (res1 rfl rfl) ?_)
          refine hRR _ _ ⟨_, ⟨?_, rfl⟩, H2.sub .nil⟩
          rfl
        · exfalso; simp [h0] at hc1
variable {A : Option Addr} {cap : Nat} {l : List Int} (hb : x.bs[numI c ⟨px, py⟩]? = some ⟨.slice A l.length cap, l⟩) (hl : l.length ≤ 8) (h0 : z ≠ 0)
include hb hl h0
theorem drop2_spec (hroom : roomI c px py ≤ (l.length : Int)) : Sk.Spec Tryz.prog 90 #[ptr b, i64 (i : Int), .agg #[i64 px, i64 py]] [tblk c b x loads.length, gfix c x.bg x.bk, kblk x.bk (KF c), blk x.bb (x.bs.map fun b => b.v) 27, blk x.bl (loads.map fun z => i64 z) 3] [] fun e F' => e = .returned (i64 2) ∧ F' = [] := by
  have hi := lt_of_some hz
  have hn := (numI_lt hm.num (openR_in ho)).1
  refine Spec.of_code (vs := [_, _, _]) (k0 := [(0, _), (1, _), (2, _)]) 92 Tryz.func90 rfl Tryz.ntmps90 rfl (.cons (.cons (.cons .nil))) fun w X RR hRR H => ?_
  refine .seq ?_
  refine .plain rfl ?_
  refine .box rfl rfl rfl rfl rfl H (fun w1 b1 H1 => ⟨fun _ => trivial, ?_⟩)
  refine .q rfl rfl rfl (val_assign rfl) ?_
  refine .nil (cj ?_)
  refine .seq ?_
  refine .plain rfl ?_
  refine .q rfl rfl rfl (val_move rfl) ?_
  refine .qs rfl rfl rfl H1 (ld_w rfl ag_38 (.own .here) rfl) ?_
  refine .call1 rfl rfl rfl en110 (.cons rfl (.cons rfl .nil)) (at1_spec c hm _ _ _ _ _ ho) H1 .nil (.ro .here (.ro (.there .here) (.ro (.there (.there .here)) .nil))) (fun w2 H2 => ⟨fun _ => trivial, ?_⟩)
  refine .q rfl rfl rfl (val_assign rfl) ?_
  refine .nil (cj ?_)
  refine .seq ?_
  refine .seq ?_
  refine .plain rfl ?_
  refine .q rfl rfl rfl (val_move rfl) ?_
  refine .q rfl rfl rfl (val_lss rfl rfl rfl) ?_
  refine .q rfl rfl rfl (val_move rfl) ?_
  refine .case (t := 14) rfl (fun hs14 => ?_) (fun hs14 => ?_)
  · exfalso; simp at hs14; omega
  · refine .q rfl rfl rfl (val_move rfl) ?_
    refine .q rfl rfl rfl (val_lss rfl rfl rfl) ?_
    refine .q rfl rfl rfl (val_pick_f rfl rfl) ?_
    refine .q rfl rfl rfl (val_move rfl) ?_
    refine .case (t := 18) rfl (fun hs18 => ?_) (fun hs18 => ?_)
    · exfalso; simp at hs18; omega
    · refine .q rfl rfl rfl (val_move rfl) ?_
      refine .q rfl rfl rfl (val_move rfl) ?_
      refine .q rfl rfl rfl (val_nilCheck rfl) ?_
      refine .q rfl rfl rfl (val_fieldAddr rfl fa_163_5) ?_
      refine .qs rfl rfl rfl H2 (ld_b rfl ob_27 (.ro .here) rfl) ?_
      refine .q rfl rfl rfl (val_len Tryz.underlying27 rfl) ?_
      refine .q rfl rfl rfl (val_geq rfl rfl rfl) ?_
      refine .q rfl rfl rfl (val_pick_f rfl rfl) ?_
      refine .nil (cj ?_)
      refine .cond rfl (fun hc0 => ?_) (fun hc0 => ?_)
      · exfalso; simp at hc0; omega
      · refine .skip (cj ?_)
        refine .seq ?_
        refine .seq ?_
        refine .plain rfl ?_
        refine .q rfl rfl rfl (val_move rfl) ?_
        refine .q rfl rfl rfl (val_nilCheck rfl) ?_
        refine .q rfl rfl rfl (val_fieldAddr rfl fa_163_5) ?_
        refine .qs rfl rfl rfl H2 (ld_b rfl ob_27 (.ro .here) rfl) ?_
        refine .q rfl rfl rfl (val_move rfl) ?_
        refine .q rfl rfl rfl (val_ix el_27 rfl rfl rfl rfl hi) ?_
        refine .qs rfl rfl rfl H2 (ld_b rfl ob_3 (.ro (.there (.there (.there (.there .here))))) (ix_map (by first | assumption | rfl))) ?_
        refine .q rfl rfl rfl (val_eql rfl rfl rfl) ?_
        refine .nil (cj ?_)
        refine .cond rfl (fun hc1 => ?_) (fun hc1 => ?_)
        · exfalso; simp at hc1; exact h0 hc1
        · refine .skip (cj ?_)
          refine .seq ?_
          refine .plain rfl ?_
          refine .q rfl rfl rfl (val_assign rfl) ?_
          refine .nil (cj ?_)
          refine .seq ?_
          refine .block ?_
          refine .seq ?_
          refine .drawS 8 (.cons (0, true) (.cons (1, true) (.cons (2, true) (.cons (3, true) (.cons (4, true) (.cons (5, false) (.cons (6, true) (.cons (7, true) .nil)))))))) mo (by kernel_rfl) H2 (fun _ _ _ _ _ h => h) (fun w3 H3 => ?_)
          refine .p rfl rfl rfl (val_move rfl) ?_
          refine .p rfl rfl rfl (val_nilCheck rfl) ?_
          refine .p rfl rfl rfl (val_fieldAddr rfl fa_163_0) ?_
          refine .ps rfl rfl rfl rfl (ld_b rfl ob_84 (.ro .here) rfl) ?_
          refine .ps rfl rfl rfl rfl (ld_w rfl ag_38 (.own .here) rfl) ?_
          refine .call1 rfl rfl rfl en91 (.cons rfl (.cons rfl .nil)) (portK_spec c hm _ _ _ _) H3 .nil (.ro (.there .here) (.ro (.there (.there .here)) .nil)) (fun w4 H4 => ⟨fun _ => H4, ?_⟩)
          refine .p rfl rfl rfl (val_geq rfl rfl rfl) ?_
          refine .p rfl rfl rfl (val_assign rfl) ?_
          refine .nil (cj ?_)
          refine .cond rfl (fun hc2 => ?_) (fun hc2 => ?_)
          · refine .plain rfl ?_
            refine .q rfl rfl rfl (val_assign rfl) ?_
            refine .nil (cj ?_)
            refine .seq ?_
            refine .seq ?_
            refine .plain rfl ?_
            refine .q rfl rfl rfl (val_move rfl) ?_
            refine .q rfl rfl rfl (val_nilCheck rfl) ?_
            refine .q rfl rfl rfl (val_fieldAddr rfl fa_163_4) ?_
            refine .qs rfl rfl rfl H4 (ld_b rfl ob_161 (.ro .here) rfl) ?_
            refine .q rfl rfl rfl (val_move rfl) ?_
            refine .q rfl rfl rfl (val_ix el_161 rfl rfl rfl rfl hn) ?_
            refine .qs rfl rfl rfl H4 (ld_b rfl ob_27 (.ro (.there (.there (.there .here)))) (ix_map (by first | assumption | rfl))) ?_
            refine .q rfl rfl rfl (val_len Tryz.underlying27 rfl) ?_
            refine .q rfl rfl rfl (val_move rfl) ?_
            refine .q rfl rfl rfl (val_geq rfl rfl rfl) ?_
            refine .nil (cj ?_)
            refine .cond rfl (fun hc4 => ?_) (fun hc4 => ?_)
            · refine .seq ?_
              refine .plain rfl ?_
              refine .q rfl rfl rfl (val_assign rfl) ?_
              refine .nil (cj ?_)
              refine .ret (fret (res1 rfl rfl) ?_)
              refine hRR _ _ ⟨_, ⟨?_, rfl⟩, H4.sub .nil⟩
              rfl
            · exfalso; first | (simp at hc4; done) | (simp at hc4; simp only [roomI, isPort] at hroom; simp_all; done) | (simp at hc4; simp only [roomI, isPort] at hroom; simp_all; omega)
          · refine .seq ?_
            refine .drawS 7 (.cons (0, true) (.cons (1, true) (.cons (2, true) (.cons (3, true) (.cons (4, true) (.cons (5, false) (.cons (6, true) .nil))))))) mo (by kernel_rfl) H4 (fun _ _ _ _ _ h => h) (fun w5 H5 => ?_)
            refine .p rfl rfl rfl (val_move rfl) ?_
            refine .p rfl rfl rfl (val_nilCheck rfl) ?_
            refine .p rfl rfl rfl (val_fieldAddr rfl fa_163_0) ?_
            refine .ps rfl rfl rfl rfl (ld_b rfl ob_84 (.ro .here) rfl) ?_
            refine .ps rfl rfl rfl rfl (ld_w rfl ag_38 (.own .here) rfl) ?_
            refine .call1 rfl rfl rfl en112 (.cons rfl (.cons rfl .nil)) (stackedK_spec c hm _ _ _ _) H5 .nil (.ro (.there .here) (.ro (.there (.there .here)) .nil)) (fun w6 H6 => ⟨fun _ => H6, ?_⟩)
            refine .p rfl rfl rfl (val_assign rfl) ?_
            refine .nil (cj ?_)
            refine .cond rfl (fun hc3 => ?_) (fun hc3 => ?_)
            · refine .plain rfl ?_
              refine .q rfl rfl rfl (val_move rfl) ?_
              refine .q rfl rfl rfl (val_nilCheck rfl) ?_
              refine .q rfl rfl rfl (val_fieldAddr rfl fa_163_3) ?_
              refine .qs rfl rfl rfl H6 (ld_b rfl ob_3 (.ro .here) rfl) ?_
              refine .q rfl rfl rfl (val_assign rfl) ?_
              refine .nil (cj ?_)
              refine .seq ?_
              refine .seq ?_
              refine .plain rfl ?_
              refine .q rfl rfl rfl (val_move rfl) ?_
              refine .q rfl rfl rfl (val_nilCheck rfl) ?_
              refine .q rfl rfl rfl (val_fieldAddr rfl fa_163_4) ?_
              refine .qs rfl rfl rfl H6 (ld_b rfl ob_161 (.ro .here) rfl) ?_
              refine .q rfl rfl rfl (val_move rfl) ?_
              refine .q rfl rfl rfl (val_ix el_161 rfl rfl rfl rfl hn) ?_
              refine .qs rfl rfl rfl H6 (ld_b rfl ob_27 (.ro (.there (.there (.there .here)))) (ix_map (by first | assumption | rfl))) ?_
              refine .q rfl rfl rfl (val_len Tryz.underlying27 rfl) ?_
              refine .q rfl rfl rfl (val_move rfl) ?_
              refine .q rfl rfl rfl (val_geq rfl rfl rfl) ?_
              refine .nil (cj ?_)
              refine .cond rfl (fun hc4 => ?_) (fun hc4 => ?_)
              · refine .seq ?_
                refine .plain rfl ?_
                refine .q rfl rfl rfl (val_assign rfl) ?_
                refine .nil (cj ?_)
                refine .ret (fret (res1 rfl rfl) ?_)
                refine hRR _ _ ⟨_, ⟨?_, rfl⟩, H6.sub .nil⟩
                rfl
              · exfalso; first | (simp at hc4; done) | (simp at hc4; simp only [roomI, isPort] at hroom; simp_all; done) | (simp at hc4; simp only [roomI, isPort] at hroom; simp_all; omega)
            · refine .skip (cj ?_)
              refine .seq ?_
              refine .seq ?_
              refine .plain rfl ?_
              refine .q rfl rfl rfl (val_move rfl) ?_
              refine .q rfl rfl rfl (val_nilCheck rfl) ?_
              refine .q rfl rfl rfl (val_fieldAddr rfl fa_163_4) ?_
              refine .qs rfl rfl rfl H6 (ld_b rfl ob_161 (.ro .here) rfl) ?_
              refine .q rfl rfl rfl (val_move rfl) ?_
              refine .q rfl rfl rfl (val_ix el_161 rfl rfl rfl rfl hn) ?_
              refine .qs rfl rfl rfl H6 (ld_b rfl ob_27 (.ro (.there (.there (.there .here)))) (ix_map (by first | assumption | rfl))) ?_
              refine .q rfl rfl rfl (val_len Tryz.underlying27 rfl) ?_
              refine .q rfl rfl rfl (val_move rfl) ?_
              refine .q rfl rfl rfl (val_geq rfl rfl rfl) ?_
              refine .nil (cj ?_)
              refine .cond rfl (fun hc4 => ?_) (fun hc4 => ?_)
              · refine .seq ?_
                refine .plain rfl ?_
                refine .q rfl rfl rfl (val_assign rfl) ?_
                refine .nil (cj ?_)
                refine .ret (fret (res1 rfl rfl) ?_)
                refine hRR _ _ ⟨_, ⟨?_, rfl⟩, H6.sub .nil⟩
                rfl
              · exfalso; first | (simp at hc4; done) | (simp at hc4; simp only [roomI, isPort] at hroom; simp_all; done) | (simp at hc4; simp only [roomI, isPort] at hroom; simp_all; omega)
theorem drop3_spec (hroom : (l.length : Int) < roomI c px py) : Sk.Spec Tryz.prog 90 #[ptr b, i64 (i : Int), .agg #[i64 px, i64 py]] [tblk c b x loads.length, gfix c x.bg x.bk, kblk x.bk (KF c)] [blk x.bb (x.bs.map fun b => b.v) 27, row (.slice A l.length cap) 3 1 l.length (l.flatMap encI), blk x.bl (loads.map fun z => i64 z) 3] fun e F' => ∃ v : Value, e = .returned (i64 0) ∧
      F' = [blk x.bb ((x.bs.map fun b => b.v).set (numI c ⟨px, py⟩) v) 27, row v 3 1 (l.length + 1) (l.flatMap encI ++ [i64 z]), blk x.bl ((loads.map fun z => i64 z).set i (i64 0)) 3] ∧ True := by
  have hi := lt_of_some hz
  have hn := (numI_lt hm.num (openR_in ho)).1
  have hbn := lt_of_some hb
  refine Spec.of_code (vs := [_, _, _]) (k0 := [(0, _), (1, _), (2, _)]) 92 Tryz.func90 rfl Tryz.ntmps90 rfl (.cons (.cons (.cons .nil))) fun w X RR hRR H => ?_
  refine .seq ?_
  refine .plain rfl ?_
  refine .box rfl rfl rfl rfl rfl H (fun w1 b1 H1 => ⟨fun _ => trivial, ?_⟩)
  refine .q rfl rfl rfl (val_assign rfl) ?_
  refine .nil (cj ?_)
  refine .seq ?_
  refine .plain rfl ?_
  refine .q rfl rfl rfl (val_move rfl) ?_
  refine .qs rfl rfl rfl H1 (ld_w rfl ag_38 (.own .here) rfl) ?_
  refine .call1 rfl rfl rfl en110 (.cons rfl (.cons rfl .nil)) (at1_spec c hm _ _ _ _ _ ho) H1 .nil (.ro .here (.ro (.there .here) (.ro (.there (.there .here)) .nil))) (fun w2 H2 => ⟨fun _ => trivial, ?_⟩)
  refine .q rfl rfl rfl (val_assign rfl) ?_
  refine .nil (cj ?_)
  refine .seq ?_
  refine .seq ?_
  refine .plain rfl ?_
  refine .q rfl rfl rfl (val_move rfl) ?_
  refine .q rfl rfl rfl (val_lss rfl rfl rfl) ?_
  refine .q rfl rfl rfl (val_move rfl) ?_
  refine .case (t := 14) rfl (fun hs14 => ?_) (fun hs14 => ?_)
  · exfalso; simp at hs14; omega
  · refine .q rfl rfl rfl (val_move rfl) ?_
    refine .q rfl rfl rfl (val_lss rfl rfl rfl) ?_
    refine .q rfl rfl rfl (val_pick_f rfl rfl) ?_
    refine .q rfl rfl rfl (val_move rfl) ?_
    refine .case (t := 18) rfl (fun hs18 => ?_) (fun hs18 => ?_)
    · exfalso; simp at hs18; omega
    · refine .q rfl rfl rfl (val_move rfl) ?_
      refine .q rfl rfl rfl (val_move rfl) ?_
      refine .q rfl rfl rfl (val_nilCheck rfl) ?_
      refine .q rfl rfl rfl (val_fieldAddr rfl fa_163_5) ?_
      refine .qs rfl rfl rfl H2 (ld_b rfl ob_27 (.ro .here) rfl) ?_
      refine .q rfl rfl rfl (val_len Tryz.underlying27 rfl) ?_
      refine .q rfl rfl rfl (val_geq rfl rfl rfl) ?_
      refine .q rfl rfl rfl (val_pick_f rfl rfl) ?_
      refine .nil (cj ?_)
      refine .cond rfl (fun hc0 => ?_) (fun hc0 => ?_)
      · exfalso; simp at hc0; omega
      · refine .skip (cj ?_)
        refine .seq ?_
        refine .seq ?_
        refine .plain rfl ?_
        refine .q rfl rfl rfl (val_move rfl) ?_
        refine .q rfl rfl rfl (val_nilCheck rfl) ?_
        refine .q rfl rfl rfl (val_fieldAddr rfl fa_163_5) ?_
        refine .qs rfl rfl rfl H2 (ld_b rfl ob_27 (.ro .here) rfl) ?_
        refine .q rfl rfl rfl (val_move rfl) ?_
        refine .q rfl rfl rfl (val_ix el_27 rfl rfl rfl rfl hi) ?_
        refine .qs rfl rfl rfl H2 (ld_b rfl ob_3 (.own (.there (.there (.there .here)))) (ix_map (by first | assumption | rfl))) ?_
        refine .q rfl rfl rfl (val_eql rfl rfl rfl) ?_
        refine .nil (cj ?_)
        refine .cond rfl (fun hc1 => ?_) (fun hc1 => ?_)
        · exfalso; simp at hc1; exact h0 hc1
        · refine .skip (cj ?_)
          refine .seq ?_
          refine .plain rfl ?_
          refine .q rfl rfl rfl (val_assign rfl) ?_
          refine .nil (cj ?_)
          refine .seq ?_
          refine .block ?_
          refine .seq ?_
          refine .drawS 8 (.cons (0, true) (.cons (1, true) (.cons (2, true) (.cons (3, true) (.cons (4, true) (.cons (5, false) (.cons (6, true) (.cons (7, true) .nil)))))))) mo (by kernel_rfl) H2 (fun _ _ _ _ _ h => h) (fun w3 H3 => ?_)
          refine .p rfl rfl rfl (val_move rfl) ?_
          refine .p rfl rfl rfl (val_nilCheck rfl) ?_
          refine .p rfl rfl rfl (val_fieldAddr rfl fa_163_0) ?_
          refine .ps rfl rfl rfl rfl (ld_b rfl ob_84 (.ro .here) rfl) ?_
          refine .ps rfl rfl rfl rfl (ld_w rfl ag_38 (.own .here) rfl) ?_
          refine .call1 rfl rfl rfl en91 (.cons rfl (.cons rfl .nil)) (portK_spec c hm _ _ _ _) H3 .nil (.ro (.there .here) (.ro (.there (.there .here)) .nil)) (fun w4 H4 => ⟨fun _ => H4, ?_⟩)
          refine .p rfl rfl rfl (val_geq rfl rfl rfl) ?_
          refine .p rfl rfl rfl (val_assign rfl) ?_
          refine .nil (cj ?_)
          refine .cond rfl (fun hc2 => ?_) (fun hc2 => ?_)
          · refine .plain rfl ?_
            refine .q rfl rfl rfl (val_assign rfl) ?_
            refine .nil (cj ?_)
            refine .seq ?_
            refine .seq ?_
            refine .plain rfl ?_
            refine .q rfl rfl rfl (val_move rfl) ?_
            refine .q rfl rfl rfl (val_nilCheck rfl) ?_
            refine .q rfl rfl rfl (val_fieldAddr rfl fa_163_4) ?_
            refine .qs rfl rfl rfl H4 (ld_b rfl ob_161 (.ro .here) rfl) ?_
            refine .q rfl rfl rfl (val_move rfl) ?_
            refine .q rfl rfl rfl (val_ix el_161 rfl rfl rfl rfl hn) ?_
            refine .qs rfl rfl rfl H4 (ld_b rfl ob_27 (.own (.there .here)) (ix_map (by first | assumption | rfl))) ?_
            refine .q rfl rfl rfl (val_len Tryz.underlying27 rfl) ?_
            refine .q rfl rfl rfl (val_move rfl) ?_
            refine .q rfl rfl rfl (val_geq rfl rfl rfl) ?_
            refine .nil (cj ?_)
            refine .cond rfl (fun hc4 => ?_) (fun hc4 => ?_)
            · exfalso; first | (simp at hc4; done) | (simp at hc4; simp only [roomI, isPort] at hroom; simp_all; done) | (simp at hc4; simp only [roomI, isPort] at hroom; simp_all; omega)
            · refine .skip (cj ?_)
              refine .seq ?_
              refine .drawS2 22 (.cons (0, true) (.cons (1, true) (.cons (2, true) (.cons (3, true) (.cons (4, true) (.cons (5, true) (.cons (6, true) (.cons (7, true) (.cons (8, true) (.cons (9, true) (.cons (10, true) (.cons (11, true) (.cons (12, true) (.cons (13, true) (.cons (14, true) (.cons (15, true) (.cons (16, true) (.cons (17, true) (.cons (18, true) (.cons (19, false) (.cons (20, false) (.cons (21, true) (.cons (22, false) .nil))))))))))))))))))))))) mo (by kernel_rfl) H4 (.cons (.there .here) (.cons (.there (.there .here)) .nil)) (fun _ _ _ _ _ h => h) (fun w5 H5 => ?_)
              refine .p rfl rfl rfl (val_move rfl) ?_
              refine .p rfl rfl rfl (val_nilCheck rfl) ?_
              refine .p rfl rfl rfl (val_fieldAddr rfl fa_163_4) ?_
              refine .ps rfl rfl rfl rfl (ld_b rfl ob_161 (.ro .here) rfl) ?_
              refine .p rfl rfl rfl (val_move rfl) ?_
              refine .p rfl rfl rfl (val_move rfl) ?_
              refine .p rfl rfl rfl (val_nilCheck rfl) ?_
              refine .p rfl rfl rfl (val_fieldAddr rfl fa_163_4) ?_
              refine .ps rfl rfl rfl rfl (ld_b rfl ob_161 (.ro .here) rfl) ?_
              refine .p rfl rfl rfl (val_move rfl) ?_
              refine .p rfl rfl rfl (val_ix el_161 rfl rfl rfl rfl hn) ?_
              refine .ps rfl rfl rfl rfl (ld_b rfl ob_27 (.own .here) (ix_map (by first | assumption | rfl))) ?_
              refine .p rfl rfl rfl (val_move rfl) ?_
              refine .p rfl rfl rfl (val_nilCheck rfl) ?_
              refine .p rfl rfl rfl (val_fieldAddr rfl fa_163_5) ?_
              refine .ps rfl rfl rfl rfl (ld_b rfl ob_27 (.ro .here) rfl) ?_
              refine .p rfl rfl rfl (val_move rfl) ?_
              refine .p rfl rfl rfl (val_ix el_27 rfl rfl rfl rfl hi) ?_
              refine .ps rfl rfl rfl rfl (ld_b rfl ob_3 (.own (.there .here)) (ix_map (by first | assumption | rfl))) ?_
              refine .lit rfl rfl rfl Tryz.underlying27 (.cons rfl .nil) (bs_3_1_0 _) H5 (fun w6 b6 H6 => ⟨fun _ => (H6.sub (.cons (.there (.there .here)) (.cons (.there (.there (.there .here))) .nil))), ?_⟩)
              refine .append rfl rfl rfl (ap_27) rfl rfl H6 (.there (.there (.there .here))) (Has.srcBlk (.own .here) H6) rfl (by simp [Value.oneCell']) (by simp only [maxLen]; omega) (by omega) (fun v7 w7 H7 => ⟨fun _ => (H7.sub (.cons (.there (.there (.there .here))) (.cons (.there (.there (.there .here))) .nil))), ?_⟩)
              obtain ⟨A8, cap8, rfl⟩ := St.rowVal H7 .here
              refine .p rfl rfl rfl (val_ix el_161 rfl rfl rfl rfl hn) ?_
              refine .store rfl rfl rfl rfl rfl sz_27 rfl H7 (.there (.there (.there .here))) (by rw [Nat.zero_add, Nat.mul_one]; exact Spl_cell (by simpa using hbn)) (fun w8 H8 => ⟨fun h => absurd h (by decide), ?_⟩)
              refine .nil (cj ?_)
              refine .seq ?_
              refine .plain rfl ?_
              refine .q rfl rfl rfl (val_move rfl) ?_
              refine .q rfl rfl rfl (val_nilCheck rfl) ?_
              refine .q rfl rfl rfl (val_fieldAddr rfl fa_163_5) ?_
              refine .qs rfl rfl rfl H8 (ld_b rfl ob_27 (.ro .here) rfl) ?_
              refine .q rfl rfl rfl (val_move rfl) ?_
              refine .q rfl rfl rfl (val_ix el_27 rfl rfl rfl rfl hi) ?_
              refine .store rfl rfl rfl rfl rfl sz_3 rfl H8 (.there (.there (.there (.there .here)))) (by rw [Nat.zero_add, Nat.mul_one]; exact Spl_cell (by simpa using hi)) (fun w9 H9 => ⟨fun _ => trivial, ?_⟩)
              refine .nil (cj ?_)
              refine .seq ?_
              refine .plain rfl ?_
              refine .q rfl rfl rfl (val_assign rfl) ?_
              refine .nil (cj ?_)
              refine .ret (fret (res1 rfl rfl) ?_)
              refine hRR _ _ ⟨_, ⟨_, rfl, rfl, trivial⟩, H9.sub (.cons (.there .here) (.cons (.there .here) (.cons .here .nil)))⟩
          · refine .seq ?_
            refine .drawS 7 (.cons (0, true) (.cons (1, true) (.cons (2, true) (.cons (3, true) (.cons (4, true) (.cons (5, false) (.cons (6, true) .nil))))))) mo (by kernel_rfl) H4 (fun _ _ _ _ _ h => h) (fun w10 H10 => ?_)
            refine .p rfl rfl rfl (val_move rfl) ?_
            refine .p rfl rfl rfl (val_nilCheck rfl) ?_
            refine .p rfl rfl rfl (val_fieldAddr rfl fa_163_0) ?_
            refine .ps rfl rfl rfl rfl (ld_b rfl ob_84 (.ro .here) rfl) ?_
            refine .ps rfl rfl rfl rfl (ld_w rfl ag_38 (.own .here) rfl) ?_
            refine .call1 rfl rfl rfl en112 (.cons rfl (.cons rfl .nil)) (stackedK_spec c hm _ _ _ _) H10 .nil (.ro (.there .here) (.ro (.there (.there .here)) .nil)) (fun w11 H11 => ⟨fun _ => H11, ?_⟩)
            refine .p rfl rfl rfl (val_assign rfl) ?_
            refine .nil (cj ?_)
            refine .cond rfl (fun hc3 => ?_) (fun hc3 => ?_)
            · refine .plain rfl ?_
              refine .q rfl rfl rfl (val_move rfl) ?_
              refine .q rfl rfl rfl (val_nilCheck rfl) ?_
              refine .q rfl rfl rfl (val_fieldAddr rfl fa_163_3) ?_
              refine .qs rfl rfl rfl H11 (ld_b rfl ob_3 (.ro .here) rfl) ?_
              refine .q rfl rfl rfl (val_assign rfl) ?_
              refine .nil (cj ?_)
              refine .seq ?_
              refine .seq ?_
              refine .plain rfl ?_
              refine .q rfl rfl rfl (val_move rfl) ?_
              refine .q rfl rfl rfl (val_nilCheck rfl) ?_
              refine .q rfl rfl rfl (val_fieldAddr rfl fa_163_4) ?_
              refine .qs rfl rfl rfl H11 (ld_b rfl ob_161 (.ro .here) rfl) ?_
              refine .q rfl rfl rfl (val_move rfl) ?_
              refine .q rfl rfl rfl (val_ix el_161 rfl rfl rfl rfl hn) ?_
              refine .qs rfl rfl rfl H11 (ld_b rfl ob_27 (.own (.there .here)) (ix_map (by first | assumption | rfl))) ?_
              refine .q rfl rfl rfl (val_len Tryz.underlying27 rfl) ?_
              refine .q rfl rfl rfl (val_move rfl) ?_
              refine .q rfl rfl rfl (val_geq rfl rfl rfl) ?_
              refine .nil (cj ?_)
              refine .cond rfl (fun hc4 => ?_) (fun hc4 => ?_)
              · exfalso; first | (simp at hc4; done) | (simp at hc4; simp only [roomI, isPort] at hroom; simp_all; done) | (simp at hc4; simp only [roomI, isPort] at hroom; simp_all; omega)
              · refine .skip (cj ?_)
                refine .seq ?_
                refine .drawS2 22 (.cons (0, true) (.cons (1, true) (.cons (2, true) (.cons (3, true) (.cons (4, true) (.cons (5, true) (.cons (6, true) (.cons (7, true) (.cons (8, true) (.cons (9, true) (.cons (10, true) (.cons (11, true) (.cons (12, true) (.cons (13, true) (.cons (14, true) (.cons (15, true) (.cons (16, true) (.cons (17, true) (.cons (18, true) (.cons (19, false) (.cons (20, false) (.cons (21, true) (.cons (22, false) .nil))))))))))))))))))))))) mo (by kernel_rfl) H11 (.cons (.there .here) (.cons (.there (.there .here)) .nil)) (fun _ _ _ _ _ h => h) (fun w12 H12 => ?_)
                refine .p rfl rfl rfl (val_move rfl) ?_
                refine .p rfl rfl rfl (val_nilCheck rfl) ?_
                refine .p rfl rfl rfl (val_fieldAddr rfl fa_163_4) ?_
                refine .ps rfl rfl rfl rfl (ld_b rfl ob_161 (.ro .here) rfl) ?_
                refine .p rfl rfl rfl (val_move rfl) ?_
                refine .p rfl rfl rfl (val_move rfl) ?_
                refine .p rfl rfl rfl (val_nilCheck rfl) ?_
                refine .p rfl rfl rfl (val_fieldAddr rfl fa_163_4) ?_
                refine .ps rfl rfl rfl rfl (ld_b rfl ob_161 (.ro .here) rfl) ?_
                refine .p rfl rfl rfl (val_move rfl) ?_
                refine .p rfl rfl rfl (val_ix el_161 rfl rfl rfl rfl hn) ?_
                refine .ps rfl rfl rfl rfl (ld_b rfl ob_27 (.own .here) (ix_map (by first | assumption | rfl))) ?_
                refine .p rfl rfl rfl (val_move rfl) ?_
                refine .p rfl rfl rfl (val_nilCheck rfl) ?_
                refine .p rfl rfl rfl (val_fieldAddr rfl fa_163_5) ?_
                refine .ps rfl rfl rfl rfl (ld_b rfl ob_27 (.ro .here) rfl) ?_
                refine .p rfl rfl rfl (val_move rfl) ?_
                refine .p rfl rfl rfl (val_ix el_27 rfl rfl rfl rfl hi) ?_
                refine .ps rfl rfl rfl rfl (ld_b rfl ob_3 (.own (.there .here)) (ix_map (by first | assumption | rfl))) ?_
                refine .lit rfl rfl rfl Tryz.underlying27 (.cons rfl .nil) (bs_3_1_0 _) H12 (fun w13 b13 H13 => ⟨fun _ => (H13.sub (.cons (.there (.there .here)) (.cons (.there (.there (.there .here))) .nil))), ?_⟩)
                refine .append rfl rfl rfl (ap_27) rfl rfl H13 (.there (.there (.there .here))) (Has.srcBlk (.own .here) H13) rfl (by simp [Value.oneCell']) (by simp only [maxLen]; omega) (by omega) (fun v14 w14 H14 => ⟨fun _ => (H14.sub (.cons (.there (.there (.there .here))) (.cons (.there (.there (.there .here))) .nil))), ?_⟩)
                obtain ⟨A8, cap8, rfl⟩ := St.rowVal H14 .here
                refine .p rfl rfl rfl (val_ix el_161 rfl rfl rfl rfl hn) ?_
                refine .store rfl rfl rfl rfl rfl sz_27 rfl H14 (.there (.there (.there .here))) (by rw [Nat.zero_add, Nat.mul_one]; exact Spl_cell (by simpa using hbn)) (fun w15 H15 => ⟨fun h => absurd h (by decide), ?_⟩)
                refine .nil (cj ?_)
                refine .seq ?_
                refine .plain rfl ?_
                refine .q rfl rfl rfl (val_move rfl) ?_
                refine .q rfl rfl rfl (val_nilCheck rfl) ?_
                refine .q rfl rfl rfl (val_fieldAddr rfl fa_163_5) ?_
                refine .qs rfl rfl rfl H15 (ld_b rfl ob_27 (.ro .here) rfl) ?_
                refine .q rfl rfl rfl (val_move rfl) ?_
                refine .q rfl rfl rfl (val_ix el_27 rfl rfl rfl rfl hi) ?_
                refine .store rfl rfl rfl rfl rfl sz_3 rfl H15 (.there (.there (.there (.there .here)))) (by rw [Nat.zero_add, Nat.mul_one]; exact Spl_cell (by simpa using hi)) (fun w16 H16 => ⟨fun _ => trivial, ?_⟩)
                refine .nil (cj ?_)
                refine .seq ?_
                refine .plain rfl ?_
                refine .q rfl rfl rfl (val_assign rfl) ?_
                refine .nil (cj ?_)
                refine .ret (fret (res1 rfl rfl) ?_)
                refine hRR _ _ ⟨_, ⟨_, rfl, rfl, trivial⟩, H16.sub (.cons (.there .here) (.cons (.there .here) (.cons .here .nil)))⟩
            · refine .skip (cj ?_)
              refine .seq ?_
              refine .seq ?_
              refine .plain rfl ?_
              refine .q rfl rfl rfl (val_move rfl) ?_
              refine .q rfl rfl rfl (val_nilCheck rfl) ?_
              refine .q rfl rfl rfl (val_fieldAddr rfl fa_163_4) ?_
              refine .qs rfl rfl rfl H11 (ld_b rfl ob_161 (.ro .here) rfl) ?_
              refine .q rfl rfl rfl (val_move rfl) ?_
              refine .q rfl rfl rfl (val_ix el_161 rfl rfl rfl rfl hn) ?_
              refine .qs rfl rfl rfl H11 (ld_b rfl ob_27 (.own (.there .here)) (ix_map (by first | assumption | rfl))) ?_
              refine .q rfl rfl rfl (val_len Tryz.underlying27 rfl) ?_
              refine .q rfl rfl rfl (val_move rfl) ?_
              refine .q rfl rfl rfl (val_geq rfl rfl rfl) ?_
              refine .nil (cj ?_)
              refine .cond rfl (fun hc4 => ?_) (fun hc4 => ?_)
              · exfalso; first | (simp at hc4; done) | (simp at hc4; simp only [roomI, isPort] at hroom; simp_all; done) | (simp at hc4; simp only [roomI, isPort] at hroom; simp_all; omega)
              · refine .skip (cj ?_)
                refine .seq ?_
                refine .drawS2 22 (.cons (0, true) (.cons (1, true) (.cons (2, true) (.cons (3, true) (.cons (4, true) (.cons (5, true) (.cons (6, true) (.cons (7, true) (.cons (8, true) (.cons (9, true) (.cons (10, true) (.cons (11, true) (.cons (12, true) (.cons (13, true) (.cons (14, true) (.cons (15, true) (.cons (16, true) (.cons (17, true) (.cons (18, true) (.cons (19, false) (.cons (20, false) (.cons (21, true) (.cons (22, false) .nil))))))))))))))))))))))) mo (by kernel_rfl) H11 (.cons (.there .here) (.cons (.there (.there .here)) .nil)) (fun _ _ _ _ _ h => h) (fun w17 H17 => ?_)
                refine .p rfl rfl rfl (val_move rfl) ?_
                refine .p rfl rfl rfl (val_nilCheck rfl) ?_
                refine .p rfl rfl rfl (val_fieldAddr rfl fa_163_4) ?_
                refine .ps rfl rfl rfl rfl (ld_b rfl ob_161 (.ro .here) rfl) ?_
                refine .p rfl rfl rfl (val_move rfl) ?_
                refine .p rfl rfl rfl (val_move rfl) ?_
                refine .p rfl rfl rfl (val_nilCheck rfl) ?_
                refine .p rfl rfl rfl (val_fieldAddr rfl fa_163_4) ?_
                refine .ps rfl rfl rfl rfl (ld_b rfl ob_161 (.ro .here) rfl) ?_
                refine .p rfl rfl rfl (val_move rfl) ?_
                refine .p rfl rfl rfl (val_ix el_161 rfl rfl rfl rfl hn) ?_
                refine .ps rfl rfl rfl rfl (ld_b rfl ob_27 (.own .here) (ix_map (by first | assumption | rfl))) ?_
                refine .p rfl rfl rfl (val_move rfl) ?_
                refine .p rfl rfl rfl (val_nilCheck rfl) ?_
                refine .p rfl rfl rfl (val_fieldAddr rfl fa_163_5) ?_
                refine .ps rfl rfl rfl rfl (ld_b rfl ob_27 (.ro .here) rfl) ?_
                refine .p rfl rfl rfl (val_move rfl) ?_
                refine .p rfl rfl rfl (val_ix el_27 rfl rfl rfl rfl hi) ?_
                refine .ps rfl rfl rfl rfl (ld_b rfl ob_3 (.own (.there .here)) (ix_map (by first | assumption | rfl))) ?_
                refine .lit rfl rfl rfl Tryz.underlying27 (.cons rfl .nil) (bs_3_1_0 _) H17 (fun w18 b18 H18 => ⟨fun _ => (H18.sub (.cons (.there (.there .here)) (.cons (.there (.there (.there .here))) .nil))), ?_⟩)
                refine .append rfl rfl rfl (ap_27) rfl rfl H18 (.there (.there (.there .here))) (Has.srcBlk (.own .here) H18) rfl (by simp [Value.oneCell']) (by simp only [maxLen]; omega) (by omega) (fun v19 w19 H19 => ⟨fun _ => (H19.sub (.cons (.there (.there (.there .here))) (.cons (.there (.there (.there .here))) .nil))), ?_⟩)
                obtain ⟨A8, cap8, rfl⟩ := St.rowVal H19 .here
                refine .p rfl rfl rfl (val_ix el_161 rfl rfl rfl rfl hn) ?_
                refine .store rfl rfl rfl rfl rfl sz_27 rfl H19 (.there (.there (.there .here))) (by rw [Nat.zero_add, Nat.mul_one]; exact Spl_cell (by simpa using hbn)) (fun w20 H20 => ⟨fun h => absurd h (by decide), ?_⟩)
                refine .nil (cj ?_)
                refine .seq ?_
                refine .plain rfl ?_
                refine .q rfl rfl rfl (val_move rfl) ?_
                refine .q rfl rfl rfl (val_nilCheck rfl) ?_
                refine .q rfl rfl rfl (val_fieldAddr rfl fa_163_5) ?_
                refine .qs rfl rfl rfl H20 (ld_b rfl ob_27 (.ro .here) rfl) ?_
                refine .q rfl rfl rfl (val_move rfl) ?_
                refine .q rfl rfl rfl (val_ix el_27 rfl rfl rfl rfl hi) ?_
                refine .store rfl rfl rfl rfl rfl sz_3 rfl H20 (.there (.there (.there (.there .here)))) (by rw [Nat.zero_add, Nat.mul_one]; exact Spl_cell (by simpa using hi)) (fun w21 H21 => ⟨fun _ => trivial, ?_⟩)
                refine .nil (cj ?_)
                refine .seq ?_
                refine .plain rfl ?_
                refine .q rfl rfl rfl (val_assign rfl) ?_
                refine .nil (cj ?_)
                refine .ret (fret (res1 rfl rfl) ?_)
                refine hRR _ _ ⟨_, ⟨_, rfl, rfl, trivial⟩, H21.sub (.cons (.there .here) (.cons (.there .here) (.cons .here .nil)))⟩
end
end Go.Proofs.YtmbibkifbehgnaaGreatDoor
namespace Go.Proofs.YtmbibkifbehgnaaGreatDoor
open Go Sk
set_option linter.unusedVariables false
set_option linter.unusedSimpArgs false
set_option linter.unusedSectionVars false
theorem flat_take {α : Type} {enc : α → List Value} {sz : Nat} (hl : ∀ x, (enc x).length = sz) : ∀ (l : List α) (n : Nat), (l.flatMap enc).take (n * sz) = (l.take n).flatMap enc
  | [], n => by simp
  | x :: l, 0 => by simp
  | x :: l, n + 1 => by
    rw [List.flatMap_cons, List.take_succ_cons, List.flatMap_cons, Nat.succ_mul, Nat.add_comm, ← hl x, List.take_length_add_append, hl x, flat_take hl l n]
/-- what stands where -/
structure Stm where
  bins : List (List Int)
  loads : List Int
structure Stm.Ok (c : Cf) (s : Stm) : Prop where
  b : s.bins.length = area c
  r : s.loads.length ≤ 8
  n : ∀ l ∈ s.bins, l.length ≤ 8
abbrev stkE (c : Cf) (b : Nat) (loads : List Int) (x : SX) : List As := [tblk c b x loads.length, gfix c x.bg x.bk, kblk x.bk (KF c), blk x.bb (x.bs.map fun b => b.v) 27, sep (x.bs.map rowB), blk x.bl (loads.map fun z => i64 z) 3]
def stkA (c : Cf) (b : Nat) (s : Stm) : As := exAs (ι := { x : SX // x.bs.map (·.l) = s.bins }) fun x => stkE c b s.loads x.1
structure LR where
  bin : Int
  e : Int
  s : Stm
def liftM (c : Cf) (s : Stm) (i : Nat) (px py : Int) : LR :=
  if openR c px py = false then ⟨0, 1, s⟩
  else if s.loads.getD i 0 ≠ 0 then ⟨0, 8, s⟩
  else if (s.bins.getD (numI c ⟨px, py⟩) []).length = 0 then ⟨0, 3, s⟩
  else
    let l := s.bins.getD (numI c ⟨px, py⟩) []
    let u := l.getD (l.length - 1) 0
    ⟨u, 0, ⟨s.bins.set (numI c ⟨px, py⟩) (l.take (l.length - 1)), s.loads.set i u⟩⟩
structure DR where
  e : Int
  s : Stm
def dropM (c : Cf) (s : Stm) (i : Nat) (px py : Int) : DR :=
  if openR c px py = false then ⟨1, s⟩
  else if s.loads.getD i 0 = 0 then ⟨8, s⟩
  else if roomI c px py ≤ ((s.bins.getD (numI c ⟨px, py⟩) []).length : Int) then ⟨2, s⟩
  else ⟨0, ⟨s.bins.set (numI c ⟨px, py⟩) (s.bins.getD (numI c ⟨px, py⟩) [] ++ [s.loads.getD i 0]), s.loads.set i 0⟩⟩
section
variable {P : Program} {f : FuncId} {args : Array Value} {R F F' Rc : List As} {Post : Ending → List As → Prop}
/-- All that is owned is only read. -/
theorem Sk.Spec.keep {e0 : Ending} (h : Sk.Spec P f args Rc [] fun e F' => e = e0 ∧ F' = []) (hR : Sub R F Rc) : Sk.Spec P f args R F fun e F' => e = e0 ∧ F' = F :=
  (h.frame .nil hR).conseq fun e F' ⟨F1, ⟨h1, h2⟩, h3⟩ => ⟨F, ⟨h1, rfl⟩, fun X w hX => ⟨X, by rw [h3, h2] at hX; exact hX, fun _ h => h⟩⟩
end
section
variable {c : Cf} {b : Nat} {s : Stm}
theorem stkA_in {F : List As} {X : Nat → Prop} {w : World} (x : SX) (hx : x.bs.map (·.l) = s.bins) (h : Own (stkE c b s.loads x ++ F) X w) : Own (stkA c b s :: F) X w := Own.exIn (ι := { x : SX // x.bs.map (·.l) = s.bins }) ⟨x, hx⟩ h
theorem bs_get {x : SX} (hx : x.bs.map (·.l) = s.bins) {n : Nat} (hn : n < s.bins.length) : ∃ v, x.bs[n]? = some ⟨v, s.bins.getD n []⟩ := by
  have hl : n < x.bs.length := by rw [← hx] at hn; simpa using hn
  have e := List.getElem?_eq_getElem hl
  have : s.bins[n]? = some (x.bs[n].l) := by rw [← hx]; simp [e]
  refine ⟨x.bs[n].v, ?_⟩
  rw [e, List.getD_eq_getElem?_getD, this]; rfl
theorem sloadA_spec {i : Nat} {z : Int} (hz : s.loads[i]? = some z) (hok : s.Ok c) : Sk.Spec Tryz.prog 89 #[ptr b, i64 (i : Int)] [stkA c b s] [] fun e F' => e = .returned (i64 z) ∧ F' = [] :=
  Spec.openR fun x => (sload_spec c b x.1 s.loads i z hz hok.r).ro (.ro .here (.ro (.there (.there (.there (.there (.there .here))))) .nil))
theorem row_out {n : Nat} {x : SX} {v : Value} {l : List Int} (h : x.bs[n]? = some ⟨v, l⟩) : (x.bs.map rowB)[n]? = some (row v 3 1 l.length (l.flatMap encI)) := by simp [h]
theorem liftA_spec (hm : MayOk c) (hok : s.Ok c) {i : Nat} (hi : i < s.loads.length) (px py : Int) : Sk.Spec Tryz.prog 88 #[ptr b, i64 (i : Int), .agg #[i64 px, i64 py]] [] [stkA c b s] fun e F' => e = .returned (.tuple #[i64 (liftM c s i px py).bin, i64 (liftM c s i px py).e]) ∧ F' = [stkA c b (liftM c s i px py).s] := by
  refine Spec.openF fun ⟨x, hx⟩ => ?_
  rw [List.append_nil]
  have fin : ∀ {e0 : Ending}, (Sk.Spec Tryz.prog 88 #[ptr b, i64 (i : Int), .agg #[i64 px, i64 py]] [] (stkE c b s.loads x) fun e F' => e = e0 ∧ F' = stkE c b s.loads x) → Sk.Spec Tryz.prog 88 #[ptr b, i64 (i : Int), .agg #[i64 px, i64 py]] [] (stkE c b s.loads x) fun e F' => e = e0 ∧ F' = [stkA c b s] := fun h =>
    h.conseq fun e F' ⟨h1, h2⟩ => ⟨_, ⟨h1, rfl⟩, fun X w hX => ⟨X, stkA_in x hx (by rw [List.append_nil, ← h2]; exact hX), fun _ h => h⟩⟩
  unfold liftM
  by_cases ho : openR c px py = false
  · rw [if_pos ho]
    exact fin ((lift0_spec c hm b x s.loads i px py hok.r ho).keep (.own .here (.own (.there .here) (.own (.there (.there .here)) .nil))))
  · rw [if_neg ho]
    have ho : openR c px py = true := by simpa using ho
    have hn := (numI_lt hm.num (openR_in ho)).1
    have hnb : numI c ⟨px, py⟩ < s.bins.length := by rw [hok.b]; exact hn
    obtain ⟨v, hv⟩ := bs_get hx hnb
    have hz := getD_get hi 0
    have hl : (s.bins.getD (numI c ⟨px, py⟩) []).length ≤ 8 := hok.n _ (List.mem_of_getElem? (getD_get hnb []))
    generalize s.bins.getD (numI c ⟨px, py⟩) [] = l at hv hl ⊢
    generalize s.loads.getD i 0 = z at hz ⊢
    have hr := row_out hv
    have three : ∀ {e0 : Ending} {F2 : List As}, (∀ A cap, v = .slice A l.length cap → l.length ≤ cap → (A = none → l.length = 0 ∧ cap = 0) → (∀ a, A = some a → a = ⟨a.block, 0, none⟩) → Sk.Spec Tryz.prog 88 #[ptr b, i64 (i : Int), .agg #[i64 px, i64 py]] [] (stkE c b s.loads x) fun e F' => e = e0 ∧ F' = F2) → Sk.Spec Tryz.prog 88 #[ptr b, i64 (i : Int), .agg #[i64 px, i64 py]] [] (stkE c b s.loads x) fun e F' => e = e0 ∧ F' = F2 := fun h w X hF hR => by
      obtain ⟨Y, hY, _⟩ := Own.mem (show sep (x.bs.map rowB) ∈ stkE c b s.loads x by simp) hF
      obtain ⟨Z, hZ, _⟩ := Own.mem (List.mem_of_getElem? hr) hY
      rcases hZ.1.2 with ⟨h1, h2⟩ | ⟨g, cap, cur, h1, _, _, h3, _⟩
      · exact h none 0 (by rw [h1, h2]) (by omega) (fun _ => ⟨h2, rfl⟩) (fun a ha => by cases ha) w X hF hR
      · exact h _ cap h1 h3 (fun h => by cases h) (fun a ha => by cases ha; rfl) w X hF hR
    by_cases h0 : z ≠ 0
    · rw [if_pos h0]
      refine fin (three fun A cap hA hcap hnil hat => ?_)
      subst hA
      have h := lift1_spec c hm b x s.loads i px py hok.r z hz ho hv hl (.inl h0)
      rw [if_pos h0] at h
      exact h.keep (.own .here (.own (.there .here) (.own (.there (.there .here)) (.own (.there (.there (.there .here))) (.own (.there (.there (.there (.there (.there .here))))) .nil)))))
    · rw [if_neg h0]
      by_cases hl0 : l.length = 0
      · rw [if_pos hl0]
        refine fin (three fun A cap hA hcap hnil hat => ?_)
        subst hA
        have h := lift1_spec c hm b x s.loads i px py hok.r z hz ho hv hl (.inr (List.eq_nil_of_length_eq_zero hl0))
        rw [if_neg h0] at h
        exact h.keep (.own .here (.own (.there .here) (.own (.there (.there .here)) (.own (.there (.there (.there .here))) (.own (.there (.there (.there (.there (.there .here))))) .nil)))))
      · rw [if_neg hl0]
        refine three fun A cap hA hcap hnil hat => ?_
        subst hA
        obtain ⟨a, rfl⟩ : ∃ a, A = some a := by
          cases A with
          | none => exact absurd (hnil rfl).1 hl0
          | some a => exact ⟨a, rfl⟩
        have hu := getD_get (show l.length - 1 < l.length by omega) 0
        have h := lift2_spec c hm b x s.loads i px py hok.r z hz ho hv hl (congrArg some (hat a rfl)) hcap (by simpa using h0) hu
        have h2 : Sk.Spec Tryz.prog 88 #[ptr b, i64 (i : Int), .agg #[i64 px, i64 py]] [] (row (.slice (some a) l.length cap) 3 1 l.length (l.flatMap encI) :: sep ((x.bs.map rowB).eraseIdx (numI c ⟨px, py⟩)) :: [tblk c b x s.loads.length, gfix c x.bg x.bk, kblk x.bk (KF c), blk x.bb (x.bs.map fun b => b.v) 27, blk x.bl (s.loads.map fun z => i64 z) 3]) _ :=
          h.frame (.cons (.there (.there (.there (.there (.there .here))))) (.cons .here (.cons (.there (.there (.there (.there .here)))) .nil))) (.own (.there .here) (.own (.there (.there .here)) (.own (.there (.there (.there .here))) .nil)))
        have h3 := Spec.nthO (F := [tblk c b x s.loads.length, gfix c x.bg x.bk, kblk x.bk (KF c), blk x.bb (x.bs.map fun b => b.v) 27, blk x.bl (s.loads.map fun z => i64 z) 3]) hr h2
        intro w X hF hR
        refine ((h3.conseq ?_) w X (Own.perm (.cons (.there (.there (.there (.there .here)))) (Ats.refl _)) hF) hR)
        rintro e F' ⟨F1, ⟨rfl, rfl⟩, rfl⟩
        refine ⟨_, ⟨rfl, rfl⟩, fun X w hX => ⟨X, ?_, fun _ h => h⟩⟩
        refine stkA_in { x with bs := x.bs.set (numI c ⟨px, py⟩) ⟨.slice (some a) (l.length - 1) cap, l.take (l.length - 1)⟩ } ?_ ?_
        · rw [List.map_set, hx]
        · have hX2 : Own (row (.slice (some a) (l.length - 1) cap) 3 1 (l.length - 1) ((l.flatMap encI).take ((l.length - 1) * 1)) :: sep ((x.bs.map rowB).eraseIdx (numI c ⟨px, py⟩)) :: [blk x.bb ((x.bs.map fun b => b.v).set (numI c ⟨px, py⟩) (.slice (some a) (l.length - 1) cap)) 27, blk x.bl ((s.loads.map fun z => i64 z).set i (i64 (l.getD (l.length - 1) 0))) 3, tblk c b x s.loads.length, gfix c x.bg x.bk, kblk x.bk (KF c)]) X w :=
            Own.perm (.cons (.there .here) (.cons (.there (.there .here)) (Ats.refl _))) hX
          have hX3 := Own.nthIn (by simpa using lt_of_some hv) hX2
          have e1 : (x.bs.map rowB).set (numI c ⟨px, py⟩) (row (.slice (some a) (l.length - 1) cap) 3 1 (l.length - 1) ((l.flatMap encI).take ((l.length - 1) * 1))) = (x.bs.set (numI c ⟨px, py⟩) ⟨.slice (some a) (l.length - 1) cap, l.take (l.length - 1)⟩).map rowB := by
            rw [List.map_set]
            congr 1
            have e2 : (l.take (l.length - 1)).length = l.length - 1 := by rw [List.length_take]; omega
            have e3 : (l.flatMap encI).take ((l.length - 1) * 1) = (l.take (l.length - 1)).flatMap encI := by
              exact flat_take encI_len l _
            simp only [rowB, e2, e3]
          rw [e1] at hX3
          have e4 : (s.loads.map fun z => i64 z).set i (i64 (l.getD (l.length - 1) 0)) = (s.loads.set i (l.getD (l.length - 1) 0)).map fun z => i64 z := by rw [List.map_set]
          have e5 : (x.bs.map fun b => b.v).set (numI c ⟨px, py⟩) (.slice (some a) (l.length - 1) cap) = (x.bs.set (numI c ⟨px, py⟩) ⟨.slice (some a) (l.length - 1) cap, l.take (l.length - 1)⟩).map fun b => b.v := by rw [List.map_set]
          rw [e4, e5] at hX3
          have e6 : s.loads.length = (s.loads.set i (l.getD (l.length - 1) 0)).length := by simp
          rw [e6] at hX3
          exact Own.perm (.cons (.there (.there (.there .here))) (.cons (.there (.there (.there .here))) (.cons (.there (.there (.there .here))) (.cons (.there .here) (.cons .here (.cons .here .nil)))))) hX3
end
end Go.Proofs.YtmbibkifbehgnaaGreatDoor
namespace Go.Proofs.YtmbibkifbehgnaaGreatDoor
open Go Sk
set_option linter.unusedVariables false
set_option linter.unusedSimpArgs false
set_option linter.unusedSectionVars false
theorem en85 : Enters Tryz.prog 85 := fun args w => by kernel_rfl
theorem ap_161  : apB Tryz.prog 161 27 1 24 = true := by kernel_rfl
theorem mk_163_0_1_2_3_4_5 (x0_ : Option Addr) (x1_ : Int) (x2_ : Int) (x3_ : Int) (x4_A : Option Addr) (x4_n : Nat) (x4_c : Nat) (x5_A : Option Addr) (x5_n : Nat) (x5_c : Nat) : Tryz.prog.built 163 [(0, .pointer x0_), (1, .int .i64 x1_), (2, .int .i64 x2_), (3, .int .i64 x3_), (4, .slice x4_A x4_n x4_c), (5, .slice x5_A x5_n x5_c)] = some (List.toArray [.pointer x0_, .int .i64 x1_, .int .i64 x2_, .int .i64 x3_, .slice x4_A x4_n x4_c, .slice x5_A x5_n x5_c]) := by kernel_rfl
theorem ze_27  : (Tryz.prog.info? 27).bind (·.zero) = some (.slice none 0 0) := by kernel_rfl
section
variable {c : Cf} {b : Nat} {s : Stm}
theorem stk_close {x : SX} {n : Nat} {v' : Value} {l' : List Int} {loads' : List Int} (hx : x.bs.map (·.l) = s.bins) (hn : n < x.bs.length) (hlen : s.loads.length = loads'.length) {X : Nat → Prop} {w : World}
    (h : Own (row v' 3 1 l'.length (l'.flatMap encI) :: sep ((x.bs.map rowB).eraseIdx n) :: [blk x.bb ((x.bs.map fun b => b.v).set n v') 27, blk x.bl (loads'.map fun z => i64 z) 3, tblk c b x s.loads.length, gfix c x.bg x.bk, kblk x.bk (KF c)]) X w) :
    Own [stkA c b ⟨s.bins.set n l', loads'⟩] X w := by
  refine stkA_in { x with bs := x.bs.set n ⟨v', l'⟩ } ?_ ?_
  · rw [List.map_set, hx]
  · have h3 := Own.nthIn (by simpa using hn) h
    have e1 : (x.bs.map rowB).set n (row v' 3 1 l'.length (l'.flatMap encI)) = (x.bs.set n ⟨v', l'⟩).map rowB := by rw [List.map_set]
    have e5 : (x.bs.map fun b => b.v).set n v' = (x.bs.set n ⟨v', l'⟩).map fun b => b.v := by rw [List.map_set]
    rw [e1, e5, hlen] at h3
    exact Own.perm (.cons (.there (.there (.there .here))) (.cons (.there (.there (.there .here))) (.cons (.there (.there (.there .here))) (.cons (.there .here) (.cons .here (.cons .here .nil)))))) h3
theorem dropA_spec (hm : MayOk c) (hok : s.Ok c) {i : Nat} (hi : i < s.loads.length) (px py : Int) : Sk.Spec Tryz.prog 90 #[ptr b, i64 (i : Int), .agg #[i64 px, i64 py]] [] [stkA c b s] fun e F' => e = .returned (i64 (dropM c s i px py).e) ∧ F' = [stkA c b (dropM c s i px py).s] := by
  refine Spec.openF fun ⟨x, hx⟩ => ?_
  rw [List.append_nil]
  have fin : ∀ {e0 : Ending}, (Sk.Spec Tryz.prog 90 #[ptr b, i64 (i : Int), .agg #[i64 px, i64 py]] [] (stkE c b s.loads x) fun e F' => e = e0 ∧ F' = stkE c b s.loads x) → Sk.Spec Tryz.prog 90 #[ptr b, i64 (i : Int), .agg #[i64 px, i64 py]] [] (stkE c b s.loads x) fun e F' => e = e0 ∧ F' = [stkA c b s] := fun h =>
    h.conseq fun e F' ⟨h1, h2⟩ => ⟨_, ⟨h1, rfl⟩, fun X w hX => ⟨X, stkA_in x hx (by rw [List.append_nil, ← h2]; exact hX), fun _ h => h⟩⟩
  unfold dropM
  by_cases ho : openR c px py = false
  · rw [if_pos ho]
    exact fin ((drop0_spec c hm b x s.loads i px py hok.r ho).keep (.own .here (.own (.there .here) (.own (.there (.there .here)) .nil))))
  · rw [if_neg ho]
    have ho : openR c px py = true := by simpa using ho
    have hn := (numI_lt hm.num (openR_in ho)).1
    have hnb : numI c ⟨px, py⟩ < s.bins.length := by rw [hok.b]; exact hn
    obtain ⟨v, hv⟩ := bs_get hx hnb
    have hz := getD_get hi 0
    have hl : (s.bins.getD (numI c ⟨px, py⟩) []).length ≤ 8 := hok.n _ (List.mem_of_getElem? (getD_get hnb []))
    generalize s.bins.getD (numI c ⟨px, py⟩) [] = l at hv hl ⊢
    generalize s.loads.getD i 0 = z at hz ⊢
    have hr := row_out hv
    have three : ∀ {e0 : Ending} {F2 : List As}, (∀ A cap, v = .slice A l.length cap → l.length ≤ cap → Sk.Spec Tryz.prog 90 #[ptr b, i64 (i : Int), .agg #[i64 px, i64 py]] [] (stkE c b s.loads x) fun e F' => e = e0 ∧ F' = F2) → Sk.Spec Tryz.prog 90 #[ptr b, i64 (i : Int), .agg #[i64 px, i64 py]] [] (stkE c b s.loads x) fun e F' => e = e0 ∧ F' = F2 := fun h w X hF hR => by
      obtain ⟨Y, hY, _⟩ := Own.mem (show sep (x.bs.map rowB) ∈ stkE c b s.loads x by simp) hF
      obtain ⟨Z, hZ, _⟩ := Own.mem (List.mem_of_getElem? hr) hY
      rcases hZ.1.2 with ⟨h1, h2⟩ | ⟨g, cap, cur, h1, _, _, h3, _⟩
      · exact h none 0 (by rw [h1, h2]) (by omega) w X hF hR
      · exact h _ cap h1 h3 w X hF hR
    by_cases h0 : z = 0
    · rw [if_pos h0]
      exact fin ((drop1_spec c hm b x s.loads i px py hok.r z hz ho h0).keep (.own .here (.own (.there .here) (.own (.there (.there .here)) (.own (.there (.there (.there (.there (.there .here))))) .nil)))))
    · rw [if_neg h0]
      by_cases hroom : roomI c px py ≤ (l.length : Int)
      · rw [if_pos hroom]
        refine fin (three fun A cap hA hcap => ?_)
        subst hA
        exact (drop2_spec c hm b x s.loads i px py hok.r z hz ho hv hl h0 hroom).keep (.own .here (.own (.there .here) (.own (.there (.there .here)) (.own (.there (.there (.there .here))) (.own (.there (.there (.there (.there (.there .here))))) .nil)))))
      · rw [if_neg hroom]
        refine three fun A cap hA hcap => ?_
        subst hA
        have h := drop3_spec c hm b x s.loads i px py hok.r z hz ho hv hl h0 (by omega)
        have h2 : Sk.Spec Tryz.prog 90 #[ptr b, i64 (i : Int), .agg #[i64 px, i64 py]] [] (row (.slice A l.length cap) 3 1 l.length (l.flatMap encI) :: sep ((x.bs.map rowB).eraseIdx (numI c ⟨px, py⟩)) :: [tblk c b x s.loads.length, gfix c x.bg x.bk, kblk x.bk (KF c), blk x.bb (x.bs.map fun b => b.v) 27, blk x.bl (s.loads.map fun z => i64 z) 3]) _ :=
          h.frame (.cons (.there (.there (.there (.there (.there .here))))) (.cons .here (.cons (.there (.there (.there (.there .here)))) .nil))) (.own (.there .here) (.own (.there (.there .here)) (.own (.there (.there (.there .here))) .nil)))
        have h3 := Spec.nthO (F := [tblk c b x s.loads.length, gfix c x.bg x.bk, kblk x.bk (KF c), blk x.bb (x.bs.map fun b => b.v) 27, blk x.bl (s.loads.map fun z => i64 z) 3]) hr h2
        intro w X hF hR
        refine ((h3.conseq ?_) w X (Own.perm (.cons (.there (.there (.there (.there .here)))) (Ats.refl _)) hF) hR)
        rintro e F' ⟨F1, ⟨v2, rfl, rfl, _⟩, rfl⟩
        refine ⟨_, ⟨rfl, rfl⟩, fun X w hX => ⟨X, stk_close (v' := v2) hx (lt_of_some hv) (by simp) ?_, fun _ h => h⟩⟩
        have e3 : (l ++ [z]).flatMap encI = l.flatMap encI ++ [i64 z] := by rw [List.flatMap_append]; rfl
        have e4 : (s.loads.map fun z => i64 z).set i (i64 0) = (s.loads.set i 0).map fun z => i64 z := by rw [List.map_set]
        rw [e3, List.length_append, ← e4]
        exact Own.perm (.cons (.there .here) (.cons (.there (.there .here)) (Ats.refl _))) hX
end
/-! ### New -/
/-- the bins, of the first i stacks -/
def layM (c : Cf) : Nat → List (List Int)
  | 0 => List.replicate (area c) []
  | i + 1 => match c.stacks[i]? with
    | some s => (layM c i).set (numI c ⟨s.x, s.y⟩) s.bins
    | none => layM c i
theorem layM_len (c : Cf) : ∀ i, (layM c i).length = area c
  | 0 => by simp [layM]
  | i + 1 => by
    unfold layM
    split
    · rw [List.length_set, layM_len c i]
    · exact layM_len c i
def stm0 (c : Cf) : Stm := ⟨layM c c.stacks.length, List.replicate c.robots.length 0⟩
structure BN0 where
  i : Nat
  bs : List BN
theorem sep_rep {w0 w : World} {M : Nat → Prop} {R F : List As} (H : St w0 w M R F) : ∀ n, St w0 w M R (sep ((List.replicate n (⟨.slice none 0 0, []⟩ : BN)).map rowB) :: F)
  | 0 => H.sepNil
  | n + 1 => by
    rw [List.replicate_succ', List.map_append]
    exact St.snoc ((sep_rep H n).rowNil 3 1)
theorem sb_row {w0 w : World} {M : Nat → Prop} {R F F' : List As} {bs : List BN} {n : Nat} {v : Value} {l : List Int} (H : St w0 w M R F) (hn : n < bs.length) (hat : Ats F [row v 3 1 l.length (l.flatMap encI), sep (bs.map rowB)] F') :
    St w0 w M R (sep ((bs.set n ⟨v, l⟩).map rowB) :: F') := by
  have hg : (bs.map rowB)[n]? = some (rowB bs[n]) := by simp [List.getElem?_eq_getElem hn]
  have e1 : (bs.map rowB).set n (row v 3 1 l.length (l.flatMap encI)) = (bs.set n ⟨v, l⟩).map rowB := by rw [List.map_set]
  obtain ⟨⟨X, h1, h2, h3⟩, h4⟩ := H
  obtain ⟨X1, X2, ⟨Y1, Y2, g1, ⟨Z1, Z2, k1, k2, k3, k4⟩, g3, g4⟩, h5, h6, h7⟩ := Own.picks hat h1
  -- the old row is let go
  obtain ⟨U1, U2, u1, u2, u3, u4⟩ := Own.pick (At.nth hg) k1
  have hz : ∀ k, Z1 k → Y2 k := fun k hk => (k4 k).2 (.inl hk)
  have hu : ∀ k, U2 k → Z1 k := fun k hk => (u4 k).2 (.inr hk)
  have hy : ∀ k, Y1 k → X1 k := fun k hk => (g4 k).2 (.inl hk)
  have hy2 : ∀ k, Y2 k → X1 k := fun k hk => (g4 k).2 (.inr hk)
  have hown : Own (row v 3 1 l.length (l.flatMap encI) :: sep ((bs.map rowB).eraseIdx n) :: F') (fun k => Y1 k ∨ U2 k ∨ X2 k) w := by
    refine ⟨Y1, fun k => U2 k ∨ X2 k, g1, ⟨U2, X2, u2, h5, fun k hk hx => h6 k (hy2 k (hz k (hu k hk))) hx, fun k => Iff.rfl⟩, ?_, fun k => Iff.rfl⟩
    rintro k hk (h | h)
    · exact g3 k hk (hz k (hu k h))
    · exact h6 k (hy k hk) h
  have hsub : ∀ k, (Y1 k ∨ U2 k ∨ X2 k) → X k := by
    rintro k (h | h | h)
    · exact (h7 k).2 (.inl (hy k h))
    · exact (h7 k).2 (.inl (hy2 k (hz k (hu k h))))
    · exact (h7 k).2 (.inr h)
  have h9 := Own.nthIn (by simpa using hn) hown
  rw [e1] at h9
  exact ⟨⟨_, h9, fun r hr => by
    obtain ⟨Y, hY, hd⟩ := h2 r hr
    exact ⟨Y, hY, fun k hk hx => hd k hk (hsub k hx)⟩, fun k hk => h3 k (hsub k hk)⟩, h4⟩
theorem stkNew_spec (c : Cf) (hc : c.Fit) (hm : MayOk c) : Sk.Spec Tryz.prog 53 #[.agg (encCf c).toArray] [cb c, cp c, cr c, cs c, binsA c, stepsA] [] fun e F' => ∃ b : Nat, e = .returned (.tuple #[ptr b, i64 0]) ∧ F' = [stkA c b (stm0 c)] ∧ True := by
  have hn := hm.num
  obtain ⟨ha, ha2, ha1⟩ := area_le hn
  have hl := hc.s
  have hrl := hm.rl
  simp only [maxLen] at hl
  have hw : w64 (c.w * c.h) = ((area c : Nat) : Int) := (w64_of (by omega)).trans ha.symm
  refine Spec.of_code (vs := [_]) (k0 := [(0, _)]) 57 Tryz.func53 rfl Tryz.ntmps53 rfl (.cons .nil) fun w X RR hRR H => ?_
  refine .seq ?_
  refine .plain rfl ?_
  refine .box rfl rfl rfl rfl rfl H (fun w1 b1 H1 => ⟨fun _ => trivial, ?_⟩)
  refine .q rfl rfl rfl (val_assign rfl) ?_
  refine .q rfl rfl rfl (val_assign rfl) ?_
  refine .nil (cj ?_)
  refine .seq ?_
  refine .plain rfl ?_
  refine .qs rfl rfl rfl H1 (ld_w rfl ag_26 (.own .here) rfl) ?_
  refine .callx rfl rfl rfl en36 (.cons rfl .nil) (gnew_spec c hc hm) H1 .nil (.ro .here (.ro (.there .here) (.ro (.there (.there .here)) (.ro (.there (.there (.there .here))) (.ro (.there (.there (.there (.there .here)))) (.ro (.there (.there (.there (.there (.there .here))))) .nil)))))) (fun x2 w2 C2 H2 => ⟨fun _ => trivial, ?_⟩)
  refine .q rfl rfl rfl (val_move rfl) ?_
  refine .q rfl rfl rfl (val_extract rfl rfl) ?_
  refine .q rfl rfl rfl (val_extract rfl rfl) ?_
  refine .q rfl rfl rfl (val_assign rfl) ?_
  refine .q rfl rfl rfl (val_assign rfl) ?_
  refine .nil (cj ?_)
  refine .seq ?_
  refine .seq ?_
  refine .plain rfl ?_
  refine .q rfl rfl rfl (val_move rfl) ?_
  refine .q rfl rfl rfl (val_neq rfl rfl rfl) ?_
  refine .nil (cj ?_)
  refine .cond rfl (fun hc0 => ?_) (fun hc0 => ?_)
  · exfalso; simp at hc0
  · refine .skip (cj ?_)
    refine .seq ?_
    refine .drawS 20 (.cons (0, true) (.cons (1, true) (.cons (2, true) (.cons (3, true) (.cons (4, true) (.cons (5, true) (.cons (6, true) (.cons (7, true) (.cons (8, true) (.cons (9, true) (.cons (10, true) (.cons (11, true) (.cons (13, true) (.cons (14, true) (.cons (15, true) (.fork 12 (.cons (16, false) (.cons (17, true) (.cons (18, false) (.cons (19, true) .nil)))) 16 (.cons (12, false) (.cons (17, true) (.cons (18, false) (.cons (19, true) .nil)))))))))))))))))))) mo (by kernel_rfl) H2 (fun _ _ _ _ _ h => h) (fun w3 H3 => ?_)
    refine .p rfl rfl rfl (val_move rfl) ?_
    refine .p rfl rfl rfl (val_fieldAddr rfl fa_26_0) ?_
    refine .ps rfl rfl rfl rfl (ld_b rfl ob_3 (.own (.there (.there .here))) rfl) ?_
    refine .p rfl rfl rfl (val_fieldAddr rfl fa_26_1) ?_
    refine .ps rfl rfl rfl rfl (ld_b rfl ob_3 (.own (.there (.there .here))) rfl) ?_
    refine .p rfl rfl rfl (val_fieldAddr rfl fa_26_2) ?_
    refine .ps rfl rfl rfl rfl (ld_b rfl ob_3 (.own (.there (.there .here))) rfl) ?_
    refine .p rfl rfl rfl (val_fieldAddr rfl fa_26_0) ?_
    refine .ps rfl rfl rfl rfl (ld_b rfl ob_3 (.own (.there (.there .here))) rfl) ?_
    refine .p rfl rfl rfl (val_fieldAddr rfl fa_26_1) ?_
    refine .ps rfl rfl rfl rfl (ld_b rfl ob_3 (.own (.there (.there .here))) rfl) ?_
    refine .p rfl rfl rfl (val_mul rfl rfl hw) ?_
    refine .p rfl rfl rfl (val_fieldAddr rfl fa_26_5) ?_
    refine .ps rfl rfl rfl rfl (ld_b rfl ob_23 (.own (.there (.there .here))) rfl) ?_
    refine .p rfl rfl rfl (val_len Tryz.underlying23 rfl) ?_
    refine .fork ?_ ?_
    · refine .mk rfl rfl rfl ap_161 ze_27 rfl rfl (Nat.le_refl _) (by omega) (by simp only [maxLen]; omega) (made_one _ _) H3 (fun w4 b4 H4 => ⟨fun _ => (H4.sub (.cons (.there .here) (.cons (.there .here) (.cons (.there .here) .nil)))), ?_⟩)
      refine .mk rfl rfl rfl ap_27 ze_3 rfl rfl (Nat.le_refl _) (by omega) (by simp only [maxLen]; omega) (made_one _ _) H4 (fun w5 b5 H5 => ⟨fun _ => (H5.sub (.cons (.there (.there .here)) (.cons (.there (.there .here)) (.cons (.there (.there .here)) .nil)))), ?_⟩)
      refine .p rfl rfl rfl (val_mk (.cons rfl (.cons rfl (.cons rfl (.cons rfl (.cons rfl (.cons rfl .nil)))))) (mk_163_0_1_2_3_4_5 _ _ _ _ _ _ _ _ _ _)) ?_
      refine .box rfl rfl rfl rfl rfl H5 (fun w6 b6 H6 => ⟨fun _ => (H6.sub (.cons (.there (.there (.there .here))) (.cons (.there (.there (.there .here))) (.cons (.there (.there (.there .here))) .nil)))), ?_⟩)
      refine .p rfl rfl rfl (val_assign rfl) ?_
      refine .nil (cj ?_)
      refine .seq ?_
      refine .seq ?_
      refine .plain rfl ?_
      refine .q rfl rfl rfl (val_fieldAddr rfl fa_26_6) ?_
      refine .qs rfl rfl rfl H6 (ld_b rfl ob_24 (.own (.there (.there (.there (.there (.there .here)))))) rfl) ?_
      refine .q rfl rfl rfl (val_len Tryz.underlying24 rfl) ?_
      refine .q rfl rfl rfl (val_move rfl) ?_
      refine .nil (cj ?_)
      refine .block ?_
      refine .loop (ι := BN0) (fun x => [(1, ptr b1), (4, ptr x2.bg), (6, ptr b6), (37, .slice c.sA c.stacks.length c.sc), (38, i64 ((c.stacks.length : Nat) : Int)), (39, i64 (x.i : Int))]) (fun x w' => St w w' X [cb c, cp c, cr c, cs c, binsA c, stepsA] [blk b1 (encCf c) 26, tblk c b6 ⟨x2.bg, x2.bk, b4, b5, x.bs⟩ (List.replicate c.robots.length (0 : Int)).length, gfix c x2.bg x2.bk, kblk x2.bk (KF c), blk b4 (x.bs.map fun b => b.v) 27, sep (x.bs.map rowB), blk b5 ((List.replicate c.robots.length (0 : Int)).map fun z => i64 z) 3] ∧ x.i ≤ c.stacks.length ∧ x.bs.map (·.l) = layM c x.i) (fun x => c.stacks.length - x.i) ⟨0, List.replicate (area c) ⟨.slice none 0 0, []⟩⟩ (by repeat (first | exact Pick.nil | refine Pick.cons rfl ?_)) ⟨by have hh := sep_rep H6 (area c); simp only [List.map_replicate, List.length_replicate] at hh ⊢; exact hh.sub (.cons (.there (.there (.there (.there (.there (.there .here)))))) (.cons (.there .here) (.cons (.there (.there (.there .here))) (.cons (.there (.there (.there .here))) (.cons (.there (.there .here)) (.cons .here (.cons .here .nil))))))), Nat.zero_le _, by simp [layM]⟩ ?_
      rintro x w5 ⟨H7, hi, hlay⟩
      refine .seq ?_
      refine .plain rfl ?_
      refine .q rfl rfl rfl (val_lss rfl rfl rfl) ?_
      refine .nil (cj ?_)
      refine .seq ?_
      refine .cond rfl (fun hc1 => ?_) (fun hc1 => ?_)
      · have hil : x.i < c.stacks.length := by simp only [decide_eq_true_eq] at hc1; omega
        obtain ⟨s, hs⟩ : ∃ s, c.stacks[x.i]? = some s := ⟨_, List.getElem?_eq_getElem hil⟩
        obtain ⟨b, o, hA⟩ := Has.base (.ro (.there (.there (.there .here)))) H7 (nil_of_flat encS_len (by decide) hil)
        obtain ⟨HB, hnil⟩ := binsA_more (.there (.there (.there (.there .here)))) H7 hs
        have hst := hm.bins.st x.i s hs
        have hh8 := hn.height
        have hsb : s.bins.length ≤ 1000000 := by omega
        have hin : inR c s.x s.y = true := by have h9 := hst.1; simp only [stackedR, Bool.and_eq_true] at h9; exact openR_in h9.1.1.1
        obtain ⟨hlt, hnb⟩ := numI_lt hn hin
        have hbl : numI c ⟨s.x, s.y⟩ < x.bs.length := by have h9 := congrArg List.length hlay; rw [layM_len, List.length_map] at h9; omega
        refine .skip (cj ?_)
        refine .seq ?_
        refine .block ?_
        refine .seq ?_
        refine .plain rfl ?_
        refine .q rfl rfl rfl (val_ix el_24 hA rfl rfl rfl hil) ?_
        refine .qs rfl rfl rfl HB (ld_ela rfl ag_114 .base hA (.ro (.there (.there (.there (.there .here))))) encS_len (by first | assumption | rfl)) ?_
        refine .alloc rfl rfl rfl ze_114 rfl HB (fun w8 b8 H8 => ⟨fun _ => trivial, ?_⟩)
        refine .store rfl rfl rfl rfl rfl sz_114 rfl H8 .here (by repeat constructor) (fun w9 H9 => ⟨fun _ => trivial, ?_⟩)
        refine .nil (cj ?_)
        refine .drawS 12 (.cons (0, true) (.cons (1, true) (.cons (2, true) (.cons (3, true) (.cons (4, true) (.cons (5, true) (.cons (6, true) (.cons (8, true) (.cons (9, true) (.cons (7, false) (.cons (10, false) (.cons (11, true) (.cons (12, false) .nil))))))))))))) mo (by kernel_rfl) H9 (fun _ _ _ _ _ h => h) (fun w10 H10 => ?_)
        refine .p rfl rfl rfl (val_move rfl) ?_
        refine .p rfl rfl rfl (val_nilCheck rfl) ?_
        refine .p rfl rfl rfl (val_fieldAddr rfl fa_163_4) ?_
        refine .ps rfl rfl rfl rfl (ld_b rfl ob_161 (.own (.there (.there .here))) rfl) ?_
        refine .p rfl rfl rfl (val_move rfl) ?_
        refine .p rfl rfl rfl (val_fieldAddr rfl fa_114_0) ?_
        refine .ps rfl rfl rfl rfl (ld_blks rfl ag_38 (.own .here) (by repeat constructor)) ?_
        refine .p rfl rfl rfl (val_fieldAddr rfl fa_114_1) ?_
        refine .ps rfl rfl rfl rfl (ld_b rfl ob_27 (.own .here) rfl) ?_
        refine .call1 rfl rfl rfl en86 (.cons rfl (.cons rfl .nil)) (numK_spec c _ _ _ _ hn hin) H10 .nil (.own (.there (.there (.there .here))) .nil) (fun w11 H11 => ⟨fun _ => H11, ?_⟩)
        refine .callx rfl rfl rfl en85 (.cons rfl .nil) (listI_spec _ _ _ hsb hnil) H11 .nil (.ro .here .nil) (fun v12 w12 C12 H12 => ⟨fun _ => (H12.sub (.cons (.there .here) (.cons (.there .here) (.cons (.there .here) (.cons (.there .here) (.cons (.there .here) (.cons (.there .here) (.cons (.there .here) (.cons (.there .here) .nil))))))))), ?_⟩)
        obtain ⟨A9, cap9, rfl⟩ := St.rowVal H12 .here
        refine .p rfl rfl rfl (val_ix el_161 rfl rfl rfl rfl hlt) ?_
        refine .store rfl rfl rfl rfl rfl sz_27 rfl H12 (.there (.there (.there (.there (.there (.there .here)))))) (by rw [Nat.zero_add, Nat.mul_one]; exact Spl_cell (by simpa using hbl)) (fun w13 H13 => ⟨fun h => absurd h (by decide), ?_⟩)
        refine .nil (cj ?_)
        refine .plain rfl ?_
        refine .q rfl rfl rfl (val_add rfl rfl (z := ((x.i + 1 : Nat) : Int)) (w64_of (by omega))) ?_
        refine .q rfl rfl rfl (val_move rfl) ?_
        refine .nil ?_
        intro act0 hact0; change Exists _
        refine ⟨⟨x.i + 1, x.bs.set (numI c ⟨s.x, s.y⟩) ⟨.slice A9 s.bins.length cap9, s.bins⟩⟩, Pick.kn (by repeat (first | exact Pick.nil | refine Pick.cons rfl ?_)) hact0, ⟨by have h9 := sb_row (H13.rest (.ro (.there .here) (.ro (.there (.there .here)) (.ro (.there (.there (.there .here))) (.ro (.there (.there (.there (.there .here)))) (.ro (.there (.there (.there (.there (.there .here))))) (.ro (.there (.there (.there (.there (.there (.there .here)))))) .nil))))))) hbl (.cons (.there .here) (.cons (.there (.there (.there (.there (.there (.there .here)))))) .nil)); have e9 : (x.bs.set (numI c ⟨s.x, s.y⟩) ⟨.slice A9 s.bins.length cap9, s.bins⟩).map (fun b => b.v) = (x.bs.map fun b => b.v).set (numI c ⟨s.x, s.y⟩) (.slice A9 s.bins.length cap9) := List.map_set; rw [e9]; exact h9.sub (.cons (.there (.there (.there .here))) (.cons (.there (.there (.there .here))) (.cons (.there (.there (.there .here))) (.cons (.there (.there (.there .here))) (.cons (.there .here) (.cons .here (.cons (.there .here) .nil))))))), hil, by rw [List.map_set, hlay]; simp only [layM, hs]⟩, (show c.stacks.length - (x.i + 1) < c.stacks.length - x.i by omega)⟩
      · have hil : x.i = c.stacks.length := by simp only [decide_eq_false_iff_not] at hc1; omega
        refine .exit (cj ?_)
        refine .seq ?_
        refine .plain rfl ?_
        refine .q rfl rfl rfl (val_move rfl) ?_
        refine .q rfl rfl rfl (val_assign rfl) ?_
        refine .q rfl rfl rfl (val_assign rfl) ?_
        refine .nil (cj ?_)
        refine .ret (fret (res2 rfl rfl rfl) ?_)
        refine hRR _ _ ⟨_, ⟨_, rfl, rfl, trivial⟩, ?_⟩
        rw [hil] at hlay
        exact (H7.sub (F := _) (.cons (.there .here) (.cons (.there .here) (.cons (.there .here) (.cons (.there .here) (.cons (.there .here) (.cons (.there .here) .nil))))))).map fun X h => stkA_in (s := stm0 c) _ hlay (by rw [List.append_nil]; exact h)
    · refine .mk rfl rfl rfl ap_27 ze_3 rfl rfl (Nat.le_refl _) (by omega) (by simp only [maxLen]; omega) (made_one _ _) H3 (fun w14 b14 H14 => ⟨fun _ => (H14.sub (.cons (.there .here) (.cons (.there .here) (.cons (.there .here) .nil)))), ?_⟩)
      refine .mk rfl rfl rfl ap_161 ze_27 rfl rfl (Nat.le_refl _) (by omega) (by simp only [maxLen]; omega) (made_one _ _) H14 (fun w15 b15 H15 => ⟨fun _ => (H15.sub (.cons (.there (.there .here)) (.cons (.there (.there .here)) (.cons (.there (.there .here)) .nil)))), ?_⟩)
      refine .p rfl rfl rfl (val_mk (.cons rfl (.cons rfl (.cons rfl (.cons rfl (.cons rfl (.cons rfl .nil)))))) (mk_163_0_1_2_3_4_5 _ _ _ _ _ _ _ _ _ _)) ?_
      refine .box rfl rfl rfl rfl rfl H15 (fun w16 b16 H16 => ⟨fun _ => (H16.sub (.cons (.there (.there (.there .here))) (.cons (.there (.there (.there .here))) (.cons (.there (.there (.there .here))) .nil)))), ?_⟩)
      refine .p rfl rfl rfl (val_assign rfl) ?_
      refine .nil (cj ?_)
      refine .seq ?_
      refine .seq ?_
      refine .plain rfl ?_
      refine .q rfl rfl rfl (val_fieldAddr rfl fa_26_6) ?_
      refine .qs rfl rfl rfl H16 (ld_b rfl ob_24 (.own (.there (.there (.there (.there (.there .here)))))) rfl) ?_
      refine .q rfl rfl rfl (val_len Tryz.underlying24 rfl) ?_
      refine .q rfl rfl rfl (val_move rfl) ?_
      refine .nil (cj ?_)
      refine .block ?_
      refine .loop (ι := BN0) (fun x => [(1, ptr b1), (4, ptr x2.bg), (6, ptr b16), (37, .slice c.sA c.stacks.length c.sc), (38, i64 ((c.stacks.length : Nat) : Int)), (39, i64 (x.i : Int))]) (fun x w' => St w w' X [cb c, cp c, cr c, cs c, binsA c, stepsA] [blk b1 (encCf c) 26, tblk c b16 ⟨x2.bg, x2.bk, b15, b14, x.bs⟩ (List.replicate c.robots.length (0 : Int)).length, gfix c x2.bg x2.bk, kblk x2.bk (KF c), blk b15 (x.bs.map fun b => b.v) 27, sep (x.bs.map rowB), blk b14 ((List.replicate c.robots.length (0 : Int)).map fun z => i64 z) 3] ∧ x.i ≤ c.stacks.length ∧ x.bs.map (·.l) = layM c x.i) (fun x => c.stacks.length - x.i) ⟨0, List.replicate (area c) ⟨.slice none 0 0, []⟩⟩ (by repeat (first | exact Pick.nil | refine Pick.cons rfl ?_)) ⟨by have hh := sep_rep H16 (area c); simp only [List.map_replicate, List.length_replicate] at hh ⊢; exact hh.sub (.cons (.there (.there (.there (.there (.there (.there .here)))))) (.cons (.there .here) (.cons (.there (.there (.there .here))) (.cons (.there (.there (.there .here))) (.cons (.there .here) (.cons .here (.cons .here .nil))))))), Nat.zero_le _, by simp [layM]⟩ ?_
      rintro x w5 ⟨H17, hi, hlay⟩
      refine .seq ?_
      refine .plain rfl ?_
      refine .q rfl rfl rfl (val_lss rfl rfl rfl) ?_
      refine .nil (cj ?_)
      refine .seq ?_
      refine .cond rfl (fun hc1 => ?_) (fun hc1 => ?_)
      · have hil : x.i < c.stacks.length := by simp only [decide_eq_true_eq] at hc1; omega
        obtain ⟨s, hs⟩ : ∃ s, c.stacks[x.i]? = some s := ⟨_, List.getElem?_eq_getElem hil⟩
        obtain ⟨b, o, hA⟩ := Has.base (.ro (.there (.there (.there .here)))) H17 (nil_of_flat encS_len (by decide) hil)
        obtain ⟨HB, hnil⟩ := binsA_more (.there (.there (.there (.there .here)))) H17 hs
        have hst := hm.bins.st x.i s hs
        have hh8 := hn.height
        have hsb : s.bins.length ≤ 1000000 := by omega
        have hin : inR c s.x s.y = true := by have h9 := hst.1; simp only [stackedR, Bool.and_eq_true] at h9; exact openR_in h9.1.1.1
        obtain ⟨hlt, hnb⟩ := numI_lt hn hin
        have hbl : numI c ⟨s.x, s.y⟩ < x.bs.length := by have h9 := congrArg List.length hlay; rw [layM_len, List.length_map] at h9; omega
        refine .skip (cj ?_)
        refine .seq ?_
        refine .block ?_
        refine .seq ?_
        refine .plain rfl ?_
        refine .q rfl rfl rfl (val_ix el_24 hA rfl rfl rfl hil) ?_
        refine .qs rfl rfl rfl HB (ld_ela rfl ag_114 .base hA (.ro (.there (.there (.there (.there .here))))) encS_len (by first | assumption | rfl)) ?_
        refine .alloc rfl rfl rfl ze_114 rfl HB (fun w18 b18 H18 => ⟨fun _ => trivial, ?_⟩)
        refine .store rfl rfl rfl rfl rfl sz_114 rfl H18 .here (by repeat constructor) (fun w19 H19 => ⟨fun _ => trivial, ?_⟩)
        refine .nil (cj ?_)
        refine .drawS 12 (.cons (0, true) (.cons (1, true) (.cons (2, true) (.cons (3, true) (.cons (4, true) (.cons (5, true) (.cons (6, true) (.cons (8, true) (.cons (9, true) (.cons (7, false) (.cons (10, false) (.cons (11, true) (.cons (12, false) .nil))))))))))))) mo (by kernel_rfl) H19 (fun _ _ _ _ _ h => h) (fun w20 H20 => ?_)
        refine .p rfl rfl rfl (val_move rfl) ?_
        refine .p rfl rfl rfl (val_nilCheck rfl) ?_
        refine .p rfl rfl rfl (val_fieldAddr rfl fa_163_4) ?_
        refine .ps rfl rfl rfl rfl (ld_b rfl ob_161 (.own (.there (.there .here))) rfl) ?_
        refine .p rfl rfl rfl (val_move rfl) ?_
        refine .p rfl rfl rfl (val_fieldAddr rfl fa_114_0) ?_
        refine .ps rfl rfl rfl rfl (ld_blks rfl ag_38 (.own .here) (by repeat constructor)) ?_
        refine .p rfl rfl rfl (val_fieldAddr rfl fa_114_1) ?_
        refine .ps rfl rfl rfl rfl (ld_b rfl ob_27 (.own .here) rfl) ?_
        refine .call1 rfl rfl rfl en86 (.cons rfl (.cons rfl .nil)) (numK_spec c _ _ _ _ hn hin) H20 .nil (.own (.there (.there (.there .here))) .nil) (fun w21 H21 => ⟨fun _ => H21, ?_⟩)
        refine .callx rfl rfl rfl en85 (.cons rfl .nil) (listI_spec _ _ _ hsb hnil) H21 .nil (.ro .here .nil) (fun v22 w22 C22 H22 => ⟨fun _ => (H22.sub (.cons (.there .here) (.cons (.there .here) (.cons (.there .here) (.cons (.there .here) (.cons (.there .here) (.cons (.there .here) (.cons (.there .here) (.cons (.there .here) .nil))))))))), ?_⟩)
        obtain ⟨A9, cap9, rfl⟩ := St.rowVal H22 .here
        refine .p rfl rfl rfl (val_ix el_161 rfl rfl rfl rfl hlt) ?_
        refine .store rfl rfl rfl rfl rfl sz_27 rfl H22 (.there (.there (.there (.there (.there (.there .here)))))) (by rw [Nat.zero_add, Nat.mul_one]; exact Spl_cell (by simpa using hbl)) (fun w23 H23 => ⟨fun h => absurd h (by decide), ?_⟩)
        refine .nil (cj ?_)
        refine .plain rfl ?_
        refine .q rfl rfl rfl (val_add rfl rfl (z := ((x.i + 1 : Nat) : Int)) (w64_of (by omega))) ?_
        refine .q rfl rfl rfl (val_move rfl) ?_
        refine .nil ?_
        intro act0 hact0; change Exists _
        refine ⟨⟨x.i + 1, x.bs.set (numI c ⟨s.x, s.y⟩) ⟨.slice A9 s.bins.length cap9, s.bins⟩⟩, Pick.kn (by repeat (first | exact Pick.nil | refine Pick.cons rfl ?_)) hact0, ⟨by have h9 := sb_row (H23.rest (.ro (.there .here) (.ro (.there (.there .here)) (.ro (.there (.there (.there .here))) (.ro (.there (.there (.there (.there .here)))) (.ro (.there (.there (.there (.there (.there .here))))) (.ro (.there (.there (.there (.there (.there (.there .here)))))) .nil))))))) hbl (.cons (.there .here) (.cons (.there (.there (.there (.there (.there (.there .here)))))) .nil)); have e9 : (x.bs.set (numI c ⟨s.x, s.y⟩) ⟨.slice A9 s.bins.length cap9, s.bins⟩).map (fun b => b.v) = (x.bs.map fun b => b.v).set (numI c ⟨s.x, s.y⟩) (.slice A9 s.bins.length cap9) := List.map_set; rw [e9]; exact h9.sub (.cons (.there (.there (.there .here))) (.cons (.there (.there (.there .here))) (.cons (.there (.there (.there .here))) (.cons (.there (.there (.there .here))) (.cons (.there .here) (.cons .here (.cons (.there .here) .nil))))))), hil, by rw [List.map_set, hlay]; simp only [layM, hs]⟩, (show c.stacks.length - (x.i + 1) < c.stacks.length - x.i by omega)⟩
      · have hil : x.i = c.stacks.length := by simp only [decide_eq_false_iff_not] at hc1; omega
        refine .exit (cj ?_)
        refine .seq ?_
        refine .plain rfl ?_
        refine .q rfl rfl rfl (val_move rfl) ?_
        refine .q rfl rfl rfl (val_assign rfl) ?_
        refine .q rfl rfl rfl (val_assign rfl) ?_
        refine .nil (cj ?_)
        refine .ret (fret (res2 rfl rfl rfl) ?_)
        refine hRR _ _ ⟨_, ⟨_, rfl, rfl, trivial⟩, ?_⟩
        rw [hil] at hlay
        exact (H17.sub (F := _) (.cons (.there .here) (.cons (.there .here) (.cons (.there .here) (.cons (.there .here) (.cons (.there .here) (.cons (.there .here) .nil))))))).map fun X h => stkA_in (s := stm0 c) _ hlay (by rw [List.append_nil]; exact h)
end Go.Proofs.YtmbibkifbehgnaaGreatDoor
namespace Go.Proofs.YtmbibkifbehgnaaGreatDoor
open Go Sk
set_option linter.unusedVariables false
set_option linter.unusedSimpArgs false
/-- a run that may still be cut -/
abbrev RunOk (c : Cf) (u : Gg) : Prop := u.move.kind = 1 → u.cut = false → (1 ≤ u.move.n ∧ u.move.n ≤ 16) ∧ inR c u.move.fr.x u.move.fr.y = true ∧ withinB u.move.dir 0 3 = true
structure Rel (c : Cf) (r : Rb) (g : Option Gg) (q : Rw) : Prop where
  i : r.i = q.i
  pose : r.pose = q.pose
  load : r.load = q.load
  epoch : r.epoch = q.epoch
  num : r.num = q.num
  stop : r.stopping = q.stopping
  m : nowM g = q.m
  u : g.isSome = q.under
  und : ∀ u, g = some u → q.left = u.left ∧ q.gone = u.t ∧ q.cut = u.cut ∧ q.wait = r.delay ∧ RunOk c u
  idle : g = none → r.delay = 0
  ep : 0 ≤ q.epoch
section
variable {c c' : Cf} {r : Rb} {g : Option Gg} {q : Rw} {t : Te}
theorem Rel.tell (h : Rel c r g q) : tellB r = tellW q := by
  unfold tellB tellW
  rw [h.i, h.pose, h.load, h.epoch, h.num]
theorem Rel.same (h : Rel c r g q) : sameB r g q = true := by
  unfold sameB
  simp [h.pose, h.load, h.epoch, h.m, h.u, h.tell]
theorem Rel.new {i : Int} {p : Ps} : Rel c ⟨i, p, 0, 0, 0, false, 0⟩ none (rw0 i p) where
  i := rfl
  pose := rfl
  load := rfl
  epoch := rfl
  num := rfl
  stop := rfl
  m := rfl
  u := rfl
  und := fun u h => by cases h
  idle := fun _ => rfl
  ep := Int.le_refl _
theorem legal_runs {m : Mv} (h : legalR c m = true) (hk : m.kind = 1) : (1 ≤ m.n ∧ m.n ≤ 16) ∧ inR c m.fr.x m.fr.y = true ∧ withinB m.dir 0 3 = true := by
  unfold legalR at h
  split at h
  · cases h
  · rename_i hf
    simp only [Bool.not_eq_false] at hf
    try rw [if_pos hk] at h
    simp only [Bool.and_eq_true] at h
    refine ⟨by simpa [withinB] using h.1, ?_, h.2.1⟩
    unfold fitsR openR at hf
    simp only [Bool.and_eq_true] at hf
    exact hf.1.1
end
end Go.Proofs.YtmbibkifbehgnaaGreatDoor
namespace Go.Proofs.YtmbibkifbehgnaaGreatDoor
open Go Sk
set_option linter.unusedVariables false
set_option linter.unusedSimpArgs false
/-- no telegram, or one -/
structure SV where
  A : Option Addr
  cap : Nat
abbrev teV (o : Option Te) (x : SV) : Value := .slice x.A o.toList.length x.cap
abbrev teA (o : Option Te) (x : SV) : As := arr x.A (o.toList.flatMap encT)
theorem blk_arr {b : Nat} {cs : List Value} {T : TypeId} {X : Nat → Prop} {w : World} (h : (blk b cs T).on X w) : (arr (some ⟨b, 0, none⟩) cs).on X w :=
  .inr ⟨b, 0, rfl, h.1, (Array.getElem?_eq_some_iff.1 h.2).1, fun j u hu => by simp [World.cell?, h.2, hu]⟩
theorem Own.one {f : As} {X : Nat → Prop} {w : World} (h : f.on X w) : Own [f] X w := ⟨X, fun _ => False, h, fun _ h => h, fun _ _ h => h, fun k => by simp⟩
theorem TeV.arr {o : Option Te} {v : Value} {fs : List As} (h : TeV o v fs) : ∃ x : SV, v = teV o x ∧ ∀ X w, Own fs X w → Own [teA o x] X w := by
  cases h with
  | none => exact ⟨⟨Option.none, 0⟩, rfl, fun X w h => Own.one (.inl ⟨rfl, h⟩)⟩
  | some b t => exact ⟨⟨_, 1⟩, rfl, fun X w ⟨X1, X2, h1, h2, _, h4⟩ => Own.one (by
      have e : X = X1 := funext fun k => propext ((h4 k).trans ⟨fun h => h.resolve_right (h2 k), .inl⟩)
      rw [e]
      show (Sk.arr (Option.some ⟨b, 0, Option.none⟩) ([t].flatMap encT)).on X1 w
      simpa using blk_arr h1)⟩
theorem hearA2_spec {c : Cf} {br : Nat} {r : Rb} {g : Option Gg} (hm : MayOk c) (hg : RunO g) (t : Te) : Sk.Spec Tryz.prog 34 #[ptr br, .agg (encT t).toArray] [stepsA] [robA c br r g] fun e F' => ∃ x : SV, e = .returned (.tuple #[teV (hearB c r g t).tele x, i64 (hearB c r g t).how]) ∧ F' = [robA c br (hearB c r g t).r (hearB c r g t).g, teA (hearB c r g t).tele x] ∧ True := by
  refine (hearA_spec hm hg t).conseq ?_
  rintro e F' ⟨y, rfl, rfl, hy⟩
  obtain ⟨x, hx, hown⟩ := hy.arr
  refine ⟨_, ⟨x, by rw [hx], rfl, trivial⟩, fun X w ⟨X1, X2, h1, h2, h3, h4⟩ => ⟨X, ⟨X1, X2, h1, hown X2 w h2, h3, h4⟩, fun _ h => h⟩⟩
structure Op18 where
  kind : Int
  n : Int
  t : Te
structure DX where
  r : Rb
  g : Option Gg
  q : Rw
structure DL where
  i : Nat
  r : Rb
  g : Option Gg
  q : Rw
theorem en34 : Enters Tryz.prog 34 := fun args w => by kernel_rfl
theorem en41 : Enters Tryz.prog 41 := fun args w => by kernel_rfl
theorem en43 : Enters Tryz.prog 43 := fun args w => by kernel_rfl
theorem en45 : Enters Tryz.prog 45 := fun args w => by kernel_rfl
end Go.Proofs.YtmbibkifbehgnaaGreatDoor
namespace Go.Proofs.YtmbibkifbehgnaaGreatDoor
open Go Sk
set_option linter.unusedVariables false
set_option linter.unusedSimpArgs false
theorem kin0_kcs (u a s : Int) : kin0 u a s = kcs u a s (List.replicate 17 none) := rfl
theorem kinR_new {u a v : Int} {w : World} : (kinR u a v (List.replicate 17 none)).on (fun _ => False) w := ⟨fun j A len cap h => absurd (List.mem_of_getElem? h) (fun h1 => by rw [List.mem_replicate] at h1; cases h1.2), fun k (h : False) => h.elim⟩
theorem robotNewA_spec (c : Cf) (hc : c.Fit) (hm : MayOk c) (i : Nat) (p : Ps) (hp : c.robots[i]? = some p) : Sk.Spec Tryz.prog 11 #[.agg (encCf c).toArray, i64 (i : Int)] [cb c, cp c, cr c, cs c, binsA c, stepsA] []
    fun e F' => ∃ br : Nat, e = .returned (.tuple #[ptr br, i64 0]) ∧ F' = [robA c br ⟨i, p, 0, 0, 0, false, 0⟩ none] ∧ True := by
  refine (robotNew_spec c hc hm i p hp).conseq ?_
  rintro e F' ⟨x, rfl, rfl, _⟩
  refine ⟨_, ⟨x.br, rfl, rfl, trivial⟩, fun X w h => ⟨X, robA_in ⟨x.bg, x.bk, x.bn, 0, ⟨List.replicate 17 none, by simp⟩⟩ ?_, fun _ h => h⟩⟩
  rw [kin0_kcs] at h
  exact Own.perm (.cons (.there .here) (.cons (.there .here) (.cons (.there .here) (.cons (.there .here) (.cons .here .nil))))) (Own.consE (kinR_new (u := c.unit) (a := c.accel) (v := c.speed)) h)
theorem bs_40_1_0 (x0_0_0_ : Int) (x0_0_1_ : Int) (x0_1_ : Bool) : Tryz.prog.builtSlice 40 1 [(0, .agg (List.toArray [.int .i64 x0_0_0_, .int .i64 x0_0_1_, .bool x0_1_]))] = some (List.toArray [.int .i64 x0_0_0_, .int .i64 x0_0_1_, .bool x0_1_]) := by kernel_rfl
end Go.Proofs.YtmbibkifbehgnaaGreatDoor
namespace Go.Proofs.YtmbibkifbehgnaaGreatDoor
open Go Sk
set_option linter.unusedVariables false
set_option linter.unusedSimpArgs false
theorem ro0 {w0 w : World} {M : Nat → Prop} {R F : List As} (f : As) (hf : f.on (fun _ => False) w) (H : St w0 w M R F) : St w0 w M (f :: R) F := by
  obtain ⟨⟨X, h1, h2, h3⟩, h4⟩ := H
  refine ⟨⟨X, h1, fun r hr => ?_, h3⟩, h4⟩
  rcases List.mem_cons.1 hr with rfl | hr
  · exact ⟨_, hf, fun _ h => h.elim⟩
  · exact h2 r hr
theorem arr_none {w : World} : (arr none []).on (fun _ => False) w := .inl ⟨rfl, fun _ h => h⟩
theorem en11 : Enters Tryz.prog 11 := fun args w => by kernel_rfl
end Go.Proofs.YtmbibkifbehgnaaGreatDoor
namespace Go.Proofs.YtmbibkifbehgnaaGreatDoor
open Go Sk
set_option linter.unusedVariables false
set_option linter.unusedSimpArgs false
set_option linter.unusedSectionVars false
theorem fa_111_2 (b o : Nat) (w : World) : (Instr.fieldAt 111 (.pointer (some ⟨b, o, none⟩)) 2).run Tryz.prog w = .ok (.pointer (some ⟨b, o + 2, none⟩)) w := by kernel_rfl
theorem fa_111_3 (b o : Nat) (w : World) : (Instr.fieldAt 111 (.pointer (some ⟨b, o, none⟩)) 3).run Tryz.prog w = .ok (.pointer (some ⟨b, o + 3, none⟩)) w := by kernel_rfl
theorem fa_111_4 (b o : Nat) (w : World) : (Instr.fieldAt 111 (.pointer (some ⟨b, o, none⟩)) 4).run Tryz.prog w = .ok (.pointer (some ⟨b, o + 4, none⟩)) w := by kernel_rfl
theorem en51 : Enters Tryz.prog 51 := fun args w => by kernel_rfl
theorem en52 : Enters Tryz.prog 52 := fun args w => by kernel_rfl
theorem el_109  : elB Tryz.prog 109 1 = true := by kernel_rfl
theorem ob_109  : oneB Tryz.prog 109 = true := by kernel_rfl
theorem ob_30  : oneB Tryz.prog 30 = true := by kernel_rfl
theorem ob_57  : oneB Tryz.prog 57 = true := by kernel_rfl
/-- a robot's state -/
structure Rg where
  r : Rb
  g : Option Gg
/-- a world's state -/
structure Wm where
  rs : List Rg
  s : Stm
  now : Int
  l : List Si
abbrev encN (b : Nat) : List Value := [ptr b]
theorem encN_len (b : Nat) : (encN b).length = 1 := rfl
/-- the robots, by where they lie and what they are -/
def rsE (c : Cf) (br : List Nat) (rs : List Rg) : List As := List.zipWith (fun b s => robA c b s.r s.g) br rs
theorem rsE_get {c : Cf} {br : List Nat} {rs : List Rg} {i a : Nat} {s : Rg} (h : br[i]? = some a) (h2 : rs[i]? = some s) : (rsE c br rs)[i]? = some (robA c a s.r s.g) := by
  simp [rsE, List.getElem?_zipWith, h, h2]
theorem rsE_set {c : Cf} : ∀ {br : List Nat} {rs : List Rg} {i a : Nat} (s : Rg), br[i]? = some a → (rsE c br rs).set i (robA c a s.r s.g) = rsE c br (rs.set i s)
  | [], rs, i, a, s, h => by simp at h
  | b :: br, [], i, a, s, h => by simp [rsE]
  | b :: br, q :: rs, 0, a, s, h => by
    obtain rfl : b = a := by simpa using h
    rfl
  | b :: br, q :: rs, i + 1, a, s, h => by
    have := rsE_set (c := c) (rs := rs) s (show br[i]? = some a by simpa using h)
    simp only [rsE, List.zipWith_cons_cons, List.set_cons_succ] at this ⊢
    rw [this]
theorem rsE_snoc {c : Cf} {br : List Nat} {rs : List Rg} {a : Nat} {s : Rg} (h : br.length = rs.length) : rsE c (br ++ [a]) (rs ++ [s]) = rsE c br rs ++ [robA c a s.r s.g] := by
  simp [rsE, List.zipWith_append h]
structure WX where
  bg : Nat
  bk : Nat
  bs : Nat
  br : List Nat
  A : Option Addr
  cap : Nat
  v : Value
abbrev wbv (b : Nat) (x : WX) (now : Int) (v : Value) : As := blk b [ptr x.bg, ptr x.bs, .slice x.A x.br.length x.cap, i64 now, v] 111
abbrev wb (b : Nat) (x : WX) (now : Int) : As := wbv b x now x.v
abbrev raA (x : WX) : As := arr x.A (x.br.flatMap encN)
abbrev siA (v : Value) (l : List Si) : As := row v 60 18 l.length (l.flatMap encSi)
abbrev wldE (c : Cf) (b : Nat) (W : Wm) (x : WX) : List As := [wb b x W.now, gfix c x.bg x.bk, kblk x.bk (KF c), raA x, stkA c x.bs W.s, sep (rsE c x.br W.rs), siA x.v W.l]
def wldA (c : Cf) (b : Nat) (W : Wm) : As := exAs (ι := { x : WX // x.br.length = W.rs.length }) fun x => wldE c b W x.1
theorem wldA_in {c : Cf} {b : Nat} {W : Wm} {F : List As} {X : Nat → Prop} {w : World} (x : WX) (hx : x.br.length = W.rs.length) (h : Own (wldE c b W x ++ F) X w) : Own (wldA c b W :: F) X w := Own.exIn (ι := { x : WX // x.br.length = W.rs.length }) ⟨x, hx⟩ h
theorem br_get {W : Wm} {x : WX} (hx : x.br.length = W.rs.length) {i : Nat} {q : Rg} (h : W.rs[i]? = some q) : ∃ a, x.br[i]? = some a := ⟨_, List.getElem?_eq_getElem (by rw [hx]; exact lt_of_some h)⟩
section
variable {P : Program} {f : FuncId} {args : Array Value} {R F : List As} {Post : Ending → List As → Prop}
theorem rowFacts {v : Value} {e : TypeId} {sz n : Nat} {xs : List Value} {Y : Nat → Prop} {w : World} (h : (row v e sz n xs).on Y w) : ∃ A cap, v = .slice A n cap ∧ n ≤ cap ∧ (A = none → n = 0 ∧ cap = 0) := by
  rcases h.1.2 with ⟨h1, h2⟩ | ⟨g, cap, cur, h1, _, _, h3, _⟩
  · exact ⟨none, 0, by rw [h1, h2], by omega, fun _ => ⟨h2, rfl⟩⟩
  · exact ⟨_, cap, h1, h3, fun h => by cases h⟩
theorem Sk.Spec.rowIn {v : Value} {e : TypeId} {sz n : Nat} {xs : List Value} (hm : row v e sz n xs ∈ R) (h : ∀ A cap, v = .slice A n cap → n ≤ cap → (A = none → n = 0 ∧ cap = 0) → Sk.Spec P f args R F Post) : Sk.Spec P f args R F Post := fun w X hF hR => by
  obtain ⟨Y, hY, _⟩ := hR _ hm
  obtain ⟨A, cap, h1, h2, h3⟩ := rowFacts hY
  exact h A cap h1 h2 h3 w X hF hR
end
section
variable (c : Cf) (b : Nat) (x : WX) (now : Int)
theorem rob1_spec {i : Nat} {a : Nat} (hq : x.br[i]? = some a) : Sk.Spec Tryz.prog 52 #[ptr b, i64 (i : Int)] [wb b x now, raA x] [] fun e F' => e = .returned (ptr a) ∧ F' = [] := by
  have hi := lt_of_some hq
  refine Spec.of_code (vs := [_, _]) (k0 := [(0, _), (1, _)]) 27 Tryz.func52 rfl Tryz.ntmps52 rfl (.cons (.cons .nil)) fun w X RR hRR H => ?_
  obtain ⟨b9, o9, hA⟩ := Has.base (R := [wb b x now, raA x]) (.ro (.there .here)) H (nil_of_flat encN_len (by decide) hi)
  refine .seq ?_
  refine .plain rfl ?_
  refine .q rfl rfl rfl (val_assign rfl) ?_
  refine .nil (cj ?_)
  refine .seq ?_
  refine .seq ?_
  refine .plain rfl ?_
  refine .q rfl rfl rfl (val_move rfl) ?_
  refine .q rfl rfl rfl (val_ptr_eq_nil Tryz.underlying53 rfl rfl rfl) ?_
  refine .q rfl rfl rfl (val_move rfl) ?_
  refine .q rfl rfl rfl (val_move rfl) ?_
  refine .q rfl rfl rfl (val_lss rfl rfl rfl) ?_
  refine .q rfl rfl rfl (val_pick_f rfl rfl) ?_
  refine .q rfl rfl rfl (val_move rfl) ?_
  refine .case (t := 11) rfl (fun hs11 => ?_) (fun hs11 => ?_)
  · exfalso; simp at hs11; omega
  · refine .q rfl rfl rfl (val_move rfl) ?_
    refine .q rfl rfl rfl (val_move rfl) ?_
    refine .q rfl rfl rfl (val_nilCheck rfl) ?_
    refine .q rfl rfl rfl (val_fieldAddr rfl fa_111_2) ?_
    refine .qs rfl rfl rfl H (ld_b rfl ob_109 (.ro .here) rfl) ?_
    refine .q rfl rfl rfl (val_len Tryz.underlying109 rfl) ?_
    refine .q rfl rfl rfl (val_geq rfl rfl rfl) ?_
    refine .q rfl rfl rfl (val_pick_f rfl rfl) ?_
    refine .nil (cj ?_)
    refine .cond rfl (fun hc0 => ?_) (fun hc0 => ?_)
    · exfalso; simp at hc0; omega
    · refine .skip (cj ?_)
      refine .seq ?_
      refine .plain rfl ?_
      refine .q rfl rfl rfl (val_move rfl) ?_
      refine .q rfl rfl rfl (val_nilCheck rfl) ?_
      refine .q rfl rfl rfl (val_fieldAddr rfl fa_111_2) ?_
      refine .qs rfl rfl rfl H (ld_b rfl ob_109 (.ro .here) rfl) ?_
      refine .q rfl rfl rfl (val_move rfl) ?_
      refine .q rfl rfl rfl (val_ix el_109 hA rfl rfl rfl hi) ?_
      refine .qs rfl rfl rfl H (ld_el rfl ob_30 .base hA (.ro (.there .here)) encN_len (by first | assumption | rfl) rfl) ?_
      refine .q rfl rfl rfl (val_assign rfl) ?_
      refine .nil (cj ?_)
      refine .ret (fret (res1 rfl rfl) ?_)
      refine hRR _ _ ⟨_, ⟨?_, rfl⟩, H.sub .nil⟩
      rfl
theorem rob0_spec {i : Int} (hi : i < 0 ∨ (x.br.length : Int) ≤ i) : Sk.Spec Tryz.prog 52 #[ptr b, i64 i] [wb b x now, raA x] [] fun e F' => e = .returned (.pointer none) ∧ F' = [] := by
  refine Spec.of_code (vs := [_, _]) (k0 := [(0, _), (1, _)]) 27 Tryz.func52 rfl Tryz.ntmps52 rfl (.cons (.cons .nil)) fun w X RR hRR H => ?_
  refine .seq ?_
  refine .plain rfl ?_
  refine .q rfl rfl rfl (val_assign rfl) ?_
  refine .nil (cj ?_)
  refine .seq ?_
  refine .seq ?_
  refine .plain rfl ?_
  refine .q rfl rfl rfl (val_move rfl) ?_
  refine .q rfl rfl rfl (val_ptr_eq_nil Tryz.underlying53 rfl rfl rfl) ?_
  refine .q rfl rfl rfl (val_move rfl) ?_
  refine .q rfl rfl rfl (val_move rfl) ?_
  refine .q rfl rfl rfl (val_lss rfl rfl rfl) ?_
  refine .q rfl rfl rfl (val_pick_f rfl rfl) ?_
  refine .q rfl rfl rfl (val_move rfl) ?_
  refine .case (t := 11) rfl (fun hs11 => ?_) (fun hs11 => ?_)
  · refine .no rfl rfl rfl ?_
    refine .no rfl rfl rfl ?_
    refine .no rfl rfl rfl ?_
    refine .no rfl rfl rfl ?_
    refine .no rfl rfl rfl ?_
    refine .no rfl rfl rfl ?_
    refine .no rfl rfl rfl ?_
    refine .q rfl rfl rfl (val_pick_t rfl rfl) ?_
    refine .nil (cj ?_)
    refine .cond_t rfl ?_
    refine .seq ?_
    refine .plain rfl ?_
    refine .q rfl rfl rfl (val_assign rfl) ?_
    refine .nil (cj ?_)
    refine .ret (fret (res1 rfl rfl) ?_)
    refine hRR _ _ ⟨_, ⟨?_, rfl⟩, H.sub .nil⟩
    rfl
  · refine .q rfl rfl rfl (val_move rfl) ?_
    refine .q rfl rfl rfl (val_move rfl) ?_
    refine .q rfl rfl rfl (val_nilCheck rfl) ?_
    refine .q rfl rfl rfl (val_fieldAddr rfl fa_111_2) ?_
    refine .qs rfl rfl rfl H (ld_b rfl ob_109 (.ro .here) rfl) ?_
    refine .q rfl rfl rfl (val_len Tryz.underlying109 rfl) ?_
    refine .q rfl rfl rfl (val_geq rfl rfl rfl) ?_
    refine .q rfl rfl rfl (val_pick_f rfl rfl) ?_
    refine .nil (cj ?_)
    refine .cond rfl (fun hc0 => ?_) (fun hc0 => ?_)
    · refine .seq ?_
      refine .plain rfl ?_
      refine .q rfl rfl rfl (val_assign rfl) ?_
      refine .nil (cj ?_)
      refine .ret (fret (res1 rfl rfl) ?_)
      refine hRR _ _ ⟨_, ⟨?_, rfl⟩, H.sub .nil⟩
      rfl
    · exfalso; simp at hc0; first | (simp at hs11; omega) | omega
theorem wnow_spec : Sk.Spec Tryz.prog 19 #[ptr b] [wb b x now] [] fun e F' => e = .returned (i64 now) ∧ F' = [] := by
  refine Spec.of_code (vs := [_]) (k0 := [(0, _)]) Tryz.f19.ntmps Tryz.func19 rfl Tryz.ntmps19 rfl (.cons .nil) fun w X RR hRR H => ?_
  refine .seq ?_
  refine .plain rfl ?_
  refine .q rfl rfl rfl (val_assign rfl) ?_
  refine .nil (cj ?_)
  refine .seq ?_
  refine .seq ?_
  refine .plain rfl ?_
  refine .q rfl rfl rfl (val_move rfl) ?_
  refine .q rfl rfl rfl (val_ptr_eq_nil Tryz.underlying53 rfl rfl rfl) ?_
  refine .nil (cj ?_)
  refine .cond_f rfl ?_
  refine .skip (cj ?_)
  refine .seq ?_
  refine .plain rfl ?_
  refine .q rfl rfl rfl (val_move rfl) ?_
  refine .q rfl rfl rfl (val_nilCheck rfl) ?_
  refine .q rfl rfl rfl (val_fieldAddr rfl fa_111_3) ?_
  refine .qs rfl rfl rfl H (ld_b rfl ob_3 (.ro .here) rfl) ?_
  refine .q rfl rfl rfl (val_assign rfl) ?_
  refine .nil (cj ?_)
  refine .ret (fret (res1 rfl rfl) ?_)
  refine hRR _ _ ⟨_, ⟨?_, rfl⟩, H.sub .nil⟩
  rfl
theorem sights_spec (l : List Si) (A : Option Addr) (cap : Nat) (hv : x.v = .slice A l.length cap) (hl : l.length ≤ 1000000) (hn : A = none → l.length = 0 ∧ cap = 0) : Sk.Spec Tryz.prog 18 #[ptr b] [arr A (l.flatMap encSi), wb b x now] [] fun e F' => ∃ v, e = .returned v ∧ F' = [siA v l] ∧ True := by
  obtain ⟨bg, bk, bs, br, A1, cap1, v⟩ := x
  dsimp only at hv
  subst hv
  refine Spec.of_code (vs := [_]) (k0 := [(0, _)]) 10 Tryz.func18 rfl Tryz.ntmps18 rfl (.cons .nil) fun w X RR hRR H => ?_
  refine .seq ?_
  refine .plain rfl ?_
  refine .q rfl rfl rfl (val_assign rfl) ?_
  refine .nil (cj ?_)
  refine .seq ?_
  refine .seq ?_
  refine .plain rfl ?_
  refine .q rfl rfl rfl (val_move rfl) ?_
  refine .q rfl rfl rfl (val_ptr_eq_nil Tryz.underlying53 rfl rfl rfl) ?_
  refine .nil (cj ?_)
  refine .cond_f rfl ?_
  refine .skip (cj ?_)
  refine .seq ?_
  refine .plain rfl ?_
  refine .q rfl rfl rfl (val_move rfl) ?_
  refine .q rfl rfl rfl (val_nilCheck rfl) ?_
  refine .q rfl rfl rfl (val_fieldAddr rfl fa_111_4) ?_
  refine .qs rfl rfl rfl H (ld_b rfl ob_57 (.ro (.there .here)) rfl) ?_
  refine .callx rfl rfl rfl en51 (.cons rfl .nil) (listS_spec _ _ _ hl hn) H .nil (.ro .here .nil) (fun v1 w1 C1 H1 => ⟨fun _ => trivial, ?_⟩)
  refine .q rfl rfl rfl (val_assign rfl) ?_
  refine .nil (cj ?_)
  refine .ret (fret (res1 rfl rfl) ?_)
  refine hRR _ _ ⟨_, ⟨_, rfl, rfl, trivial⟩, H1.sub (.cons .here .nil)⟩
theorem delay1_spec' {i : Nat} {a : Nat} (hq : x.br[i]? = some a) {fs : List As} {r : Rb} {g : Option Gg} (hf : fs[i]? = some (robA c a r g)) (ticks : Int) (ht : 1 ≤ ticks) : Sk.Spec Tryz.prog 20 #[ptr b, i64 (i : Int), i64 ticks] [wb b x now, raA x] [sep fs] fun e F' => e = .returned (i64 0) ∧ F' = [sep (fs.set i (robA c a (delayO r g ticks) g))] := by
  refine Spec.of_code (vs := [_, _, _]) (k0 := [(0, _), (1, _), (2, _)]) 20 Tryz.func20 rfl Tryz.ntmps20 rfl (.cons (.cons (.cons .nil))) fun w X RR hRR H => ?_
  refine .seq ?_
  refine .plain rfl ?_
  refine .q rfl rfl rfl (val_assign rfl) ?_
  refine .nil (cj ?_)
  refine .seq ?_
  refine .plain rfl ?_
  refine .q rfl rfl rfl (val_move rfl) ?_
  refine .q rfl rfl rfl (val_move rfl) ?_
  refine .call1 rfl rfl rfl en52 (.cons rfl (.cons rfl .nil)) (rob1_spec _ _ _ hq) H .nil (.ro .here (.ro (.there .here) .nil)) (fun w1 H1 => ⟨fun _ => trivial, ?_⟩)
  refine .q rfl rfl rfl (val_assign rfl) ?_
  refine .nil (cj ?_)
  refine .seq ?_
  refine .seq ?_
  refine .plain rfl ?_
  refine .q rfl rfl rfl (val_move rfl) ?_
  refine .q rfl rfl rfl (val_ptr_eq_nil Tryz.underlying30 rfl rfl rfl) ?_
  refine .q rfl rfl rfl (val_move rfl) ?_
  refine .q rfl rfl rfl (val_move rfl) ?_
  refine .q rfl rfl rfl (val_lss rfl rfl rfl) ?_
  refine .q rfl rfl rfl (val_pick_f rfl rfl) ?_
  refine .nil (cj ?_)
  refine .cond rfl (fun hc0 => ?_) (fun hc0 => ?_)
  · exfalso; simp at hc0; omega
  · refine .skip (cj ?_)
    refine .seq ?_
    refine .plain rfl ?_
    refine .q rfl rfl rfl (val_move rfl) ?_
    refine .q rfl rfl rfl (val_move rfl) ?_
    refine .call1 rfl rfl rfl en43 (.cons rfl (.cons rfl .nil)) (Spec.nth1 hf (delayA_spec _)) H1 (.cons .here .nil) .nil (fun w2 H2 => ⟨fun _ => trivial, ?_⟩)
    refine .nil (cj ?_)
    refine .seq ?_
    refine .plain rfl ?_
    refine .q rfl rfl rfl (val_assign rfl) ?_
    refine .nil (cj ?_)
    refine .ret (fret (res1 rfl rfl) ?_)
    refine hRR _ _ ⟨_, ⟨?_, rfl⟩, H2.sub (.cons .here .nil)⟩
    rfl
theorem delay2_spec' {i : Nat} {a : Nat} (hq : x.br[i]? = some a) (ticks : Int) (ht : ticks < 1) : Sk.Spec Tryz.prog 20 #[ptr b, i64 (i : Int), i64 ticks] [wb b x now, raA x] [] fun e F' => e = .returned (i64 1) ∧ F' = [] := by
  refine Spec.of_code (vs := [_, _, _]) (k0 := [(0, _), (1, _), (2, _)]) 20 Tryz.func20 rfl Tryz.ntmps20 rfl (.cons (.cons (.cons .nil))) fun w X RR hRR H => ?_
  refine .seq ?_
  refine .plain rfl ?_
  refine .q rfl rfl rfl (val_assign rfl) ?_
  refine .nil (cj ?_)
  refine .seq ?_
  refine .plain rfl ?_
  refine .q rfl rfl rfl (val_move rfl) ?_
  refine .q rfl rfl rfl (val_move rfl) ?_
  refine .call1 rfl rfl rfl en52 (.cons rfl (.cons rfl .nil)) (rob1_spec _ _ _ hq) H .nil (.ro .here (.ro (.there .here) .nil)) (fun w1 H1 => ⟨fun _ => trivial, ?_⟩)
  refine .q rfl rfl rfl (val_assign rfl) ?_
  refine .nil (cj ?_)
  refine .seq ?_
  refine .seq ?_
  refine .plain rfl ?_
  refine .q rfl rfl rfl (val_move rfl) ?_
  refine .q rfl rfl rfl (val_ptr_eq_nil Tryz.underlying30 rfl rfl rfl) ?_
  refine .q rfl rfl rfl (val_move rfl) ?_
  refine .q rfl rfl rfl (val_move rfl) ?_
  refine .q rfl rfl rfl (val_lss rfl rfl rfl) ?_
  refine .q rfl rfl rfl (val_pick_f rfl rfl) ?_
  refine .nil (cj ?_)
  refine .cond rfl (fun hc0 => ?_) (fun hc0 => ?_)
  · refine .seq ?_
    refine .plain rfl ?_
    refine .q rfl rfl rfl (val_assign rfl) ?_
    refine .nil (cj ?_)
    refine .ret (fret (res1 rfl rfl) ?_)
    refine hRR _ _ ⟨_, ⟨?_, rfl⟩, H1.sub .nil⟩
    rfl
  · exfalso; simp at hc0; omega
theorem delay3_spec' {i : Int} (hi : i < 0 ∨ (x.br.length : Int) ≤ i) (ticks : Int) : Sk.Spec Tryz.prog 20 #[ptr b, i64 i, i64 ticks] [wb b x now, raA x] [] fun e F' => e = .returned (i64 1) ∧ F' = [] := by
  refine Spec.of_code (vs := [_, _, _]) (k0 := [(0, _), (1, _), (2, _)]) 20 Tryz.func20 rfl Tryz.ntmps20 rfl (.cons (.cons (.cons .nil))) fun w X RR hRR H => ?_
  refine .seq ?_
  refine .plain rfl ?_
  refine .q rfl rfl rfl (val_assign rfl) ?_
  refine .nil (cj ?_)
  refine .seq ?_
  refine .plain rfl ?_
  refine .q rfl rfl rfl (val_move rfl) ?_
  refine .q rfl rfl rfl (val_move rfl) ?_
  refine .call1 rfl rfl rfl en52 (.cons rfl (.cons rfl .nil)) (rob0_spec _ _ _ hi) H .nil (.ro .here (.ro (.there .here) .nil)) (fun w1 H1 => ⟨fun _ => trivial, ?_⟩)
  refine .q rfl rfl rfl (val_assign rfl) ?_
  refine .nil (cj ?_)
  refine .seq ?_
  refine .seq ?_
  refine .plain rfl ?_
  refine .q rfl rfl rfl (val_move rfl) ?_
  refine .q rfl rfl rfl (val_ptr_eq_nil Tryz.underlying30 rfl rfl rfl) ?_
  refine .q rfl rfl rfl (val_move rfl) ?_
  refine .no rfl rfl rfl ?_
  refine .no rfl rfl rfl ?_
  refine .q rfl rfl rfl (val_pick_t rfl rfl) ?_
  refine .nil (cj ?_)
  refine .cond_t rfl ?_
  refine .seq ?_
  refine .plain rfl ?_
  refine .q rfl rfl rfl (val_assign rfl) ?_
  refine .nil (cj ?_)
  refine .ret (fret (res1 rfl rfl) ?_)
  refine hRR _ _ ⟨_, ⟨?_, rfl⟩, H1.sub .nil⟩
  rfl
end
end Go.Proofs.YtmbibkifbehgnaaGreatDoor
