/- GenMany: the law's function returns true for every input, and what came in reads as before; without conditions. This text: part 4 of 6 of the proof. -/
import Derived.Test.YthcndflaijcghaaGreatX3

/- Rules, printed by sym.py. -/
namespace Am
open Go Go.Proofs
set_option maxRecDepth 100000
/- selvage/gen.kid -/
noncomputable abbrev PF20 := Tryz.f21

theorem p20 : AA.prim F20 = none := by kernel_rfl
theorem a20 : AA.alone F20 = true := by kernel_rfl

theorem w20 {n1 : Int} {n2 : Int} {s3 : ByteArray} {l4 : List D} {n5 : Int} {l6 : List D} {l7 : List D} {l8 : List D} {l9 : List D} {n10 : Int} {Q : V → Prop}
    (h0 : ((n10 < ((l4.length : Nat) : Int) → ((0 : Int) ≤ n10 ∧ (∃ (n11 : Int) (n12 : Int) (s13 : ByteArray) (l14 : List D) (n15 : Int) (l16 : List D) (l17 : List D) (l18 : List D) (l19 : List D), l4[(Int.toNat n10)]? = some (.agg [dI n11, dI n12, dS s13, .slice 9 l14, dI n15, .slice 0 l16, .slice 6 l17, .slice 4 l18, .slice 0 l19]) ∧ Q (.s 9 (.agg [dI n11, dI n12, dS s13, .slice 9 l14, dI n15, .slice 0 l16, .slice 6 l17, .slice 4 l18, .slice 0 l19]))))) ∧ (((l4.length : Nat) : Int) ≤ n10 → Q (.s 9 (.agg [dI 0, dI 0, dS (mkStr []), .slice 9 ([]), dI 0, .slice 0 ([]), .slice 6 ([]), .slice 4 ([]), .slice 0 ([])]))))) :
    Wa PP AA F20 [.s 9 (.agg [dI n1, dI n2, dS s3, .slice 9 l4, dI n5, .slice 0 l6, .slice 6 l7, .slice 4 l8, .slice 0 l9]), vI n10] Q := by
  rcases icase n10 (((l4.length : Nat) : Int)) with q0f | q0f
  · replace h0 := h0.1 q0f
    obtain ⟨q1, h0⟩ := h0
    obtain ⟨n11, n12, s13, l14, n15, l16, l17, l18, l19, q2, h0⟩ := h0
    exact ent_retA (fs := [tg q0f, rd q1, fd q2]) (h' := Heap.none) p20 a20 (by kernel_rfl) (by kernel_rfl) (by kernel_rfl) h0
  · replace h0 := h0.2 q0f
    exact ent_retA (fs := [tt q0f]) (h' := Heap.none) p20 a20 (by kernel_rfl) (by kernel_rfl) (by kernel_rfl) h0

/- (*selvage/gen.writer).kids -/
noncomputable abbrev PF21 := Tryz.f22

noncomputable def f21_K1 : List It := [.lp (cdAt (codeOf PF21) [1, 1, 0, 0]), .blk 0]

noncomputable def f21_S1 (p1_1 : Nat) (p1_2 : List D) (p1_3 : Int) (p1_4 : Int) (p1_5 : Heap) : St :=
  { nt := 17, tm := [(0, .ptr (.he p1_1 0) 0 2 0), (7, .d (.slice 9 p1_2)), (8, vI p1_3), (9, vI p1_4)], lo := [], hp := p1_5 }

theorem p21 : AA.prim F21 = none := by kernel_rfl
theorem a21 : AA.alone F21 = false := by kernel_rfl

theorem w21 {i1 : Nat} {n2 : Int} {n3 : Int} {s4 : ByteArray} {l5 : List D} {n6 : Int} {l7 : List D} {l8 : List D} {l9 : List D} {l10 : List D} {h11 : Heap} {Q : V → Heap → Prop}
    (h0 : Wl PP AA F21 f21_K1 (f21_S1 i1 l5 (((l5.length : Nat) : Int)) 0 h11) Q) :
    Wc PP AA F21 [.ptr (.he i1 0) 0 2 0, .s 9 (.agg [dI n2, dI n3, dS s4, .slice 9 l5, dI n6, .slice 0 l7, .slice 6 l8, .slice 4 l9, .slice 0 l10])] h11 Q := by
  exact ent_at (fs := []) p21 a21 (by kernel_rfl) h0

theorem w21_1 {p1_1 : Nat} {p1_2 : List D} {p1_3 : Int} {p1_4 : Int} {p1_5 : Heap} {Q : V → Heap → Prop}
    (h0 : ((p1_4 < p1_3 → ((0 : Int) ≤ p1_4 ∧ (∃ (nr11 : Int) (nr12 : Int) (sr13 : ByteArray) (lr14 : List D) (nr15 : Int) (lr16 : List D) (lr17 : List D) (lr18 : List D) (lr19 : List D), p1_2[(Int.toNat p1_4)]? = some (.agg [dI nr11, dI nr12, dS sr13, .slice 9 lr14, dI nr15, .slice 0 lr16, .slice 6 lr17, .slice 4 lr18, .slice 0 lr19]) ∧ (Wc PP AA F8 [.ptr (.he p1_1 0) 0 2 0, .s 9 (.agg [dI nr11, dI nr12, dS sr13, .slice 9 lr14, dI nr15, .slice 0 lr16, .slice 6 lr17, .slice 4 lr18, .slice 0 lr19]), vBool false] p1_5 fun v Hr110 => v = .tuple [] ∧ Wl PP AA F21 f21_K1 (f21_S1 p1_1 p1_2 p1_3 ((W (p1_4 + 1))) Hr110) Q)))) ∧ (p1_3 ≤ p1_4 → Q (.tuple []) p1_5))) :
    Wl PP AA F21 f21_K1 (f21_S1 p1_1 p1_2 p1_3 p1_4 p1_5) Q := by
  rcases icase p1_4 p1_3 with q0f | q0f
  · replace h0 := h0.1 q0f
    obtain ⟨q1, h0⟩ := h0
    obtain ⟨nr11, nr12, sr13, lr14, nr15, lr16, lr17, lr18, lr19, q2, h0⟩ := h0
    obtain ⟨v, Hr110, r3, e, h0⟩ := h0
    subst e
    exact lp_at (fs := [tt q0f, rd q1, fd q2, fr r3]) (by kernel_rfl) h0
  · replace h0 := h0.2 q0f
    exact lp_ret (fs := [tl q0f]) (by kernel_rfl) h0

/- (*selvage/gen.writer).rest -/
noncomputable abbrev PF23 := Tryz.f24

theorem p23 : AA.prim F23 = none := by kernel_rfl
theorem a23 : AA.alone F23 = false := by kernel_rfl

theorem w23 {i1 : Nat} {n2 : Int} {n3 : Int} {s4 : ByteArray} {l5 : List D} {n6 : Int} {l7 : List D} {l8 : List D} {l9 : List D} {l10 : List D} {h11 : Heap} {Q : V → Heap → Prop}
    (h0 : (Wc PP AA F21 [.ptr (.he i1 0) 0 2 0, .s 9 (.agg [dI n2, dI n3, dS s4, .slice 9 l5, dI n6, .slice 0 l7, .slice 6 l8, .slice 4 l9, .slice 0 l10])] h11 fun v H12 => v = .tuple [] ∧ ((n2 = 16 → (Wc PP AA F16 [.ptr (.he i1 0) 0 2 0, vI 24, .d (.slice 0 ([]))] H12 fun v H14 => ∃ (n13 : Int), v = vI n13 ∧ Q (.tuple []) H14)) ∧ (n2 ≠ 16 → ((n2 = 17 → (Wc PP AA F16 [.ptr (.he i1 0) 0 2 0, vI 23, .d (.slice 0 ([]))] H12 fun v H14 => ∃ (n13 : Int), v = vI n13 ∧ Q (.tuple []) H14)) ∧ (n2 ≠ 17 → ((n2 = 18 → (Wc PP AA F16 [.ptr (.he i1 0) 0 2 0, vI 25, .d (.slice 0 ([]))] H12 fun v H14 => ∃ (n13 : Int), v = vI n13 ∧ Q (.tuple []) H14)) ∧ (n2 ≠ 18 → ((n2 = 22 → (Wc PP AA F16 [.ptr (.he i1 0) 0 2 0, vI 31, .d (.slice 0 ([]))] H12 fun v H14 => ∃ (n13 : Int), v = vI n13 ∧ Q (.tuple []) H14)) ∧ (n2 ≠ 22 → ((n2 = 23 → (Wc PP AA F16 [.ptr (.he i1 0) 0 2 0, vI 32, .d (.slice 0 ([]))] H12 fun v H14 => ∃ (n13 : Int), v = vI n13 ∧ Q (.tuple []) H14)) ∧ (n2 ≠ 23 → ((n2 = 24 → (Wc PP AA F16 [.ptr (.he i1 0) 0 2 0, vI 33, .d (.slice 0 ([]))] H12 fun v H14 => ∃ (n13 : Int), v = vI n13 ∧ Q (.tuple []) H14)) ∧ (n2 ≠ 24 → ((n2 = 20 → (Wc PP AA F16 [.ptr (.he i1 0) 0 2 0, vI 30, .d (.slice 0 ([]))] H12 fun v H14 => ∃ (n13 : Int), v = vI n13 ∧ Q (.tuple []) H14)) ∧ (n2 ≠ 20 → ((n2 = 5 → (Wc PP AA F16 [.ptr (.he i1 0) 0 2 0, vI 5, .d (.slice 0 ([]))] H12 fun v H14 => ∃ (n13 : Int), v = vI n13 ∧ Q (.tuple []) H14)) ∧ (n2 ≠ 5 → (findKey (.int .i64 n2) cK39 cL39 = some none ∧ ((n2 = 3 → (Wc PP AA F16 [.ptr (.he i1 0) 0 2 0, vI 3, .d (.slice 0 ([dI n3]))] H12 fun v H14 => ∃ (n13 : Int), v = vI n13 ∧ Q (.tuple []) H14)) ∧ (n2 ≠ 3 → ((n2 = 4 → (Wc PP AA F16 [.ptr (.he i1 0) 0 2 0, vI 4, .d (.slice 0 ([dI n3]))] H12 fun v H14 => ∃ (n13 : Int), v = vI n13 ∧ Q (.tuple []) H14)) ∧ (n2 ≠ 4 → ((n2 = 6 → (Wc PP AA F16 [.ptr (.he i1 0) 0 2 0, vI 6, .d (.slice 0 ([dI n3]))] H12 fun v H14 => ∃ (n13 : Int), v = vI n13 ∧ Q (.tuple []) H14)) ∧ (n2 ≠ 6 → ((n2 = 25 → (Wc PP AA F16 [.ptr (.he i1 0) 0 2 0, vI 8, .d (.slice 0 ([dI n3]))] H12 fun v H14 => ∃ (n13 : Int), v = vI n13 ∧ Q (.tuple []) H14)) ∧ (n2 ≠ 25 → (findKey (.int .i64 n2) cK40 cL40 = some none ∧ ((n2 = 7 → (Wc PP AA F16 [.ptr (.he i1 0) 0 2 0, vI 10, .d (.slice 0 ([dI n3, dI ((l5.length : Nat) : Int)]))] H12 fun v H14 => ∃ (n13 : Int), v = vI n13 ∧ Q (.tuple []) H14)) ∧ (n2 ≠ 7 → ((n2 = 8 → (Wc PP AA F16 [.ptr (.he i1 0) 0 2 0, vI 11, .d (.slice 0 ([dI n3, dI ((l5.length : Nat) : Int)]))] H12 fun v H14 => ∃ (n13 : Int), v = vI n13 ∧ Q (.tuple []) H14)) ∧ (n2 ≠ 8 → (findKey (.int .i64 n2) cK41 ([vI 10, vI 11]) = some none ∧ (Wc PP AA F16 [.ptr (.he i1 0) 0 2 0, vI 0, .d (.slice 0 ([dI n3, dI ((l5.length : Nat) : Int)]))] H12 fun v H14 => ∃ (n13 : Int), v = vI n13 ∧ Q (.tuple []) H14)))))))))))))))))))))))))))))))))) :
    Wc PP AA F23 [.ptr (.he i1 0) 0 2 0, .s 9 (.agg [dI n2, dI n3, dS s4, .slice 9 l5, dI n6, .slice 0 l7, .slice 6 l8, .slice 4 l9, .slice 0 l10])] h11 Q := by
  obtain ⟨v, H12, r0, e, h0⟩ := h0
  subst e
  rcases Classical.em (n2 = 16) with e | q2k0f
  · replace h0 := h0.1 e
    subst e
    obtain ⟨v, H14, r6, n13, e, h0⟩ := h0
    subst e
    exact ent_ret (fs := [fr r0, fr (cl39 H12 : RC PP AA F39 [] H12 (.mapv cK39 cL39) H12), fw (rfl : findKey (.int .i64 16) cK39 cL39 = some (some (vI 24))), bT, fr (cl39 H12 : RC PP AA F39 [] H12 (.mapv cK39 cL39) H12), fw (rfl : findKey (.int .i64 16) cK39 cL39 = some (some (vI 24))), fr r6]) p23 a23 (by kernel_rfl) h0
  · replace h0 := h0.2 q2k0f
    rcases Classical.em (n2 = 17) with e | q2k1f
    · replace h0 := h0.1 e
      subst e
      obtain ⟨v, H14, r6, n13, e, h0⟩ := h0
      subst e
      exact ent_ret (fs := [fr r0, fr (cl39 H12 : RC PP AA F39 [] H12 (.mapv cK39 cL39) H12), fw (rfl : findKey (.int .i64 17) cK39 cL39 = some (some (vI 23))), bT, fr (cl39 H12 : RC PP AA F39 [] H12 (.mapv cK39 cL39) H12), fw (rfl : findKey (.int .i64 17) cK39 cL39 = some (some (vI 23))), fr r6]) p23 a23 (by kernel_rfl) h0
    · replace h0 := h0.2 q2k1f
      rcases Classical.em (n2 = 18) with e | q2k2f
      · replace h0 := h0.1 e
        subst e
        obtain ⟨v, H14, r6, n13, e, h0⟩ := h0
        subst e
        exact ent_ret (fs := [fr r0, fr (cl39 H12 : RC PP AA F39 [] H12 (.mapv cK39 cL39) H12), fw (rfl : findKey (.int .i64 18) cK39 cL39 = some (some (vI 25))), bT, fr (cl39 H12 : RC PP AA F39 [] H12 (.mapv cK39 cL39) H12), fw (rfl : findKey (.int .i64 18) cK39 cL39 = some (some (vI 25))), fr r6]) p23 a23 (by kernel_rfl) h0
      · replace h0 := h0.2 q2k2f
        rcases Classical.em (n2 = 22) with e | q2k3f
        · replace h0 := h0.1 e
          subst e
          obtain ⟨v, H14, r6, n13, e, h0⟩ := h0
          subst e
          exact ent_ret (fs := [fr r0, fr (cl39 H12 : RC PP AA F39 [] H12 (.mapv cK39 cL39) H12), fw (rfl : findKey (.int .i64 22) cK39 cL39 = some (some (vI 31))), bT, fr (cl39 H12 : RC PP AA F39 [] H12 (.mapv cK39 cL39) H12), fw (rfl : findKey (.int .i64 22) cK39 cL39 = some (some (vI 31))), fr r6]) p23 a23 (by kernel_rfl) h0
        · replace h0 := h0.2 q2k3f
          rcases Classical.em (n2 = 23) with e | q2k4f
          · replace h0 := h0.1 e
            subst e
            obtain ⟨v, H14, r6, n13, e, h0⟩ := h0
            subst e
            exact ent_ret (fs := [fr r0, fr (cl39 H12 : RC PP AA F39 [] H12 (.mapv cK39 cL39) H12), fw (rfl : findKey (.int .i64 23) cK39 cL39 = some (some (vI 32))), bT, fr (cl39 H12 : RC PP AA F39 [] H12 (.mapv cK39 cL39) H12), fw (rfl : findKey (.int .i64 23) cK39 cL39 = some (some (vI 32))), fr r6]) p23 a23 (by kernel_rfl) h0
          · replace h0 := h0.2 q2k4f
            rcases Classical.em (n2 = 24) with e | q2k5f
            · replace h0 := h0.1 e
              subst e
              obtain ⟨v, H14, r6, n13, e, h0⟩ := h0
              subst e
              exact ent_ret (fs := [fr r0, fr (cl39 H12 : RC PP AA F39 [] H12 (.mapv cK39 cL39) H12), fw (rfl : findKey (.int .i64 24) cK39 cL39 = some (some (vI 33))), bT, fr (cl39 H12 : RC PP AA F39 [] H12 (.mapv cK39 cL39) H12), fw (rfl : findKey (.int .i64 24) cK39 cL39 = some (some (vI 33))), fr r6]) p23 a23 (by kernel_rfl) h0
            · replace h0 := h0.2 q2k5f
              rcases Classical.em (n2 = 20) with e | q2k6f
              · replace h0 := h0.1 e
                subst e
                obtain ⟨v, H14, r6, n13, e, h0⟩ := h0
                subst e
                exact ent_ret (fs := [fr r0, fr (cl39 H12 : RC PP AA F39 [] H12 (.mapv cK39 cL39) H12), fw (rfl : findKey (.int .i64 20) cK39 cL39 = some (some (vI 30))), bT, fr (cl39 H12 : RC PP AA F39 [] H12 (.mapv cK39 cL39) H12), fw (rfl : findKey (.int .i64 20) cK39 cL39 = some (some (vI 30))), fr r6]) p23 a23 (by kernel_rfl) h0
              · replace h0 := h0.2 q2k6f
                rcases Classical.em (n2 = 5) with e | q2k7f
                · replace h0 := h0.1 e
                  subst e
                  obtain ⟨v, H14, r6, n13, e, h0⟩ := h0
                  subst e
                  exact ent_ret (fs := [fr r0, fr (cl39 H12 : RC PP AA F39 [] H12 (.mapv cK39 cL39) H12), fw (rfl : findKey (.int .i64 5) cK39 cL39 = some (some (vI 5))), bT, fr (cl39 H12 : RC PP AA F39 [] H12 (.mapv cK39 cL39) H12), fw (rfl : findKey (.int .i64 5) cK39 cL39 = some (some (vI 5))), fr r6]) p23 a23 (by kernel_rfl) h0
                · replace h0 := h0.2 q2k7f
                  obtain ⟨q2, h0⟩ := h0
                  rcases Classical.em (n2 = 3) with e | q5k0f
                  · replace h0 := h0.1 e
                    subst e
                    obtain ⟨v, H14, r9, n13, e, h0⟩ := h0
                    subst e
                    exact ent_ret (fs := [fr r0, fr (cl39 H12 : RC PP AA F39 [] H12 (.mapv cK39 cL39) H12), fw (rfl : findKey (.int .i64 3) cK39 cL39 = some none), bF, fr (cl40 H12 : RC PP AA F40 [] H12 (.mapv cK40 cL40) H12), fw (rfl : findKey (.int .i64 3) cK40 cL40 = some (some (vI 3))), bT, fr (cl40 H12 : RC PP AA F40 [] H12 (.mapv cK40 cL40) H12), fw (rfl : findKey (.int .i64 3) cK40 cL40 = some (some (vI 3))), fr r9]) p23 a23 (by kernel_rfl) h0
                  · replace h0 := h0.2 q5k0f
                    rcases Classical.em (n2 = 4) with e | q5k1f
                    · replace h0 := h0.1 e
                      subst e
                      obtain ⟨v, H14, r9, n13, e, h0⟩ := h0
                      subst e
                      exact ent_ret (fs := [fr r0, fr (cl39 H12 : RC PP AA F39 [] H12 (.mapv cK39 cL39) H12), fw (rfl : findKey (.int .i64 4) cK39 cL39 = some none), bF, fr (cl40 H12 : RC PP AA F40 [] H12 (.mapv cK40 cL40) H12), fw (rfl : findKey (.int .i64 4) cK40 cL40 = some (some (vI 4))), bT, fr (cl40 H12 : RC PP AA F40 [] H12 (.mapv cK40 cL40) H12), fw (rfl : findKey (.int .i64 4) cK40 cL40 = some (some (vI 4))), fr r9]) p23 a23 (by kernel_rfl) h0
                    · replace h0 := h0.2 q5k1f
                      rcases Classical.em (n2 = 6) with e | q5k2f
                      · replace h0 := h0.1 e
                        subst e
                        obtain ⟨v, H14, r9, n13, e, h0⟩ := h0
                        subst e
                        exact ent_ret (fs := [fr r0, fr (cl39 H12 : RC PP AA F39 [] H12 (.mapv cK39 cL39) H12), fw (rfl : findKey (.int .i64 6) cK39 cL39 = some none), bF, fr (cl40 H12 : RC PP AA F40 [] H12 (.mapv cK40 cL40) H12), fw (rfl : findKey (.int .i64 6) cK40 cL40 = some (some (vI 6))), bT, fr (cl40 H12 : RC PP AA F40 [] H12 (.mapv cK40 cL40) H12), fw (rfl : findKey (.int .i64 6) cK40 cL40 = some (some (vI 6))), fr r9]) p23 a23 (by kernel_rfl) h0
                      · replace h0 := h0.2 q5k2f
                        rcases Classical.em (n2 = 25) with e | q5k3f
                        · replace h0 := h0.1 e
                          subst e
                          obtain ⟨v, H14, r9, n13, e, h0⟩ := h0
                          subst e
                          exact ent_ret (fs := [fr r0, fr (cl39 H12 : RC PP AA F39 [] H12 (.mapv cK39 cL39) H12), fw (rfl : findKey (.int .i64 25) cK39 cL39 = some none), bF, fr (cl40 H12 : RC PP AA F40 [] H12 (.mapv cK40 cL40) H12), fw (rfl : findKey (.int .i64 25) cK40 cL40 = some (some (vI 8))), bT, fr (cl40 H12 : RC PP AA F40 [] H12 (.mapv cK40 cL40) H12), fw (rfl : findKey (.int .i64 25) cK40 cL40 = some (some (vI 8))), fr r9]) p23 a23 (by kernel_rfl) h0
                        · replace h0 := h0.2 q5k3f
                          obtain ⟨q5, h0⟩ := h0
                          rcases Classical.em (n2 = 7) with e | q8k0f
                          · replace h0 := h0.1 e
                            subst e
                            obtain ⟨v, H14, r9, n13, e, h0⟩ := h0
                            subst e
                            exact ent_ret (fs := [fr r0, fr (cl39 H12 : RC PP AA F39 [] H12 (.mapv cK39 cL39) H12), fw (rfl : findKey (.int .i64 7) cK39 cL39 = some none), bF, fr (cl40 H12 : RC PP AA F40 [] H12 (.mapv cK40 cL40) H12), fw (rfl : findKey (.int .i64 7) cK40 cL40 = some none), bF, fr (cl41 H12 : RC PP AA F41 [] H12 (.mapv cK41 ([vI 10, vI 11])) H12), fw (rfl : findKey (.int .i64 7) cK41 ([vI 10, vI 11]) = some (some (vI 10))), fr r9]) p23 a23 (by kernel_rfl) h0
                          · replace h0 := h0.2 q8k0f
                            rcases Classical.em (n2 = 8) with e | q8k1f
                            · replace h0 := h0.1 e
                              subst e
                              obtain ⟨v, H14, r9, n13, e, h0⟩ := h0
                              subst e
                              exact ent_ret (fs := [fr r0, fr (cl39 H12 : RC PP AA F39 [] H12 (.mapv cK39 cL39) H12), fw (rfl : findKey (.int .i64 8) cK39 cL39 = some none), bF, fr (cl40 H12 : RC PP AA F40 [] H12 (.mapv cK40 cL40) H12), fw (rfl : findKey (.int .i64 8) cK40 cL40 = some none), bF, fr (cl41 H12 : RC PP AA F41 [] H12 (.mapv cK41 ([vI 10, vI 11])) H12), fw (rfl : findKey (.int .i64 8) cK41 ([vI 10, vI 11]) = some (some (vI 11))), fr r9]) p23 a23 (by kernel_rfl) h0
                            · replace h0 := h0.2 q8k1f
                              obtain ⟨q8, h0⟩ := h0
                              obtain ⟨v, H14, r9, n13, e, h0⟩ := h0
                              subst e
                              exact ent_ret (fs := [fr r0, fr (cl39 H12 : RC PP AA F39 [] H12 (.mapv cK39 cL39) H12), fw q2, bF, fr (cl40 H12 : RC PP AA F40 [] H12 (.mapv cK40 cL40) H12), fw q5, bF, fr (cl41 H12 : RC PP AA F41 [] H12 (.mapv cK41 ([vI 10, vI 11])) H12), fw q8, fr r9]) p23 a23 (by kernel_rfl) h0

/- slices.Contains[[]int,int] -/
noncomputable abbrev PF24 := Tryz.f25

theorem p24 : AA.prim F24 = none := by kernel_rfl
theorem a24 : AA.alone F24 = true := by kernel_rfl

theorem w24 {l1 : List D} {n2 : Int} {Q : V → Prop}
    (h0 : (Wa PP AA F35 [.d (.slice 0 l1), vI n2] fun v => ∃ (n3 : Int), v = vI n3 ∧ Q (vBool (decide (n3 ≥ 0))))) :
    Wa PP AA F24 [.d (.slice 0 l1), vI n2] Q := by
  obtain ⟨v, r0, n3, e, h0⟩ := h0
  subst e
  exact ent_retA (fs := [fr (r0 Heap.none)]) (h' := Heap.none) p24 a24 (by kernel_rfl) (by kernel_rfl) (by kernel_rfl) h0

/- slices.IndexFunc[[]selvage/api.Instr,selvage/api.Instr] -/
noncomputable abbrev PF25 := Tryz.f26

noncomputable def f25_K1 : List It := [.lp (cdAt (codeOf PF25) [1, 0, 1, 0, 0]), .blk 0, .c (cdAt (codeOf PF25) [1, 1])]

noncomputable def f25_S1 (p1_1 : List D) (p1_2 : Nat) (p1_3 : Int) (p1_4 : Int) (p1_5 : Heap) : St :=
  { nt := 19, tm := [(0, .d (.slice 3 p1_1)), (1, .fn (.func p1_2) [] []), (7, vI p1_3), (8, vI p1_4)], lo := [], hp := p1_5 }

theorem p25 : AA.prim F25 = none := by kernel_rfl
theorem a25 : AA.alone F25 = false := by kernel_rfl

theorem w25 {l1 : List D} {f2 : Nat} {h3 : Heap} {Q : V → Heap → Prop}
    (h0 : Wl PP AA F25 f25_K1 (f25_S1 l1 f2 (((l1.length : Nat) : Int)) 0 h3) Q) :
    Wc PP AA F25 [.d (.slice 3 l1), .fn (.func f2) [] []] h3 Q := by
  exact ent_at (fs := []) p25 a25 (by kernel_rfl) h0

theorem w25_1 {p1_1 : List D} {p1_2 : Nat} {p1_3 : Int} {p1_4 : Int} {p1_5 : Heap} {Q : V → Heap → Prop}
    (h0 : ((p1_4 < p1_3 → ((0 : Int) ≤ p1_4 ∧ (∃ (nr11 : Int) (nr12 : Int) (nr13 : Int), p1_1[(Int.toNat p1_4)]? = some (.agg [dI nr11, dI nr12, dI nr13]) ∧ (Wa PP AA p1_2 [.s 3 (.agg [dI nr11, dI nr12, dI nr13])] fun v => ∃ (br14 : Bool), v = vBool br14 ∧ ((br14 = true → Q (vI p1_4) p1_5) ∧ (br14 = false → Wl PP AA F25 f25_K1 (f25_S1 p1_1 p1_2 p1_3 ((W (p1_4 + 1))) p1_5) Q)))))) ∧ (p1_3 ≤ p1_4 → Q (vI (-1)) p1_5))) :
    Wl PP AA F25 f25_K1 (f25_S1 p1_1 p1_2 p1_3 p1_4 p1_5) Q := by
  rcases icase p1_4 p1_3 with q0f | q0f
  · replace h0 := h0.1 q0f
    obtain ⟨q1, h0⟩ := h0
    obtain ⟨nr11, nr12, nr13, q2, h0⟩ := h0
    obtain ⟨v, r3, br14, e, h0⟩ := h0
    subst e
    rcases bcase br14 with e | e
    · replace h0 := h0.1 e
      subst e
      exact lp_ret (fs := [tt q0f, rd q1, fd q2, fr (r3 p1_5), bT]) (by kernel_rfl) h0
    · replace h0 := h0.2 e
      subst e
      exact lp_at (fs := [tt q0f, rd q1, fd q2, fr (r3 p1_5), bF]) (by kernel_rfl) h0
  · replace h0 := h0.2 q0f
    exact lp_ret (fs := [tl q0f]) (by kernel_rfl) h0

noncomputable def f25h_K1 : List It := [.lp (cdAt (codeOf PF25) [1, 0, 1, 0, 0]), .blk 0, .c (cdAt (codeOf PF25) [1, 1])]

noncomputable def f25h_S1 (p1_1 : Nat) (p1_2 : Nat) (p1_3 : Nat) (p1_4 : Int) (p1_5 : Int) (p1_6 : Heap) : St :=
  { nt := 19, tm := [(0, .sl (.he p1_1 p1_2) 3 none), (1, .fn (.func p1_3) [] []), (7, vI p1_4), (8, vI p1_5)], lo := [], hp := p1_6 }

theorem w25h {c1 : Nat} {g2 : Nat} {f3 : Nat} {h4 : Heap} {Q : V → Heap → Prop}
    (h0 : (∃ (l5 : List D), hpAt h4 c1 g2 = some (.darr g2 3 l5) ∧ Wl PP AA F25 f25h_K1 (f25h_S1 c1 g2 f3 (((l5.length : Nat) : Int)) 0 h4) Q)) :
    Wc PP AA F25 [.sl (.he c1 g2) 3 none, .fn (.func f3) [] []] h4 Q := by
  obtain ⟨l5, q0, h0⟩ := h0
  exact ent_at (fs := [fo q0]) p25 a25 (by kernel_rfl) h0

theorem w25h_1 {p1_1 : Nat} {p1_2 : Nat} {p1_3 : Nat} {p1_4 : Int} {p1_5 : Int} {p1_6 : Heap} {Q : V → Heap → Prop}
    (h0 : ((p1_5 < p1_4 → ((0 : Int) ≤ p1_5 ∧ (∃ (lr11 : List D), hpAt p1_6 p1_1 p1_2 = some (.darr p1_2 3 lr11) ∧ ((Int.toNat p1_5) < lr11.length ∧ (∃ (nr12 : Int) (nr13 : Int) (nr14 : Int), lr11[(Int.toNat p1_5)]? = some (.agg [dI nr12, dI nr13, dI nr14]) ∧ (Wa PP AA p1_3 [.s 3 (.agg [dI nr12, dI nr13, dI nr14])] fun v => ∃ (br15 : Bool), v = vBool br15 ∧ ((br15 = true → Q (vI p1_5) p1_6) ∧ (br15 = false → Wl PP AA F25 f25h_K1 (f25h_S1 p1_1 p1_2 p1_3 p1_4 ((W (p1_5 + 1))) p1_6) Q)))))))) ∧ (p1_4 ≤ p1_5 → Q (vI (-1)) p1_6))) :
    Wl PP AA F25 f25h_K1 (f25h_S1 p1_1 p1_2 p1_3 p1_4 p1_5 p1_6) Q := by
  rcases icase p1_5 p1_4 with q0f | q0f
  · replace h0 := h0.1 q0f
    obtain ⟨q1, h0⟩ := h0
    obtain ⟨lr11, q2, h0⟩ := h0
    obtain ⟨q3, h0⟩ := h0
    obtain ⟨nr12, nr13, nr14, q5, h0⟩ := h0
    obtain ⟨v, r6, br15, e, h0⟩ := h0
    subst e
    rcases bcase br15 with e | e
    · replace h0 := h0.1 e
      subst e
      exact lp_ret (fs := [tt q0f, rd q1, fo q2, rt (Nat.ble_eq_true_of_le q3), fo q2, fd q5, fr (r6 p1_6), bT]) (by kernel_rfl) h0
    · replace h0 := h0.2 e
      subst e
      exact lp_at (fs := [tt q0f, rd q1, fo q2, rt (Nat.ble_eq_true_of_le q3), fo q2, fd q5, fr (r6 p1_6), bF]) (by kernel_rfl) h0
  · replace h0 := h0.2 q0f
    exact lp_ret (fs := [tl q0f]) (by kernel_rfl) h0

/- selvage/code.May -/
noncomputable abbrev PF26 := Tryz.f27

theorem p26 : AA.prim F26 = none := by kernel_rfl
theorem a26 : AA.alone F26 = true := by kernel_rfl

theorem w26 {l1 : List D} {l2 : List D} {l3 : List D} {n4 : Int} {Q : V → Prop}
    (h0 : (Wa PP AA F42 [vI ((l1.length : Nat) : Int), vI 1, vI 120] fun v => ∃ (b5 : Bool), v = vBool b5 ∧ ((b5 = true → (((120 : Int) < ((l2.length : Nat) : Int) → Q (vBool false)) ∧ (((l2.length : Nat) : Int) ≤ 120 → (((120 : Int) < ((l3.length : Nat) : Int) → Q (vBool false)) ∧ (((l3.length : Nat) : Int) ≤ 120 → (Wa PP AA F42 [vI n4, vI 0, vI 60] fun v => ∃ (b6 : Bool), v = vBool b6 ∧ ((b6 = true → (Wa PP AA F43 [.d (.slice 4 l1), .fn (.func F44) [] []] fun v => ∃ (b7 : Bool), v = vBool b7 ∧ ((b7 = true → Q (vBool false)) ∧ (b7 = false → (Wa PP AA F45 [.d (.slice 0 l2), .fn (.func F46) [] []] fun v => ∃ (b8 : Bool), v = vBool b8 ∧ ((b8 = true → Q (vBool false)) ∧ (b8 = false → (Wa PP AA F47 [.d (.slice 0 l3), .fn (.func F48) [] []] fun v => ∃ (b9 : Bool), v = vBool b9 ∧ Q (vBool (!b9)))))))))) ∧ (b6 = false → Q (vBool false))))))))) ∧ (b5 = false → Q (vBool false))))) :
    Wa PP AA F26 [.s 4 (.agg [.slice 4 l1, .slice 0 l2, .slice 0 l3, dI n4])] Q := by
  obtain ⟨v, r0, b5, e, h0⟩ := h0
  subst e
  rcases bcase b5 with e | e
  · replace h0 := h0.1 e
    subst e
    rcases icase 120 (((l2.length : Nat) : Int)) with q6f | q6f
    · replace h0 := h0.1 q6f
      exact ent_retA (fs := [fr (r0 Heap.none), bT, bT, bT, bT, bT, tg q6f, tg q6f, tg q6f, tg q6f, tg q6f, bF, bF, bF, bF, bF, bF, bF, bF, bF, bF, bF, bF, bF, bF, bF, bF, bF, bF, bF]) (h' := Heap.none) p26 a26 (by kernel_rfl) (by kernel_rfl) (by kernel_rfl) h0
    · replace h0 := h0.2 q6f
      rcases icase 120 (((l3.length : Nat) : Int)) with q11f | q11f
      · replace h0 := h0.1 q11f
        exact ent_retA (fs := [fr (r0 Heap.none), bT, bT, bT, bT, bT, tt q6f, tt q6f, tt q6f, tt q6f, tt q6f, tg q11f, tg q11f, tg q11f, tg q11f, bF, bF, bF, bF, bF, bF, bF, bF, bF, bF, bF, bF, bF, bF, bF]) (h' := Heap.none) p26 a26 (by kernel_rfl) (by kernel_rfl) (by kernel_rfl) h0
      · replace h0 := h0.2 q11f
        obtain ⟨v, r14, b6, e, h0⟩ := h0
        subst e
        rcases bcase b6 with e | e
        · replace h0 := h0.1 e
          subst e
          obtain ⟨v, r19, b7, e, h0⟩ := h0
          subst e
          rcases bcase b7 with e | e
          · replace h0 := h0.1 e
            subst e
            exact ent_retA (fs := [fr (r0 Heap.none), bT, bT, bT, bT, bT, tt q6f, tt q6f, tt q6f, tt q6f, tt q6f, tt q11f, tt q11f, tt q11f, fr (r14 Heap.none), tt q11f, bT, bT, bT, fr (r19 Heap.none), bT, bT, bF, bF, bF, bF, bF, bF, bF, bF, bF, bF]) (h' := Heap.none) p26 a26 (by kernel_rfl) (by kernel_rfl) (by kernel_rfl) h0
          · replace h0 := h0.2 e
            subst e
            obtain ⟨v, r25, b8, e, h0⟩ := h0
            subst e
            rcases bcase b8 with e | e
            · replace h0 := h0.1 e
              subst e
              exact ent_retA (fs := [fr (r0 Heap.none), bT, bT, bT, bT, bT, tt q6f, tt q6f, tt q6f, tt q6f, tt q6f, tt q11f, tt q11f, tt q11f, fr (r14 Heap.none), tt q11f, bT, bT, bT, fr (r19 Heap.none), bT, bT, bT, bT, bT, fr (r25 Heap.none), bT, bT, bF, bF, bF, bF, bF]) (h' := Heap.none) p26 a26 (by kernel_rfl) (by kernel_rfl) (by kernel_rfl) h0
            · replace h0 := h0.2 e
              subst e
              obtain ⟨v, r31, b9, e, h0⟩ := h0
              subst e
              exact ent_retA (fs := [fr (r0 Heap.none), bT, bT, bT, bT, bT, tt q6f, tt q6f, tt q6f, tt q6f, tt q6f, tt q11f, tt q11f, tt q11f, fr (r14 Heap.none), tt q11f, bT, bT, bT, fr (r19 Heap.none), bT, bT, bT, bT, bT, fr (r25 Heap.none), bT, bT, bT, bT, bT, fr (r31 Heap.none), bT, bT]) (h' := Heap.none) p26 a26 (by kernel_rfl) (by kernel_rfl) (by kernel_rfl) h0
        · replace h0 := h0.2 e
          subst e
          exact ent_retA (fs := [fr (r0 Heap.none), bT, bT, bT, bT, bT, tt q6f, tt q6f, tt q6f, tt q6f, tt q6f, tt q11f, tt q11f, tt q11f, fr (r14 Heap.none), tt q11f, bF, bF, bF, bF, bF, bF, bF, bF, bF, bF, bF, bF, bF, bF, bF]) (h' := Heap.none) p26 a26 (by kernel_rfl) (by kernel_rfl) (by kernel_rfl) h0
  · replace h0 := h0.2 e
    subst e
    exact ent_retA (fs := [fr (r0 Heap.none), bF, bF, bF, bF, bF, bF, bF, bF, bF, bF, bF, bF, bF, bF, bF, bF, bF, bF, bF, bF, bF, bF, bF, bF, bF, bF, bF, bF, bF]) (h' := Heap.none) p26 a26 (by kernel_rfl) (by kernel_rfl) (by kernel_rfl) h0

/- (*selvage/verify.walker).walk -/
noncomputable abbrev PF27 := Tryz.f28

noncomputable def f27_K1 : List It := [.lp (cdAt (codeOf PF27) [1, 1, 1, 0, 0, 0]), .blk 0, .c (cdAt (codeOf PF27) [1, 1, 1, 1])]

noncomputable def f27_S1 (p1_1 : Nat) (p1_2 : Nat) (p1_3 : List D) (p1_4 : Heap) : St :=
  { nt := 90, tm := [(0, .ptr (.he p1_1 0) 0 9 0), (4, .sl (.he p1_2 0) 0 none), (5, .sl (.lo 1) 3 none)], lo := [(1, .darr 0 3 p1_3)], hp := p1_4 }

noncomputable def f27_K2 : List It := [.lp (cdAt (codeOf PF27) [1, 1, 1, 0, 0, 0]), .blk 0, .c (cdAt (codeOf PF27) [1, 1, 1, 1])]

noncomputable def f27_S2 (p2_1 : Nat) (p2_2 : Nat) (p2_3 : Nat) (p2_4 : List D) (p2_5 : Heap) : St :=
  { nt := 90, tm := [(0, .ptr (.he p2_1 0) 0 9 0), (4, .sl (.he p2_2 0) 0 none), (5, .sl (.lo 1) 3 (some (0, p2_3)))], lo := [(1, .darr 0 3 p2_4)], hp := p2_5 }

theorem p27 : AA.prim F27 = none := by kernel_rfl
theorem a27 : AA.alone F27 = false := by kernel_rfl

theorem w27 {i1 : Nat} {h2 : Heap} {Q : V → Heap → Prop}
    (h0 : (∃ (l3 : List D) (l4 : List D) (l5 : List D) (n6 : Int) (n7 : Int) (n8 : Int) (n9 : Int) (n10 : Int) (l11 : List D), hpAt h2 i1 0 = some (.var (.s 9 (.agg [.slice 4 l3, .slice 0 l4, .slice 0 l5, dI n6, dI n7, dI n8, dI n9, dI n10, .slice 3 l11]))) ∧ ((Int.toNat (((l11.length : Nat) : Int))) ≤ 274877906944 ∧ (((List.replicate ((Int.toNat (((l11.length : Nat) : Int)))) (.d (.v (.pointer none)) : V)) : List V).length ≤ 274877906944 ∧ ((((List.replicate ((Int.toNat (((l11.length : Nat) : Int)))) (.d (.v (.pointer none)) : V))).all (·.fits 0)) = true ∧ ((V.noLoL ((List.replicate ((Int.toNat (((l11.length : Nat) : Int)))) (.d (.v (.pointer none)) : V)))) = true ∧ Wl PP AA F27 f27_K1 (f27_S1 i1 h2.n ([.agg [dI 0, dI 0, .slice 2 ([])]]) ((Heap.push h2 (.varr 0 0 ((List.replicate ((Int.toNat (((l11.length : Nat) : Int)))) (.d (.v (.pointer none)) : V))))))) Q)))))) :
    Wc PP AA F27 [.ptr (.he i1 0) 0 9 0] h2 Q := by
  obtain ⟨l3, l4, l5, n6, n7, n8, n9, n10, l11, q0, h0⟩ := h0
  have q2 : (0 : Int) ≤ ((l11.length : Nat) : Int) := by omega
  obtain ⟨q3a, h0⟩ := h0
  obtain ⟨q4, h0⟩ := h0
  obtain ⟨q5a, h0⟩ := h0
  obtain ⟨q5b, h0⟩ := h0
  exact ent_at (fs := [fo q0, rt (decide_eq_true (rfl : (((l11.length : Nat) : Int) : Int) = ((l11.length : Nat) : Int))), rd q2, rt (andT (Nat.ble_eq_true_of_le q3a) rfl), rt (Nat.ble_eq_true_of_le q4), rt (andT q5a q5b)]) p27 a27 (by kernel_rfl) h0

theorem w27_1 {p1_1 : Nat} {p1_2 : Nat} {p1_3 : List D} {p1_4 : Heap} {Q : V → Heap → Prop}
    (h0 : (((0 : Int) < ((p1_3.length : Nat) : Int) → ((0 : Int) ≤ (W (((p1_3.length : Nat) : Int) - 1)) ∧ ((Int.toNat ((W (((p1_3.length : Nat) : Int) - 1)))) < p1_3.length ∧ (∃ (nr11 : Int) (nr12 : Int) (lr13 : List D), p1_3[(Int.toNat ((W (((p1_3.length : Nat) : Int) - 1))))]? = some (.agg [dI nr11, dI nr12, .slice 2 lr13]) ∧ ((Int.toNat ((W (((p1_3.length : Nat) : Int) - 1)))) ≤ p1_3.length ∧ (0 ≤ (Int.toNat ((W (((p1_3.length : Nat) : Int) - 1)))) ∧ (∃ (lr14 : List V), hpAt p1_4 p1_2 0 = some (.varr 0 0 lr14) ∧ ((nr11 < ((lr14.length : Nat) : Int) → (∃ (lr15 : List D) (lr16 : List D) (lr17 : List D) (nr18 : Int) (nr19 : Int) (nr110 : Int) (nr111 : Int) (nr112 : Int) (lr113 : List D), hpAt p1_4 p1_1 0 = some (.var (.s 9 (.agg [.slice 4 lr15, .slice 0 lr16, .slice 0 lr17, dI nr18, dI nr19, dI nr110, dI nr111, dI nr112, .slice 3 lr113]))) ∧ ((nr112 < nr12 → Q (.tuple [.d (.slice 0 ([])), vBool false]) p1_4) ∧ (nr12 ≤ nr112 → ((0 : Int) ≤ nr11 ∧ ((Int.toNat nr11) < lr14.length ∧ ((∃ (ir114 : Nat), lr14[(Int.toNat nr11)]? = some (.ptr (.he ir114 0) 0 2 0) ∧ (∃ (nr115 : Int) (lr116 : List D), hpAt p1_4 ir114 0 = some (.var (.s 2 (.agg [dI nr115, .slice 2 lr116]))) ∧ (Wa PP AA F50 [.s 2 (.agg [dI nr115, .slice 2 lr116]), .s 2 (.agg [dI nr12, .slice 2 lr13])] fun v => ∃ (br117 : Bool), v = vBool br117 ∧ ((br117 = true → Wl PP AA F27 f27_K2 (f27_S2 p1_1 p1_2 (((Int.toNat ((W (((p1_3.length : Nat) : Int) - 1)))) - 0)) p1_3 p1_4) Q) ∧ (br117 = false → Q (.tuple [.d (.slice 0 ([])), vBool false]) p1_4))))) ∨ (lr14[(Int.toNat nr11)]? = some (.d (.v (.pointer none))) ∧ (hpAt (Heap.push p1_4 (.var (.agg [vI 0, .nilS]))) p1_4.n 0 = some (.var (.agg [vI 0, .nilS])) ∧ (hpAt (Heap.put (Heap.push p1_4 (.var (.agg [vI 0, .nilS]))) p1_4.n (some (.var (.s 2 (.agg [dI nr12, .slice 2 lr13]))))) p1_2 0 = some (.varr 0 0 lr14) ∧ (hpAt (Heap.put (Heap.put (Heap.push p1_4 (.var (.agg [vI 0, .nilS]))) p1_4.n (some (.var (.s 2 (.agg [dI nr12, .slice 2 lr13]))))) p1_2 (some (.varr 0 0 ((lr14.set ((Int.toNat nr11)) (.ptr (.he p1_4.n 0) 0 2 0)))))) p1_4.n 0 = some (.var (.s 2 (.agg [dI nr12, .slice 2 lr13]))) ∧ (Wc PP AA F49 [.ptr (.he p1_1 0) 0 9 0, vI nr11, .s 2 (.agg [dI nr12, .slice 2 lr13])] (Heap.put (Heap.put (Heap.push p1_4 (.var (.agg [vI 0, .nilS]))) p1_4.n (some (.var (.s 2 (.agg [dI nr12, .slice 2 lr13]))))) p1_2 (some (.varr 0 0 ((lr14.set ((Int.toNat nr11)) (.ptr (.he p1_4.n 0) 0 2 0)))))) fun v Hr116 => ∃ (lr114 : List D) (br115 : Bool), v = .tuple [.d (.slice 3 lr114), vBool br115] ∧ ((br115 = true → (((Int.toNat ((W (((p1_3.length : Nat) : Int) - 1)))) - 0) ≤ p1_3.length ∧ ((((Int.toNat ((W (((p1_3.length : Nat) : Int) - 1)))) - 0) + lr114.length) ≤ 274877906944 ∧ Wl PP AA F27 f27_K1 (f27_S1 p1_1 p1_2 (((p1_3.take (((Int.toNat ((W (((p1_3.length : Nat) : Int) - 1)))) - 0))) ++ lr114)) Hr116) Q))) ∧ (br115 = false → Q (.tuple [.d (.slice 0 ([])), vBool false]) Hr116)))))))))))))) ∧ (((lr14.length : Nat) : Int) ≤ nr11 → Q (.tuple [.d (.slice 0 ([])), vBool false]) p1_4))))))))) ∧ (((p1_3.length : Nat) : Int) ≤ 0 → Q (.tuple [.sl (.he p1_2 0) 0 none, vBool true]) p1_4))) :
    Wl PP AA F27 f27_K1 (f27_S1 p1_1 p1_2 p1_3 p1_4) Q := by
  rcases icase 0 (((p1_3.length : Nat) : Int)) with q0f | q0f
  · replace h0 := h0.1 q0f
    obtain ⟨q1, h0⟩ := h0
    obtain ⟨q2, h0⟩ := h0
    obtain ⟨nr11, nr12, lr13, q3, h0⟩ := h0
    obtain ⟨q5a, h0⟩ := h0
    obtain ⟨q5b, h0⟩ := h0
    obtain ⟨lr14, q6, h0⟩ := h0
    rcases icase nr11 (((lr14.length : Nat) : Int)) with q7f | q7f
    · replace h0 := h0.1 q7f
      obtain ⟨lr15, lr16, lr17, nr18, nr19, nr110, nr111, nr112, lr113, q15, h0⟩ := h0
      rcases icase nr112 nr12 with q18f | q18f
      · replace h0 := h0.1 q18f
        exact lp_ret (fs := [tt q0f, rd q1, rt (Nat.ble_eq_true_of_le q2), fd q3, rd q1, rt (andT (Nat.ble_eq_true_of_le q5a) (Nat.ble_eq_true_of_le q5b)), fo q6, tg q7f, tg q7f, tg q7f, tg q7f, tg q7f, tg q7f, tg q7f, tg q7f, fo q15, tg q7f, tg q7f, tt q18f]) (by kernel_rfl) h0
      · replace h0 := h0.2 q18f
        obtain ⟨q19, h0⟩ := h0
        obtain ⟨q21, h0⟩ := h0
        rcases h0 with h0 | h0
        · obtain ⟨ir114, q23, h0⟩ := h0
          obtain ⟨nr115, lr116, q30, h0⟩ := h0
          obtain ⟨v, r31, br117, e, h0⟩ := h0
          subst e
          rcases bcase br117 with e | e
          · replace h0 := h0.1 e
            subst e
            exact lp_at (fs := [tt q0f, rd q1, rt (Nat.ble_eq_true_of_le q2), fd q3, rd q1, rt (andT (Nat.ble_eq_true_of_le q5a) (Nat.ble_eq_true_of_le q5b)), fo q6, tg q7f, tg q7f, tg q7f, tg q7f, tg q7f, tg q7f, tg q7f, tg q7f, fo q15, tg q7f, tg q7f, tl q18f, rd q19, fo q6, rt (Nat.ble_eq_true_of_le q21), fo q6, fv q23, bF, rd q19, fo q6, rt (Nat.ble_eq_true_of_le q21), fo q6, fv q23, fo q30, fr (r31 p1_4), bF]) (by kernel_rfl) h0
          · replace h0 := h0.2 e
            subst e
            exact lp_ret (fs := [tt q0f, rd q1, rt (Nat.ble_eq_true_of_le q2), fd q3, rd q1, rt (andT (Nat.ble_eq_true_of_le q5a) (Nat.ble_eq_true_of_le q5b)), fo q6, tg q7f, tg q7f, tg q7f, tg q7f, tg q7f, tg q7f, tg q7f, tg q7f, fo q15, tg q7f, tg q7f, tl q18f, rd q19, fo q6, rt (Nat.ble_eq_true_of_le q21), fo q6, fv q23, bF, rd q19, fo q6, rt (Nat.ble_eq_true_of_le q21), fo q6, fv q23, fo q30, fr (r31 p1_4), bT]) (by kernel_rfl) h0
        · obtain ⟨q23, h0⟩ := h0
          obtain ⟨q25, h0⟩ := h0
          obtain ⟨q27, h0⟩ := h0
          obtain ⟨q31, h0⟩ := h0
          obtain ⟨v, Hr116, r32, lr114, br115, e, h0⟩ := h0
          subst e
          rcases bcase br115 with e | e
          · replace h0 := h0.1 e
            subst e
            obtain ⟨q34ab, h0⟩ := h0
            obtain ⟨q34b, h0⟩ := h0
            exact lp_at (fs := [tt q0f, rd q1, rt (Nat.ble_eq_true_of_le q2), fd q3, rd q1, rt (andT (Nat.ble_eq_true_of_le q5a) (Nat.ble_eq_true_of_le q5b)), fo q6, tg q7f, tg q7f, tg q7f, tg q7f, tg q7f, tg q7f, tg q7f, tg q7f, fo q15, tg q7f, tg q7f, tl q18f, rd q19, fo q6, rt (Nat.ble_eq_true_of_le q21), fo q6, fv q23, bT, fo q25, rd q19, fo q27, rt (Nat.ble_eq_true_of_le q21), fo q27, fv q23, fo q31, fr r32, bF, rt (andT (andT rfl (Nat.ble_eq_true_of_le q34ab)) (Nat.ble_eq_true_of_le q34b))]) (by kernel_rfl) h0
          · replace h0 := h0.2 e
            subst e
            exact lp_ret (fs := [tt q0f, rd q1, rt (Nat.ble_eq_true_of_le q2), fd q3, rd q1, rt (andT (Nat.ble_eq_true_of_le q5a) (Nat.ble_eq_true_of_le q5b)), fo q6, tg q7f, tg q7f, tg q7f, tg q7f, tg q7f, tg q7f, tg q7f, tg q7f, fo q15, tg q7f, tg q7f, tl q18f, rd q19, fo q6, rt (Nat.ble_eq_true_of_le q21), fo q6, fv q23, bT, fo q25, rd q19, fo q27, rt (Nat.ble_eq_true_of_le q21), fo q27, fv q23, fo q31, fr r32, bT]) (by kernel_rfl) h0
    · replace h0 := h0.2 q7f
      exact lp_ret (fs := [tt q0f, rd q1, rt (Nat.ble_eq_true_of_le q2), fd q3, rd q1, rt (andT (Nat.ble_eq_true_of_le q5a) (Nat.ble_eq_true_of_le q5b)), fo q6, tt q7f, tt q7f, tt q7f, tt q7f, tt q7f, tt q7f, tt q7f, tt q7f, tt q7f, tt q7f, bT]) (by kernel_rfl) h0
  · replace h0 := h0.2 q0f
    exact lp_ret (fs := [tl q0f]) (by kernel_rfl) h0

theorem w27_2 {p2_1 : Nat} {p2_2 : Nat} {p2_3 : Nat} {p2_4 : List D} {p2_5 : Heap} {Q : V → Heap → Prop}
    (h0 : ((0 + p2_3) ≤ p2_4.length ∧ (((0 : Int) < ((p2_3 : Nat) : Int) → ((0 : Int) ≤ (W (((p2_3 : Nat) : Int) - 1)) ∧ ((Int.toNat ((W (((p2_3 : Nat) : Int) - 1)))) < p2_3 ∧ (∃ (nr21 : Int) (nr22 : Int) (lr23 : List D), p2_4[(0 + (Int.toNat ((W (((p2_3 : Nat) : Int) - 1)))))]? = some (.agg [dI nr21, dI nr22, .slice 2 lr23]) ∧ ((Int.toNat ((W (((p2_3 : Nat) : Int) - 1)))) ≤ p2_3 ∧ (0 ≤ (Int.toNat ((W (((p2_3 : Nat) : Int) - 1)))) ∧ (∃ (lr24 : List V), hpAt p2_5 p2_2 0 = some (.varr 0 0 lr24) ∧ ((nr21 < ((lr24.length : Nat) : Int) → (∃ (lr25 : List D) (lr26 : List D) (lr27 : List D) (nr28 : Int) (nr29 : Int) (nr210 : Int) (nr211 : Int) (nr212 : Int) (lr213 : List D), hpAt p2_5 p2_1 0 = some (.var (.s 9 (.agg [.slice 4 lr25, .slice 0 lr26, .slice 0 lr27, dI nr28, dI nr29, dI nr210, dI nr211, dI nr212, .slice 3 lr213]))) ∧ ((nr212 < nr22 → Q (.tuple [.d (.slice 0 ([])), vBool false]) p2_5) ∧ (nr22 ≤ nr212 → ((0 : Int) ≤ nr21 ∧ ((Int.toNat nr21) < lr24.length ∧ ((∃ (ir214 : Nat), lr24[(Int.toNat nr21)]? = some (.ptr (.he ir214 0) 0 2 0) ∧ (∃ (nr215 : Int) (lr216 : List D), hpAt p2_5 ir214 0 = some (.var (.s 2 (.agg [dI nr215, .slice 2 lr216]))) ∧ (Wa PP AA F50 [.s 2 (.agg [dI nr215, .slice 2 lr216]), .s 2 (.agg [dI nr22, .slice 2 lr23])] fun v => ∃ (br217 : Bool), v = vBool br217 ∧ ((br217 = true → Wl PP AA F27 f27_K2 (f27_S2 p2_1 p2_2 (((Int.toNat ((W (((p2_3 : Nat) : Int) - 1)))) - 0)) p2_4 p2_5) Q) ∧ (br217 = false → Q (.tuple [.d (.slice 0 ([])), vBool false]) p2_5))))) ∨ (lr24[(Int.toNat nr21)]? = some (.d (.v (.pointer none))) ∧ (hpAt (Heap.push p2_5 (.var (.agg [vI 0, .nilS]))) p2_5.n 0 = some (.var (.agg [vI 0, .nilS])) ∧ (hpAt (Heap.put (Heap.push p2_5 (.var (.agg [vI 0, .nilS]))) p2_5.n (some (.var (.s 2 (.agg [dI nr22, .slice 2 lr23]))))) p2_2 0 = some (.varr 0 0 lr24) ∧ (hpAt (Heap.put (Heap.put (Heap.push p2_5 (.var (.agg [vI 0, .nilS]))) p2_5.n (some (.var (.s 2 (.agg [dI nr22, .slice 2 lr23]))))) p2_2 (some (.varr 0 0 ((lr24.set ((Int.toNat nr21)) (.ptr (.he p2_5.n 0) 0 2 0)))))) p2_5.n 0 = some (.var (.s 2 (.agg [dI nr22, .slice 2 lr23]))) ∧ (Wc PP AA F49 [.ptr (.he p2_1 0) 0 9 0, vI nr21, .s 2 (.agg [dI nr22, .slice 2 lr23])] (Heap.put (Heap.put (Heap.push p2_5 (.var (.agg [vI 0, .nilS]))) p2_5.n (some (.var (.s 2 (.agg [dI nr22, .slice 2 lr23]))))) p2_2 (some (.varr 0 0 ((lr24.set ((Int.toNat nr21)) (.ptr (.he p2_5.n 0) 0 2 0)))))) fun v Hr216 => ∃ (lr214 : List D) (br215 : Bool), v = .tuple [.d (.slice 3 lr214), vBool br215] ∧ ((br215 = true → (((Int.toNat ((W (((p2_3 : Nat) : Int) - 1)))) - 0) ≤ p2_4.length ∧ ((((Int.toNat ((W (((p2_3 : Nat) : Int) - 1)))) - 0) + lr214.length) ≤ 274877906944 ∧ Wl PP AA F27 f27_K1 (f27_S1 p2_1 p2_2 (((p2_4.take (((Int.toNat ((W (((p2_3 : Nat) : Int) - 1)))) - 0))) ++ lr214)) Hr216) Q))) ∧ (br215 = false → Q (.tuple [.d (.slice 0 ([])), vBool false]) Hr216)))))))))))))) ∧ (((lr24.length : Nat) : Int) ≤ nr21 → Q (.tuple [.d (.slice 0 ([])), vBool false]) p2_5))))))))) ∧ (((p2_3 : Nat) : Int) ≤ 0 → Q (.tuple [.sl (.he p2_2 0) 0 none, vBool true]) p2_5)))) :
    Wl PP AA F27 f27_K2 (f27_S2 p2_1 p2_2 p2_3 p2_4 p2_5) Q := by
  obtain ⟨q0, h0⟩ := h0
  rcases icase 0 (((p2_3 : Nat) : Int)) with q1f | q1f
  · replace h0 := h0.1 q1f
    obtain ⟨q3, h0⟩ := h0
    obtain ⟨q4a, h0⟩ := h0
    obtain ⟨nr21, nr22, lr23, q5, h0⟩ := h0
    obtain ⟨q9a, h0⟩ := h0
    obtain ⟨q9b, h0⟩ := h0
    obtain ⟨lr24, q10, h0⟩ := h0
    rcases icase nr21 (((lr24.length : Nat) : Int)) with q11f | q11f
    · replace h0 := h0.1 q11f
      obtain ⟨lr25, lr26, lr27, nr28, nr29, nr210, nr211, nr212, lr213, q19, h0⟩ := h0
      rcases icase nr212 nr22 with q22f | q22f
      · replace h0 := h0.1 q22f
        exact lp_ret (fs := [rt (Nat.ble_eq_true_of_le q0), tt q1f, rt (Nat.ble_eq_true_of_le q0), rd q3, rt (andT (Nat.ble_eq_true_of_le q4a) (Nat.ble_eq_true_of_le q0)), fd q5, rt (Nat.ble_eq_true_of_le q0), rt (Nat.ble_eq_true_of_le q0), rd q3, rt (andT (Nat.ble_eq_true_of_le q9a) (Nat.ble_eq_true_of_le q9b)), fo q10, tg q11f, tg q11f, tg q11f, tg q11f, tg q11f, tg q11f, tg q11f, tg q11f, fo q19, tg q11f, tg q11f, tt q22f]) (by kernel_rfl) h0
      · replace h0 := h0.2 q22f
        obtain ⟨q23, h0⟩ := h0
        obtain ⟨q25, h0⟩ := h0
        rcases h0 with h0 | h0
        · obtain ⟨ir214, q27, h0⟩ := h0
          obtain ⟨nr215, lr216, q34, h0⟩ := h0
          obtain ⟨v, r35, br217, e, h0⟩ := h0
          subst e
          rcases bcase br217 with e | e
          · replace h0 := h0.1 e
            subst e
            exact lp_at (fs := [rt (Nat.ble_eq_true_of_le q0), tt q1f, rt (Nat.ble_eq_true_of_le q0), rd q3, rt (andT (Nat.ble_eq_true_of_le q4a) (Nat.ble_eq_true_of_le q0)), fd q5, rt (Nat.ble_eq_true_of_le q0), rt (Nat.ble_eq_true_of_le q0), rd q3, rt (andT (Nat.ble_eq_true_of_le q9a) (Nat.ble_eq_true_of_le q9b)), fo q10, tg q11f, tg q11f, tg q11f, tg q11f, tg q11f, tg q11f, tg q11f, tg q11f, fo q19, tg q11f, tg q11f, tl q22f, rd q23, fo q10, rt (Nat.ble_eq_true_of_le q25), fo q10, fv q27, bF, rd q23, fo q10, rt (Nat.ble_eq_true_of_le q25), fo q10, fv q27, fo q34, fr (r35 p2_5), bF]) (by kernel_rfl) h0
          · replace h0 := h0.2 e
            subst e
            exact lp_ret (fs := [rt (Nat.ble_eq_true_of_le q0), tt q1f, rt (Nat.ble_eq_true_of_le q0), rd q3, rt (andT (Nat.ble_eq_true_of_le q4a) (Nat.ble_eq_true_of_le q0)), fd q5, rt (Nat.ble_eq_true_of_le q0), rt (Nat.ble_eq_true_of_le q0), rd q3, rt (andT (Nat.ble_eq_true_of_le q9a) (Nat.ble_eq_true_of_le q9b)), fo q10, tg q11f, tg q11f, tg q11f, tg q11f, tg q11f, tg q11f, tg q11f, tg q11f, fo q19, tg q11f, tg q11f, tl q22f, rd q23, fo q10, rt (Nat.ble_eq_true_of_le q25), fo q10, fv q27, bF, rd q23, fo q10, rt (Nat.ble_eq_true_of_le q25), fo q10, fv q27, fo q34, fr (r35 p2_5), bT]) (by kernel_rfl) h0
        · obtain ⟨q27, h0⟩ := h0
          obtain ⟨q29, h0⟩ := h0
          obtain ⟨q31, h0⟩ := h0
          obtain ⟨q35, h0⟩ := h0
          obtain ⟨v, Hr216, r36, lr214, br215, e, h0⟩ := h0
          subst e
          rcases bcase br215 with e | e
          · replace h0 := h0.1 e
            subst e
            obtain ⟨q38ab, h0⟩ := h0
            obtain ⟨q38b, h0⟩ := h0
            exact lp_at (fs := [rt (Nat.ble_eq_true_of_le q0), tt q1f, rt (Nat.ble_eq_true_of_le q0), rd q3, rt (andT (Nat.ble_eq_true_of_le q4a) (Nat.ble_eq_true_of_le q0)), fd q5, rt (Nat.ble_eq_true_of_le q0), rt (Nat.ble_eq_true_of_le q0), rd q3, rt (andT (Nat.ble_eq_true_of_le q9a) (Nat.ble_eq_true_of_le q9b)), fo q10, tg q11f, tg q11f, tg q11f, tg q11f, tg q11f, tg q11f, tg q11f, tg q11f, fo q19, tg q11f, tg q11f, tl q22f, rd q23, fo q10, rt (Nat.ble_eq_true_of_le q25), fo q10, fv q27, bT, fo q29, rd q23, fo q31, rt (Nat.ble_eq_true_of_le q25), fo q31, fv q27, fo q35, fr r36, bF, rt (andT (andT rfl (Nat.ble_eq_true_of_le q38ab)) (Nat.ble_eq_true_of_le q38b))]) (by kernel_rfl) h0
          · replace h0 := h0.2 e
            subst e
            exact lp_ret (fs := [rt (Nat.ble_eq_true_of_le q0), tt q1f, rt (Nat.ble_eq_true_of_le q0), rd q3, rt (andT (Nat.ble_eq_true_of_le q4a) (Nat.ble_eq_true_of_le q0)), fd q5, rt (Nat.ble_eq_true_of_le q0), rt (Nat.ble_eq_true_of_le q0), rd q3, rt (andT (Nat.ble_eq_true_of_le q9a) (Nat.ble_eq_true_of_le q9b)), fo q10, tg q11f, tg q11f, tg q11f, tg q11f, tg q11f, tg q11f, tg q11f, tg q11f, fo q19, tg q11f, tg q11f, tl q22f, rd q23, fo q10, rt (Nat.ble_eq_true_of_le q25), fo q10, fv q27, bT, fo q29, rd q23, fo q31, rt (Nat.ble_eq_true_of_le q25), fo q31, fv q27, fo q35, fr r36, bT]) (by kernel_rfl) h0
    · replace h0 := h0.2 q11f
      exact lp_ret (fs := [rt (Nat.ble_eq_true_of_le q0), tt q1f, rt (Nat.ble_eq_true_of_le q0), rd q3, rt (andT (Nat.ble_eq_true_of_le q4a) (Nat.ble_eq_true_of_le q0)), fd q5, rt (Nat.ble_eq_true_of_le q0), rt (Nat.ble_eq_true_of_le q0), rd q3, rt (andT (Nat.ble_eq_true_of_le q9a) (Nat.ble_eq_true_of_le q9b)), fo q10, tt q11f, tt q11f, tt q11f, tt q11f, tt q11f, tt q11f, tt q11f, tt q11f, tt q11f, tt q11f, bT]) (by kernel_rfl) h0
  · replace h0 := h0.2 q1f
    exact lp_ret (fs := [rt (Nat.ble_eq_true_of_le q0), tl q1f]) (by kernel_rfl) h0

/- selvage/selvageref13.Instr -/
noncomputable abbrev PF28 := Tryz.f64

theorem p28 : AA.prim F28 = none := by kernel_rfl
theorem a28 : AA.alone F28 = true := by kernel_rfl

theorem w28 {n1 : Int} {n2 : Int} {n3 : Int} {Q : V → Prop}
    (h0 : (Wa PP AA F51 [vI n1] fun v => ∃ (n4 : Int), v = vI n4 ∧ ((n4 < 0 → Q (vBool false)) ∧ ((0 : Int) ≤ n4 → ((n2 < 0 → Q (vBool false)) ∧ ((0 : Int) ≤ n2 → (((65535 : Int) < n2 → Q (vBool false)) ∧ (n2 ≤ 65535 → ((n3 < 0 → Q (vBool false)) ∧ ((0 : Int) ≤ n3 → (((65535 : Int) < n3 → Q (vBool false)) ∧ (n3 ≤ 65535 → (((0 : Int) < n4 → (((1 : Int) < n4 → Q (vBool true)) ∧ (n4 ≤ 1 → Q (vBool ((n3 : Int) == 0))))) ∧ (n4 ≤ 0 → ((n2 = 0 → Q (vBool ((n3 : Int) == 0))) ∧ (n2 ≠ 0 → Q (vBool false))))))))))))))))) :
    Wa PP AA F28 [.s 3 (.agg [dI n1, dI n2, dI n3])] Q := by
  obtain ⟨v, r0, n4, e, h0⟩ := h0
  subst e
  rcases icase n4 0 with q1f | q1f
  · replace h0 := h0.1 q1f
    exact ent_retA (fs := [fr (r0 Heap.none), tt q1f, tt q1f, tt q1f, tt q1f, bT, bT, bT, bT, bT, bT, bT, bT, bT, bT, bT, bT, bT]) (h' := Heap.none) p28 a28 (by kernel_rfl) (by kernel_rfl) (by kernel_rfl) h0
  · replace h0 := h0.2 q1f
    rcases icase n2 0 with q5f | q5f
    · replace h0 := h0.1 q5f
      exact ent_retA (fs := [fr (r0 Heap.none), tl q1f, tl q1f, tl q1f, tl q1f, tt q5f, tt q5f, tt q5f, tt q5f, bT, bT, bT, bT, bT, bT, bT, bT, bT]) (h' := Heap.none) p28 a28 (by kernel_rfl) (by kernel_rfl) (by kernel_rfl) h0
    · replace h0 := h0.2 q5f
      rcases icase 65535 n2 with q9f | q9f
      · replace h0 := h0.1 q9f
        exact ent_retA (fs := [fr (r0 Heap.none), tl q1f, tl q1f, tl q1f, tl q1f, tl q5f, tl q5f, tl q5f, tl q5f, tt q9f, tt q9f, tt q9f, tt q9f, bT, bT, bT, bT, bT]) (h' := Heap.none) p28 a28 (by kernel_rfl) (by kernel_rfl) (by kernel_rfl) h0
      · replace h0 := h0.2 q9f
        rcases icase n3 0 with q13f | q13f
        · replace h0 := h0.1 q13f
          exact ent_retA (fs := [fr (r0 Heap.none), tl q1f, tl q1f, tl q1f, tl q1f, tl q5f, tl q5f, tl q5f, tl q5f, tl q9f, tl q9f, tl q9f, tl q9f, tt q13f, tt q13f, tt q13f, tt q13f, bT]) (h' := Heap.none) p28 a28 (by kernel_rfl) (by kernel_rfl) (by kernel_rfl) h0
        · replace h0 := h0.2 q13f
          rcases icase 65535 n3 with q17f | q17f
          · replace h0 := h0.1 q17f
            exact ent_retA (fs := [fr (r0 Heap.none), tl q1f, tl q1f, tl q1f, tl q1f, tl q5f, tl q5f, tl q5f, tl q5f, tl q9f, tl q9f, tl q9f, tl q9f, tl q13f, tl q13f, tl q13f, tl q13f, tt q17f]) (h' := Heap.none) p28 a28 (by kernel_rfl) (by kernel_rfl) (by kernel_rfl) h0
          · replace h0 := h0.2 q17f
            rcases icase 0 n4 with q18f | q18f
            · replace h0 := h0.1 q18f
              rcases icase 1 n4 with q25f | q25f
              · replace h0 := h0.1 q25f
                exact ent_retA (fs := [fr (r0 Heap.none), tl q1f, tl q1f, tl q1f, tl q1f, tl q5f, tl q5f, tl q5f, tl q5f, tl q9f, tl q9f, tl q9f, tl q9f, tl q13f, tl q13f, tl q13f, tl q13f, tl q17f, tt q18f, tt q18f, tt q18f, tt q18f, bT, bT, bT, tt q25f, tt q25f, tt q25f, bT, tt q25f, bT]) (h' := Heap.none) p28 a28 (by kernel_rfl) (by kernel_rfl) (by kernel_rfl) h0
              · replace h0 := h0.2 q25f
                exact ent_retA (fs := [fr (r0 Heap.none), tl q1f, tl q1f, tl q1f, tl q1f, tl q5f, tl q5f, tl q5f, tl q5f, tl q9f, tl q9f, tl q9f, tl q9f, tl q13f, tl q13f, tl q13f, tl q13f, tl q17f, tt q18f, tt q18f, tt q18f, tt q18f, bT, bT, bT, tl q25f, tl q25f, tl q25f, bT, tl q25f, bT]) (h' := Heap.none) p28 a28 (by kernel_rfl) (by kernel_rfl) (by kernel_rfl) h0
            · replace h0 := h0.2 q18f
              rcases Classical.em (n2 = 0) with e | q22f
              · replace h0 := h0.1 e
                subst e
                have q25 : n4 ≤ 1 := by omega
                exact ent_retA (fs := [fr (r0 Heap.none), tl q1f, tl q1f, tl q1f, tl q1f, bF, bF, bF, bF, bF, bF, bF, bF, tl q13f, tl q13f, tl q13f, tl q13f, tl q17f, tl q18f, tl q18f, tl q18f, tl q18f, bT, bT, bT, tl q25, tl q25, tl q25, bT, tl q25, bT]) (h' := Heap.none) p28 a28 (by kernel_rfl) (by kernel_rfl) (by kernel_rfl) h0
              · replace h0 := h0.2 q22f
                exact ent_retA (fs := [fr (r0 Heap.none), tl q1f, tl q1f, tl q1f, tl q1f, tl q5f, tl q5f, tl q5f, tl q5f, tl q9f, tl q9f, tl q9f, tl q9f, tl q13f, tl q13f, tl q13f, tl q13f, tl q17f, tl q18f, tl q18f, tl q18f, tl q18f, bf (beq_eq_false_iff_ne.mpr q22f), bf (beq_eq_false_iff_ne.mpr q22f), bf (beq_eq_false_iff_ne.mpr q22f), bf (beq_eq_false_iff_ne.mpr q22f), bf (beq_eq_false_iff_ne.mpr q22f)]) (h' := Heap.none) p28 a28 (by kernel_rfl) (by kernel_rfl) (by kernel_rfl) h0

end Am

/- Rules, printed by sym.py. -/
namespace Am
open Go Go.Proofs
set_option maxRecDepth 100000
/- selvage/selvageref14.step -/
noncomputable abbrev PF29 := Tryz.f65

noncomputable def f29_K1 : List It := [.lp (cdAt (codeOf PF29) [1, 1, 1, 1, 1, 1, 1, 1, 1, 1, 1, 0, 1, 0, 1, 1, 1, 1, 1, 1, 1, 1, 1, 1, 1, 1, 1, 1, 1, 0, 0, 1, 0, 0]), .blk 1, .c (cdAt (codeOf PF29) [1, 1, 1, 1, 1, 1, 1, 1, 1, 1, 1, 0, 1, 0, 1, 1, 1, 1, 1, 1, 1, 1, 1, 1, 1, 1, 1, 1, 1, 0, 1]), .blk 0, .c (cdAt (codeOf PF29) [1, 1, 1, 1, 1, 1, 1, 1, 1, 1, 1, 1])]

noncomputable def f29_S1 (p1_1 : Nat) (p1_2 : Nat) (p1_3 : Int) (p1_4 : Int) (p1_5 : Int) (p1_6 : Int) (p1_7 : Int) (p1_8 : List D) (p1_9 : Int) (p1_10 : Int) (p1_11 : Bool) (p1_12 : Int) (p1_13 : List D) (p1_14 : Int) (p1_15 : Nat) (p1_16 : Nat) (p1_17 : Heap) : St :=
  { nt := 236, tm := [(3, .sl (.he p1_1 p1_2) 3 none), (9, .ptr (.lo 0) 0 4 0), (10, .ptr (.lo 1) 0 3 0), (11, .ptr (.lo 2) 0 3 0), (16, .ptr (.lo 3) 0 3 0), (17, vI (-1)), (18, vI p1_3), (21, vI p1_4)], lo := [(0, .var (.s 4 (.agg [dI p1_5, dI p1_6, dI p1_7, .slice 3 p1_8]))), (1, .var (.s 3 (.agg [dI 26, dI p1_9, dI p1_10]))), (2, .var (.s 3 (.agg [dB p1_11, dI p1_12, .slice 2 p1_13]))), (3, .var (.agg [vBool false, vI p1_14, .sl (.he p1_15 p1_16) 2 none]))], hp := p1_17 }

theorem p29 : AA.prim F29 = none := by kernel_rfl
theorem a29 : AA.alone F29 = false := by kernel_rfl

theorem w29 {c1 : Nat} {g2 : Nat} {l3 : List D} {l4 : List D} {l5 : List D} {n6 : Int} {n7 : Int} {n8 : Int} {h9 : Heap} {Q : V → Heap → Prop}
    (h0 : ((0 : Int) ≤ n7 ∧ (∃ (n10 : Int) (n11 : Int) (n12 : Int) (l13 : List D), l3[(Int.toNat n7)]? = some (.agg [dI n10, dI n11, dI n12, .slice 3 l13]) ∧ ((0 : Int) ≤ n8 ∧ (∃ (n14 : Int) (n15 : Int) (n16 : Int), l13[(Int.toNat n8)]? = some (.agg [dI n14, dI n15, dI n16]) ∧ (∃ (l17 : List D), hpAt h9 c1 g2 = some (.darr g2 3 l17) ∧ ((Int.toNat n8) < l17.length ∧ (∃ (b18 : Bool) (n19 : Int) (l20 : List D), l17[(Int.toNat n8)]? = some (.agg [dB b18, dI n19, .slice 2 l20]) ∧ (Wa PP AA F52 [.s 4 (.agg [.slice 4 l3, .slice 0 l4, .slice 0 l5, dI n6]), vI n7, .s 3 (.agg [dI n14, dI n15, dI n16])] fun v => ∃ (b21 : Bool) (n22 : Int) (n23 : Int), v = .tuple [vBool b21, vI n22, vI n23] ∧ (((0 : Int) < ((l20.length : Nat) : Int) → ((0 : Int) ≤ (W (((l20.length : Nat) : Int) - 1)) ∧ (∃ (n24 : Int) (n25 : Int), l20[(Int.toNat ((W (((l20.length : Nat) : Int) - 1))))]? = some (.agg [dI n24, dI n25]) ∧ ((b21 = true → (((W (n19 - n22)) < n25 → Q (vBool false) h9) ∧ (n25 ≤ (W (n19 - n22)) → ((n12 < n19 → Q (vBool false) h9) ∧ (n19 ≤ n12 → (Wc PP AA F53 [.d (.slice 2 l20)] h9 fun v H28 => ∃ (c26 : Nat) (g27 : Nat), v = .sl (.he c26 g27) 2 none ∧ ((n14 = 14 → Q (vBool ((((l20.length : Nat) : Int) : Int) == 0)) H28) ∧ (n14 ≠ 14 → ((n14 = 15 → Q (vBool ((((l20.length : Nat) : Int) : Int) == 0)) H28) ∧ (n14 ≠ 15 → ((n14 = 23 → Q (vBool true) H28) ∧ (n14 ≠ 23 → ((n14 = 30 → Q (vBool true) H28) ∧ (n14 ≠ 30 → ((n14 = 16 → (∃ (l29 : List D), hpAt H28 c26 g27 = some (.darr g27 2 l29) ∧ (Wc PP AA F54 [.sl (.he c1 g2) 3 none, vI n15, .s 3 (.agg [dB false, dI (W ((W (n19 - n22)) + n23)), .slice 2 l29]), vI n12] (Heap.put H28 c26 none) fun v H31 => ∃ (b30 : Bool), v = vBool b30 ∧ Q (vBool b30) H31))) ∧ (n14 ≠ 16 → ((n14 = 17 → ((n15 < 0 → (∃ (l29 : List D), hpAt H28 c26 g27 = some (.darr g27 2 l29) ∧ (Wc PP AA F54 [.sl (.he c1 g2) 3 none, vI (W (n8 + 1)), .s 3 (.agg [dB false, dI (W ((W (n19 - n22)) + n23)), .slice 2 l29]), vI n12] (Heap.put H28 c26 none) fun v H31 => ∃ (b30 : Bool), v = vBool b30 ∧ Q (vBool b30) H31))) ∧ ((0 : Int) ≤ n15 → (∃ (l29 : List D), hpAt H28 c26 g27 = some (.darr g27 2 l29) ∧ (Wc PP AA F54 [.sl (.he c1 g2) 3 none, vI n15, .s 3 (.agg [dB false, dI (W ((W (n19 - n22)) + n23)), .slice 2 l29]), vI n12] (Heap.put H28 c26 none) fun v H31 => ∃ (b30 : Bool), v = vBool b30 ∧ ((b30 = true → (Wc PP AA F54 [.sl (.he c1 g2) 3 none, vI (W (n8 + 1)), .s 3 (.agg [dB false, dI (W ((W (n19 - n22)) + n23)), .slice 2 l29]), vI n12] H31 fun v H33 => ∃ (b32 : Bool), v = vBool b32 ∧ Q (vBool b32) H33)) ∧ (b30 = false → Q (vBool false) H31))))))) ∧ (n14 ≠ 17 → ((n14 = 18 → ((n16 < 0 → (∃ (l29 : List D), hpAt H28 c26 g27 = some (.darr g27 2 l29) ∧ (Wc PP AA F54 [.sl (.he c1 g2) 3 none, vI (W (n8 + 1)), .s 3 (.agg [dB false, dI (W ((W (n19 - n22)) + n23)), .slice 2 l29]), vI n12] (Heap.put H28 c26 none) fun v H31 => ∃ (b30 : Bool), v = vBool b30 ∧ Q (vBool b30) H31))) ∧ ((0 : Int) ≤ n16 → (∃ (l29 : List D), hpAt H28 c26 g27 = some (.darr g27 2 l29) ∧ (Wc PP AA F54 [.sl (.he c1 g2) 3 none, vI n16, .s 3 (.agg [dB false, dI (W ((W (n19 - n22)) + n23)), .slice 2 l29]), vI n12] (Heap.put H28 c26 none) fun v H31 => ∃ (b30 : Bool), v = vBool b30 ∧ ((b30 = true → (Wc PP AA F54 [.sl (.he c1 g2) 3 none, vI (W (n8 + 1)), .s 3 (.agg [dB false, dI (W ((W (n19 - n22)) + n23)), .slice 2 l29]), vI n12] H31 fun v H33 => ∃ (b32 : Bool), v = vBool b32 ∧ Q (vBool b32) H33)) ∧ (b30 = false → Q (vBool false) H31))))))) ∧ (n14 ≠ 18 → ((n14 = 21 → (Wc PP AA F54 [.sl (.he c1 g2) 3 none, vI n15, .s 3 (.agg [dB false, dI (W (n19 + 1)), .slice 2 l20]), vI n12] H28 fun v H30 => ∃ (b29 : Bool), v = vBool b29 ∧ ((b29 = true → (∃ (l31 : List D), hpAt H30 c26 g27 = some (.darr g27 2 l31) ∧ ((l31.length + 1) ≤ 274877906944 ∧ (hpAt (Heap.put H30 c26 (some (.darr ((g27 + 1)) 2 ((l31 ++ [.agg [dI 21, dI n19]]))))) c26 ((g27 + 1)) = some (.darr ((g27 + 1)) 2 ((l31 ++ [.agg [dI 21, dI n19]]))) ∧ (Wc PP AA F54 [.sl (.he c1 g2) 3 none, vI (W (n8 + 1)), .s 3 (.agg [dB false, dI (W ((W (n19 - n22)) + n23)), .slice 2 ((l31 ++ [.agg [dI 21, dI n19]]))]), vI n12] (Heap.put (Heap.put H30 c26 (some (.darr ((g27 + 1)) 2 ((l31 ++ [.agg [dI 21, dI n19]]))))) c26 none) fun v H33 => ∃ (b32 : Bool), v = vBool b32 ∧ Q (vBool b32) H33))))) ∧ (b29 = false → Q (vBool false) H30)))) ∧ (n14 ≠ 21 → ((n14 = 28 → (Wc PP AA F54 [.sl (.he c1 g2) 3 none, vI n15, .s 3 (.agg [dB b18, dI n19, .slice 2 l20]), vI n12] H28 fun v H30 => ∃ (b29 : Bool), v = vBool b29 ∧ ((b29 = true → (∃ (l31 : List D), hpAt H30 c26 g27 = some (.darr g27 2 l31) ∧ ((l31.length + 1) ≤ 274877906944 ∧ (hpAt (Heap.put H30 c26 (some (.darr ((g27 + 1)) 2 ((l31 ++ [.agg [dI 28, dI n19]]))))) c26 ((g27 + 1)) = some (.darr ((g27 + 1)) 2 ((l31 ++ [.agg [dI 28, dI n19]]))) ∧ (Wc PP AA F54 [.sl (.he c1 g2) 3 none, vI (W (n8 + 1)), .s 3 (.agg [dB false, dI (W ((W (n19 - n22)) + n23)), .slice 2 ((l31 ++ [.agg [dI 28, dI n19]]))]), vI n12] (Heap.put (Heap.put H30 c26 (some (.darr ((g27 + 1)) 2 ((l31 ++ [.agg [dI 28, dI n19]]))))) c26 none) fun v H33 => ∃ (b32 : Bool), v = vBool b32 ∧ Q (vBool b32) H33))))) ∧ (b29 = false → Q (vBool false) H30)))) ∧ (n14 ≠ 28 → ((n14 = 26 → Wl PP AA F29 f29_K1 (f29_S1 c1 g2 ((W (n8 + 1))) 0 n10 n11 n12 l13 n15 n16 b18 n19 l20 ((W ((W (n19 - n22)) + n23))) c26 g27 H28) Q) ∧ (n14 ≠ 26 → ((n14 = 22 → ((((l20.length : Nat) : Int) = 0 → Q (vBool false) H28) ∧ (((l20.length : Nat) : Int) ≠ 0 → ((n24 = 21 → (∃ (l29 : List D), hpAt H28 c26 g27 = some (.darr g27 2 l29) ∧ ((0 : Int) ≤ (W (((l29.length : Nat) : Int) - 1)) ∧ ((Int.toNat ((W (((l29.length : Nat) : Int) - 1)))) ≤ l29.length ∧ (0 ≤ (Int.toNat ((W (((l29.length : Nat) : Int) - 1)))) ∧ ((0 + ((Int.toNat ((W (((l29.length : Nat) : Int) - 1)))) - 0)) ≤ l29.length ∧ (Wc PP AA F54 [.sl (.he c1 g2) 3 none, vI (W (n8 + 1)), .s 3 (.agg [dB false, dI (W ((W (n19 - n22)) + n23)), .slice 2 (((l29.drop 0).take (((Int.toNat ((W (((l29.length : Nat) : Int) - 1)))) - 0))))]), vI n12] (Heap.put H28 c26 none) fun v H31 => ∃ (b30 : Bool), v = vBool b30 ∧ Q (vBool b30) H31))))))) ∧ (n24 ≠ 21 → Q (vBool false) H28))))) ∧ (n14 ≠ 22 → ((n14 = 27 → ((((l20.length : Nat) : Int) = 0 → Q (vBool false) H28) ∧ (((l20.length : Nat) : Int) ≠ 0 → ((n24 = 26 → (∃ (l29 : List D), hpAt H28 c26 g27 = some (.darr g27 2 l29) ∧ ((0 : Int) ≤ (W (((l29.length : Nat) : Int) - 1)) ∧ ((Int.toNat ((W (((l29.length : Nat) : Int) - 1)))) ≤ l29.length ∧ (0 ≤ (Int.toNat ((W (((l29.length : Nat) : Int) - 1)))) ∧ ((0 + ((Int.toNat ((W (((l29.length : Nat) : Int) - 1)))) - 0)) ≤ l29.length ∧ (Wc PP AA F54 [.sl (.he c1 g2) 3 none, vI (W (n8 + 1)), .s 3 (.agg [dB false, dI (W ((W (n19 - n22)) + n23)), .slice 2 (((l29.drop 0).take (((Int.toNat ((W (((l29.length : Nat) : Int) - 1)))) - 0))))]), vI n12] (Heap.put H28 c26 none) fun v H31 => ∃ (b30 : Bool), v = vBool b30 ∧ Q (vBool b30) H31))))))) ∧ (n24 ≠ 26 → Q (vBool false) H28))))) ∧ (n14 ≠ 27 → ((n14 = 29 → ((((l20.length : Nat) : Int) = 0 → Q (vBool false) H28) ∧ (((l20.length : Nat) : Int) ≠ 0 → ((n24 = 28 → (∃ (l29 : List D), hpAt H28 c26 g27 = some (.darr g27 2 l29) ∧ ((0 : Int) ≤ (W (((l29.length : Nat) : Int) - 1)) ∧ ((Int.toNat ((W (((l29.length : Nat) : Int) - 1)))) ≤ l29.length ∧ (0 ≤ (Int.toNat ((W (((l29.length : Nat) : Int) - 1)))) ∧ ((0 + ((Int.toNat ((W (((l29.length : Nat) : Int) - 1)))) - 0)) ≤ l29.length ∧ (Wc PP AA F54 [.sl (.he c1 g2) 3 none, vI (W (n8 + 1)), .s 3 (.agg [dB false, dI (W ((W (n19 - n22)) + n23)), .slice 2 (((l29.drop 0).take (((Int.toNat ((W (((l29.length : Nat) : Int) - 1)))) - 0))))]), vI n12] (Heap.put H28 c26 none) fun v H31 => ∃ (b30 : Bool), v = vBool b30 ∧ Q (vBool b30) H31))))))) ∧ (n24 ≠ 28 → Q (vBool false) H28))))) ∧ (n14 ≠ 29 → (∃ (l29 : List D), hpAt H28 c26 g27 = some (.darr g27 2 l29) ∧ (Wc PP AA F54 [.sl (.he c1 g2) 3 none, vI (W (n8 + 1)), .s 3 (.agg [dB false, dI (W ((W (n19 - n22)) + n23)), .slice 2 l29]), vI n12] (Heap.put H28 c26 none) fun v H31 => ∃ (b30 : Bool), v = vBool b30 ∧ Q (vBool b30) H31)))))))))))))))))))))))))))))))))) ∧ (b21 = false → Q (vBool false) h9))))) ∧ (((l20.length : Nat) : Int) ≤ 0 → ((b21 = true → (((W (n19 - n22)) < 0 → Q (vBool false) h9) ∧ ((0 : Int) ≤ (W (n19 - n22)) → ((n12 < n19 → Q (vBool false) h9) ∧ (n19 ≤ n12 → (Wc PP AA F53 [.d (.slice 2 l20)] h9 fun v H26 => ∃ (c24 : Nat) (g25 : Nat), v = .sl (.he c24 g25) 2 none ∧ ((n14 = 14 → Q (vBool ((((l20.length : Nat) : Int) : Int) == 0)) H26) ∧ (n14 ≠ 14 → ((n14 = 15 → Q (vBool ((((l20.length : Nat) : Int) : Int) == 0)) H26) ∧ (n14 ≠ 15 → ((n14 = 23 → Q (vBool true) H26) ∧ (n14 ≠ 23 → ((n14 = 30 → Q (vBool true) H26) ∧ (n14 ≠ 30 → ((n14 = 16 → (∃ (l27 : List D), hpAt H26 c24 g25 = some (.darr g25 2 l27) ∧ (Wc PP AA F54 [.sl (.he c1 g2) 3 none, vI n15, .s 3 (.agg [dB false, dI (W ((W (n19 - n22)) + n23)), .slice 2 l27]), vI n12] (Heap.put H26 c24 none) fun v H29 => ∃ (b28 : Bool), v = vBool b28 ∧ Q (vBool b28) H29))) ∧ (n14 ≠ 16 → ((n14 = 17 → ((n15 < 0 → (∃ (l27 : List D), hpAt H26 c24 g25 = some (.darr g25 2 l27) ∧ (Wc PP AA F54 [.sl (.he c1 g2) 3 none, vI (W (n8 + 1)), .s 3 (.agg [dB false, dI (W ((W (n19 - n22)) + n23)), .slice 2 l27]), vI n12] (Heap.put H26 c24 none) fun v H29 => ∃ (b28 : Bool), v = vBool b28 ∧ Q (vBool b28) H29))) ∧ ((0 : Int) ≤ n15 → (∃ (l27 : List D), hpAt H26 c24 g25 = some (.darr g25 2 l27) ∧ (Wc PP AA F54 [.sl (.he c1 g2) 3 none, vI n15, .s 3 (.agg [dB false, dI (W ((W (n19 - n22)) + n23)), .slice 2 l27]), vI n12] (Heap.put H26 c24 none) fun v H29 => ∃ (b28 : Bool), v = vBool b28 ∧ ((b28 = true → (Wc PP AA F54 [.sl (.he c1 g2) 3 none, vI (W (n8 + 1)), .s 3 (.agg [dB false, dI (W ((W (n19 - n22)) + n23)), .slice 2 l27]), vI n12] H29 fun v H31 => ∃ (b30 : Bool), v = vBool b30 ∧ Q (vBool b30) H31)) ∧ (b28 = false → Q (vBool false) H29))))))) ∧ (n14 ≠ 17 → ((n14 = 18 → ((n16 < 0 → (∃ (l27 : List D), hpAt H26 c24 g25 = some (.darr g25 2 l27) ∧ (Wc PP AA F54 [.sl (.he c1 g2) 3 none, vI (W (n8 + 1)), .s 3 (.agg [dB false, dI (W ((W (n19 - n22)) + n23)), .slice 2 l27]), vI n12] (Heap.put H26 c24 none) fun v H29 => ∃ (b28 : Bool), v = vBool b28 ∧ Q (vBool b28) H29))) ∧ ((0 : Int) ≤ n16 → (∃ (l27 : List D), hpAt H26 c24 g25 = some (.darr g25 2 l27) ∧ (Wc PP AA F54 [.sl (.he c1 g2) 3 none, vI n16, .s 3 (.agg [dB false, dI (W ((W (n19 - n22)) + n23)), .slice 2 l27]), vI n12] (Heap.put H26 c24 none) fun v H29 => ∃ (b28 : Bool), v = vBool b28 ∧ ((b28 = true → (Wc PP AA F54 [.sl (.he c1 g2) 3 none, vI (W (n8 + 1)), .s 3 (.agg [dB false, dI (W ((W (n19 - n22)) + n23)), .slice 2 l27]), vI n12] H29 fun v H31 => ∃ (b30 : Bool), v = vBool b30 ∧ Q (vBool b30) H31)) ∧ (b28 = false → Q (vBool false) H29))))))) ∧ (n14 ≠ 18 → ((n14 = 21 → (Wc PP AA F54 [.sl (.he c1 g2) 3 none, vI n15, .s 3 (.agg [dB false, dI (W (n19 + 1)), .slice 2 l20]), vI n12] H26 fun v H28 => ∃ (b27 : Bool), v = vBool b27 ∧ ((b27 = true → (∃ (l29 : List D), hpAt H28 c24 g25 = some (.darr g25 2 l29) ∧ ((l29.length + 1) ≤ 274877906944 ∧ (hpAt (Heap.put H28 c24 (some (.darr ((g25 + 1)) 2 ((l29 ++ [.agg [dI 21, dI n19]]))))) c24 ((g25 + 1)) = some (.darr ((g25 + 1)) 2 ((l29 ++ [.agg [dI 21, dI n19]]))) ∧ (Wc PP AA F54 [.sl (.he c1 g2) 3 none, vI (W (n8 + 1)), .s 3 (.agg [dB false, dI (W ((W (n19 - n22)) + n23)), .slice 2 ((l29 ++ [.agg [dI 21, dI n19]]))]), vI n12] (Heap.put (Heap.put H28 c24 (some (.darr ((g25 + 1)) 2 ((l29 ++ [.agg [dI 21, dI n19]]))))) c24 none) fun v H31 => ∃ (b30 : Bool), v = vBool b30 ∧ Q (vBool b30) H31))))) ∧ (b27 = false → Q (vBool false) H28)))) ∧ (n14 ≠ 21 → ((n14 = 28 → (Wc PP AA F54 [.sl (.he c1 g2) 3 none, vI n15, .s 3 (.agg [dB b18, dI n19, .slice 2 l20]), vI n12] H26 fun v H28 => ∃ (b27 : Bool), v = vBool b27 ∧ ((b27 = true → (∃ (l29 : List D), hpAt H28 c24 g25 = some (.darr g25 2 l29) ∧ ((l29.length + 1) ≤ 274877906944 ∧ (hpAt (Heap.put H28 c24 (some (.darr ((g25 + 1)) 2 ((l29 ++ [.agg [dI 28, dI n19]]))))) c24 ((g25 + 1)) = some (.darr ((g25 + 1)) 2 ((l29 ++ [.agg [dI 28, dI n19]]))) ∧ (Wc PP AA F54 [.sl (.he c1 g2) 3 none, vI (W (n8 + 1)), .s 3 (.agg [dB false, dI (W ((W (n19 - n22)) + n23)), .slice 2 ((l29 ++ [.agg [dI 28, dI n19]]))]), vI n12] (Heap.put (Heap.put H28 c24 (some (.darr ((g25 + 1)) 2 ((l29 ++ [.agg [dI 28, dI n19]]))))) c24 none) fun v H31 => ∃ (b30 : Bool), v = vBool b30 ∧ Q (vBool b30) H31))))) ∧ (b27 = false → Q (vBool false) H28)))) ∧ (n14 ≠ 28 → ((n14 = 26 → Wl PP AA F29 f29_K1 (f29_S1 c1 g2 ((W (n8 + 1))) 0 n10 n11 n12 l13 n15 n16 b18 n19 l20 ((W ((W (n19 - n22)) + n23))) c24 g25 H26) Q) ∧ (n14 ≠ 26 → ((n14 = 22 → ((((l20.length : Nat) : Int) = 0 → Q (vBool false) H26) ∧ (((l20.length : Nat) : Int) ≠ 0 → ((0 : Int) ≤ (W (((l20.length : Nat) : Int) - 1)) ∧ (∃ (n27 : Int) (n28 : Int), l20[(Int.toNat ((W (((l20.length : Nat) : Int) - 1))))]? = some (.agg [dI n27, dI n28]) ∧ ((n27 = 21 → (∃ (l29 : List D), hpAt H26 c24 g25 = some (.darr g25 2 l29) ∧ ((0 : Int) ≤ (W (((l29.length : Nat) : Int) - 1)) ∧ ((Int.toNat ((W (((l29.length : Nat) : Int) - 1)))) ≤ l29.length ∧ (0 ≤ (Int.toNat ((W (((l29.length : Nat) : Int) - 1)))) ∧ ((0 + ((Int.toNat ((W (((l29.length : Nat) : Int) - 1)))) - 0)) ≤ l29.length ∧ (Wc PP AA F54 [.sl (.he c1 g2) 3 none, vI (W (n8 + 1)), .s 3 (.agg [dB false, dI (W ((W (n19 - n22)) + n23)), .slice 2 (((l29.drop 0).take (((Int.toNat ((W (((l29.length : Nat) : Int) - 1)))) - 0))))]), vI n12] (Heap.put H26 c24 none) fun v H31 => ∃ (b30 : Bool), v = vBool b30 ∧ Q (vBool b30) H31))))))) ∧ (n27 ≠ 21 → Q (vBool false) H26))))))) ∧ (n14 ≠ 22 → ((n14 = 27 → ((((l20.length : Nat) : Int) = 0 → Q (vBool false) H26) ∧ (((l20.length : Nat) : Int) ≠ 0 → ((0 : Int) ≤ (W (((l20.length : Nat) : Int) - 1)) ∧ (∃ (n27 : Int) (n28 : Int), l20[(Int.toNat ((W (((l20.length : Nat) : Int) - 1))))]? = some (.agg [dI n27, dI n28]) ∧ ((n27 = 26 → (∃ (l29 : List D), hpAt H26 c24 g25 = some (.darr g25 2 l29) ∧ ((0 : Int) ≤ (W (((l29.length : Nat) : Int) - 1)) ∧ ((Int.toNat ((W (((l29.length : Nat) : Int) - 1)))) ≤ l29.length ∧ (0 ≤ (Int.toNat ((W (((l29.length : Nat) : Int) - 1)))) ∧ ((0 + ((Int.toNat ((W (((l29.length : Nat) : Int) - 1)))) - 0)) ≤ l29.length ∧ (Wc PP AA F54 [.sl (.he c1 g2) 3 none, vI (W (n8 + 1)), .s 3 (.agg [dB false, dI (W ((W (n19 - n22)) + n23)), .slice 2 (((l29.drop 0).take (((Int.toNat ((W (((l29.length : Nat) : Int) - 1)))) - 0))))]), vI n12] (Heap.put H26 c24 none) fun v H31 => ∃ (b30 : Bool), v = vBool b30 ∧ Q (vBool b30) H31))))))) ∧ (n27 ≠ 26 → Q (vBool false) H26))))))) ∧ (n14 ≠ 27 → ((n14 = 29 → ((((l20.length : Nat) : Int) = 0 → Q (vBool false) H26) ∧ (((l20.length : Nat) : Int) ≠ 0 → ((0 : Int) ≤ (W (((l20.length : Nat) : Int) - 1)) ∧ (∃ (n27 : Int) (n28 : Int), l20[(Int.toNat ((W (((l20.length : Nat) : Int) - 1))))]? = some (.agg [dI n27, dI n28]) ∧ ((n27 = 28 → (∃ (l29 : List D), hpAt H26 c24 g25 = some (.darr g25 2 l29) ∧ ((0 : Int) ≤ (W (((l29.length : Nat) : Int) - 1)) ∧ ((Int.toNat ((W (((l29.length : Nat) : Int) - 1)))) ≤ l29.length ∧ (0 ≤ (Int.toNat ((W (((l29.length : Nat) : Int) - 1)))) ∧ ((0 + ((Int.toNat ((W (((l29.length : Nat) : Int) - 1)))) - 0)) ≤ l29.length ∧ (Wc PP AA F54 [.sl (.he c1 g2) 3 none, vI (W (n8 + 1)), .s 3 (.agg [dB false, dI (W ((W (n19 - n22)) + n23)), .slice 2 (((l29.drop 0).take (((Int.toNat ((W (((l29.length : Nat) : Int) - 1)))) - 0))))]), vI n12] (Heap.put H26 c24 none) fun v H31 => ∃ (b30 : Bool), v = vBool b30 ∧ Q (vBool b30) H31))))))) ∧ (n27 ≠ 28 → Q (vBool false) H26))))))) ∧ (n14 ≠ 29 → (∃ (l27 : List D), hpAt H26 c24 g25 = some (.darr g25 2 l27) ∧ (Wc PP AA F54 [.sl (.he c1 g2) 3 none, vI (W (n8 + 1)), .s 3 (.agg [dB false, dI (W ((W (n19 - n22)) + n23)), .slice 2 l27]), vI n12] (Heap.put H26 c24 none) fun v H29 => ∃ (b28 : Bool), v = vBool b28 ∧ Q (vBool b28) H29)))))))))))))))))))))))))))))))))) ∧ (b21 = false → Q (vBool false) h9))))))))))))) :
    Wc PP AA F29 [.s 4 (.agg [.slice 4 l3, .slice 0 l4, .slice 0 l5, dI n6]), vI n7, vI n8, .sl (.he c1 g2) 3 none] h9 Q := by
  obtain ⟨q0, h0⟩ := h0
  obtain ⟨n10, n11, n12, l13, q1, h0⟩ := h0
  obtain ⟨q2, h0⟩ := h0
  obtain ⟨n14, n15, n16, q3, h0⟩ := h0
  obtain ⟨l17, q5, h0⟩ := h0
  obtain ⟨q6, h0⟩ := h0
  obtain ⟨b18, n19, l20, q8, h0⟩ := h0
  obtain ⟨v, r9, b21, n22, n23, e, h0⟩ := h0
  subst e
  rcases icase 0 (((l20.length : Nat) : Int)) with q10f | q10f
  · replace h0 := h0.1 q10f
    obtain ⟨q11, h0⟩ := h0
    obtain ⟨n24, n25, q12, h0⟩ := h0
    rcases bcase b21 with e | e
    · replace h0 := h0.1 e
      subst e
      rcases icase ((W (n19 - n22))) n25 with q20f | q20f
      · replace h0 := h0.1 q20f
        exact ent_ret (fs := [rd q0, fd q1, rd q2, fd q3, rd q2, fo q5, rt (Nat.ble_eq_true_of_le q6), fo q5, fd q8, fr (r9 h9), tt q10f, rd q11, fd q12, bF, bF, bF, bF, bF, bF, bF, tt q20f, tt q20f, tt q20f, tt q20f, tt q20f, tt q20f, bT]) p29 a29 (by kernel_rfl) h0
      · replace h0 := h0.2 q20f
        rcases icase n12 n19 with q26f | q26f
        · replace h0 := h0.1 q26f
          exact ent_ret (fs := [rd q0, fd q1, rd q2, fd q3, rd q2, fo q5, rt (Nat.ble_eq_true_of_le q6), fo q5, fd q8, fr (r9 h9), tt q10f, rd q11, fd q12, bF, bF, bF, bF, bF, bF, bF, tl q20f, tl q20f, tl q20f, tl q20f, tl q20f, tl q20f, tt q26f]) p29 a29 (by kernel_rfl) h0
        · replace h0 := h0.2 q26f
          obtain ⟨v, H28, r27, c26, g27, e, h0⟩ := h0
          subst e
          rcases Classical.em (n14 = 14) with e | q28f
          · replace h0 := h0.1 e
            subst e
            exact ent_ret (fs := [rd q0, fd q1, rd q2, fd q3, rd q2, fo q5, rt (Nat.ble_eq_true_of_le q6), fo q5, fd q8, fr (r9 h9), tt q10f, rd q11, fd q12, bF, bF, bF, bF, bF, bF, bF, tl q20f, tl q20f, tl q20f, tl q20f, tl q20f, tl q20f, tl q26f, fr r27, bT, bT]) p29 a29 (by kernel_rfl) h0
          · replace h0 := h0.2 q28f
            rcases Classical.em (n14 = 15) with e | q29f
            · replace h0 := h0.1 e
              subst e
              exact ent_ret (fs := [rd q0, fd q1, rd q2, fd q3, rd q2, fo q5, rt (Nat.ble_eq_true_of_le q6), fo q5, fd q8, fr (r9 h9), tt q10f, rd q11, fd q12, bF, bF, bF, bF, bF, bF, bF, tl q20f, tl q20f, tl q20f, tl q20f, tl q20f, tl q20f, tl q26f, fr r27, bF, bT]) p29 a29 (by kernel_rfl) h0
            · replace h0 := h0.2 q29f
              rcases Classical.em (n14 = 23) with e | q30f
              · replace h0 := h0.1 e
                subst e
                exact ent_ret (fs := [rd q0, fd q1, rd q2, fd q3, rd q2, fo q5, rt (Nat.ble_eq_true_of_le q6), fo q5, fd q8, fr (r9 h9), tt q10f, rd q11, fd q12, bF, bF, bF, bF, bF, bF, bF, tl q20f, tl q20f, tl q20f, tl q20f, tl q20f, tl q20f, tl q26f, fr r27, bF, bF, bT, bT]) p29 a29 (by kernel_rfl) h0
              · replace h0 := h0.2 q30f
                rcases Classical.em (n14 = 30) with e | q31f
                · replace h0 := h0.1 e
                  subst e
                  exact ent_ret (fs := [rd q0, fd q1, rd q2, fd q3, rd q2, fo q5, rt (Nat.ble_eq_true_of_le q6), fo q5, fd q8, fr (r9 h9), tt q10f, rd q11, fd q12, bF, bF, bF, bF, bF, bF, bF, tl q20f, tl q20f, tl q20f, tl q20f, tl q20f, tl q20f, tl q26f, fr r27, bF, bF, bF, bT]) p29 a29 (by kernel_rfl) h0
                · replace h0 := h0.2 q31f
                  rcases Classical.em (n14 = 16) with e | q32f
                  · replace h0 := h0.1 e
                    subst e
                    obtain ⟨l29, q34, h0⟩ := h0
                    obtain ⟨v, H31, r37, b30, e, h0⟩ := h0
                    subst e
                    exact ent_ret (fs := [rd q0, fd q1, rd q2, fd q3, rd q2, fo q5, rt (Nat.ble_eq_true_of_le q6), fo q5, fd q8, fr (r9 h9), tt q10f, rd q11, fd q12, bF, bF, bF, bF, bF, bF, bF, tl q20f, tl q20f, tl q20f, tl q20f, tl q20f, tl q20f, tl q26f, fr r27, bF, bF, bF, bF, bT, bF, fo q34, fo q34, rq, fr r37]) p29 a29 (by kernel_rfl) h0
                  · replace h0 := h0.2 q32f
                    rcases Classical.em (n14 = 17) with e | q33f
                    · replace h0 := h0.1 e
                      subst e
                      rcases icase n15 0 with q34f | q34f
                      · replace h0 := h0.1 q34f
                        obtain ⟨l29, q35, h0⟩ := h0
                        obtain ⟨v, H31, r38, b30, e, h0⟩ := h0
                        subst e
                        exact ent_ret (fs := [rd q0, fd q1, rd q2, fd q3, rd q2, fo q5, rt (Nat.ble_eq_true_of_le q6), fo q5, fd q8, fr (r9 h9), tt q10f, rd q11, fd q12, bF, bF, bF, bF, bF, bF, bF, tl q20f, tl q20f, tl q20f, tl q20f, tl q20f, tl q20f, tl q26f, fr r27, bF, bF, bF, bF, bF, bT, tg q34f, fo q35, fo q35, rq, fr r38]) p29 a29 (by kernel_rfl) h0
                      · replace h0 := h0.2 q34f
                        obtain ⟨l29, q35, h0⟩ := h0
                        obtain ⟨v, H31, r38, b30, e, h0⟩ := h0
                        subst e
                        rcases bcase b30 with e | e
                        · replace h0 := h0.1 e
                          subst e
                          obtain ⟨v, H33, r41, b32, e, h0⟩ := h0
                          subst e
                          exact ent_ret (fs := [rd q0, fd q1, rd q2, fd q3, rd q2, fo q5, rt (Nat.ble_eq_true_of_le q6), fo q5, fd q8, fr (r9 h9), tt q10f, rd q11, fd q12, bF, bF, bF, bF, bF, bF, bF, tl q20f, tl q20f, tl q20f, tl q20f, tl q20f, tl q20f, tl q26f, fr r27, bF, bF, bF, bF, bF, bT, tt q34f, fo q35, fo q35, rq, fr r38, bF, rq, fr r41]) p29 a29 (by kernel_rfl) h0
                        · replace h0 := h0.2 e
                          subst e
                          exact ent_ret (fs := [rd q0, fd q1, rd q2, fd q3, rd q2, fo q5, rt (Nat.ble_eq_true_of_le q6), fo q5, fd q8, fr (r9 h9), tt q10f, rd q11, fd q12, bF, bF, bF, bF, bF, bF, bF, tl q20f, tl q20f, tl q20f, tl q20f, tl q20f, tl q20f, tl q26f, fr r27, bF, bF, bF, bF, bF, bT, tt q34f, fo q35, fo q35, rq, fr r38, bT]) p29 a29 (by kernel_rfl) h0
                    · replace h0 := h0.2 q33f
                      rcases Classical.em (n14 = 18) with e | q34f
                      · replace h0 := h0.1 e
                        subst e
                        rcases icase n16 0 with q35f | q35f
                        · replace h0 := h0.1 q35f
                          obtain ⟨l29, q36, h0⟩ := h0
                          obtain ⟨v, H31, r39, b30, e, h0⟩ := h0
                          subst e
                          exact ent_ret (fs := [rd q0, fd q1, rd q2, fd q3, rd q2, fo q5, rt (Nat.ble_eq_true_of_le q6), fo q5, fd q8, fr (r9 h9), tt q10f, rd q11, fd q12, bF, bF, bF, bF, bF, bF, bF, tl q20f, tl q20f, tl q20f, tl q20f, tl q20f, tl q20f, tl q26f, fr r27, bF, bF, bF, bF, bF, bF, bT, tg q35f, fo q36, fo q36, rq, fr r39]) p29 a29 (by kernel_rfl) h0
                        · replace h0 := h0.2 q35f
                          obtain ⟨l29, q36, h0⟩ := h0
                          obtain ⟨v, H31, r39, b30, e, h0⟩ := h0
                          subst e
                          rcases bcase b30 with e | e
                          · replace h0 := h0.1 e
                            subst e
                            obtain ⟨v, H33, r42, b32, e, h0⟩ := h0
                            subst e
                            exact ent_ret (fs := [rd q0, fd q1, rd q2, fd q3, rd q2, fo q5, rt (Nat.ble_eq_true_of_le q6), fo q5, fd q8, fr (r9 h9), tt q10f, rd q11, fd q12, bF, bF, bF, bF, bF, bF, bF, tl q20f, tl q20f, tl q20f, tl q20f, tl q20f, tl q20f, tl q26f, fr r27, bF, bF, bF, bF, bF, bF, bT, tt q35f, fo q36, fo q36, rq, fr r39, bF, rq, fr r42]) p29 a29 (by kernel_rfl) h0
                          · replace h0 := h0.2 e
                            subst e
                            exact ent_ret (fs := [rd q0, fd q1, rd q2, fd q3, rd q2, fo q5, rt (Nat.ble_eq_true_of_le q6), fo q5, fd q8, fr (r9 h9), tt q10f, rd q11, fd q12, bF, bF, bF, bF, bF, bF, bF, tl q20f, tl q20f, tl q20f, tl q20f, tl q20f, tl q20f, tl q26f, fr r27, bF, bF, bF, bF, bF, bF, bT, tt q35f, fo q36, fo q36, rq, fr r39, bT]) p29 a29 (by kernel_rfl) h0
                      · replace h0 := h0.2 q34f
                        rcases Classical.em (n14 = 21) with e | q35f
                        · replace h0 := h0.1 e
                          subst e
                          obtain ⟨v, H30, r36, b29, e, h0⟩ := h0
                          subst e
                          rcases bcase b29 with e | e
                          · replace h0 := h0.1 e
                            subst e
                            obtain ⟨l31, q38, h0⟩ := h0
                            obtain ⟨q39, h0⟩ := h0
                            obtain ⟨q41, h0⟩ := h0
                            obtain ⟨v, H33, r44, b32, e, h0⟩ := h0
                            subst e
                            exact ent_ret (fs := [rd q0, fd q1, rd q2, fd q3, rd q2, fo q5, rt (Nat.ble_eq_true_of_le q6), fo q5, fd q8, fr (r9 h9), tt q10f, rd q11, fd q12, bF, bF, bF, bF, bF, bF, bF, tl q20f, tl q20f, tl q20f, tl q20f, tl q20f, tl q20f, tl q26f, fr r27, bF, bF, bF, bF, bF, bF, bF, bT, fr r36, bF, fo q38, rt (Nat.ble_eq_true_of_le q39), bF, fo q41, fo q41, rq, fr r44]) p29 a29 (by kernel_rfl) h0
                          · replace h0 := h0.2 e
                            subst e
                            exact ent_ret (fs := [rd q0, fd q1, rd q2, fd q3, rd q2, fo q5, rt (Nat.ble_eq_true_of_le q6), fo q5, fd q8, fr (r9 h9), tt q10f, rd q11, fd q12, bF, bF, bF, bF, bF, bF, bF, tl q20f, tl q20f, tl q20f, tl q20f, tl q20f, tl q20f, tl q26f, fr r27, bF, bF, bF, bF, bF, bF, bF, bT, fr r36, bT]) p29 a29 (by kernel_rfl) h0
                        · replace h0 := h0.2 q35f
                          rcases Classical.em (n14 = 28) with e | q36f
                          · replace h0 := h0.1 e
                            subst e
                            obtain ⟨v, H30, r37, b29, e, h0⟩ := h0
                            subst e
                            rcases bcase b29 with e | e
                            · replace h0 := h0.1 e
                              subst e
                              obtain ⟨l31, q39, h0⟩ := h0
                              obtain ⟨q40, h0⟩ := h0
                              obtain ⟨q42, h0⟩ := h0
                              obtain ⟨v, H33, r45, b32, e, h0⟩ := h0
                              subst e
                              exact ent_ret (fs := [rd q0, fd q1, rd q2, fd q3, rd q2, fo q5, rt (Nat.ble_eq_true_of_le q6), fo q5, fd q8, fr (r9 h9), tt q10f, rd q11, fd q12, bF, bF, bF, bF, bF, bF, bF, tl q20f, tl q20f, tl q20f, tl q20f, tl q20f, tl q20f, tl q26f, fr r27, bF, bF, bF, bF, bF, bF, bF, bF, bT, fr r37, bF, fo q39, rt (Nat.ble_eq_true_of_le q40), bF, fo q42, fo q42, rq, fr r45]) p29 a29 (by kernel_rfl) h0
                            · replace h0 := h0.2 e
                              subst e
                              exact ent_ret (fs := [rd q0, fd q1, rd q2, fd q3, rd q2, fo q5, rt (Nat.ble_eq_true_of_le q6), fo q5, fd q8, fr (r9 h9), tt q10f, rd q11, fd q12, bF, bF, bF, bF, bF, bF, bF, tl q20f, tl q20f, tl q20f, tl q20f, tl q20f, tl q20f, tl q26f, fr r27, bF, bF, bF, bF, bF, bF, bF, bF, bT, fr r37, bT]) p29 a29 (by kernel_rfl) h0
                          · replace h0 := h0.2 q36f
                            rcases Classical.em (n14 = 26) with e | q37f
                            · replace h0 := h0.1 e
                              subst e
                              exact ent_at (fs := [rd q0, fd q1, rd q2, fd q3, rd q2, fo q5, rt (Nat.ble_eq_true_of_le q6), fo q5, fd q8, fr (r9 h9), tt q10f, rd q11, fd q12, bF, bF, bF, bF, bF, bF, bF, tl q20f, tl q20f, tl q20f, tl q20f, tl q20f, tl q20f, tl q26f, fr r27, bF, bF, bF, bF, bF, bF, bF, bF, bF, bT]) p29 a29 (by kernel_rfl) h0
                            · replace h0 := h0.2 q37f
                              rcases Classical.em (n14 = 22) with e | q38f
                              · replace h0 := h0.1 e
                                subst e
                                rcases Classical.em ((((l20.length : Nat) : Int) : Int) = 0) with q42f | q42f
                                · replace h0 := h0.1 q42f
                                  exact ent_ret (fs := [rd q0, fd q1, rd q2, fd q3, rd q2, fo q5, rt (Nat.ble_eq_true_of_le q6), fo q5, fd q8, fr (r9 h9), tt q10f, rd q11, fd q12, bF, bF, bF, bF, bF, bF, bF, tl q20f, tl q20f, tl q20f, tl q20f, tl q20f, tl q20f, tl q26f, fr r27, bF, bF, bF, bF, bF, bF, bF, bF, bF, bF, bT, bT, bF, bF, bt (beq_iff_eq.mpr q42f), bt (beq_iff_eq.mpr q42f), bt (beq_iff_eq.mpr q42f), bt (beq_iff_eq.mpr q42f), bt (beq_iff_eq.mpr q42f), bt (beq_iff_eq.mpr q42f), bt (beq_iff_eq.mpr q42f), bt (beq_iff_eq.mpr q42f), bt (beq_iff_eq.mpr q42f), bt (beq_iff_eq.mpr q42f), bt (beq_iff_eq.mpr q42f), bt (beq_iff_eq.mpr q42f), bT]) p29 a29 (by kernel_rfl) h0
                                · replace h0 := h0.2 q42f
                                  rcases Classical.em (n24 = 21) with e | q56f
                                  · replace h0 := h0.1 e
                                    subst e
                                    obtain ⟨l29, q57, h0⟩ := h0
                                    obtain ⟨q59, h0⟩ := h0
                                    obtain ⟨q60a, h0⟩ := h0
                                    obtain ⟨q60b, h0⟩ := h0
                                    obtain ⟨q63, h0⟩ := h0
                                    obtain ⟨v, H31, r66, b30, e, h0⟩ := h0
                                    subst e
                                    exact ent_ret (fs := [rd q0, fd q1, rd q2, fd q3, rd q2, fo q5, rt (Nat.ble_eq_true_of_le q6), fo q5, fd q8, fr (r9 h9), tt q10f, rd q11, fd q12, bF, bF, bF, bF, bF, bF, bF, tl q20f, tl q20f, tl q20f, tl q20f, tl q20f, tl q20f, tl q26f, fr r27, bF, bF, bF, bF, bF, bF, bF, bF, bF, bF, bT, bT, bF, bF, bf (beq_eq_false_iff_ne.mpr q42f), bf (beq_eq_false_iff_ne.mpr q42f), bf (beq_eq_false_iff_ne.mpr q42f), bf (beq_eq_false_iff_ne.mpr q42f), bf (beq_eq_false_iff_ne.mpr q42f), bf (beq_eq_false_iff_ne.mpr q42f), bf (beq_eq_false_iff_ne.mpr q42f), rd q11, fd q12, bf (beq_eq_false_iff_ne.mpr q42f), bf (beq_eq_false_iff_ne.mpr q42f), bf (beq_eq_false_iff_ne.mpr q42f), bf (beq_eq_false_iff_ne.mpr q42f), bf (beq_eq_false_iff_ne.mpr q42f), bF, fo q57, fo q57, rd q59, rt (andT (Nat.ble_eq_true_of_le q60a) (Nat.ble_eq_true_of_le q60b)), bF, fo q57, rt (Nat.ble_eq_true_of_le q63), fo q57, rq, fr r66]) p29 a29 (by kernel_rfl) h0
                                  · replace h0 := h0.2 q56f
                                    exact ent_ret (fs := [rd q0, fd q1, rd q2, fd q3, rd q2, fo q5, rt (Nat.ble_eq_true_of_le q6), fo q5, fd q8, fr (r9 h9), tt q10f, rd q11, fd q12, bF, bF, bF, bF, bF, bF, bF, tl q20f, tl q20f, tl q20f, tl q20f, tl q20f, tl q20f, tl q26f, fr r27, bF, bF, bF, bF, bF, bF, bF, bF, bF, bF, bT, bT, bF, bF, bf (beq_eq_false_iff_ne.mpr q42f), bf (beq_eq_false_iff_ne.mpr q42f), bf (beq_eq_false_iff_ne.mpr q42f), bf (beq_eq_false_iff_ne.mpr q42f), bf (beq_eq_false_iff_ne.mpr q42f), bf (beq_eq_false_iff_ne.mpr q42f), bf (beq_eq_false_iff_ne.mpr q42f), rd q11, fd q12, bf (beq_eq_false_iff_ne.mpr q42f), bf (beq_eq_false_iff_ne.mpr q42f), bf (beq_eq_false_iff_ne.mpr q42f), bf (beq_eq_false_iff_ne.mpr q42f), bf (beq_eq_false_iff_ne.mpr q42f), bt (bne_iff_ne.mpr q56f)]) p29 a29 (by kernel_rfl) h0
                              · replace h0 := h0.2 q38f
                                rcases Classical.em (n14 = 27) with e | q39f
                                · replace h0 := h0.1 e
                                  subst e
                                  rcases Classical.em ((((l20.length : Nat) : Int) : Int) = 0) with q43f | q43f
                                  · replace h0 := h0.1 q43f
                                    exact ent_ret (fs := [rd q0, fd q1, rd q2, fd q3, rd q2, fo q5, rt (Nat.ble_eq_true_of_le q6), fo q5, fd q8, fr (r9 h9), tt q10f, rd q11, fd q12, bF, bF, bF, bF, bF, bF, bF, tl q20f, tl q20f, tl q20f, tl q20f, tl q20f, tl q20f, tl q26f, fr r27, bF, bF, bF, bF, bF, bF, bF, bF, bF, bF, bF, bT, bT, bT, bF, bt (beq_iff_eq.mpr q43f), bt (beq_iff_eq.mpr q43f), bt (beq_iff_eq.mpr q43f), bt (beq_iff_eq.mpr q43f), bt (beq_iff_eq.mpr q43f), bt (beq_iff_eq.mpr q43f), bt (beq_iff_eq.mpr q43f), bt (beq_iff_eq.mpr q43f), bt (beq_iff_eq.mpr q43f), bt (beq_iff_eq.mpr q43f), bt (beq_iff_eq.mpr q43f), bt (beq_iff_eq.mpr q43f), bT]) p29 a29 (by kernel_rfl) h0
                                  · replace h0 := h0.2 q43f
                                    rcases Classical.em (n24 = 26) with e | q57f
                                    · replace h0 := h0.1 e
                                      subst e
                                      obtain ⟨l29, q58, h0⟩ := h0
                                      obtain ⟨q60, h0⟩ := h0
                                      obtain ⟨q61a, h0⟩ := h0
                                      obtain ⟨q61b, h0⟩ := h0
                                      obtain ⟨q64, h0⟩ := h0
                                      obtain ⟨v, H31, r67, b30, e, h0⟩ := h0
                                      subst e
                                      exact ent_ret (fs := [rd q0, fd q1, rd q2, fd q3, rd q2, fo q5, rt (Nat.ble_eq_true_of_le q6), fo q5, fd q8, fr (r9 h9), tt q10f, rd q11, fd q12, bF, bF, bF, bF, bF, bF, bF, tl q20f, tl q20f, tl q20f, tl q20f, tl q20f, tl q20f, tl q26f, fr r27, bF, bF, bF, bF, bF, bF, bF, bF, bF, bF, bF, bT, bT, bT, bF, bf (beq_eq_false_iff_ne.mpr q43f), bf (beq_eq_false_iff_ne.mpr q43f), bf (beq_eq_false_iff_ne.mpr q43f), bf (beq_eq_false_iff_ne.mpr q43f), bf (beq_eq_false_iff_ne.mpr q43f), bf (beq_eq_false_iff_ne.mpr q43f), bf (beq_eq_false_iff_ne.mpr q43f), rd q11, fd q12, bf (beq_eq_false_iff_ne.mpr q43f), bf (beq_eq_false_iff_ne.mpr q43f), bf (beq_eq_false_iff_ne.mpr q43f), bf (beq_eq_false_iff_ne.mpr q43f), bf (beq_eq_false_iff_ne.mpr q43f), bF, fo q58, fo q58, rd q60, rt (andT (Nat.ble_eq_true_of_le q61a) (Nat.ble_eq_true_of_le q61b)), bF, fo q58, rt (Nat.ble_eq_true_of_le q64), fo q58, rq, fr r67]) p29 a29 (by kernel_rfl) h0
                                    · replace h0 := h0.2 q57f
                                      exact ent_ret (fs := [rd q0, fd q1, rd q2, fd q3, rd q2, fo q5, rt (Nat.ble_eq_true_of_le q6), fo q5, fd q8, fr (r9 h9), tt q10f, rd q11, fd q12, bF, bF, bF, bF, bF, bF, bF, tl q20f, tl q20f, tl q20f, tl q20f, tl q20f, tl q20f, tl q26f, fr r27, bF, bF, bF, bF, bF, bF, bF, bF, bF, bF, bF, bT, bT, bT, bF, bf (beq_eq_false_iff_ne.mpr q43f), bf (beq_eq_false_iff_ne.mpr q43f), bf (beq_eq_false_iff_ne.mpr q43f), bf (beq_eq_false_iff_ne.mpr q43f), bf (beq_eq_false_iff_ne.mpr q43f), bf (beq_eq_false_iff_ne.mpr q43f), bf (beq_eq_false_iff_ne.mpr q43f), rd q11, fd q12, bf (beq_eq_false_iff_ne.mpr q43f), bf (beq_eq_false_iff_ne.mpr q43f), bf (beq_eq_false_iff_ne.mpr q43f), bf (beq_eq_false_iff_ne.mpr q43f), bf (beq_eq_false_iff_ne.mpr q43f), bt (bne_iff_ne.mpr q57f)]) p29 a29 (by kernel_rfl) h0
                                · replace h0 := h0.2 q39f
                                  rcases Classical.em (n14 = 29) with e | q40f
                                  · replace h0 := h0.1 e
                                    subst e
                                    rcases Classical.em ((((l20.length : Nat) : Int) : Int) = 0) with q43f | q43f
                                    · replace h0 := h0.1 q43f
                                      exact ent_ret (fs := [rd q0, fd q1, rd q2, fd q3, rd q2, fo q5, rt (Nat.ble_eq_true_of_le q6), fo q5, fd q8, fr (r9 h9), tt q10f, rd q11, fd q12, bF, bF, bF, bF, bF, bF, bF, tl q20f, tl q20f, tl q20f, tl q20f, tl q20f, tl q20f, tl q26f, fr r27, bF, bF, bF, bF, bF, bF, bF, bF, bF, bF, bF, bF, bT, bF, bT, bt (beq_iff_eq.mpr q43f), bt (beq_iff_eq.mpr q43f), bt (beq_iff_eq.mpr q43f), bt (beq_iff_eq.mpr q43f), bt (beq_iff_eq.mpr q43f), bt (beq_iff_eq.mpr q43f), bt (beq_iff_eq.mpr q43f), bt (beq_iff_eq.mpr q43f), bt (beq_iff_eq.mpr q43f), bt (beq_iff_eq.mpr q43f), bt (beq_iff_eq.mpr q43f), bt (beq_iff_eq.mpr q43f), bT]) p29 a29 (by kernel_rfl) h0
                                    · replace h0 := h0.2 q43f
                                      rcases Classical.em (n24 = 28) with e | q57f
                                      · replace h0 := h0.1 e
                                        subst e
                                        obtain ⟨l29, q58, h0⟩ := h0
                                        obtain ⟨q60, h0⟩ := h0
                                        obtain ⟨q61a, h0⟩ := h0
                                        obtain ⟨q61b, h0⟩ := h0
                                        obtain ⟨q64, h0⟩ := h0
                                        obtain ⟨v, H31, r67, b30, e, h0⟩ := h0
                                        subst e
                                        exact ent_ret (fs := [rd q0, fd q1, rd q2, fd q3, rd q2, fo q5, rt (Nat.ble_eq_true_of_le q6), fo q5, fd q8, fr (r9 h9), tt q10f, rd q11, fd q12, bF, bF, bF, bF, bF, bF, bF, tl q20f, tl q20f, tl q20f, tl q20f, tl q20f, tl q20f, tl q26f, fr r27, bF, bF, bF, bF, bF, bF, bF, bF, bF, bF, bF, bF, bT, bF, bT, bf (beq_eq_false_iff_ne.mpr q43f), bf (beq_eq_false_iff_ne.mpr q43f), bf (beq_eq_false_iff_ne.mpr q43f), bf (beq_eq_false_iff_ne.mpr q43f), bf (beq_eq_false_iff_ne.mpr q43f), bf (beq_eq_false_iff_ne.mpr q43f), bf (beq_eq_false_iff_ne.mpr q43f), rd q11, fd q12, bf (beq_eq_false_iff_ne.mpr q43f), bf (beq_eq_false_iff_ne.mpr q43f), bf (beq_eq_false_iff_ne.mpr q43f), bf (beq_eq_false_iff_ne.mpr q43f), bf (beq_eq_false_iff_ne.mpr q43f), bF, fo q58, fo q58, rd q60, rt (andT (Nat.ble_eq_true_of_le q61a) (Nat.ble_eq_true_of_le q61b)), bF, fo q58, rt (Nat.ble_eq_true_of_le q64), fo q58, rq, fr r67]) p29 a29 (by kernel_rfl) h0
                                      · replace h0 := h0.2 q57f
                                        exact ent_ret (fs := [rd q0, fd q1, rd q2, fd q3, rd q2, fo q5, rt (Nat.ble_eq_true_of_le q6), fo q5, fd q8, fr (r9 h9), tt q10f, rd q11, fd q12, bF, bF, bF, bF, bF, bF, bF, tl q20f, tl q20f, tl q20f, tl q20f, tl q20f, tl q20f, tl q26f, fr r27, bF, bF, bF, bF, bF, bF, bF, bF, bF, bF, bF, bF, bT, bF, bT, bf (beq_eq_false_iff_ne.mpr q43f), bf (beq_eq_false_iff_ne.mpr q43f), bf (beq_eq_false_iff_ne.mpr q43f), bf (beq_eq_false_iff_ne.mpr q43f), bf (beq_eq_false_iff_ne.mpr q43f), bf (beq_eq_false_iff_ne.mpr q43f), bf (beq_eq_false_iff_ne.mpr q43f), rd q11, fd q12, bf (beq_eq_false_iff_ne.mpr q43f), bf (beq_eq_false_iff_ne.mpr q43f), bf (beq_eq_false_iff_ne.mpr q43f), bf (beq_eq_false_iff_ne.mpr q43f), bf (beq_eq_false_iff_ne.mpr q43f), bt (bne_iff_ne.mpr q57f)]) p29 a29 (by kernel_rfl) h0
                                  · replace h0 := h0.2 q40f
                                    obtain ⟨l29, q42, h0⟩ := h0
                                    obtain ⟨v, H31, r45, b30, e, h0⟩ := h0
                                    subst e
                                    exact ent_ret (fs := [rd q0, fd q1, rd q2, fd q3, rd q2, fo q5, rt (Nat.ble_eq_true_of_le q6), fo q5, fd q8, fr (r9 h9), tt q10f, rd q11, fd q12, bF, bF, bF, bF, bF, bF, bF, tl q20f, tl q20f, tl q20f, tl q20f, tl q20f, tl q20f, tl q26f, fr r27, bf (beq_eq_false_iff_ne.mpr q28f), bf (beq_eq_false_iff_ne.mpr q29f), bf (beq_eq_false_iff_ne.mpr q30f), bf (beq_eq_false_iff_ne.mpr q31f), bf (beq_eq_false_iff_ne.mpr q32f), bf (beq_eq_false_iff_ne.mpr q33f), bf (beq_eq_false_iff_ne.mpr q34f), bf (beq_eq_false_iff_ne.mpr q35f), bf (beq_eq_false_iff_ne.mpr q36f), bf (beq_eq_false_iff_ne.mpr q37f), bf (beq_eq_false_iff_ne.mpr q38f), bf (beq_eq_false_iff_ne.mpr q39f), bf (beq_eq_false_iff_ne.mpr q40f), bF, fo q42, fo q42, rq, fr r45]) p29 a29 (by kernel_rfl) h0
    · replace h0 := h0.2 e
      subst e
      exact ent_ret (fs := [rd q0, fd q1, rd q2, fd q3, rd q2, fo q5, rt (Nat.ble_eq_true_of_le q6), fo q5, fd q8, fr (r9 h9), tt q10f, rd q11, fd q12, bT, bT, bT, bT, bT, bT, bT, bT, bT, bT, bT, bT, bT, bT]) p29 a29 (by kernel_rfl) h0
  · replace h0 := h0.2 q10f
    rcases bcase b21 with e | e
    · replace h0 := h0.1 e
      subst e
      rcases icase ((W (n19 - n22))) 0 with q18f | q18f
      · replace h0 := h0.1 q18f
        exact ent_ret (fs := [rd q0, fd q1, rd q2, fd q3, rd q2, fo q5, rt (Nat.ble_eq_true_of_le q6), fo q5, fd q8, fr (r9 h9), tl q10f, bF, bF, bF, bF, bF, bF, bF, tt q18f, tt q18f, tt q18f, tt q18f, tt q18f, tt q18f, bT]) p29 a29 (by kernel_rfl) h0
      · replace h0 := h0.2 q18f
        rcases icase n12 n19 with q24f | q24f
        · replace h0 := h0.1 q24f
          exact ent_ret (fs := [rd q0, fd q1, rd q2, fd q3, rd q2, fo q5, rt (Nat.ble_eq_true_of_le q6), fo q5, fd q8, fr (r9 h9), tl q10f, bF, bF, bF, bF, bF, bF, bF, tl q18f, tl q18f, tl q18f, tl q18f, tl q18f, tl q18f, tt q24f]) p29 a29 (by kernel_rfl) h0
        · replace h0 := h0.2 q24f
          obtain ⟨v, H26, r25, c24, g25, e, h0⟩ := h0
          subst e
          rcases Classical.em (n14 = 14) with e | q26f
          · replace h0 := h0.1 e
            subst e
            exact ent_ret (fs := [rd q0, fd q1, rd q2, fd q3, rd q2, fo q5, rt (Nat.ble_eq_true_of_le q6), fo q5, fd q8, fr (r9 h9), tl q10f, bF, bF, bF, bF, bF, bF, bF, tl q18f, tl q18f, tl q18f, tl q18f, tl q18f, tl q18f, tl q24f, fr r25, bT, bT]) p29 a29 (by kernel_rfl) h0
          · replace h0 := h0.2 q26f
            rcases Classical.em (n14 = 15) with e | q27f
            · replace h0 := h0.1 e
              subst e
              exact ent_ret (fs := [rd q0, fd q1, rd q2, fd q3, rd q2, fo q5, rt (Nat.ble_eq_true_of_le q6), fo q5, fd q8, fr (r9 h9), tl q10f, bF, bF, bF, bF, bF, bF, bF, tl q18f, tl q18f, tl q18f, tl q18f, tl q18f, tl q18f, tl q24f, fr r25, bF, bT]) p29 a29 (by kernel_rfl) h0
            · replace h0 := h0.2 q27f
              rcases Classical.em (n14 = 23) with e | q28f
              · replace h0 := h0.1 e
                subst e
                exact ent_ret (fs := [rd q0, fd q1, rd q2, fd q3, rd q2, fo q5, rt (Nat.ble_eq_true_of_le q6), fo q5, fd q8, fr (r9 h9), tl q10f, bF, bF, bF, bF, bF, bF, bF, tl q18f, tl q18f, tl q18f, tl q18f, tl q18f, tl q18f, tl q24f, fr r25, bF, bF, bT, bT]) p29 a29 (by kernel_rfl) h0
              · replace h0 := h0.2 q28f
                rcases Classical.em (n14 = 30) with e | q29f
                · replace h0 := h0.1 e
                  subst e
                  exact ent_ret (fs := [rd q0, fd q1, rd q2, fd q3, rd q2, fo q5, rt (Nat.ble_eq_true_of_le q6), fo q5, fd q8, fr (r9 h9), tl q10f, bF, bF, bF, bF, bF, bF, bF, tl q18f, tl q18f, tl q18f, tl q18f, tl q18f, tl q18f, tl q24f, fr r25, bF, bF, bF, bT]) p29 a29 (by kernel_rfl) h0
                · replace h0 := h0.2 q29f
                  rcases Classical.em (n14 = 16) with e | q30f
                  · replace h0 := h0.1 e
                    subst e
                    obtain ⟨l27, q32, h0⟩ := h0
                    obtain ⟨v, H29, r35, b28, e, h0⟩ := h0
                    subst e
                    exact ent_ret (fs := [rd q0, fd q1, rd q2, fd q3, rd q2, fo q5, rt (Nat.ble_eq_true_of_le q6), fo q5, fd q8, fr (r9 h9), tl q10f, bF, bF, bF, bF, bF, bF, bF, tl q18f, tl q18f, tl q18f, tl q18f, tl q18f, tl q18f, tl q24f, fr r25, bF, bF, bF, bF, bT, bF, fo q32, fo q32, rq, fr r35]) p29 a29 (by kernel_rfl) h0
                  · replace h0 := h0.2 q30f
                    rcases Classical.em (n14 = 17) with e | q31f
                    · replace h0 := h0.1 e
                      subst e
                      rcases icase n15 0 with q32f | q32f
                      · replace h0 := h0.1 q32f
                        obtain ⟨l27, q33, h0⟩ := h0
                        obtain ⟨v, H29, r36, b28, e, h0⟩ := h0
                        subst e
                        exact ent_ret (fs := [rd q0, fd q1, rd q2, fd q3, rd q2, fo q5, rt (Nat.ble_eq_true_of_le q6), fo q5, fd q8, fr (r9 h9), tl q10f, bF, bF, bF, bF, bF, bF, bF, tl q18f, tl q18f, tl q18f, tl q18f, tl q18f, tl q18f, tl q24f, fr r25, bF, bF, bF, bF, bF, bT, tg q32f, fo q33, fo q33, rq, fr r36]) p29 a29 (by kernel_rfl) h0
                      · replace h0 := h0.2 q32f
                        obtain ⟨l27, q33, h0⟩ := h0
                        obtain ⟨v, H29, r36, b28, e, h0⟩ := h0
                        subst e
                        rcases bcase b28 with e | e
                        · replace h0 := h0.1 e
                          subst e
                          obtain ⟨v, H31, r39, b30, e, h0⟩ := h0
                          subst e
                          exact ent_ret (fs := [rd q0, fd q1, rd q2, fd q3, rd q2, fo q5, rt (Nat.ble_eq_true_of_le q6), fo q5, fd q8, fr (r9 h9), tl q10f, bF, bF, bF, bF, bF, bF, bF, tl q18f, tl q18f, tl q18f, tl q18f, tl q18f, tl q18f, tl q24f, fr r25, bF, bF, bF, bF, bF, bT, tt q32f, fo q33, fo q33, rq, fr r36, bF, rq, fr r39]) p29 a29 (by kernel_rfl) h0
                        · replace h0 := h0.2 e
                          subst e
                          exact ent_ret (fs := [rd q0, fd q1, rd q2, fd q3, rd q2, fo q5, rt (Nat.ble_eq_true_of_le q6), fo q5, fd q8, fr (r9 h9), tl q10f, bF, bF, bF, bF, bF, bF, bF, tl q18f, tl q18f, tl q18f, tl q18f, tl q18f, tl q18f, tl q24f, fr r25, bF, bF, bF, bF, bF, bT, tt q32f, fo q33, fo q33, rq, fr r36, bT]) p29 a29 (by kernel_rfl) h0
                    · replace h0 := h0.2 q31f
                      rcases Classical.em (n14 = 18) with e | q32f
                      · replace h0 := h0.1 e
                        subst e
                        rcases icase n16 0 with q33f | q33f
                        · replace h0 := h0.1 q33f
                          obtain ⟨l27, q34, h0⟩ := h0
                          obtain ⟨v, H29, r37, b28, e, h0⟩ := h0
                          subst e
                          exact ent_ret (fs := [rd q0, fd q1, rd q2, fd q3, rd q2, fo q5, rt (Nat.ble_eq_true_of_le q6), fo q5, fd q8, fr (r9 h9), tl q10f, bF, bF, bF, bF, bF, bF, bF, tl q18f, tl q18f, tl q18f, tl q18f, tl q18f, tl q18f, tl q24f, fr r25, bF, bF, bF, bF, bF, bF, bT, tg q33f, fo q34, fo q34, rq, fr r37]) p29 a29 (by kernel_rfl) h0
                        · replace h0 := h0.2 q33f
                          obtain ⟨l27, q34, h0⟩ := h0
                          obtain ⟨v, H29, r37, b28, e, h0⟩ := h0
                          subst e
                          rcases bcase b28 with e | e
                          · replace h0 := h0.1 e
                            subst e
                            obtain ⟨v, H31, r40, b30, e, h0⟩ := h0
                            subst e
                            exact ent_ret (fs := [rd q0, fd q1, rd q2, fd q3, rd q2, fo q5, rt (Nat.ble_eq_true_of_le q6), fo q5, fd q8, fr (r9 h9), tl q10f, bF, bF, bF, bF, bF, bF, bF, tl q18f, tl q18f, tl q18f, tl q18f, tl q18f, tl q18f, tl q24f, fr r25, bF, bF, bF, bF, bF, bF, bT, tt q33f, fo q34, fo q34, rq, fr r37, bF, rq, fr r40]) p29 a29 (by kernel_rfl) h0
                          · replace h0 := h0.2 e
                            subst e
                            exact ent_ret (fs := [rd q0, fd q1, rd q2, fd q3, rd q2, fo q5, rt (Nat.ble_eq_true_of_le q6), fo q5, fd q8, fr (r9 h9), tl q10f, bF, bF, bF, bF, bF, bF, bF, tl q18f, tl q18f, tl q18f, tl q18f, tl q18f, tl q18f, tl q24f, fr r25, bF, bF, bF, bF, bF, bF, bT, tt q33f, fo q34, fo q34, rq, fr r37, bT]) p29 a29 (by kernel_rfl) h0
                      · replace h0 := h0.2 q32f
                        rcases Classical.em (n14 = 21) with e | q33f
                        · replace h0 := h0.1 e
                          subst e
                          obtain ⟨v, H28, r34, b27, e, h0⟩ := h0
                          subst e
                          rcases bcase b27 with e | e
                          · replace h0 := h0.1 e
                            subst e
                            obtain ⟨l29, q36, h0⟩ := h0
                            obtain ⟨q37, h0⟩ := h0
                            obtain ⟨q39, h0⟩ := h0
                            obtain ⟨v, H31, r42, b30, e, h0⟩ := h0
                            subst e
                            exact ent_ret (fs := [rd q0, fd q1, rd q2, fd q3, rd q2, fo q5, rt (Nat.ble_eq_true_of_le q6), fo q5, fd q8, fr (r9 h9), tl q10f, bF, bF, bF, bF, bF, bF, bF, tl q18f, tl q18f, tl q18f, tl q18f, tl q18f, tl q18f, tl q24f, fr r25, bF, bF, bF, bF, bF, bF, bF, bT, fr r34, bF, fo q36, rt (Nat.ble_eq_true_of_le q37), bF, fo q39, fo q39, rq, fr r42]) p29 a29 (by kernel_rfl) h0
                          · replace h0 := h0.2 e
                            subst e
                            exact ent_ret (fs := [rd q0, fd q1, rd q2, fd q3, rd q2, fo q5, rt (Nat.ble_eq_true_of_le q6), fo q5, fd q8, fr (r9 h9), tl q10f, bF, bF, bF, bF, bF, bF, bF, tl q18f, tl q18f, tl q18f, tl q18f, tl q18f, tl q18f, tl q24f, fr r25, bF, bF, bF, bF, bF, bF, bF, bT, fr r34, bT]) p29 a29 (by kernel_rfl) h0
                        · replace h0 := h0.2 q33f
                          rcases Classical.em (n14 = 28) with e | q34f
                          · replace h0 := h0.1 e
                            subst e
                            obtain ⟨v, H28, r35, b27, e, h0⟩ := h0
                            subst e
                            rcases bcase b27 with e | e
                            · replace h0 := h0.1 e
                              subst e
                              obtain ⟨l29, q37, h0⟩ := h0
                              obtain ⟨q38, h0⟩ := h0
                              obtain ⟨q40, h0⟩ := h0
                              obtain ⟨v, H31, r43, b30, e, h0⟩ := h0
                              subst e
                              exact ent_ret (fs := [rd q0, fd q1, rd q2, fd q3, rd q2, fo q5, rt (Nat.ble_eq_true_of_le q6), fo q5, fd q8, fr (r9 h9), tl q10f, bF, bF, bF, bF, bF, bF, bF, tl q18f, tl q18f, tl q18f, tl q18f, tl q18f, tl q18f, tl q24f, fr r25, bF, bF, bF, bF, bF, bF, bF, bF, bT, fr r35, bF, fo q37, rt (Nat.ble_eq_true_of_le q38), bF, fo q40, fo q40, rq, fr r43]) p29 a29 (by kernel_rfl) h0
                            · replace h0 := h0.2 e
                              subst e
                              exact ent_ret (fs := [rd q0, fd q1, rd q2, fd q3, rd q2, fo q5, rt (Nat.ble_eq_true_of_le q6), fo q5, fd q8, fr (r9 h9), tl q10f, bF, bF, bF, bF, bF, bF, bF, tl q18f, tl q18f, tl q18f, tl q18f, tl q18f, tl q18f, tl q24f, fr r25, bF, bF, bF, bF, bF, bF, bF, bF, bT, fr r35, bT]) p29 a29 (by kernel_rfl) h0
                          · replace h0 := h0.2 q34f
                            rcases Classical.em (n14 = 26) with e | q35f
                            · replace h0 := h0.1 e
                              subst e
                              exact ent_at (fs := [rd q0, fd q1, rd q2, fd q3, rd q2, fo q5, rt (Nat.ble_eq_true_of_le q6), fo q5, fd q8, fr (r9 h9), tl q10f, bF, bF, bF, bF, bF, bF, bF, tl q18f, tl q18f, tl q18f, tl q18f, tl q18f, tl q18f, tl q24f, fr r25, bF, bF, bF, bF, bF, bF, bF, bF, bF, bT]) p29 a29 (by kernel_rfl) h0
                            · replace h0 := h0.2 q35f
                              rcases Classical.em (n14 = 22) with e | q36f
                              · replace h0 := h0.1 e
                                subst e
                                rcases Classical.em ((((l20.length : Nat) : Int) : Int) = 0) with q40f | q40f
                                · replace h0 := h0.1 q40f
                                  exact ent_ret (fs := [rd q0, fd q1, rd q2, fd q3, rd q2, fo q5, rt (Nat.ble_eq_true_of_le q6), fo q5, fd q8, fr (r9 h9), tl q10f, bF, bF, bF, bF, bF, bF, bF, tl q18f, tl q18f, tl q18f, tl q18f, tl q18f, tl q18f, tl q24f, fr r25, bF, bF, bF, bF, bF, bF, bF, bF, bF, bF, bT, bT, bF, bF, bt (beq_iff_eq.mpr q40f), bt (beq_iff_eq.mpr q40f), bt (beq_iff_eq.mpr q40f), bt (beq_iff_eq.mpr q40f), bt (beq_iff_eq.mpr q40f), bt (beq_iff_eq.mpr q40f), bt (beq_iff_eq.mpr q40f), bt (beq_iff_eq.mpr q40f), bt (beq_iff_eq.mpr q40f), bt (beq_iff_eq.mpr q40f), bt (beq_iff_eq.mpr q40f), bt (beq_iff_eq.mpr q40f), bT]) p29 a29 (by kernel_rfl) h0
                                · replace h0 := h0.2 q40f
                                  obtain ⟨q47, h0⟩ := h0
                                  obtain ⟨n27, n28, q48, h0⟩ := h0
                                  rcases Classical.em (n27 = 21) with e | q54f
                                  · replace h0 := h0.1 e
                                    subst e
                                    obtain ⟨l29, q55, h0⟩ := h0
                                    obtain ⟨q57, h0⟩ := h0
                                    obtain ⟨q58a, h0⟩ := h0
                                    obtain ⟨q58b, h0⟩ := h0
                                    obtain ⟨q61, h0⟩ := h0
                                    obtain ⟨v, H31, r64, b30, e, h0⟩ := h0
                                    subst e
                                    exact ent_ret (fs := [rd q0, fd q1, rd q2, fd q3, rd q2, fo q5, rt (Nat.ble_eq_true_of_le q6), fo q5, fd q8, fr (r9 h9), tl q10f, bF, bF, bF, bF, bF, bF, bF, tl q18f, tl q18f, tl q18f, tl q18f, tl q18f, tl q18f, tl q24f, fr r25, bF, bF, bF, bF, bF, bF, bF, bF, bF, bF, bT, bT, bF, bF, bf (beq_eq_false_iff_ne.mpr q40f), bf (beq_eq_false_iff_ne.mpr q40f), bf (beq_eq_false_iff_ne.mpr q40f), bf (beq_eq_false_iff_ne.mpr q40f), bf (beq_eq_false_iff_ne.mpr q40f), bf (beq_eq_false_iff_ne.mpr q40f), bf (beq_eq_false_iff_ne.mpr q40f), rd q47, fd q48, bf (beq_eq_false_iff_ne.mpr q40f), bf (beq_eq_false_iff_ne.mpr q40f), bf (beq_eq_false_iff_ne.mpr q40f), bf (beq_eq_false_iff_ne.mpr q40f), bf (beq_eq_false_iff_ne.mpr q40f), bF, fo q55, fo q55, rd q57, rt (andT (Nat.ble_eq_true_of_le q58a) (Nat.ble_eq_true_of_le q58b)), bF, fo q55, rt (Nat.ble_eq_true_of_le q61), fo q55, rq, fr r64]) p29 a29 (by kernel_rfl) h0
                                  · replace h0 := h0.2 q54f
                                    exact ent_ret (fs := [rd q0, fd q1, rd q2, fd q3, rd q2, fo q5, rt (Nat.ble_eq_true_of_le q6), fo q5, fd q8, fr (r9 h9), tl q10f, bF, bF, bF, bF, bF, bF, bF, tl q18f, tl q18f, tl q18f, tl q18f, tl q18f, tl q18f, tl q24f, fr r25, bF, bF, bF, bF, bF, bF, bF, bF, bF, bF, bT, bT, bF, bF, bf (beq_eq_false_iff_ne.mpr q40f), bf (beq_eq_false_iff_ne.mpr q40f), bf (beq_eq_false_iff_ne.mpr q40f), bf (beq_eq_false_iff_ne.mpr q40f), bf (beq_eq_false_iff_ne.mpr q40f), bf (beq_eq_false_iff_ne.mpr q40f), bf (beq_eq_false_iff_ne.mpr q40f), rd q47, fd q48, bf (beq_eq_false_iff_ne.mpr q40f), bf (beq_eq_false_iff_ne.mpr q40f), bf (beq_eq_false_iff_ne.mpr q40f), bf (beq_eq_false_iff_ne.mpr q40f), bf (beq_eq_false_iff_ne.mpr q40f), bt (bne_iff_ne.mpr q54f)]) p29 a29 (by kernel_rfl) h0
                              · replace h0 := h0.2 q36f
                                rcases Classical.em (n14 = 27) with e | q37f
                                · replace h0 := h0.1 e
                                  subst e
                                  rcases Classical.em ((((l20.length : Nat) : Int) : Int) = 0) with q41f | q41f
                                  · replace h0 := h0.1 q41f
                                    exact ent_ret (fs := [rd q0, fd q1, rd q2, fd q3, rd q2, fo q5, rt (Nat.ble_eq_true_of_le q6), fo q5, fd q8, fr (r9 h9), tl q10f, bF, bF, bF, bF, bF, bF, bF, tl q18f, tl q18f, tl q18f, tl q18f, tl q18f, tl q18f, tl q24f, fr r25, bF, bF, bF, bF, bF, bF, bF, bF, bF, bF, bF, bT, bT, bT, bF, bt (beq_iff_eq.mpr q41f), bt (beq_iff_eq.mpr q41f), bt (beq_iff_eq.mpr q41f), bt (beq_iff_eq.mpr q41f), bt (beq_iff_eq.mpr q41f), bt (beq_iff_eq.mpr q41f), bt (beq_iff_eq.mpr q41f), bt (beq_iff_eq.mpr q41f), bt (beq_iff_eq.mpr q41f), bt (beq_iff_eq.mpr q41f), bt (beq_iff_eq.mpr q41f), bt (beq_iff_eq.mpr q41f), bT]) p29 a29 (by kernel_rfl) h0
                                  · replace h0 := h0.2 q41f
                                    obtain ⟨q48, h0⟩ := h0
                                    obtain ⟨n27, n28, q49, h0⟩ := h0
                                    rcases Classical.em (n27 = 26) with e | q55f
                                    · replace h0 := h0.1 e
                                      subst e
                                      obtain ⟨l29, q56, h0⟩ := h0
                                      obtain ⟨q58, h0⟩ := h0
                                      obtain ⟨q59a, h0⟩ := h0
                                      obtain ⟨q59b, h0⟩ := h0
                                      obtain ⟨q62, h0⟩ := h0
                                      obtain ⟨v, H31, r65, b30, e, h0⟩ := h0
                                      subst e
                                      exact ent_ret (fs := [rd q0, fd q1, rd q2, fd q3, rd q2, fo q5, rt (Nat.ble_eq_true_of_le q6), fo q5, fd q8, fr (r9 h9), tl q10f, bF, bF, bF, bF, bF, bF, bF, tl q18f, tl q18f, tl q18f, tl q18f, tl q18f, tl q18f, tl q24f, fr r25, bF, bF, bF, bF, bF, bF, bF, bF, bF, bF, bF, bT, bT, bT, bF, bf (beq_eq_false_iff_ne.mpr q41f), bf (beq_eq_false_iff_ne.mpr q41f), bf (beq_eq_false_iff_ne.mpr q41f), bf (beq_eq_false_iff_ne.mpr q41f), bf (beq_eq_false_iff_ne.mpr q41f), bf (beq_eq_false_iff_ne.mpr q41f), bf (beq_eq_false_iff_ne.mpr q41f), rd q48, fd q49, bf (beq_eq_false_iff_ne.mpr q41f), bf (beq_eq_false_iff_ne.mpr q41f), bf (beq_eq_false_iff_ne.mpr q41f), bf (beq_eq_false_iff_ne.mpr q41f), bf (beq_eq_false_iff_ne.mpr q41f), bF, fo q56, fo q56, rd q58, rt (andT (Nat.ble_eq_true_of_le q59a) (Nat.ble_eq_true_of_le q59b)), bF, fo q56, rt (Nat.ble_eq_true_of_le q62), fo q56, rq, fr r65]) p29 a29 (by kernel_rfl) h0
                                    · replace h0 := h0.2 q55f
                                      exact ent_ret (fs := [rd q0, fd q1, rd q2, fd q3, rd q2, fo q5, rt (Nat.ble_eq_true_of_le q6), fo q5, fd q8, fr (r9 h9), tl q10f, bF, bF, bF, bF, bF, bF, bF, tl q18f, tl q18f, tl q18f, tl q18f, tl q18f, tl q18f, tl q24f, fr r25, bF, bF, bF, bF, bF, bF, bF, bF, bF, bF, bF, bT, bT, bT, bF, bf (beq_eq_false_iff_ne.mpr q41f), bf (beq_eq_false_iff_ne.mpr q41f), bf (beq_eq_false_iff_ne.mpr q41f), bf (beq_eq_false_iff_ne.mpr q41f), bf (beq_eq_false_iff_ne.mpr q41f), bf (beq_eq_false_iff_ne.mpr q41f), bf (beq_eq_false_iff_ne.mpr q41f), rd q48, fd q49, bf (beq_eq_false_iff_ne.mpr q41f), bf (beq_eq_false_iff_ne.mpr q41f), bf (beq_eq_false_iff_ne.mpr q41f), bf (beq_eq_false_iff_ne.mpr q41f), bf (beq_eq_false_iff_ne.mpr q41f), bt (bne_iff_ne.mpr q55f)]) p29 a29 (by kernel_rfl) h0
                                · replace h0 := h0.2 q37f
                                  rcases Classical.em (n14 = 29) with e | q38f
                                  · replace h0 := h0.1 e
                                    subst e
                                    rcases Classical.em ((((l20.length : Nat) : Int) : Int) = 0) with q41f | q41f
                                    · replace h0 := h0.1 q41f
                                      exact ent_ret (fs := [rd q0, fd q1, rd q2, fd q3, rd q2, fo q5, rt (Nat.ble_eq_true_of_le q6), fo q5, fd q8, fr (r9 h9), tl q10f, bF, bF, bF, bF, bF, bF, bF, tl q18f, tl q18f, tl q18f, tl q18f, tl q18f, tl q18f, tl q24f, fr r25, bF, bF, bF, bF, bF, bF, bF, bF, bF, bF, bF, bF, bT, bF, bT, bt (beq_iff_eq.mpr q41f), bt (beq_iff_eq.mpr q41f), bt (beq_iff_eq.mpr q41f), bt (beq_iff_eq.mpr q41f), bt (beq_iff_eq.mpr q41f), bt (beq_iff_eq.mpr q41f), bt (beq_iff_eq.mpr q41f), bt (beq_iff_eq.mpr q41f), bt (beq_iff_eq.mpr q41f), bt (beq_iff_eq.mpr q41f), bt (beq_iff_eq.mpr q41f), bt (beq_iff_eq.mpr q41f), bT]) p29 a29 (by kernel_rfl) h0
                                    · replace h0 := h0.2 q41f
                                      obtain ⟨q48, h0⟩ := h0
                                      obtain ⟨n27, n28, q49, h0⟩ := h0
                                      rcases Classical.em (n27 = 28) with e | q55f
                                      · replace h0 := h0.1 e
                                        subst e
                                        obtain ⟨l29, q56, h0⟩ := h0
                                        obtain ⟨q58, h0⟩ := h0
                                        obtain ⟨q59a, h0⟩ := h0
                                        obtain ⟨q59b, h0⟩ := h0
                                        obtain ⟨q62, h0⟩ := h0
                                        obtain ⟨v, H31, r65, b30, e, h0⟩ := h0
                                        subst e
                                        exact ent_ret (fs := [rd q0, fd q1, rd q2, fd q3, rd q2, fo q5, rt (Nat.ble_eq_true_of_le q6), fo q5, fd q8, fr (r9 h9), tl q10f, bF, bF, bF, bF, bF, bF, bF, tl q18f, tl q18f, tl q18f, tl q18f, tl q18f, tl q18f, tl q24f, fr r25, bF, bF, bF, bF, bF, bF, bF, bF, bF, bF, bF, bF, bT, bF, bT, bf (beq_eq_false_iff_ne.mpr q41f), bf (beq_eq_false_iff_ne.mpr q41f), bf (beq_eq_false_iff_ne.mpr q41f), bf (beq_eq_false_iff_ne.mpr q41f), bf (beq_eq_false_iff_ne.mpr q41f), bf (beq_eq_false_iff_ne.mpr q41f), bf (beq_eq_false_iff_ne.mpr q41f), rd q48, fd q49, bf (beq_eq_false_iff_ne.mpr q41f), bf (beq_eq_false_iff_ne.mpr q41f), bf (beq_eq_false_iff_ne.mpr q41f), bf (beq_eq_false_iff_ne.mpr q41f), bf (beq_eq_false_iff_ne.mpr q41f), bF, fo q56, fo q56, rd q58, rt (andT (Nat.ble_eq_true_of_le q59a) (Nat.ble_eq_true_of_le q59b)), bF, fo q56, rt (Nat.ble_eq_true_of_le q62), fo q56, rq, fr r65]) p29 a29 (by kernel_rfl) h0
                                      · replace h0 := h0.2 q55f
                                        exact ent_ret (fs := [rd q0, fd q1, rd q2, fd q3, rd q2, fo q5, rt (Nat.ble_eq_true_of_le q6), fo q5, fd q8, fr (r9 h9), tl q10f, bF, bF, bF, bF, bF, bF, bF, tl q18f, tl q18f, tl q18f, tl q18f, tl q18f, tl q18f, tl q24f, fr r25, bF, bF, bF, bF, bF, bF, bF, bF, bF, bF, bF, bF, bT, bF, bT, bf (beq_eq_false_iff_ne.mpr q41f), bf (beq_eq_false_iff_ne.mpr q41f), bf (beq_eq_false_iff_ne.mpr q41f), bf (beq_eq_false_iff_ne.mpr q41f), bf (beq_eq_false_iff_ne.mpr q41f), bf (beq_eq_false_iff_ne.mpr q41f), bf (beq_eq_false_iff_ne.mpr q41f), rd q48, fd q49, bf (beq_eq_false_iff_ne.mpr q41f), bf (beq_eq_false_iff_ne.mpr q41f), bf (beq_eq_false_iff_ne.mpr q41f), bf (beq_eq_false_iff_ne.mpr q41f), bf (beq_eq_false_iff_ne.mpr q41f), bt (bne_iff_ne.mpr q55f)]) p29 a29 (by kernel_rfl) h0
                                  · replace h0 := h0.2 q38f
                                    obtain ⟨l27, q40, h0⟩ := h0
                                    obtain ⟨v, H29, r43, b28, e, h0⟩ := h0
                                    subst e
                                    exact ent_ret (fs := [rd q0, fd q1, rd q2, fd q3, rd q2, fo q5, rt (Nat.ble_eq_true_of_le q6), fo q5, fd q8, fr (r9 h9), tl q10f, bF, bF, bF, bF, bF, bF, bF, tl q18f, tl q18f, tl q18f, tl q18f, tl q18f, tl q18f, tl q24f, fr r25, bf (beq_eq_false_iff_ne.mpr q26f), bf (beq_eq_false_iff_ne.mpr q27f), bf (beq_eq_false_iff_ne.mpr q28f), bf (beq_eq_false_iff_ne.mpr q29f), bf (beq_eq_false_iff_ne.mpr q30f), bf (beq_eq_false_iff_ne.mpr q31f), bf (beq_eq_false_iff_ne.mpr q32f), bf (beq_eq_false_iff_ne.mpr q33f), bf (beq_eq_false_iff_ne.mpr q34f), bf (beq_eq_false_iff_ne.mpr q35f), bf (beq_eq_false_iff_ne.mpr q36f), bf (beq_eq_false_iff_ne.mpr q37f), bf (beq_eq_false_iff_ne.mpr q38f), bF, fo q40, fo q40, rq, fr r43]) p29 a29 (by kernel_rfl) h0
    · replace h0 := h0.2 e
      subst e
      exact ent_ret (fs := [rd q0, fd q1, rd q2, fd q3, rd q2, fo q5, rt (Nat.ble_eq_true_of_le q6), fo q5, fd q8, fr (r9 h9), tl q10f, bT, bT, bT, bT, bT, bT, bT, bT, bT, bT, bT, bT, bT, bT]) p29 a29 (by kernel_rfl) h0

theorem w29_1 {p1_1 : Nat} {p1_2 : Nat} {p1_3 : Int} {p1_4 : Int} {p1_5 : Int} {p1_6 : Int} {p1_7 : Int} {p1_8 : List D} {p1_9 : Int} {p1_10 : Int} {p1_11 : Bool} {p1_12 : Int} {p1_13 : List D} {p1_14 : Int} {p1_15 : Nat} {p1_16 : Nat} {p1_17 : Heap} {Q : V → Heap → Prop}
    (h0 : ((p1_4 < ((p1_13.length : Nat) : Int) → ((0 : Int) ≤ p1_4 ∧ (∃ (nr11 : Int) (nr12 : Int), p1_13[(Int.toNat p1_4)]? = some (.agg [dI nr11, dI nr12]) ∧ ((nr11 = 26 → Q (vBool false) p1_17) ∧ (nr11 ≠ 26 → Wl PP AA F29 f29_K1 (f29_S1 p1_1 p1_2 p1_3 ((W (p1_4 + 1))) p1_5 p1_6 p1_7 p1_8 p1_9 p1_10 p1_11 p1_12 p1_13 p1_14 p1_15 p1_16 p1_17) Q))))) ∧ (((p1_13.length : Nat) : Int) ≤ p1_4 → (∃ (lr11 : List D), hpAt p1_17 p1_15 p1_16 = some (.darr p1_16 2 lr11) ∧ ((lr11.length + 1) ≤ 274877906944 ∧ (hpAt (Heap.put p1_17 p1_15 (some (.darr ((p1_16 + 1)) 2 ((lr11 ++ [.agg [dI 26, dI p1_12]]))))) p1_15 ((p1_16 + 1)) = some (.darr ((p1_16 + 1)) 2 ((lr11 ++ [.agg [dI 26, dI p1_12]]))) ∧ (Wc PP AA F54 [.sl (.he p1_1 p1_2) 3 none, vI p1_3, .s 3 (.agg [dB false, dI p1_14, .slice 2 ((lr11 ++ [.agg [dI 26, dI p1_12]]))]), vI p1_7] (Heap.put (Heap.put p1_17 p1_15 (some (.darr ((p1_16 + 1)) 2 ((lr11 ++ [.agg [dI 26, dI p1_12]]))))) p1_15 none) fun v Hr13 => ∃ (br12 : Bool), v = vBool br12 ∧ Q (vBool br12) Hr13))))))) :
    Wl PP AA F29 f29_K1 (f29_S1 p1_1 p1_2 p1_3 p1_4 p1_5 p1_6 p1_7 p1_8 p1_9 p1_10 p1_11 p1_12 p1_13 p1_14 p1_15 p1_16 p1_17) Q := by
  rcases icase p1_4 (((p1_13.length : Nat) : Int)) with q0f | q0f
  · replace h0 := h0.1 q0f
    obtain ⟨q1, h0⟩ := h0
    obtain ⟨nr11, nr12, q2, h0⟩ := h0
    rcases Classical.em (nr11 = 26) with e | q3f
    · replace h0 := h0.1 e
      subst e
      exact lp_ret (fs := [tt q0f, rd q1, fd q2, bT]) (by kernel_rfl) h0
    · replace h0 := h0.2 q3f
      exact lp_at (fs := [tt q0f, rd q1, fd q2, bf (beq_eq_false_iff_ne.mpr q3f)]) (by kernel_rfl) h0
  · replace h0 := h0.2 q0f
    obtain ⟨lr11, q1, h0⟩ := h0
    obtain ⟨q2, h0⟩ := h0
    obtain ⟨q4, h0⟩ := h0
    obtain ⟨v, Hr13, r7, br12, e, h0⟩ := h0
    subst e
    exact lp_ret (fs := [tl q0f, fo q1, rt (Nat.ble_eq_true_of_le q2), bF, fo q4, fo q4, rq, fr r7]) (by kernel_rfl) h0

/- (*selvage/gen.writer).let -/
noncomputable abbrev PF30 := Tryz.f41

theorem p30 : AA.prim F30 = none := by kernel_rfl
theorem a30 : AA.alone F30 = false := by kernel_rfl

theorem w30 {i1 : Nat} {n2 : Int} {n3 : Int} {s4 : ByteArray} {l5 : List D} {n6 : Int} {l7 : List D} {l8 : List D} {l9 : List D} {l10 : List D} {b11 : Bool} {h12 : Heap} {Q : V → Heap → Prop}
    (h0 : (Wa PP AA F20 [.s 9 (.agg [dI n2, dI n3, dS s4, .slice 9 l5, dI n6, .slice 0 l7, .slice 6 l8, .slice 4 l9, .slice 0 l10]), vI 0] fun v => ∃ (n13 : Int) (n14 : Int) (s15 : ByteArray) (l16 : List D) (n17 : Int) (l18 : List D) (l19 : List D) (l20 : List D) (l21 : List D), v = .s 9 (.agg [dI n13, dI n14, dS s15, .slice 9 l16, dI n17, .slice 0 l18, .slice 6 l19, .slice 4 l20, .slice 0 l21]) ∧ (Wc PP AA F8 [.ptr (.he i1 0) 0 2 0, .s 9 (.agg [dI n13, dI n14, dS s15, .slice 9 l16, dI n17, .slice 0 l18, .slice 6 l19, .slice 4 l20, .slice 0 l21]), vBool false] h12 fun v H22 => v = .tuple [] ∧ (Wc PP AA F16 [.ptr (.he i1 0) 0 2 0, vI 7, .d (.slice 0 ([dI n3]))] H22 fun v H24 => ∃ (n23 : Int), v = vI n23 ∧ (Wa PP AA F20 [.s 9 (.agg [dI n2, dI n3, dS s4, .slice 9 l5, dI n6, .slice 0 l7, .slice 6 l8, .slice 4 l9, .slice 0 l10]), vI 1] fun v => ∃ (n25 : Int) (n26 : Int) (s27 : ByteArray) (l28 : List D) (n29 : Int) (l30 : List D) (l31 : List D) (l32 : List D) (l33 : List D), v = .s 9 (.agg [dI n25, dI n26, dS s27, .slice 9 l28, dI n29, .slice 0 l30, .slice 6 l31, .slice 4 l32, .slice 0 l33]) ∧ (Wc PP AA F8 [.ptr (.he i1 0) 0 2 0, .s 9 (.agg [dI n25, dI n26, dS s27, .slice 9 l28, dI n29, .slice 0 l30, .slice 6 l31, .slice 4 l32, .slice 0 l33]), vBool b11] H24 fun v H34 => v = .tuple [] ∧ Q (.tuple []) H34)))))) :
    Wc PP AA F30 [.ptr (.he i1 0) 0 2 0, .s 9 (.agg [dI n2, dI n3, dS s4, .slice 9 l5, dI n6, .slice 0 l7, .slice 6 l8, .slice 4 l9, .slice 0 l10]), vBool b11] h12 Q := by
  obtain ⟨v, r0, n13, n14, s15, l16, n17, l18, l19, l20, l21, e, h0⟩ := h0
  subst e
  obtain ⟨v, H22, r1, e, h0⟩ := h0
  subst e
  obtain ⟨v, H24, r2, n23, e, h0⟩ := h0
  subst e
  obtain ⟨v, r3, n25, n26, s27, l28, n29, l30, l31, l32, l33, e, h0⟩ := h0
  subst e
  obtain ⟨v, H34, r4, e, h0⟩ := h0
  subst e
  exact ent_ret (fs := [fr (r0 h12), fr r1, fr r2, fr (r3 H24), fr r4]) p30 a30 (by kernel_rfl) h0

/- (*selvage/gen.writer).seq -/
noncomputable abbrev PF31 := Tryz.f42

theorem p31 : AA.prim F31 = none := by kernel_rfl
theorem a31 : AA.alone F31 = false := by kernel_rfl

theorem w31 {i1 : Nat} {n2 : Int} {n3 : Int} {s4 : ByteArray} {l5 : List D} {n6 : Int} {l7 : List D} {l8 : List D} {l9 : List D} {l10 : List D} {b11 : Bool} {h12 : Heap} {Q : V → Heap → Prop}
    (h0 : (Wa PP AA F20 [.s 9 (.agg [dI n2, dI n3, dS s4, .slice 9 l5, dI n6, .slice 0 l7, .slice 6 l8, .slice 4 l9, .slice 0 l10]), vI 0] fun v => ∃ (n13 : Int) (n14 : Int) (s15 : ByteArray) (l16 : List D) (n17 : Int) (l18 : List D) (l19 : List D) (l20 : List D) (l21 : List D), v = .s 9 (.agg [dI n13, dI n14, dS s15, .slice 9 l16, dI n17, .slice 0 l18, .slice 6 l19, .slice 4 l20, .slice 0 l21]) ∧ (Wc PP AA F8 [.ptr (.he i1 0) 0 2 0, .s 9 (.agg [dI n13, dI n14, dS s15, .slice 9 l16, dI n17, .slice 0 l18, .slice 6 l19, .slice 4 l20, .slice 0 l21]), vBool false] h12 fun v H22 => v = .tuple [] ∧ (Wa PP AA F20 [.s 9 (.agg [dI n2, dI n3, dS s4, .slice 9 l5, dI n6, .slice 0 l7, .slice 6 l8, .slice 4 l9, .slice 0 l10]), vI 0] fun v => ∃ (n23 : Int) (n24 : Int) (s25 : ByteArray) (l26 : List D) (n27 : Int) (l28 : List D) (l29 : List D) (l30 : List D) (l31 : List D), v = .s 9 (.agg [dI n23, dI n24, dS s25, .slice 9 l26, dI n27, .slice 0 l28, .slice 6 l29, .slice 4 l30, .slice 0 l31]) ∧ ((n23 = 25 → (Wa PP AA F20 [.s 9 (.agg [dI n2, dI n3, dS s4, .slice 9 l5, dI n6, .slice 0 l7, .slice 6 l8, .slice 4 l9, .slice 0 l10]), vI 1] fun v => ∃ (n32 : Int) (n33 : Int) (s34 : ByteArray) (l35 : List D) (n36 : Int) (l37 : List D) (l38 : List D) (l39 : List D) (l40 : List D), v = .s 9 (.agg [dI n32, dI n33, dS s34, .slice 9 l35, dI n36, .slice 0 l37, .slice 6 l38, .slice 4 l39, .slice 0 l40]) ∧ (Wc PP AA F8 [.ptr (.he i1 0) 0 2 0, .s 9 (.agg [dI n32, dI n33, dS s34, .slice 9 l35, dI n36, .slice 0 l37, .slice 6 l38, .slice 4 l39, .slice 0 l40]), vBool b11] H22 fun v H41 => v = .tuple [] ∧ Q (.tuple []) H41))) ∧ (n23 ≠ 25 → (Wc PP AA F16 [.ptr (.he i1 0) 0 2 0, vI 9, .d (.slice 0 ([]))] H22 fun v H33 => ∃ (n32 : Int), v = vI n32 ∧ (Wa PP AA F20 [.s 9 (.agg [dI n2, dI n3, dS s4, .slice 9 l5, dI n6, .slice 0 l7, .slice 6 l8, .slice 4 l9, .slice 0 l10]), vI 1] fun v => ∃ (n34 : Int) (n35 : Int) (s36 : ByteArray) (l37 : List D) (n38 : Int) (l39 : List D) (l40 : List D) (l41 : List D) (l42 : List D), v = .s 9 (.agg [dI n34, dI n35, dS s36, .slice 9 l37, dI n38, .slice 0 l39, .slice 6 l40, .slice 4 l41, .slice 0 l42]) ∧ (Wc PP AA F8 [.ptr (.he i1 0) 0 2 0, .s 9 (.agg [dI n34, dI n35, dS s36, .slice 9 l37, dI n38, .slice 0 l39, .slice 6 l40, .slice 4 l41, .slice 0 l42]), vBool b11] H33 fun v H43 => v = .tuple [] ∧ Q (.tuple []) H43))))))))) :
    Wc PP AA F31 [.ptr (.he i1 0) 0 2 0, .s 9 (.agg [dI n2, dI n3, dS s4, .slice 9 l5, dI n6, .slice 0 l7, .slice 6 l8, .slice 4 l9, .slice 0 l10]), vBool b11] h12 Q := by
  obtain ⟨v, r0, n13, n14, s15, l16, n17, l18, l19, l20, l21, e, h0⟩ := h0
  subst e
  obtain ⟨v, H22, r1, e, h0⟩ := h0
  subst e
  obtain ⟨v, r2, n23, n24, s25, l26, n27, l28, l29, l30, l31, e, h0⟩ := h0
  subst e
  rcases Classical.em (n23 = 25) with e | q3f
  · replace h0 := h0.1 e
    subst e
    obtain ⟨v, r4, n32, n33, s34, l35, n36, l37, l38, l39, l40, e, h0⟩ := h0
    subst e
    obtain ⟨v, H41, r5, e, h0⟩ := h0
    subst e
    exact ent_ret (fs := [fr (r0 h12), fr r1, fr (r2 H22), bF, fr (r4 H22), fr r5]) p31 a31 (by kernel_rfl) h0
  · replace h0 := h0.2 q3f
    obtain ⟨v, H33, r4, n32, e, h0⟩ := h0
    subst e
    obtain ⟨v, r5, n34, n35, s36, l37, n38, l39, l40, l41, l42, e, h0⟩ := h0
    subst e
    obtain ⟨v, H43, r6, e, h0⟩ := h0
    subst e
    exact ent_ret (fs := [fr (r0 h12), fr r1, fr (r2 H22), bt (bne_iff_ne.mpr q3f), fr r4, fr (r5 H33), fr r6]) p31 a31 (by kernel_rfl) h0

/- (*selvage/gen.writer).branch -/
noncomputable abbrev PF32 := Tryz.f43

theorem p32 : AA.prim F32 = none := by kernel_rfl
theorem a32 : AA.alone F32 = false := by kernel_rfl

theorem w32 {i1 : Nat} {n2 : Int} {n3 : Int} {s4 : ByteArray} {l5 : List D} {n6 : Int} {l7 : List D} {l8 : List D} {l9 : List D} {l10 : List D} {b11 : Bool} {h12 : Heap} {Q : V → Heap → Prop}
    (h0 : (Wa PP AA F20 [.s 9 (.agg [dI n2, dI n3, dS s4, .slice 9 l5, dI n6, .slice 0 l7, .slice 6 l8, .slice 4 l9, .slice 0 l10]), vI 0] fun v => ∃ (n13 : Int) (n14 : Int) (s15 : ByteArray) (l16 : List D) (n17 : Int) (l18 : List D) (l19 : List D) (l20 : List D) (l21 : List D), v = .s 9 (.agg [dI n13, dI n14, dS s15, .slice 9 l16, dI n17, .slice 0 l18, .slice 6 l19, .slice 4 l20, .slice 0 l21]) ∧ (Wc PP AA F8 [.ptr (.he i1 0) 0 2 0, .s 9 (.agg [dI n13, dI n14, dS s15, .slice 9 l16, dI n17, .slice 0 l18, .slice 6 l19, .slice 4 l20, .slice 0 l21]), vBool false] h12 fun v H22 => v = .tuple [] ∧ (Wc PP AA F16 [.ptr (.he i1 0) 0 2 0, vI 17, .d (.slice 0 ([]))] H22 fun v H24 => ∃ (n23 : Int), v = vI n23 ∧ (Wa PP AA F20 [.s 9 (.agg [dI n2, dI n3, dS s4, .slice 9 l5, dI n6, .slice 0 l7, .slice 6 l8, .slice 4 l9, .slice 0 l10]), vI 1] fun v => ∃ (n25 : Int) (n26 : Int) (s27 : ByteArray) (l28 : List D) (n29 : Int) (l30 : List D) (l31 : List D) (l32 : List D) (l33 : List D), v = .s 9 (.agg [dI n25, dI n26, dS s27, .slice 9 l28, dI n29, .slice 0 l30, .slice 6 l31, .slice 4 l32, .slice 0 l33]) ∧ (Wc PP AA F8 [.ptr (.he i1 0) 0 2 0, .s 9 (.agg [dI n25, dI n26, dS s27, .slice 9 l28, dI n29, .slice 0 l30, .slice 6 l31, .slice 4 l32, .slice 0 l33]), vBool b11] H24 fun v H34 => v = .tuple [] ∧ ((b11 = true → (Wc PP AA F37 [.ptr (.he i1 0) 0 2 0, .d (.slice 0 ([dI n23]))] H34 fun v H35 => v = .tuple [] ∧ (Wa PP AA F20 [.s 9 (.agg [dI n2, dI n3, dS s4, .slice 9 l5, dI n6, .slice 0 l7, .slice 6 l8, .slice 4 l9, .slice 0 l10]), vI 2] fun v => ∃ (n36 : Int) (n37 : Int) (s38 : ByteArray) (l39 : List D) (n40 : Int) (l41 : List D) (l42 : List D) (l43 : List D) (l44 : List D), v = .s 9 (.agg [dI n36, dI n37, dS s38, .slice 9 l39, dI n40, .slice 0 l41, .slice 6 l42, .slice 4 l43, .slice 0 l44]) ∧ (Wc PP AA F8 [.ptr (.he i1 0) 0 2 0, .s 9 (.agg [dI n36, dI n37, dS s38, .slice 9 l39, dI n40, .slice 0 l41, .slice 6 l42, .slice 4 l43, .slice 0 l44]), vBool true] H35 fun v H45 => v = .tuple [] ∧ (Wc PP AA F37 [.ptr (.he i1 0) 0 2 0, .d (.slice 0 ([]))] H45 fun v H46 => v = .tuple [] ∧ Q (.tuple []) H46))))) ∧ (b11 = false → (Wc PP AA F16 [.ptr (.he i1 0) 0 2 0, vI 16, .d (.slice 0 ([]))] H34 fun v H36 => ∃ (n35 : Int), v = vI n35 ∧ (Wc PP AA F37 [.ptr (.he i1 0) 0 2 0, .d (.slice 0 ([dI n23]))] H36 fun v H37 => v = .tuple [] ∧ (Wa PP AA F20 [.s 9 (.agg [dI n2, dI n3, dS s4, .slice 9 l5, dI n6, .slice 0 l7, .slice 6 l8, .slice 4 l9, .slice 0 l10]), vI 2] fun v => ∃ (n38 : Int) (n39 : Int) (s40 : ByteArray) (l41 : List D) (n42 : Int) (l43 : List D) (l44 : List D) (l45 : List D) (l46 : List D), v = .s 9 (.agg [dI n38, dI n39, dS s40, .slice 9 l41, dI n42, .slice 0 l43, .slice 6 l44, .slice 4 l45, .slice 0 l46]) ∧ (Wc PP AA F8 [.ptr (.he i1 0) 0 2 0, .s 9 (.agg [dI n38, dI n39, dS s40, .slice 9 l41, dI n42, .slice 0 l43, .slice 6 l44, .slice 4 l45, .slice 0 l46]), vBool false] H37 fun v H47 => v = .tuple [] ∧ (Wc PP AA F37 [.ptr (.he i1 0) 0 2 0, .d (.slice 0 ([dI n35]))] H47 fun v H48 => v = .tuple [] ∧ Q (.tuple []) H48))))))))))))) :
    Wc PP AA F32 [.ptr (.he i1 0) 0 2 0, .s 9 (.agg [dI n2, dI n3, dS s4, .slice 9 l5, dI n6, .slice 0 l7, .slice 6 l8, .slice 4 l9, .slice 0 l10]), vBool b11] h12 Q := by
  obtain ⟨v, r0, n13, n14, s15, l16, n17, l18, l19, l20, l21, e, h0⟩ := h0
  subst e
  obtain ⟨v, H22, r1, e, h0⟩ := h0
  subst e
  obtain ⟨v, H24, r2, n23, e, h0⟩ := h0
  subst e
  obtain ⟨v, r3, n25, n26, s27, l28, n29, l30, l31, l32, l33, e, h0⟩ := h0
  subst e
  obtain ⟨v, H34, r4, e, h0⟩ := h0
  subst e
  rcases bcase b11 with e | e
  · replace h0 := h0.1 e
    subst e
    obtain ⟨v, H35, r6, e, h0⟩ := h0
    subst e
    obtain ⟨v, r7, n36, n37, s38, l39, n40, l41, l42, l43, l44, e, h0⟩ := h0
    subst e
    obtain ⟨v, H45, r8, e, h0⟩ := h0
    subst e
    obtain ⟨v, H46, r9, e, h0⟩ := h0
    subst e
    exact ent_ret (fs := [fr (r0 h12), fr r1, fr r2, fr (r3 H24), fr r4, bF, fr r6, fr (r7 H35), fr r8, fr r9]) p32 a32 (by kernel_rfl) h0
  · replace h0 := h0.2 e
    subst e
    obtain ⟨v, H36, r6, n35, e, h0⟩ := h0
    subst e
    obtain ⟨v, H37, r8, e, h0⟩ := h0
    subst e
    obtain ⟨v, r9, n38, n39, s40, l41, n42, l43, l44, l45, l46, e, h0⟩ := h0
    subst e
    obtain ⟨v, H47, r10, e, h0⟩ := h0
    subst e
    obtain ⟨v, H48, r11, e, h0⟩ := h0
    subst e
    exact ent_ret (fs := [fr (r0 h12), fr r1, fr r2, fr (r3 H24), fr r4, bT, fr r6, rq, fr r8, fr (r9 H37), fr r10, fr r11]) p32 a32 (by kernel_rfl) h0

end Am

/- Rules, printed by sym.py. -/
namespace Am
open Go Go.Proofs
set_option maxRecDepth 100000
/- (*selvage/gen.writer).match -/
noncomputable abbrev PF33 := Tryz.f44

noncomputable def f33_K1 : List It := [.lp (cdAt (codeOf PF33) [1, 1, 1, 1, 1, 1, 0, 1, 0, 0]), .blk 0, .c (cdAt (codeOf PF33) [1, 1, 1, 1, 1, 1, 1])]

noncomputable def f33_S1 (p1_1 : Nat) (p1_2 : Bool) (p1_3 : Int) (p1_4 : Int) (p1_5 : ByteArray) (p1_6 : List D) (p1_7 : Int) (p1_8 : List D) (p1_9 : List D) (p1_10 : List D) (p1_11 : List D) (p1_12 : Nat) (p1_13 : Int) (p1_14 : Int) (p1_15 : List D) (p1_16 : Heap) : St :=
  { nt := 87, tm := [(0, .ptr (.he p1_1 0) 0 2 0), (2, vBool p1_2), (4, .bp (.s 9 (.agg [dI p1_3, dI p1_4, dS p1_5, .slice 9 p1_6, dI p1_7, .slice 0 p1_8, .slice 6 p1_9, .slice 4 p1_10, .slice 0 p1_11])) 9 0), (6, .map (.he p1_12 0)), (7, .sl (.lo 1) 0 none), (30, vI p1_13), (31, vI p1_14)], lo := [(1, .darr 0 0 p1_15)], hp := p1_16 }

noncomputable def f33_K2 : List It := [.lp (cdAt (codeOf PF33) [1, 1, 1, 1, 1, 1, 0, 1, 0, 0, 1, 1, 0, 0, 1, 1, 0, 1, 0, 0]), .blk 2, .c (cdAt (codeOf PF33) [1, 1, 1, 1, 1, 1, 0, 1, 0, 0, 1, 1, 0, 0, 1, 1, 1]), .blk 1, .c (cdAt (codeOf PF33) [1, 1, 1, 1, 1, 1, 0, 1, 0, 0, 1, 1, 1]), .lp (cdAt (codeOf PF33) [1, 1, 1, 1, 1, 1, 0, 1, 0, 0]), .blk 0, .c (cdAt (codeOf PF33) [1, 1, 1, 1, 1, 1, 1])]

noncomputable def f33_S2 (p2_1 : Nat) (p2_2 : Bool) (p2_3 : Int) (p2_4 : Int) (p2_5 : ByteArray) (p2_6 : List D) (p2_7 : Int) (p2_8 : List D) (p2_9 : List D) (p2_10 : List D) (p2_11 : List D) (p2_12 : Nat) (p2_13 : Int) (p2_14 : Int) (p2_15 : List D) (p2_16 : Int) (p2_17 : Int) (p2_18 : List D) (p2_19 : Heap) : St :=
  { nt := 87, tm := [(0, .ptr (.he p2_1 0) 0 2 0), (2, vBool p2_2), (4, .bp (.s 9 (.agg [dI p2_3, dI p2_4, dS p2_5, .slice 9 p2_6, dI p2_7, .slice 0 p2_8, .slice 6 p2_9, .slice 4 p2_10, .slice 0 p2_11])) 9 0), (6, .map (.he p2_12 0)), (7, .sl (.lo 1) 0 none), (30, vI p2_13), (31, vI p2_14), (8, vI p2_14), (43, .d (.slice 2 p2_15)), (44, vI p2_16), (45, vI p2_17)], lo := [(1, .darr 0 0 p2_18)], hp := p2_19 }

theorem p33 : AA.prim F33 = none := by kernel_rfl
theorem a33 : AA.alone F33 = false := by kernel_rfl

theorem w33 {i1 : Nat} {n2 : Int} {n3 : Int} {s4 : ByteArray} {l5 : List D} {n6 : Int} {l7 : List D} {l8 : List D} {l9 : List D} {l10 : List D} {b11 : Bool} {h12 : Heap} {Q : V → Heap → Prop}
    (h0 : (Wa PP AA F20 [.s 9 (.agg [dI n2, dI n3, dS s4, .slice 9 l5, dI n6, .slice 0 l7, .slice 6 l8, .slice 4 l9, .slice 0 l10]), vI 0] fun v => ∃ (n13 : Int) (n14 : Int) (s15 : ByteArray) (l16 : List D) (n17 : Int) (l18 : List D) (l19 : List D) (l20 : List D) (l21 : List D), v = .s 9 (.agg [dI n13, dI n14, dS s15, .slice 9 l16, dI n17, .slice 0 l18, .slice 6 l19, .slice 4 l20, .slice 0 l21]) ∧ (Wc PP AA F8 [.ptr (.he i1 0) 0 2 0, .s 9 (.agg [dI n13, dI n14, dS s15, .slice 9 l16, dI n17, .slice 0 l18, .slice 6 l19, .slice 4 l20, .slice 0 l21]), vBool false] h12 fun v H22 => v = .tuple [] ∧ (Wc PP AA F16 [.ptr (.he i1 0) 0 2 0, vI 7, .d (.slice 0 ([dI n3]))] H22 fun v H24 => ∃ (n23 : Int), v = vI n23 ∧ (Wc PP AA F55 [.ptr (.he i1 0) 0 2 0, .s 4 (.agg [dI n6, .slice 0 l7, .slice 6 l8, .slice 4 l9]), vI n3, .map (.he H24.n 0), vI 1073741824] (Heap.push H24 (.map ([]) ([]))) fun v H25 => v = .tuple [] ∧ Wl PP AA F33 f33_K1 (f33_S1 i1 b11 n2 n3 s4 l5 n6 l7 l8 l9 l10 H24.n (((l10.length : Nat) : Int)) 0 ([]) H25) Q))))) :
    Wc PP AA F33 [.ptr (.he i1 0) 0 2 0, .s 9 (.agg [dI n2, dI n3, dS s4, .slice 9 l5, dI n6, .slice 0 l7, .slice 6 l8, .slice 4 l9, .slice 0 l10]), vBool b11] h12 Q := by
  obtain ⟨v, r0, n13, n14, s15, l16, n17, l18, l19, l20, l21, e, h0⟩ := h0
  subst e
  obtain ⟨v, H22, r1, e, h0⟩ := h0
  subst e
  obtain ⟨v, H24, r2, n23, e, h0⟩ := h0
  subst e
  obtain ⟨v, H25, r3, e, h0⟩ := h0
  subst e
  exact ent_at (fs := [fr (r0 h12), fr r1, fr r2, fr r3]) p33 a33 (by kernel_rfl) h0

theorem w33_1 {p1_1 : Nat} {p1_2 : Bool} {p1_3 : Int} {p1_4 : Int} {p1_5 : ByteArray} {p1_6 : List D} {p1_7 : Int} {p1_8 : List D} {p1_9 : List D} {p1_10 : List D} {p1_11 : List D} {p1_12 : Nat} {p1_13 : Int} {p1_14 : Int} {p1_15 : List D} {p1_16 : Heap} {Q : V → Heap → Prop}
    (h0 : ((p1_14 < p1_13 → (∃ (ksr11 : List Value) (vsr12 : List V), hpAt p1_16 p1_12 0 = some (.map ksr11 vsr12) ∧ ((∃ (cr13 : Nat) (gr14 : Nat), findKey (.int .i64 p1_14) ksr11 vsr12 = some (some (.sl (.he cr13 gr14) 0 none)) ∧ (Wc PP AA F37 [.ptr (.he p1_1 0) 0 2 0, .sl (.he cr13 gr14) 0 none] p1_16 fun v Hr15 => v = .tuple [] ∧ ((0 : Int) ≤ p1_14 ∧ (∃ (lr16 : List D), p1_11[(Int.toNat p1_14)]? = some (.slice 2 lr16) ∧ Wl PP AA F33 f33_K2 (f33_S2 p1_1 p1_2 p1_3 p1_4 p1_5 p1_6 p1_7 p1_8 p1_9 p1_10 p1_11 p1_12 p1_13 p1_14 lr16 (((lr16.length : Nat) : Int)) 0 p1_15 Hr15) Q)))) ∨ (findKey (.int .i64 p1_14) ksr11 vsr12 = some none ∧ (Wc PP AA F37 [.ptr (.he p1_1 0) 0 2 0, .d (.slice 0 ([]))] p1_16 fun v Hr13 => v = .tuple [] ∧ ((0 : Int) ≤ p1_14 ∧ (∃ (lr14 : List D), p1_11[(Int.toNat p1_14)]? = some (.slice 2 lr14) ∧ Wl PP AA F33 f33_K2 (f33_S2 p1_1 p1_2 p1_3 p1_4 p1_5 p1_6 p1_7 p1_8 p1_9 p1_10 p1_11 p1_12 p1_13 p1_14 lr14 (((lr14.length : Nat) : Int)) 0 p1_15 Hr13) Q))))))) ∧ (p1_13 ≤ p1_14 → (Wc PP AA F37 [.ptr (.he p1_1 0) 0 2 0, .d (.slice 0 p1_15)] p1_16 fun v Hr11 => v = .tuple [] ∧ Q (.tuple []) Hr11)))) :
    Wl PP AA F33 f33_K1 (f33_S1 p1_1 p1_2 p1_3 p1_4 p1_5 p1_6 p1_7 p1_8 p1_9 p1_10 p1_11 p1_12 p1_13 p1_14 p1_15 p1_16) Q := by
  rcases icase p1_14 p1_13 with q0f | q0f
  · replace h0 := h0.1 q0f
    obtain ⟨ksr11, vsr12, q1, h0⟩ := h0
    rcases h0 with h0 | h0
    · obtain ⟨cr13, gr14, q2, h0⟩ := h0
      obtain ⟨v, Hr15, r3, e, h0⟩ := h0
      subst e
      obtain ⟨q4, h0⟩ := h0
      obtain ⟨lr16, q5, h0⟩ := h0
      exact lp_at (fs := [tt q0f, fo q1, fw q2, fr r3, rd q4, fd q5]) (by kernel_rfl) h0
    · obtain ⟨q2, h0⟩ := h0
      obtain ⟨v, Hr13, r3, e, h0⟩ := h0
      subst e
      obtain ⟨q4, h0⟩ := h0
      obtain ⟨lr14, q5, h0⟩ := h0
      exact lp_at (fs := [tt q0f, fo q1, fw q2, fr r3, rd q4, fd q5]) (by kernel_rfl) h0
  · replace h0 := h0.2 q0f
    obtain ⟨v, Hr11, r1, e, h0⟩ := h0
    subst e
    exact lp_ret (fs := [tl q0f, fr r1]) (by kernel_rfl) h0

theorem w33_2 {p2_1 : Nat} {p2_2 : Bool} {p2_3 : Int} {p2_4 : Int} {p2_5 : ByteArray} {p2_6 : List D} {p2_7 : Int} {p2_8 : List D} {p2_9 : List D} {p2_10 : List D} {p2_11 : List D} {p2_12 : Nat} {p2_13 : Int} {p2_14 : Int} {p2_15 : List D} {p2_16 : Int} {p2_17 : Int} {p2_18 : List D} {p2_19 : Heap} {Q : V → Heap → Prop}
    (h0 : ((p2_17 < p2_16 → ((0 : Int) ≤ p2_17 ∧ (∃ (nr21 : Int) (lr22 : List D), p2_15[(Int.toNat p2_17)]? = some (.agg [dI nr21, .slice 0 lr22]) ∧ (Wc PP AA F56 [.ptr (.he p2_1 0) 0 2 0, vI p2_4, .d (.slice 0 lr22)] p2_19 fun v Hr23 => v = .tuple [] ∧ (Wc PP AA F16 [.ptr (.he p2_1 0) 0 2 0, vI 7, .d (.slice 0 ([dI nr21]))] Hr23 fun v Hr25 => ∃ (nr24 : Int), v = vI nr24 ∧ Wl PP AA F33 f33_K2 (f33_S2 p2_1 p2_2 p2_3 p2_4 p2_5 p2_6 p2_7 p2_8 p2_9 p2_10 p2_11 p2_12 p2_13 p2_14 p2_15 p2_16 ((W (p2_17 + 1))) p2_18 Hr25) Q))))) ∧ (p2_16 ≤ p2_17 → (Wa PP AA F20 [.s 9 (.agg [dI p2_3, dI p2_4, dS p2_5, .slice 9 p2_6, dI p2_7, .slice 0 p2_8, .slice 6 p2_9, .slice 4 p2_10, .slice 0 p2_11]), vI (W (p2_14 + 1))] fun v => ∃ (nr21 : Int) (nr22 : Int) (sr23 : ByteArray) (lr24 : List D) (nr25 : Int) (lr26 : List D) (lr27 : List D) (lr28 : List D) (lr29 : List D), v = .s 9 (.agg [dI nr21, dI nr22, dS sr23, .slice 9 lr24, dI nr25, .slice 0 lr26, .slice 6 lr27, .slice 4 lr28, .slice 0 lr29]) ∧ (Wc PP AA F8 [.ptr (.he p2_1 0) 0 2 0, .s 9 (.agg [dI nr21, dI nr22, dS sr23, .slice 9 lr24, dI nr25, .slice 0 lr26, .slice 6 lr27, .slice 4 lr28, .slice 0 lr29]), vBool p2_2] p2_19 fun v Hr210 => v = .tuple [] ∧ ((p2_2 = true → Wl PP AA F33 f33_K1 (f33_S1 p2_1 true p2_3 p2_4 p2_5 p2_6 p2_7 p2_8 p2_9 p2_10 p2_11 p2_12 p2_13 ((W (p2_14 + 1))) p2_18 Hr210) Q) ∧ (p2_2 = false → ((p2_14 < (W (((p2_11.length : Nat) : Int) - 1)) → (Wc PP AA F16 [.ptr (.he p2_1 0) 0 2 0, vI 16, .d (.slice 0 ([]))] Hr210 fun v Hr212 => ∃ (nr211 : Int), v = vI nr211 ∧ ((p2_18.length + 1) ≤ 274877906944 ∧ Wl PP AA F33 f33_K1 (f33_S1 p2_1 false p2_3 p2_4 p2_5 p2_6 p2_7 p2_8 p2_9 p2_10 p2_11 p2_12 p2_13 ((W (p2_14 + 1))) ((p2_18 ++ [dI nr211])) Hr212) Q))) ∧ ((W (((p2_11.length : Nat) : Int) - 1)) ≤ p2_14 → Wl PP AA F33 f33_K1 (f33_S1 p2_1 false p2_3 p2_4 p2_5 p2_6 p2_7 p2_8 p2_9 p2_10 p2_11 p2_12 p2_13 ((W (p2_14 + 1))) p2_18 Hr210) Q))))))))) :
    Wl PP AA F33 f33_K2 (f33_S2 p2_1 p2_2 p2_3 p2_4 p2_5 p2_6 p2_7 p2_8 p2_9 p2_10 p2_11 p2_12 p2_13 p2_14 p2_15 p2_16 p2_17 p2_18 p2_19) Q := by
  rcases icase p2_17 p2_16 with q0f | q0f
  · replace h0 := h0.1 q0f
    obtain ⟨q1, h0⟩ := h0
    obtain ⟨nr21, lr22, q2, h0⟩ := h0
    obtain ⟨v, Hr23, r3, e, h0⟩ := h0
    subst e
    obtain ⟨v, Hr25, r4, nr24, e, h0⟩ := h0
    subst e
    exact lp_at (fs := [tt q0f, rd q1, fd q2, fr r3, fr r4]) (by kernel_rfl) h0
  · replace h0 := h0.2 q0f
    obtain ⟨v, r1, nr21, nr22, sr23, lr24, nr25, lr26, lr27, lr28, lr29, e, h0⟩ := h0
    subst e
    obtain ⟨v, Hr210, r2, e, h0⟩ := h0
    subst e
    rcases bcase p2_2 with e | e
    · replace h0 := h0.1 e
      subst e
      exact lp_at (fs := [tl q0f, fr (r1 p2_19), fr r2, bF, bF, bF, bF, bF, bF, bF, bF]) (by kernel_rfl) h0
    · replace h0 := h0.2 e
      subst e
      rcases icase p2_14 ((W (((p2_11.length : Nat) : Int) - 1))) with q10f | q10f
      · replace h0 := h0.1 q10f
        obtain ⟨v, Hr212, r11, nr211, e, h0⟩ := h0
        subst e
        obtain ⟨q12, h0⟩ := h0
        exact lp_at (fs := [tl q0f, fr (r1 p2_19), fr r2, bT, bT, bT, bT, bT, bT, bT, tt q10f, fr r11, rt (Nat.ble_eq_true_of_le q12)]) (by kernel_rfl) h0
      · replace h0 := h0.2 q10f
        exact lp_at (fs := [tl q0f, fr (r1 p2_19), fr r2, bT, bT, bT, bT, bT, bT, bT, tl q10f]) (by kernel_rfl) h0

/- (*selvage/gen.writer).call -/
noncomputable abbrev PF34 := Tryz.f45

theorem p34 : AA.prim F34 = none := by kernel_rfl
theorem a34 : AA.alone F34 = false := by kernel_rfl

theorem w34 {i1 : Nat} {n2 : Int} {n3 : Int} {s4 : ByteArray} {l5 : List D} {n6 : Int} {l7 : List D} {l8 : List D} {l9 : List D} {l10 : List D} {b11 : Bool} {h12 : Heap} {Q : V → Heap → Prop}
    (h0 : (Wc PP AA F21 [.ptr (.he i1 0) 0 2 0, .s 9 (.agg [dI n2, dI n3, dS s4, .slice 9 l5, dI n6, .slice 0 l7, .slice 6 l8, .slice 4 l9, .slice 0 l10])] h12 fun v H13 => v = .tuple [] ∧ ((b11 = true → (Wc PP AA F16 [.ptr (.he i1 0) 0 2 0, vI 14, .d (.slice 0 ([]))] H13 fun v H15 => ∃ (n14 : Int), v = vI n14 ∧ Q (.tuple []) H15)) ∧ (b11 = false → (Wc PP AA F16 [.ptr (.he i1 0) 0 2 0, vI 13, .d (.slice 0 ([]))] H13 fun v H15 => ∃ (n14 : Int), v = vI n14 ∧ Q (.tuple []) H15))))) :
    Wc PP AA F34 [.ptr (.he i1 0) 0 2 0, .s 9 (.agg [dI n2, dI n3, dS s4, .slice 9 l5, dI n6, .slice 0 l7, .slice 6 l8, .slice 4 l9, .slice 0 l10]), vBool b11] h12 Q := by
  obtain ⟨v, H13, r0, e, h0⟩ := h0
  subst e
  rcases bcase b11 with e | e
  · replace h0 := h0.1 e
    subst e
    obtain ⟨v, H15, r2, n14, e, h0⟩ := h0
    subst e
    exact ent_ret (fs := [fr r0, bT, fr r2]) p34 a34 (by kernel_rfl) h0
  · replace h0 := h0.2 e
    subst e
    obtain ⟨v, H15, r2, n14, e, h0⟩ := h0
    subst e
    exact ent_ret (fs := [fr r0, bF, fr r2]) p34 a34 (by kernel_rfl) h0

/- slices.Index[[]int,int] -/
noncomputable abbrev PF35 := Tryz.f46

noncomputable def f35_K1 : List It := [.lp (cdAt (codeOf PF35) [1, 0, 1, 0, 0]), .blk 0, .c (cdAt (codeOf PF35) [1, 1])]

noncomputable def f35_S1 (p1_1 : List D) (p1_2 : Int) (p1_3 : Int) (p1_4 : Int) (p1_5 : Heap) : St :=
  { nt := 19, tm := [(0, .d (.slice 0 p1_1)), (1, vI p1_2), (7, vI p1_3), (8, vI p1_4)], lo := [], hp := p1_5 }

theorem p35 : AA.prim F35 = none := by kernel_rfl
theorem a35 : AA.alone F35 = false := by kernel_rfl

theorem w35 {l1 : List D} {n2 : Int} {h3 : Heap} {Q : V → Heap → Prop}
    (h0 : Wl PP AA F35 f35_K1 (f35_S1 l1 n2 (((l1.length : Nat) : Int)) 0 h3) Q) :
    Wc PP AA F35 [.d (.slice 0 l1), vI n2] h3 Q := by
  exact ent_at (fs := []) p35 a35 (by kernel_rfl) h0

theorem w35_1 {p1_1 : List D} {p1_2 : Int} {p1_3 : Int} {p1_4 : Int} {p1_5 : Heap} {Q : V → Heap → Prop}
    (h0 : ((p1_4 < p1_3 → ((0 : Int) ≤ p1_4 ∧ (∃ (nr11 : Int), p1_1[(Int.toNat p1_4)]? = some (dI nr11) ∧ ((p1_2 = nr11 → Q (vI p1_4) p1_5) ∧ (p1_2 ≠ nr11 → Wl PP AA F35 f35_K1 (f35_S1 p1_1 p1_2 p1_3 ((W (p1_4 + 1))) p1_5) Q))))) ∧ (p1_3 ≤ p1_4 → Q (vI (-1)) p1_5))) :
    Wl PP AA F35 f35_K1 (f35_S1 p1_1 p1_2 p1_3 p1_4 p1_5) Q := by
  rcases icase p1_4 p1_3 with q0f | q0f
  · replace h0 := h0.1 q0f
    obtain ⟨q1, h0⟩ := h0
    obtain ⟨nr11, q2, h0⟩ := h0
    rcases Classical.em ((p1_2 : Int) = nr11) with q3f | q3f
    · replace h0 := h0.1 q3f
      exact lp_ret (fs := [tt q0f, rd q1, fd q2, bt (beq_iff_eq.mpr q3f)]) (by kernel_rfl) h0
    · replace h0 := h0.2 q3f
      exact lp_at (fs := [tt q0f, rd q1, fd q2, bf (beq_eq_false_iff_ne.mpr q3f)]) (by kernel_rfl) h0
  · replace h0 := h0.2 q0f
    exact lp_ret (fs := [tl q0f]) (by kernel_rfl) h0

noncomputable def f35h_K1 : List It := [.lp (cdAt (codeOf PF35) [1, 0, 1, 0, 0]), .blk 0, .c (cdAt (codeOf PF35) [1, 1])]

noncomputable def f35h_S1 (p1_1 : Nat) (p1_2 : Nat) (p1_3 : Int) (p1_4 : Int) (p1_5 : Int) (p1_6 : Heap) : St :=
  { nt := 19, tm := [(0, .sl (.he p1_1 p1_2) 0 none), (1, vI p1_3), (7, vI p1_4), (8, vI p1_5)], lo := [], hp := p1_6 }

theorem w35h {c1 : Nat} {g2 : Nat} {n3 : Int} {h4 : Heap} {Q : V → Heap → Prop}
    (h0 : (∃ (l5 : List D), hpAt h4 c1 g2 = some (.darr g2 0 l5) ∧ Wl PP AA F35 f35h_K1 (f35h_S1 c1 g2 n3 (((l5.length : Nat) : Int)) 0 h4) Q)) :
    Wc PP AA F35 [.sl (.he c1 g2) 0 none, vI n3] h4 Q := by
  obtain ⟨l5, q0, h0⟩ := h0
  exact ent_at (fs := [fo q0]) p35 a35 (by kernel_rfl) h0

theorem w35h_1 {p1_1 : Nat} {p1_2 : Nat} {p1_3 : Int} {p1_4 : Int} {p1_5 : Int} {p1_6 : Heap} {Q : V → Heap → Prop}
    (h0 : ((p1_5 < p1_4 → ((0 : Int) ≤ p1_5 ∧ (∃ (lr11 : List D), hpAt p1_6 p1_1 p1_2 = some (.darr p1_2 0 lr11) ∧ ((Int.toNat p1_5) < lr11.length ∧ (∃ (nr12 : Int), lr11[(Int.toNat p1_5)]? = some (dI nr12) ∧ ((p1_3 = nr12 → Q (vI p1_5) p1_6) ∧ (p1_3 ≠ nr12 → Wl PP AA F35 f35h_K1 (f35h_S1 p1_1 p1_2 p1_3 p1_4 ((W (p1_5 + 1))) p1_6) Q))))))) ∧ (p1_4 ≤ p1_5 → Q (vI (-1)) p1_6))) :
    Wl PP AA F35 f35h_K1 (f35h_S1 p1_1 p1_2 p1_3 p1_4 p1_5 p1_6) Q := by
  rcases icase p1_5 p1_4 with q0f | q0f
  · replace h0 := h0.1 q0f
    obtain ⟨q1, h0⟩ := h0
    obtain ⟨lr11, q2, h0⟩ := h0
    obtain ⟨q3, h0⟩ := h0
    obtain ⟨nr12, q5, h0⟩ := h0
    rcases Classical.em ((p1_3 : Int) = nr12) with q6f | q6f
    · replace h0 := h0.1 q6f
      exact lp_ret (fs := [tt q0f, rd q1, fo q2, rt (Nat.ble_eq_true_of_le q3), fo q2, fd q5, bt (beq_iff_eq.mpr q6f)]) (by kernel_rfl) h0
    · replace h0 := h0.2 q6f
      exact lp_at (fs := [tt q0f, rd q1, fo q2, rt (Nat.ble_eq_true_of_le q3), fo q2, fd q5, bf (beq_eq_false_iff_ne.mpr q6f)]) (by kernel_rfl) h0
  · replace h0 := h0.2 q0f
    exact lp_ret (fs := [tl q0f]) (by kernel_rfl) h0

/- slices.Index[[]string,string] -/
noncomputable abbrev PF36 := Tryz.f47

noncomputable def f36_K1 : List It := [.lp (cdAt (codeOf PF36) [1, 0, 1, 0, 0]), .blk 0, .c (cdAt (codeOf PF36) [1, 1])]

noncomputable def f36_S1 (p1_1 : Nat) (p1_2 : Nat) (p1_3 : ByteArray) (p1_4 : Int) (p1_5 : Int) (p1_6 : Heap) : St :=
  { nt := 19, tm := [(0, .sl (.he p1_1 p1_2) 0 none), (1, .d (dS p1_3)), (7, vI p1_4), (8, vI p1_5)], lo := [], hp := p1_6 }

theorem p36 : AA.prim F36 = none := by kernel_rfl
theorem a36 : AA.alone F36 = false := by kernel_rfl

theorem w36 {c1 : Nat} {g2 : Nat} {s3 : ByteArray} {h4 : Heap} {Q : V → Heap → Prop}
    (h0 : (∃ (l5 : List D), hpAt h4 c1 g2 = some (.darr g2 0 l5) ∧ Wl PP AA F36 f36_K1 (f36_S1 c1 g2 s3 (((l5.length : Nat) : Int)) 0 h4) Q)) :
    Wc PP AA F36 [.sl (.he c1 g2) 0 none, .d (dS s3)] h4 Q := by
  obtain ⟨l5, q0, h0⟩ := h0
  exact ent_at (fs := [fo q0]) p36 a36 (by kernel_rfl) h0

theorem w36_1 {p1_1 : Nat} {p1_2 : Nat} {p1_3 : ByteArray} {p1_4 : Int} {p1_5 : Int} {p1_6 : Heap} {Q : V → Heap → Prop}
    (h0 : ((p1_5 < p1_4 → ((0 : Int) ≤ p1_5 ∧ (∃ (lr11 : List D), hpAt p1_6 p1_1 p1_2 = some (.darr p1_2 0 lr11) ∧ ((Int.toNat p1_5) < lr11.length ∧ (∃ (sr12 : ByteArray), lr11[(Int.toNat p1_5)]? = some (dS sr12) ∧ (((p1_3.toList == sr12.toList) = true → Q (vI p1_5) p1_6) ∧ ((p1_3.toList == sr12.toList) = false → Wl PP AA F36 f36_K1 (f36_S1 p1_1 p1_2 p1_3 p1_4 ((W (p1_5 + 1))) p1_6) Q))))))) ∧ (p1_4 ≤ p1_5 → Q (vI (-1)) p1_6))) :
    Wl PP AA F36 f36_K1 (f36_S1 p1_1 p1_2 p1_3 p1_4 p1_5 p1_6) Q := by
  rcases icase p1_5 p1_4 with q0f | q0f
  · replace h0 := h0.1 q0f
    obtain ⟨q1, h0⟩ := h0
    obtain ⟨lr11, q2, h0⟩ := h0
    obtain ⟨q3, h0⟩ := h0
    obtain ⟨sr12, q5, h0⟩ := h0
    rcases bcase ((p1_3.toList == sr12.toList)) with q6f | q6f
    · replace h0 := h0.1 q6f
      exact lp_ret (fs := [tt q0f, rd q1, fo q2, rt (Nat.ble_eq_true_of_le q3), fo q2, fd q5, bt q6f]) (by kernel_rfl) h0
    · replace h0 := h0.2 q6f
      exact lp_at (fs := [tt q0f, rd q1, fo q2, rt (Nat.ble_eq_true_of_le q3), fo q2, fd q5, bf q6f]) (by kernel_rfl) h0
  · replace h0 := h0.2 q0f
    exact lp_ret (fs := [tl q0f]) (by kernel_rfl) h0

/- (*selvage/gen.writer).here -/
noncomputable abbrev PF37 := Tryz.f48

noncomputable def f37_K1 : List It := [.lp (cdAt (codeOf PF37) [1, 0, 0]), .blk 0]

noncomputable def f37_S1 (p1_1 : Nat) (p1_2 : List D) (p1_3 : Int) (p1_4 : Int) (p1_5 : Heap) : St :=
  { nt := 46, tm := [(0, .ptr (.he p1_1 0) 0 2 0), (6, .d (.slice 0 p1_2)), (7, vI p1_3), (8, vI p1_4)], lo := [], hp := p1_5 }

theorem p37 : AA.prim F37 = none := by kernel_rfl
theorem a37 : AA.alone F37 = false := by kernel_rfl

theorem w37 {i1 : Nat} {l2 : List D} {h3 : Heap} {Q : V → Heap → Prop}
    (h0 : Wl PP AA F37 f37_K1 (f37_S1 i1 l2 (((l2.length : Nat) : Int)) 0 h3) Q) :
    Wc PP AA F37 [.ptr (.he i1 0) 0 2 0, .d (.slice 0 l2)] h3 Q := by
  exact ent_at (fs := []) p37 a37 (by kernel_rfl) h0

theorem w37_1 {p1_1 : Nat} {p1_2 : List D} {p1_3 : Int} {p1_4 : Int} {p1_5 : Heap} {Q : V → Heap → Prop}
    (h0 : ((p1_4 < p1_3 → ((0 : Int) ≤ p1_4 ∧ (∃ (nr11 : Int), p1_2[(Int.toNat p1_4)]? = some (dI nr11) ∧ (∃ (ir12 : Nat) (cr13 : Nat) (gr14 : Nat), hpAt p1_5 p1_1 0 = some (.var (.agg [.ptr (.he ir12 0) 0 3 0, .sl (.he cr13 gr14) 3 none])) ∧ ((0 : Int) ≤ nr11 ∧ (∃ (lr15 : List D), hpAt p1_5 cr13 gr14 = some (.darr gr14 3 lr15) ∧ ((Int.toNat nr11) < lr15.length ∧ (∃ (nr16 : Int) (nr17 : Int) (nr18 : Int), lr15[(Int.toNat nr11)]? = some (.agg [dI nr16, dI nr17, dI nr18]) ∧ ((nr16 = 18 → Wl PP AA F37 f37_K1 (f37_S1 p1_1 p1_2 p1_3 ((W (p1_4 + 1))) ((Heap.put p1_5 cr13 (some (.darr gr14 3 ((lr15.set ((Int.toNat nr11)) (.agg [dI 18, dI nr17, dI ((lr15.length : Nat) : Int)])))))))) Q) ∧ (nr16 ≠ 18 → Wl PP AA F37 f37_K1 (f37_S1 p1_1 p1_2 p1_3 ((W (p1_4 + 1))) ((Heap.put p1_5 cr13 (some (.darr gr14 3 ((lr15.set ((Int.toNat nr11)) (.agg [dI nr16, dI ((lr15.length : Nat) : Int), dI nr18])))))))) Q)))))))))) ∧ (p1_3 ≤ p1_4 → Q (.tuple []) p1_5))) :
    Wl PP AA F37 f37_K1 (f37_S1 p1_1 p1_2 p1_3 p1_4 p1_5) Q := by
  rcases icase p1_4 p1_3 with q0f | q0f
  · replace h0 := h0.1 q0f
    obtain ⟨q1, h0⟩ := h0
    obtain ⟨nr11, q2, h0⟩ := h0
    obtain ⟨ir12, cr13, gr14, q3, h0⟩ := h0
    obtain ⟨q4, h0⟩ := h0
    obtain ⟨lr15, q5, h0⟩ := h0
    obtain ⟨q6, h0⟩ := h0
    obtain ⟨nr16, nr17, nr18, q8, h0⟩ := h0
    rcases Classical.em (nr16 = 18) with e | q9f
    · replace h0 := h0.1 e
      subst e
      exact lp_at (fs := [tt q0f, rd q1, fd q2, fo q3, rd q4, fo q5, rt (Nat.ble_eq_true_of_le q6), fo q5, fd q8, bT, fo q3, fo q3, fo q5, rd q4, fo q5, rt (Nat.ble_eq_true_of_le q6), fo q5, fd q8]) (by kernel_rfl) h0
    · replace h0 := h0.2 q9f
      exact lp_at (fs := [tt q0f, rd q1, fd q2, fo q3, rd q4, fo q5, rt (Nat.ble_eq_true_of_le q6), fo q5, fd q8, bf (beq_eq_false_iff_ne.mpr q9f), fo q3, fo q3, fo q5, rd q4, fo q5, rt (Nat.ble_eq_true_of_le q6), fo q5, fd q8]) (by kernel_rfl) h0
  · replace h0 := h0.2 q0f
    exact lp_ret (fs := [tl q0f]) (by kernel_rfl) h0

noncomputable def f37h_K1 : List It := [.lp (cdAt (codeOf PF37) [1, 0, 0]), .blk 0]

noncomputable def f37h_S1 (p1_1 : Nat) (p1_2 : Nat) (p1_3 : Nat) (p1_4 : Int) (p1_5 : Int) (p1_6 : Heap) : St :=
  { nt := 46, tm := [(0, .ptr (.he p1_1 0) 0 2 0), (6, .sl (.he p1_2 p1_3) 0 none), (7, vI p1_4), (8, vI p1_5)], lo := [], hp := p1_6 }

theorem w37h {i1 : Nat} {c2 : Nat} {g3 : Nat} {h4 : Heap} {Q : V → Heap → Prop}
    (h0 : (∃ (l5 : List D), hpAt h4 c2 g3 = some (.darr g3 0 l5) ∧ Wl PP AA F37 f37h_K1 (f37h_S1 i1 c2 g3 (((l5.length : Nat) : Int)) 0 h4) Q)) :
    Wc PP AA F37 [.ptr (.he i1 0) 0 2 0, .sl (.he c2 g3) 0 none] h4 Q := by
  obtain ⟨l5, q0, h0⟩ := h0
  exact ent_at (fs := [fo q0]) p37 a37 (by kernel_rfl) h0

theorem w37h_1 {p1_1 : Nat} {p1_2 : Nat} {p1_3 : Nat} {p1_4 : Int} {p1_5 : Int} {p1_6 : Heap} {Q : V → Heap → Prop}
    (h0 : ((p1_5 < p1_4 → ((0 : Int) ≤ p1_5 ∧ (∃ (lr11 : List D), hpAt p1_6 p1_2 p1_3 = some (.darr p1_3 0 lr11) ∧ ((Int.toNat p1_5) < lr11.length ∧ (∃ (nr12 : Int), lr11[(Int.toNat p1_5)]? = some (dI nr12) ∧ (∃ (ir13 : Nat) (cr14 : Nat) (gr15 : Nat), hpAt p1_6 p1_1 0 = some (.var (.agg [.ptr (.he ir13 0) 0 3 0, .sl (.he cr14 gr15) 3 none])) ∧ ((0 : Int) ≤ nr12 ∧ (∃ (lr16 : List D), hpAt p1_6 cr14 gr15 = some (.darr gr15 3 lr16) ∧ ((Int.toNat nr12) < lr16.length ∧ (∃ (nr17 : Int) (nr18 : Int) (nr19 : Int), lr16[(Int.toNat nr12)]? = some (.agg [dI nr17, dI nr18, dI nr19]) ∧ ((nr17 = 18 → Wl PP AA F37 f37h_K1 (f37h_S1 p1_1 p1_2 p1_3 p1_4 ((W (p1_5 + 1))) ((Heap.put p1_6 cr14 (some (.darr gr15 3 ((lr16.set ((Int.toNat nr12)) (.agg [dI 18, dI nr18, dI ((lr16.length : Nat) : Int)])))))))) Q) ∧ (nr17 ≠ 18 → Wl PP AA F37 f37h_K1 (f37h_S1 p1_1 p1_2 p1_3 p1_4 ((W (p1_5 + 1))) ((Heap.put p1_6 cr14 (some (.darr gr15 3 ((lr16.set ((Int.toNat nr12)) (.agg [dI nr17, dI ((lr16.length : Nat) : Int), dI nr19])))))))) Q)))))))))))) ∧ (p1_4 ≤ p1_5 → Q (.tuple []) p1_6))) :
    Wl PP AA F37 f37h_K1 (f37h_S1 p1_1 p1_2 p1_3 p1_4 p1_5 p1_6) Q := by
  rcases icase p1_5 p1_4 with q0f | q0f
  · replace h0 := h0.1 q0f
    obtain ⟨q1, h0⟩ := h0
    obtain ⟨lr11, q2, h0⟩ := h0
    obtain ⟨q3, h0⟩ := h0
    obtain ⟨nr12, q5, h0⟩ := h0
    obtain ⟨ir13, cr14, gr15, q6, h0⟩ := h0
    obtain ⟨q7, h0⟩ := h0
    obtain ⟨lr16, q8, h0⟩ := h0
    obtain ⟨q9, h0⟩ := h0
    obtain ⟨nr17, nr18, nr19, q11, h0⟩ := h0
    rcases Classical.em (nr17 = 18) with e | q12f
    · replace h0 := h0.1 e
      subst e
      exact lp_at (fs := [tt q0f, rd q1, fo q2, rt (Nat.ble_eq_true_of_le q3), fo q2, fd q5, fo q6, rd q7, fo q8, rt (Nat.ble_eq_true_of_le q9), fo q8, fd q11, bT, fo q6, fo q6, fo q8, rd q7, fo q8, rt (Nat.ble_eq_true_of_le q9), fo q8, fd q11]) (by kernel_rfl) h0
    · replace h0 := h0.2 q12f
      exact lp_at (fs := [tt q0f, rd q1, fo q2, rt (Nat.ble_eq_true_of_le q3), fo q2, fd q5, fo q6, rd q7, fo q8, rt (Nat.ble_eq_true_of_le q9), fo q8, fd q11, bf (beq_eq_false_iff_ne.mpr q12f), fo q6, fo q6, fo q8, rd q7, fo q8, rt (Nat.ble_eq_true_of_le q9), fo q8, fd q11]) (by kernel_rfl) h0
  · replace h0 := h0.2 q0f
    exact lp_ret (fs := [tl q0f]) (by kernel_rfl) h0

/- selvage/code.in -/
noncomputable abbrev PF42 := Tryz.f53

theorem p42 : AA.prim F42 = none := by kernel_rfl
theorem a42 : AA.alone F42 = true := by kernel_rfl

theorem w42 {n1 : Int} {n2 : Int} {n3 : Int} {Q : V → Prop}
    (h0 : ((n1 < n2 → Q (vBool false)) ∧ (n2 ≤ n1 → Q (vBool (decide (n1 ≤ n3)))))) :
    Wa PP AA F42 [vI n1, vI n2, vI n3] Q := by
  rcases icase n1 n2 with q0f | q0f
  · replace h0 := h0.1 q0f
    exact ent_retA (fs := [tg q0f, tg q0f, tg q0f, tg q0f]) (h' := Heap.none) p42 a42 (by kernel_rfl) (by kernel_rfl) (by kernel_rfl) h0
  · replace h0 := h0.2 q0f
    exact ent_retA (fs := [tt q0f, tt q0f, tt q0f, tt q0f]) (h' := Heap.none) p42 a42 (by kernel_rfl) (by kernel_rfl) (by kernel_rfl) h0

/- slices.ContainsFunc[[]selvage/api.Body,selvage/api.Body] -/
noncomputable abbrev PF43 := Tryz.f54

theorem p43 : AA.prim F43 = none := by kernel_rfl
theorem a43 : AA.alone F43 = true := by kernel_rfl

theorem w43 {l1 : List D} {f2 : Nat} {Q : V → Prop}
    (h0 : (Wa PP AA F61 [.d (.slice 4 l1), .fn (.func f2) [] []] fun v => ∃ (n3 : Int), v = vI n3 ∧ Q (vBool (decide (n3 ≥ 0))))) :
    Wa PP AA F43 [.d (.slice 4 l1), .fn (.func f2) [] []] Q := by
  obtain ⟨v, r0, n3, e, h0⟩ := h0
  subst e
  exact ent_retA (fs := [fr (r0 Heap.none)]) (h' := Heap.none) p43 a43 (by kernel_rfl) (by kernel_rfl) (by kernel_rfl) h0

/- selvage/code.wrong -/
noncomputable abbrev PF44 := Tryz.f55

theorem p44 : AA.prim F44 = none := by kernel_rfl
theorem a44 : AA.alone F44 = true := by kernel_rfl

theorem w44 {n1 : Int} {n2 : Int} {n3 : Int} {l4 : List D} {Q : V → Prop}
    (h0 : (Wa PP AA F42 [vI n1, vI 0, vI 59] fun v => ∃ (b5 : Bool), v = vBool b5 ∧ ((b5 = true → (Wa PP AA F42 [vI n2, vI 0, vI 60] fun v => ∃ (b6 : Bool), v = vBool b6 ∧ ((b6 = true → (Wa PP AA F42 [vI n3, vI 1, vI 60] fun v => ∃ (b7 : Bool), v = vBool b7 ∧ ((b7 = true → (Wa PP AA F42 [vI ((l4.length : Nat) : Int), vI 1, vI 400] fun v => ∃ (b8 : Bool), v = vBool b8 ∧ ((b8 = true → (Wa PP AA F10 [.d (.slice 3 l4), .fn (.func F62) [] []] fun v => ∃ (b9 : Bool), v = vBool b9 ∧ Q (vBool b9))) ∧ (b8 = false → Q (vBool true))))) ∧ (b7 = false → Q (vBool true))))) ∧ (b6 = false → Q (vBool true))))) ∧ (b5 = false → Q (vBool true))))) :
    Wa PP AA F44 [.s 4 (.agg [dI n1, dI n2, dI n3, .slice 3 l4])] Q := by
  obtain ⟨v, r0, b5, e, h0⟩ := h0
  subst e
  rcases bcase b5 with e | e
  · replace h0 := h0.1 e
    subst e
    obtain ⟨v, r4, b6, e, h0⟩ := h0
    subst e
    rcases bcase b6 with e | e
    · replace h0 := h0.1 e
      subst e
      obtain ⟨v, r9, b7, e, h0⟩ := h0
      subst e
      rcases bcase b7 with e | e
      · replace h0 := h0.1 e
        subst e
        obtain ⟨v, r15, b8, e, h0⟩ := h0
        subst e
        rcases bcase b8 with e | e
        · replace h0 := h0.1 e
          subst e
          obtain ⟨v, r20, b9, e, h0⟩ := h0
          subst e
          exact ent_retA (fs := [fr (r0 Heap.none), bT, bT, bT, fr (r4 Heap.none), bT, bT, bT, bT, fr (r9 Heap.none), bT, bT, bT, bT, bT, fr (r15 Heap.none), bT, bF, bF, bF, fr (r20 Heap.none), bF]) (h' := Heap.none) p44 a44 (by kernel_rfl) (by kernel_rfl) (by kernel_rfl) h0
        · replace h0 := h0.2 e
          subst e
          exact ent_retA (fs := [fr (r0 Heap.none), bT, bT, bT, fr (r4 Heap.none), bT, bT, bT, bT, fr (r9 Heap.none), bT, bT, bT, bT, bT, fr (r15 Heap.none), bT, bT, bT, bT, bT]) (h' := Heap.none) p44 a44 (by kernel_rfl) (by kernel_rfl) (by kernel_rfl) h0
      · replace h0 := h0.2 e
        subst e
        exact ent_retA (fs := [fr (r0 Heap.none), bT, bT, bT, fr (r4 Heap.none), bT, bT, bT, bT, fr (r9 Heap.none), bT, bF, bF, bF, bF, bF, bT, bT, bT, bT]) (h' := Heap.none) p44 a44 (by kernel_rfl) (by kernel_rfl) (by kernel_rfl) h0
    · replace h0 := h0.2 e
      subst e
      exact ent_retA (fs := [fr (r0 Heap.none), bT, bT, bT, fr (r4 Heap.none), bT, bF, bF, bF, bF, bF, bF, bF, bF, bF, bT, bT, bT, bT]) (h' := Heap.none) p44 a44 (by kernel_rfl) (by kernel_rfl) (by kernel_rfl) h0
  · replace h0 := h0.2 e
    subst e
    exact ent_retA (fs := [fr (r0 Heap.none), bF, bF, bF, bF, bF, bF, bF, bF, bF, bF, bF, bF, bF, bT, bT, bT, bT]) (h' := Heap.none) p44 a44 (by kernel_rfl) (by kernel_rfl) (by kernel_rfl) h0

/- slices.ContainsFunc[[]int,int] -/
noncomputable abbrev PF45 := Tryz.f56

theorem p45 : AA.prim F45 = none := by kernel_rfl
theorem a45 : AA.alone F45 = true := by kernel_rfl

theorem w45 {l1 : List D} {f2 : Nat} {Q : V → Prop}
    (h0 : (Wa PP AA F63 [.d (.slice 0 l1), .fn (.func f2) [] []] fun v => ∃ (n3 : Int), v = vI n3 ∧ Q (vBool (decide (n3 ≥ 0))))) :
    Wa PP AA F45 [.d (.slice 0 l1), .fn (.func f2) [] []] Q := by
  obtain ⟨v, r0, n3, e, h0⟩ := h0
  subst e
  exact ent_retA (fs := [fr (r0 Heap.none)]) (h' := Heap.none) p45 a45 (by kernel_rfl) (by kernel_rfl) (by kernel_rfl) h0

/- selvage/code.May$1 -/
noncomputable abbrev PF46 := Tryz.f57

theorem p46 : AA.prim F46 = none := by kernel_rfl
theorem a46 : AA.alone F46 = true := by kernel_rfl

theorem w46 {n1 : Int} {Q : V → Prop}
    (h0 : (Wa PP AA F42 [vI n1, vI (-4611686018427387904), vI 4611686018427387903] fun v => ∃ (b2 : Bool), v = vBool b2 ∧ Q (vBool (!b2)))) :
    Wa PP AA F46 [vI n1] Q := by
  obtain ⟨v, r0, b2, e, h0⟩ := h0
  subst e
  exact ent_retA (fs := [fr (r0 Heap.none)]) (h' := Heap.none) p46 a46 (by kernel_rfl) (by kernel_rfl) (by kernel_rfl) h0

/- slices.ContainsFunc[[]string,string] -/
noncomputable abbrev PF47 := Tryz.f58

theorem p47 : AA.prim F47 = none := by kernel_rfl
theorem a47 : AA.alone F47 = true := by kernel_rfl

theorem w47 {l1 : List D} {f2 : Nat} {Q : V → Prop}
    (h0 : (Wa PP AA F64 [.d (.slice 0 l1), .fn (.func f2) [] []] fun v => ∃ (n3 : Int), v = vI n3 ∧ Q (vBool (decide (n3 ≥ 0))))) :
    Wa PP AA F47 [.d (.slice 0 l1), .fn (.func f2) [] []] Q := by
  obtain ⟨v, r0, n3, e, h0⟩ := h0
  subst e
  exact ent_retA (fs := [fr (r0 Heap.none)]) (h' := Heap.none) p47 a47 (by kernel_rfl) (by kernel_rfl) (by kernel_rfl) h0

/- selvage/code.May$2 -/
noncomputable abbrev PF48 := Tryz.f59

theorem p48 : AA.prim F48 = none := by kernel_rfl
theorem a48 : AA.alone F48 = true := by kernel_rfl

theorem w48 {s1 : ByteArray} {Q : V → Prop}
    (h0 : Q (vBool (decide (((s1.size : Nat) : Int) > 60)))) :
    Wa PP AA F48 [.d (dS s1)] Q := by
  exact ent_retA (fs := []) (h' := Heap.none) p48 a48 (by kernel_rfl) (by kernel_rfl) (by kernel_rfl) h0

end Am

/- Rules, printed by sym.py. -/
namespace Am
open Go Go.Proofs
set_option maxRecDepth 100000
/- (*selvage/verify.walker).next -/
noncomputable abbrev PF49 := Tryz.f60

theorem p49 : AA.prim F49 = none := by kernel_rfl
theorem a49 : AA.alone F49 = false := by kernel_rfl

theorem w49 {i1 : Nat} {n2 : Int} {n3 : Int} {l4 : List D} {h5 : Heap} {Q : V → Heap → Prop}
    (h0 : (∃ (l6 : List D) (l7 : List D) (l8 : List D) (n9 : Int) (n10 : Int) (n11 : Int) (n12 : Int) (n13 : Int) (l14 : List D), hpAt h5 i1 0 = some (.var (.s 9 (.agg [.slice 4 l6, .slice 0 l7, .slice 0 l8, dI n9, dI n10, dI n11, dI n12, dI n13, .slice 3 l14]))) ∧ ((0 : Int) ≤ n2 ∧ (∃ (n15 : Int) (n16 : Int) (n17 : Int), l14[(Int.toNat n2)]? = some (.agg [dI n15, dI n16, dI n17]) ∧ ((n15 = 1 → (Wn PP AA F93 [.ptr (.he i1 0) 0 9 0, .s 3 (.agg [dI 1, dI n16, dI n17]), .bp (.fn (.func F81) [] []) 0 0, .bp (vI 0) 0 0, .bp (vI 1) 0 0] h5 fun v => ∃ (b18 : Bool) (n19 : Int) (n20 : Int), v = .tuple [vBool b18, vI n19, vI n20] ∧ ((b18 = true → (Wa PP AA F66 [.s 2 (.agg [dI n3, .slice 2 l4])] fun v => ∃ (n21 : Int), v = vI n21 ∧ (((W (n3 - n19)) < n21 → Q (.tuple [.d (.slice 3 ([])), vBool false]) h5) ∧ (n21 ≤ (W (n3 - n19)) → (Wa PP AA F67 [.s 2 (.agg [dI n3, .slice 2 l4]), vI (W (n20 - n19))] fun v => ∃ (n22 : Int) (l23 : List D), v = .s 2 (.agg [dI n22, .slice 2 l23]) ∧ Q (.tuple [.d (.slice 3 ([.agg [dI (W (n2 + 1)), dI n22, .slice 2 l23]])), vBool true]) h5))))) ∧ (b18 = false → Q (.tuple [.d (.slice 3 ([])), vBool false]) h5)))) ∧ (n15 ≠ 1 → ((n15 = 2 → (Wn PP AA F93 [.ptr (.he i1 0) 0 9 0, .s 3 (.agg [dI 2, dI n16, dI n17]), .bp (.fn (.func F82) [] []) 0 0, .bp (vI 0) 0 0, .bp (vI 1) 0 0] h5 fun v => ∃ (b18 : Bool) (n19 : Int) (n20 : Int), v = .tuple [vBool b18, vI n19, vI n20] ∧ ((b18 = true → (Wa PP AA F66 [.s 2 (.agg [dI n3, .slice 2 l4])] fun v => ∃ (n21 : Int), v = vI n21 ∧ (((W (n3 - n19)) < n21 → Q (.tuple [.d (.slice 3 ([])), vBool false]) h5) ∧ (n21 ≤ (W (n3 - n19)) → (Wa PP AA F67 [.s 2 (.agg [dI n3, .slice 2 l4]), vI (W (n20 - n19))] fun v => ∃ (n22 : Int) (l23 : List D), v = .s 2 (.agg [dI n22, .slice 2 l23]) ∧ Q (.tuple [.d (.slice 3 ([.agg [dI (W (n2 + 1)), dI n22, .slice 2 l23]])), vBool true]) h5))))) ∧ (b18 = false → Q (.tuple [.d (.slice 3 ([])), vBool false]) h5)))) ∧ (n15 ≠ 2 → ((n15 = 3 → (Wn PP AA F93 [.ptr (.he i1 0) 0 9 0, .s 3 (.agg [dI 3, dI n16, dI n17]), .bp (.fn (.func F78) [] []) 0 0, .bp (vI 0) 0 0, .bp (vI 1) 0 0] h5 fun v => ∃ (b18 : Bool) (n19 : Int) (n20 : Int), v = .tuple [vBool b18, vI n19, vI n20] ∧ ((b18 = true → (Wa PP AA F66 [.s 2 (.agg [dI n3, .slice 2 l4])] fun v => ∃ (n21 : Int), v = vI n21 ∧ (((W (n3 - n19)) < n21 → Q (.tuple [.d (.slice 3 ([])), vBool false]) h5) ∧ (n21 ≤ (W (n3 - n19)) → (Wa PP AA F67 [.s 2 (.agg [dI n3, .slice 2 l4]), vI (W (n20 - n19))] fun v => ∃ (n22 : Int) (l23 : List D), v = .s 2 (.agg [dI n22, .slice 2 l23]) ∧ Q (.tuple [.d (.slice 3 ([.agg [dI (W (n2 + 1)), dI n22, .slice 2 l23]])), vBool true]) h5))))) ∧ (b18 = false → Q (.tuple [.d (.slice 3 ([])), vBool false]) h5)))) ∧ (n15 ≠ 3 → ((n15 = 4 → (Wn PP AA F93 [.ptr (.he i1 0) 0 9 0, .s 3 (.agg [dI 4, dI n16, dI n17]), .bp (.fn (.func F83) [] []) 0 0, .bp (vI 0) 0 0, .bp (vI 1) 0 0] h5 fun v => ∃ (b18 : Bool) (n19 : Int) (n20 : Int), v = .tuple [vBool b18, vI n19, vI n20] ∧ ((b18 = true → (Wa PP AA F66 [.s 2 (.agg [dI n3, .slice 2 l4])] fun v => ∃ (n21 : Int), v = vI n21 ∧ (((W (n3 - n19)) < n21 → Q (.tuple [.d (.slice 3 ([])), vBool false]) h5) ∧ (n21 ≤ (W (n3 - n19)) → (Wa PP AA F67 [.s 2 (.agg [dI n3, .slice 2 l4]), vI (W (n20 - n19))] fun v => ∃ (n22 : Int) (l23 : List D), v = .s 2 (.agg [dI n22, .slice 2 l23]) ∧ Q (.tuple [.d (.slice 3 ([.agg [dI (W (n2 + 1)), dI n22, .slice 2 l23]])), vBool true]) h5))))) ∧ (b18 = false → Q (.tuple [.d (.slice 3 ([])), vBool false]) h5)))) ∧ (n15 ≠ 4 → ((n15 = 5 → (Wn PP AA F84 [.ptr (.he i1 0) 0 9 0, .s 3 (.agg [dI 5, dI n16, dI n17])] h5 fun v => ∃ (b18 : Bool) (n19 : Int) (n20 : Int), v = .tuple [vBool b18, vI n19, vI n20] ∧ ((b18 = true → (Wa PP AA F66 [.s 2 (.agg [dI n3, .slice 2 l4])] fun v => ∃ (n21 : Int), v = vI n21 ∧ (((W (n3 - n19)) < n21 → Q (.tuple [.d (.slice 3 ([])), vBool false]) h5) ∧ (n21 ≤ (W (n3 - n19)) → (Wa PP AA F67 [.s 2 (.agg [dI n3, .slice 2 l4]), vI (W (n20 - n19))] fun v => ∃ (n22 : Int) (l23 : List D), v = .s 2 (.agg [dI n22, .slice 2 l23]) ∧ Q (.tuple [.d (.slice 3 ([.agg [dI (W (n2 + 1)), dI n22, .slice 2 l23]])), vBool true]) h5))))) ∧ (b18 = false → Q (.tuple [.d (.slice 3 ([])), vBool false]) h5)))) ∧ (n15 ≠ 5 → ((n15 = 6 → (Wn PP AA F93 [.ptr (.he i1 0) 0 9 0, .s 3 (.agg [dI 6, dI n16, dI n17]), .bp (.fn (.func F79) [] []) 0 0, .bp (vI 0) 0 0, .bp (vI 1) 0 0] h5 fun v => ∃ (b18 : Bool) (n19 : Int) (n20 : Int), v = .tuple [vBool b18, vI n19, vI n20] ∧ ((b18 = true → (Wa PP AA F66 [.s 2 (.agg [dI n3, .slice 2 l4])] fun v => ∃ (n21 : Int), v = vI n21 ∧ (((W (n3 - n19)) < n21 → Q (.tuple [.d (.slice 3 ([])), vBool false]) h5) ∧ (n21 ≤ (W (n3 - n19)) → (Wa PP AA F67 [.s 2 (.agg [dI n3, .slice 2 l4]), vI (W (n20 - n19))] fun v => ∃ (n22 : Int) (l23 : List D), v = .s 2 (.agg [dI n22, .slice 2 l23]) ∧ Q (.tuple [.d (.slice 3 ([.agg [dI (W (n2 + 1)), dI n22, .slice 2 l23]])), vBool true]) h5))))) ∧ (b18 = false → Q (.tuple [.d (.slice 3 ([])), vBool false]) h5)))) ∧ (n15 ≠ 6 → ((n15 = 7 → (Wn PP AA F93 [.ptr (.he i1 0) 0 9 0, .s 3 (.agg [dI 7, dI n16, dI n17]), .bp (.fn (.func F78) [] []) 0 0, .bp (vI 1) 0 0, .bp (vI 0) 0 0] h5 fun v => ∃ (b18 : Bool) (n19 : Int) (n20 : Int), v = .tuple [vBool b18, vI n19, vI n20] ∧ ((b18 = true → (Wa PP AA F66 [.s 2 (.agg [dI n3, .slice 2 l4])] fun v => ∃ (n21 : Int), v = vI n21 ∧ (((W (n3 - n19)) < n21 → Q (.tuple [.d (.slice 3 ([])), vBool false]) h5) ∧ (n21 ≤ (W (n3 - n19)) → (Wa PP AA F67 [.s 2 (.agg [dI n3, .slice 2 l4]), vI (W (n20 - n19))] fun v => ∃ (n22 : Int) (l23 : List D), v = .s 2 (.agg [dI n22, .slice 2 l23]) ∧ Q (.tuple [.d (.slice 3 ([.agg [dI (W (n2 + 1)), dI n22, .slice 2 l23]])), vBool true]) h5))))) ∧ (b18 = false → Q (.tuple [.d (.slice 3 ([])), vBool false]) h5)))) ∧ (n15 ≠ 7 → ((n15 = 8 → (Wn PP AA F93 [.ptr (.he i1 0) 0 9 0, .s 3 (.agg [dI 8, dI n16, dI n17]), .bp (.fn (.func F79) [] []) 0 0, .bp (vI 1) 0 0, .bp (vI 0) 0 0] h5 fun v => ∃ (b18 : Bool) (n19 : Int) (n20 : Int), v = .tuple [vBool b18, vI n19, vI n20] ∧ ((b18 = true → (Wa PP AA F66 [.s 2 (.agg [dI n3, .slice 2 l4])] fun v => ∃ (n21 : Int), v = vI n21 ∧ (((W (n3 - n19)) < n21 → Q (.tuple [.d (.slice 3 ([])), vBool false]) h5) ∧ (n21 ≤ (W (n3 - n19)) → (Wa PP AA F67 [.s 2 (.agg [dI n3, .slice 2 l4]), vI (W (n20 - n19))] fun v => ∃ (n22 : Int) (l23 : List D), v = .s 2 (.agg [dI n22, .slice 2 l23]) ∧ Q (.tuple [.d (.slice 3 ([.agg [dI (W (n2 + 1)), dI n22, .slice 2 l23]])), vBool true]) h5))))) ∧ (b18 = false → Q (.tuple [.d (.slice 3 ([])), vBool false]) h5)))) ∧ (n15 ≠ 8 → ((n15 = 9 → (Wn PP AA F94 [.ptr (.he i1 0) 0 9 0, .s 3 (.agg [dI 9, dI n16, dI n17]), .bp (vI 1) 0 0, .bp (vI 0) 0 0] h5 fun v => ∃ (b18 : Bool) (n19 : Int) (n20 : Int), v = .tuple [vBool b18, vI n19, vI n20] ∧ ((b18 = true → (Wa PP AA F66 [.s 2 (.agg [dI n3, .slice 2 l4])] fun v => ∃ (n21 : Int), v = vI n21 ∧ (((W (n3 - n19)) < n21 → Q (.tuple [.d (.slice 3 ([])), vBool false]) h5) ∧ (n21 ≤ (W (n3 - n19)) → (Wa PP AA F67 [.s 2 (.agg [dI n3, .slice 2 l4]), vI (W (n20 - n19))] fun v => ∃ (n22 : Int) (l23 : List D), v = .s 2 (.agg [dI n22, .slice 2 l23]) ∧ Q (.tuple [.d (.slice 3 ([.agg [dI (W (n2 + 1)), dI n22, .slice 2 l23]])), vBool true]) h5))))) ∧ (b18 = false → Q (.tuple [.d (.slice 3 ([])), vBool false]) h5)))) ∧ (n15 ≠ 9 → ((n15 = 10 → (Wn PP AA F86 [.ptr (.he i1 0) 0 9 0, .s 3 (.agg [dI 10, dI n16, dI n17])] h5 fun v => ∃ (b18 : Bool) (n19 : Int) (n20 : Int), v = .tuple [vBool b18, vI n19, vI n20] ∧ ((b18 = true → (Wa PP AA F66 [.s 2 (.agg [dI n3, .slice 2 l4])] fun v => ∃ (n21 : Int), v = vI n21 ∧ (((W (n3 - n19)) < n21 → Q (.tuple [.d (.slice 3 ([])), vBool false]) h5) ∧ (n21 ≤ (W (n3 - n19)) → (Wa PP AA F67 [.s 2 (.agg [dI n3, .slice 2 l4]), vI (W (n20 - n19))] fun v => ∃ (n22 : Int) (l23 : List D), v = .s 2 (.agg [dI n22, .slice 2 l23]) ∧ Q (.tuple [.d (.slice 3 ([.agg [dI (W (n2 + 1)), dI n22, .slice 2 l23]])), vBool true]) h5))))) ∧ (b18 = false → Q (.tuple [.d (.slice 3 ([])), vBool false]) h5)))) ∧ (n15 ≠ 10 → ((n15 = 11 → (Wn PP AA F87 [.ptr (.he i1 0) 0 9 0, .s 3 (.agg [dI 11, dI n16, dI n17])] h5 fun v => ∃ (b18 : Bool) (n19 : Int) (n20 : Int), v = .tuple [vBool b18, vI n19, vI n20] ∧ ((b18 = true → (Wa PP AA F66 [.s 2 (.agg [dI n3, .slice 2 l4])] fun v => ∃ (n21 : Int), v = vI n21 ∧ (((W (n3 - n19)) < n21 → Q (.tuple [.d (.slice 3 ([])), vBool false]) h5) ∧ (n21 ≤ (W (n3 - n19)) → (Wa PP AA F67 [.s 2 (.agg [dI n3, .slice 2 l4]), vI (W (n20 - n19))] fun v => ∃ (n22 : Int) (l23 : List D), v = .s 2 (.agg [dI n22, .slice 2 l23]) ∧ Q (.tuple [.d (.slice 3 ([.agg [dI (W (n2 + 1)), dI n22, .slice 2 l23]])), vBool true]) h5))))) ∧ (b18 = false → Q (.tuple [.d (.slice 3 ([])), vBool false]) h5)))) ∧ (n15 ≠ 11 → ((n15 = 12 → (Wn PP AA F93 [.ptr (.he i1 0) 0 9 0, .s 3 (.agg [dI 12, dI n16, dI n17]), .bp (.fn (.func F88) [] []) 0 0, .bp (vI 1) 0 0, .bp (vI 1) 0 0] h5 fun v => ∃ (b18 : Bool) (n19 : Int) (n20 : Int), v = .tuple [vBool b18, vI n19, vI n20] ∧ ((b18 = true → (Wa PP AA F66 [.s 2 (.agg [dI n3, .slice 2 l4])] fun v => ∃ (n21 : Int), v = vI n21 ∧ (((W (n3 - n19)) < n21 → Q (.tuple [.d (.slice 3 ([])), vBool false]) h5) ∧ (n21 ≤ (W (n3 - n19)) → (Wa PP AA F67 [.s 2 (.agg [dI n3, .slice 2 l4]), vI (W (n20 - n19))] fun v => ∃ (n22 : Int) (l23 : List D), v = .s 2 (.agg [dI n22, .slice 2 l23]) ∧ Q (.tuple [.d (.slice 3 ([.agg [dI (W (n2 + 1)), dI n22, .slice 2 l23]])), vBool true]) h5))))) ∧ (b18 = false → Q (.tuple [.d (.slice 3 ([])), vBool false]) h5)))) ∧ (n15 ≠ 12 → ((n15 = 13 → (Wn PP AA F94 [.ptr (.he i1 0) 0 9 0, .s 3 (.agg [dI 13, dI n16, dI n17]), .bp (vI 2) 0 0, .bp (vI 1) 0 0] h5 fun v => ∃ (b18 : Bool) (n19 : Int) (n20 : Int), v = .tuple [vBool b18, vI n19, vI n20] ∧ ((b18 = true → (Wa PP AA F66 [.s 2 (.agg [dI n3, .slice 2 l4])] fun v => ∃ (n21 : Int), v = vI n21 ∧ (((W (n3 - n19)) < n21 → Q (.tuple [.d (.slice 3 ([])), vBool false]) h5) ∧ (n21 ≤ (W (n3 - n19)) → (Wa PP AA F67 [.s 2 (.agg [dI n3, .slice 2 l4]), vI (W (n20 - n19))] fun v => ∃ (n22 : Int) (l23 : List D), v = .s 2 (.agg [dI n22, .slice 2 l23]) ∧ Q (.tuple [.d (.slice 3 ([.agg [dI (W (n2 + 1)), dI n22, .slice 2 l23]])), vBool true]) h5))))) ∧ (b18 = false → Q (.tuple [.d (.slice 3 ([])), vBool false]) h5)))) ∧ (n15 ≠ 13 → ((n15 = 14 → (Wn PP AA F94 [.ptr (.he i1 0) 0 9 0, .s 3 (.agg [dI 14, dI n16, dI n17]), .bp (vI 2) 0 0, .bp (vI 0) 0 0] h5 fun v => ∃ (b18 : Bool) (n19 : Int) (n20 : Int), v = .tuple [vBool b18, vI n19, vI n20] ∧ ((b18 = true → (Wa PP AA F66 [.s 2 (.agg [dI n3, .slice 2 l4])] fun v => ∃ (n21 : Int), v = vI n21 ∧ (((W (n3 - n19)) < n21 → Q (.tuple [.d (.slice 3 ([])), vBool false]) h5) ∧ (n21 ≤ (W (n3 - n19)) → (Wa PP AA F67 [.s 2 (.agg [dI n3, .slice 2 l4]), vI (W (n20 - n19))] fun v => ∃ (n22 : Int) (l23 : List D), v = .s 2 (.agg [dI n22, .slice 2 l23]) ∧ Q (.tuple [.d (.slice 3 ([])), vBool ((((l4.length : Nat) : Int) : Int) == 0)]) h5))))) ∧ (b18 = false → Q (.tuple [.d (.slice 3 ([])), vBool false]) h5)))) ∧ (n15 ≠ 14 → ((n15 = 15 → (Wn PP AA F94 [.ptr (.he i1 0) 0 9 0, .s 3 (.agg [dI 15, dI n16, dI n17]), .bp (vI 1) 0 0, .bp (vI 0) 0 0] h5 fun v => ∃ (b18 : Bool) (n19 : Int) (n20 : Int), v = .tuple [vBool b18, vI n19, vI n20] ∧ ((b18 = true → (Wa PP AA F66 [.s 2 (.agg [dI n3, .slice 2 l4])] fun v => ∃ (n21 : Int), v = vI n21 ∧ (((W (n3 - n19)) < n21 → Q (.tuple [.d (.slice 3 ([])), vBool false]) h5) ∧ (n21 ≤ (W (n3 - n19)) → (Wa PP AA F67 [.s 2 (.agg [dI n3, .slice 2 l4]), vI (W (n20 - n19))] fun v => ∃ (n22 : Int) (l23 : List D), v = .s 2 (.agg [dI n22, .slice 2 l23]) ∧ Q (.tuple [.d (.slice 3 ([])), vBool ((((l4.length : Nat) : Int) : Int) == 0)]) h5))))) ∧ (b18 = false → Q (.tuple [.d (.slice 3 ([])), vBool false]) h5)))) ∧ (n15 ≠ 15 → ((n15 = 17 → (Wn PP AA F94 [.ptr (.he i1 0) 0 9 0, .s 3 (.agg [dI 17, dI n16, dI n17]), .bp (vI 1) 0 0, .bp (vI 0) 0 0] h5 fun v => ∃ (b18 : Bool) (n19 : Int) (n20 : Int), v = .tuple [vBool b18, vI n19, vI n20] ∧ ((b18 = true → (Wa PP AA F66 [.s 2 (.agg [dI n3, .slice 2 l4])] fun v => ∃ (n21 : Int), v = vI n21 ∧ (((W (n3 - n19)) < n21 → Q (.tuple [.d (.slice 3 ([])), vBool false]) h5) ∧ (n21 ≤ (W (n3 - n19)) → (Wa PP AA F67 [.s 2 (.agg [dI n3, .slice 2 l4]), vI (W (n20 - n19))] fun v => ∃ (n22 : Int) (l23 : List D), v = .s 2 (.agg [dI n22, .slice 2 l23]) ∧ Q (.tuple [.d (.slice 3 ([.agg [dI (W (n2 + 1)), dI n22, .slice 2 l23], .agg [dI n16, dI n22, .slice 2 l23]])), vBool true]) h5))))) ∧ (b18 = false → Q (.tuple [.d (.slice 3 ([])), vBool false]) h5)))) ∧ (n15 ≠ 17 → ((n15 = 18 → (Wn PP AA F94 [.ptr (.he i1 0) 0 9 0, .s 3 (.agg [dI 18, dI n16, dI n17]), .bp (vI 1) 0 0, .bp (vI 0) 0 0] h5 fun v => ∃ (b18 : Bool) (n19 : Int) (n20 : Int), v = .tuple [vBool b18, vI n19, vI n20] ∧ ((b18 = true → (Wa PP AA F66 [.s 2 (.agg [dI n3, .slice 2 l4])] fun v => ∃ (n21 : Int), v = vI n21 ∧ (((W (n3 - n19)) < n21 → Q (.tuple [.d (.slice 3 ([])), vBool false]) h5) ∧ (n21 ≤ (W (n3 - n19)) → (Wa PP AA F67 [.s 2 (.agg [dI n3, .slice 2 l4]), vI (W (n20 - n19))] fun v => ∃ (n22 : Int) (l23 : List D), v = .s 2 (.agg [dI n22, .slice 2 l23]) ∧ Q (.tuple [.d (.slice 3 ([.agg [dI (W (n2 + 1)), dI n22, .slice 2 l23], .agg [dI n17, dI n22, .slice 2 l23]])), vBool true]) h5))))) ∧ (b18 = false → Q (.tuple [.d (.slice 3 ([])), vBool false]) h5)))) ∧ (n15 ≠ 18 → ((n15 = 19 → (Wn PP AA F93 [.ptr (.he i1 0) 0 9 0, .s 3 (.agg [dI 19, dI n16, dI n17]), .bp (.fn (.func F89) [] []) 0 0, .bp (vI 2) 0 0, .bp (vI 1) 0 0] h5 fun v => ∃ (b18 : Bool) (n19 : Int) (n20 : Int), v = .tuple [vBool b18, vI n19, vI n20] ∧ ((b18 = true → (Wa PP AA F66 [.s 2 (.agg [dI n3, .slice 2 l4])] fun v => ∃ (n21 : Int), v = vI n21 ∧ (((W (n3 - n19)) < n21 → Q (.tuple [.d (.slice 3 ([])), vBool false]) h5) ∧ (n21 ≤ (W (n3 - n19)) → (Wa PP AA F67 [.s 2 (.agg [dI n3, .slice 2 l4]), vI (W (n20 - n19))] fun v => ∃ (n22 : Int) (l23 : List D), v = .s 2 (.agg [dI n22, .slice 2 l23]) ∧ Q (.tuple [.d (.slice 3 ([.agg [dI (W (n2 + 1)), dI n22, .slice 2 l23]])), vBool true]) h5))))) ∧ (b18 = false → Q (.tuple [.d (.slice 3 ([])), vBool false]) h5)))) ∧ (n15 ≠ 19 → ((n15 = 20 → (Wn PP AA F94 [.ptr (.he i1 0) 0 9 0, .s 3 (.agg [dI 20, dI n16, dI n17]), .bp (vI 2) 0 0, .bp (vI 1) 0 0] h5 fun v => ∃ (b18 : Bool) (n19 : Int) (n20 : Int), v = .tuple [vBool b18, vI n19, vI n20] ∧ ((b18 = true → (Wa PP AA F66 [.s 2 (.agg [dI n3, .slice 2 l4])] fun v => ∃ (n21 : Int), v = vI n21 ∧ (((W (n3 - n19)) < n21 → Q (.tuple [.d (.slice 3 ([])), vBool false]) h5) ∧ (n21 ≤ (W (n3 - n19)) → (Wa PP AA F67 [.s 2 (.agg [dI n3, .slice 2 l4]), vI (W (n20 - n19))] fun v => ∃ (n22 : Int) (l23 : List D), v = .s 2 (.agg [dI n22, .slice 2 l23]) ∧ Q (.tuple [.d (.slice 3 ([.agg [dI (W (n2 + 1)), dI n22, .slice 2 l23]])), vBool true]) h5))))) ∧ (b18 = false → Q (.tuple [.d (.slice 3 ([])), vBool false]) h5)))) ∧ (n15 ≠ 20 → ((n15 = 23 → (Wn PP AA F94 [.ptr (.he i1 0) 0 9 0, .s 3 (.agg [dI 23, dI n16, dI n17]), .bp (vI 1) 0 0, .bp (vI 0) 0 0] h5 fun v => ∃ (b18 : Bool) (n19 : Int) (n20 : Int), v = .tuple [vBool b18, vI n19, vI n20] ∧ ((b18 = true → (Wa PP AA F66 [.s 2 (.agg [dI n3, .slice 2 l4])] fun v => ∃ (n21 : Int), v = vI n21 ∧ (((W (n3 - n19)) < n21 → Q (.tuple [.d (.slice 3 ([])), vBool false]) h5) ∧ (n21 ≤ (W (n3 - n19)) → (Wa PP AA F67 [.s 2 (.agg [dI n3, .slice 2 l4]), vI (W (n20 - n19))] fun v => ∃ (n22 : Int) (l23 : List D), v = .s 2 (.agg [dI n22, .slice 2 l23]) ∧ Q (.tuple [.d (.slice 3 ([])), vBool true]) h5))))) ∧ (b18 = false → Q (.tuple [.d (.slice 3 ([])), vBool false]) h5)))) ∧ (n15 ≠ 23 → ((n15 = 24 → (Wn PP AA F94 [.ptr (.he i1 0) 0 9 0, .s 3 (.agg [dI 24, dI n16, dI n17]), .bp (vI 1) 0 0, .bp (vI 1) 0 0] h5 fun v => ∃ (b18 : Bool) (n19 : Int) (n20 : Int), v = .tuple [vBool b18, vI n19, vI n20] ∧ ((b18 = true → (Wa PP AA F66 [.s 2 (.agg [dI n3, .slice 2 l4])] fun v => ∃ (n21 : Int), v = vI n21 ∧ (((W (n3 - n19)) < n21 → Q (.tuple [.d (.slice 3 ([])), vBool false]) h5) ∧ (n21 ≤ (W (n3 - n19)) → (Wa PP AA F67 [.s 2 (.agg [dI n3, .slice 2 l4]), vI (W (n20 - n19))] fun v => ∃ (n22 : Int) (l23 : List D), v = .s 2 (.agg [dI n22, .slice 2 l23]) ∧ Q (.tuple [.d (.slice 3 ([.agg [dI (W (n2 + 1)), dI n22, .slice 2 l23]])), vBool true]) h5))))) ∧ (b18 = false → Q (.tuple [.d (.slice 3 ([])), vBool false]) h5)))) ∧ (n15 ≠ 24 → ((n15 = 25 → (Wn PP AA F94 [.ptr (.he i1 0) 0 9 0, .s 3 (.agg [dI 25, dI n16, dI n17]), .bp (vI 1) 0 0, .bp (vI 1) 0 0] h5 fun v => ∃ (b18 : Bool) (n19 : Int) (n20 : Int), v = .tuple [vBool b18, vI n19, vI n20] ∧ ((b18 = true → (Wa PP AA F66 [.s 2 (.agg [dI n3, .slice 2 l4])] fun v => ∃ (n21 : Int), v = vI n21 ∧ (((W (n3 - n19)) < n21 → Q (.tuple [.d (.slice 3 ([])), vBool false]) h5) ∧ (n21 ≤ (W (n3 - n19)) → (Wa PP AA F67 [.s 2 (.agg [dI n3, .slice 2 l4]), vI (W (n20 - n19))] fun v => ∃ (n22 : Int) (l23 : List D), v = .s 2 (.agg [dI n22, .slice 2 l23]) ∧ Q (.tuple [.d (.slice 3 ([.agg [dI (W (n2 + 1)), dI n22, .slice 2 l23]])), vBool true]) h5))))) ∧ (b18 = false → Q (.tuple [.d (.slice 3 ([])), vBool false]) h5)))) ∧ (n15 ≠ 25 → ((n15 = 31 → (Wn PP AA F94 [.ptr (.he i1 0) 0 9 0, .s 3 (.agg [dI 31, dI n16, dI n17]), .bp (vI 1) 0 0, .bp (vI 1) 0 0] h5 fun v => ∃ (b18 : Bool) (n19 : Int) (n20 : Int), v = .tuple [vBool b18, vI n19, vI n20] ∧ ((b18 = true → (Wa PP AA F66 [.s 2 (.agg [dI n3, .slice 2 l4])] fun v => ∃ (n21 : Int), v = vI n21 ∧ (((W (n3 - n19)) < n21 → Q (.tuple [.d (.slice 3 ([])), vBool false]) h5) ∧ (n21 ≤ (W (n3 - n19)) → (Wa PP AA F67 [.s 2 (.agg [dI n3, .slice 2 l4]), vI (W (n20 - n19))] fun v => ∃ (n22 : Int) (l23 : List D), v = .s 2 (.agg [dI n22, .slice 2 l23]) ∧ Q (.tuple [.d (.slice 3 ([.agg [dI (W (n2 + 1)), dI n22, .slice 2 l23]])), vBool true]) h5))))) ∧ (b18 = false → Q (.tuple [.d (.slice 3 ([])), vBool false]) h5)))) ∧ (n15 ≠ 31 → ((n15 = 32 → (Wn PP AA F94 [.ptr (.he i1 0) 0 9 0, .s 3 (.agg [dI 32, dI n16, dI n17]), .bp (vI 1) 0 0, .bp (vI 1) 0 0] h5 fun v => ∃ (b18 : Bool) (n19 : Int) (n20 : Int), v = .tuple [vBool b18, vI n19, vI n20] ∧ ((b18 = true → (Wa PP AA F66 [.s 2 (.agg [dI n3, .slice 2 l4])] fun v => ∃ (n21 : Int), v = vI n21 ∧ (((W (n3 - n19)) < n21 → Q (.tuple [.d (.slice 3 ([])), vBool false]) h5) ∧ (n21 ≤ (W (n3 - n19)) → (Wa PP AA F67 [.s 2 (.agg [dI n3, .slice 2 l4]), vI (W (n20 - n19))] fun v => ∃ (n22 : Int) (l23 : List D), v = .s 2 (.agg [dI n22, .slice 2 l23]) ∧ Q (.tuple [.d (.slice 3 ([.agg [dI (W (n2 + 1)), dI n22, .slice 2 l23]])), vBool true]) h5))))) ∧ (b18 = false → Q (.tuple [.d (.slice 3 ([])), vBool false]) h5)))) ∧ (n15 ≠ 32 → ((n15 = 33 → (Wn PP AA F94 [.ptr (.he i1 0) 0 9 0, .s 3 (.agg [dI 33, dI n16, dI n17]), .bp (vI 2) 0 0, .bp (vI 1) 0 0] h5 fun v => ∃ (b18 : Bool) (n19 : Int) (n20 : Int), v = .tuple [vBool b18, vI n19, vI n20] ∧ ((b18 = true → (Wa PP AA F66 [.s 2 (.agg [dI n3, .slice 2 l4])] fun v => ∃ (n21 : Int), v = vI n21 ∧ (((W (n3 - n19)) < n21 → Q (.tuple [.d (.slice 3 ([])), vBool false]) h5) ∧ (n21 ≤ (W (n3 - n19)) → (Wa PP AA F67 [.s 2 (.agg [dI n3, .slice 2 l4]), vI (W (n20 - n19))] fun v => ∃ (n22 : Int) (l23 : List D), v = .s 2 (.agg [dI n22, .slice 2 l23]) ∧ Q (.tuple [.d (.slice 3 ([.agg [dI (W (n2 + 1)), dI n22, .slice 2 l23]])), vBool true]) h5))))) ∧ (b18 = false → Q (.tuple [.d (.slice 3 ([])), vBool false]) h5)))) ∧ (n15 ≠ 33 → (findKey (.int .i64 n15) cK65 cL65 = some none ∧ (Wa PP AA F66 [.s 2 (.agg [dI n3, .slice 2 l4])] fun v => ∃ (n18 : Int), v = vI n18 ∧ (((W (n3 - 0)) < n18 → Q (.tuple [.d (.slice 3 ([])), vBool false]) h5) ∧ (n18 ≤ (W (n3 - 0)) → (Wa PP AA F67 [.s 2 (.agg [dI n3, .slice 2 l4]), vI 0] fun v => ∃ (n19 : Int) (l20 : List D), v = .s 2 (.agg [dI n19, .slice 2 l20]) ∧ ((n15 = 30 → Q (.tuple [.d (.slice 3 ([])), vBool true]) h5) ∧ (n15 ≠ 30 → ((n15 = 16 → Q (.tuple [.d (.slice 3 ([.agg [dI n16, dI n3, .slice 2 l4]])), vBool true]) h5) ∧ (n15 ≠ 16 → ((n15 = 21 → (Wa PP AA F68 [.s 2 (.agg [dI n3, .slice 2 l4]), vI 21] fun v => ∃ (n21 : Int) (l22 : List D), v = .s 2 (.agg [dI n21, .slice 2 l22]) ∧ (Wa PP AA F67 [.s 2 (.agg [dI n3, .slice 2 l4]), vI 1] fun v => ∃ (n23 : Int) (l24 : List D), v = .s 2 (.agg [dI n23, .slice 2 l24]) ∧ Q (.tuple [.d (.slice 3 ([.agg [dI (W (n2 + 1)), dI n21, .slice 2 l22], .agg [dI n16, dI n23, .slice 2 l24]])), vBool true]) h5))) ∧ (n15 ≠ 21 → ((n15 = 28 → (Wa PP AA F68 [.s 2 (.agg [dI n3, .slice 2 l4]), vI 28] fun v => ∃ (n21 : Int) (l22 : List D), v = .s 2 (.agg [dI n21, .slice 2 l22]) ∧ Q (.tuple [.d (.slice 3 ([.agg [dI (W (n2 + 1)), dI n21, .slice 2 l22], .agg [dI n16, dI n3, .slice 2 l4]])), vBool true]) h5)) ∧ (n15 ≠ 28 → ((n15 = 26 → (Wa PP AA F68 [.s 2 (.agg [dI n3, .slice 2 l4]), vI 26] fun v => ∃ (n21 : Int) (l22 : List D), v = .s 2 (.agg [dI n21, .slice 2 l22]) ∧ (Wa PP AA F69 [.d (.slice 2 l4), .fn (.func F70) [] []] fun v => ∃ (b23 : Bool), v = vBool b23 ∧ Q (.tuple [.d (.slice 3 ([.agg [dI (W (n2 + 1)), dI n21, .slice 2 l22]])), vBool (!b23)]) h5))) ∧ (n15 ≠ 26 → ((n15 = 22 → (Wa PP AA F71 [.s 2 (.agg [dI n3, .slice 2 l4]), vI 21] fun v => ∃ (n21 : Int) (l22 : List D) (b23 : Bool), v = .tuple [.s 2 (.agg [dI n21, .slice 2 l22]), vBool b23] ∧ Q (.tuple [.d (.slice 3 ([.agg [dI (W (n2 + 1)), dI n21, .slice 2 l22]])), vBool b23]) h5)) ∧ (n15 ≠ 22 → ((n15 = 27 → (Wa PP AA F71 [.s 2 (.agg [dI n3, .slice 2 l4]), vI 26] fun v => ∃ (n21 : Int) (l22 : List D) (b23 : Bool), v = .tuple [.s 2 (.agg [dI n21, .slice 2 l22]), vBool b23] ∧ Q (.tuple [.d (.slice 3 ([.agg [dI (W (n2 + 1)), dI n21, .slice 2 l22]])), vBool b23]) h5)) ∧ (n15 ≠ 27 → ((n15 = 29 → (Wa PP AA F71 [.s 2 (.agg [dI n3, .slice 2 l4]), vI 28] fun v => ∃ (n21 : Int) (l22 : List D) (b23 : Bool), v = .tuple [.s 2 (.agg [dI n21, .slice 2 l22]), vBool b23] ∧ Q (.tuple [.d (.slice 3 ([.agg [dI (W (n2 + 1)), dI n21, .slice 2 l22]])), vBool b23]) h5)) ∧ (n15 ≠ 29 → Q (.tuple [.d (.slice 3 ([.agg [dI (W (n2 + 1)), dI n19, .slice 2 l20]])), vBool true]) h5))))))))))))))))))))))))))))))))))))))))))))))))))))))))))))))))))))))))))) :
    Wc PP AA F49 [.ptr (.he i1 0) 0 9 0, vI n2, .s 2 (.agg [dI n3, .slice 2 l4])] h5 Q := by
  obtain ⟨l6, l7, l8, n9, n10, n11, n12, n13, l14, q0, h0⟩ := h0
  obtain ⟨q1, h0⟩ := h0
  obtain ⟨n15, n16, n17, q2, h0⟩ := h0
  rcases Classical.em (n15 = 1) with e | q4k0f
  · replace h0 := h0.1 e
    subst e
    obtain ⟨v, r6, b18, n19, n20, e, h0⟩ := h0
    subst e
    rcases bcase b18 with e | e
    · replace h0 := h0.1 e
      subst e
      obtain ⟨v, r8, n21, e, h0⟩ := h0
      subst e
      rcases icase ((W (n3 - n19))) n21 with q9f | q9f
      · replace h0 := h0.1 q9f
        exact ent_ret (fs := [fo q0, rd q1, fd q2, fr (cl65 h5 : RC PP AA F65 [] h5 (.mapv cK65 cL65) h5), fw (rfl : findKey (.int .i64 1) cK65 cL65 = some (some (.fn (.func F93) [] [.bp (.fn (.func F81) [] []) 0 0, .bp (vI 0) 0 0, .bp (vI 1) 0 0]))), bT, fr r6, bF, fr (r8 h5), tt q9f]) p49 a49 (by kernel_rfl) h0
      · replace h0 := h0.2 q9f
        obtain ⟨v, r10, n22, l23, e, h0⟩ := h0
        subst e
        exact ent_ret (fs := [fo q0, rd q1, fd q2, fr (cl65 h5 : RC PP AA F65 [] h5 (.mapv cK65 cL65) h5), fw (rfl : findKey (.int .i64 1) cK65 cL65 = some (some (.fn (.func F93) [] [.bp (.fn (.func F81) [] []) 0 0, .bp (vI 0) 0 0, .bp (vI 1) 0 0]))), bT, fr r6, bF, fr (r8 h5), tl q9f, fr (r10 h5), bF, bF, bF, bF, bF, bF, bF, bF, bF, bF, bF, bF, bF]) p49 a49 (by kernel_rfl) h0
    · replace h0 := h0.2 e
      subst e
      exact ent_ret (fs := [fo q0, rd q1, fd q2, fr (cl65 h5 : RC PP AA F65 [] h5 (.mapv cK65 cL65) h5), fw (rfl : findKey (.int .i64 1) cK65 cL65 = some (some (.fn (.func F93) [] [.bp (.fn (.func F81) [] []) 0 0, .bp (vI 0) 0 0, .bp (vI 1) 0 0]))), bT, fr r6, bT]) p49 a49 (by kernel_rfl) h0
  · replace h0 := h0.2 q4k0f
    rcases Classical.em (n15 = 2) with e | q4k1f
    · replace h0 := h0.1 e
      subst e
      obtain ⟨v, r6, b18, n19, n20, e, h0⟩ := h0
      subst e
      rcases bcase b18 with e | e
      · replace h0 := h0.1 e
        subst e
        obtain ⟨v, r8, n21, e, h0⟩ := h0
        subst e
        rcases icase ((W (n3 - n19))) n21 with q9f | q9f
        · replace h0 := h0.1 q9f
          exact ent_ret (fs := [fo q0, rd q1, fd q2, fr (cl65 h5 : RC PP AA F65 [] h5 (.mapv cK65 cL65) h5), fw (rfl : findKey (.int .i64 2) cK65 cL65 = some (some (.fn (.func F93) [] [.bp (.fn (.func F82) [] []) 0 0, .bp (vI 0) 0 0, .bp (vI 1) 0 0]))), bT, fr r6, bF, fr (r8 h5), tt q9f]) p49 a49 (by kernel_rfl) h0
        · replace h0 := h0.2 q9f
          obtain ⟨v, r10, n22, l23, e, h0⟩ := h0
          subst e
          exact ent_ret (fs := [fo q0, rd q1, fd q2, fr (cl65 h5 : RC PP AA F65 [] h5 (.mapv cK65 cL65) h5), fw (rfl : findKey (.int .i64 2) cK65 cL65 = some (some (.fn (.func F93) [] [.bp (.fn (.func F82) [] []) 0 0, .bp (vI 0) 0 0, .bp (vI 1) 0 0]))), bT, fr r6, bF, fr (r8 h5), tl q9f, fr (r10 h5), bF, bF, bF, bF, bF, bF, bF, bF, bF, bF, bF, bF, bF]) p49 a49 (by kernel_rfl) h0
      · replace h0 := h0.2 e
        subst e
        exact ent_ret (fs := [fo q0, rd q1, fd q2, fr (cl65 h5 : RC PP AA F65 [] h5 (.mapv cK65 cL65) h5), fw (rfl : findKey (.int .i64 2) cK65 cL65 = some (some (.fn (.func F93) [] [.bp (.fn (.func F82) [] []) 0 0, .bp (vI 0) 0 0, .bp (vI 1) 0 0]))), bT, fr r6, bT]) p49 a49 (by kernel_rfl) h0
    · replace h0 := h0.2 q4k1f
      rcases Classical.em (n15 = 3) with e | q4k2f
      · replace h0 := h0.1 e
        subst e
        obtain ⟨v, r6, b18, n19, n20, e, h0⟩ := h0
        subst e
        rcases bcase b18 with e | e
        · replace h0 := h0.1 e
          subst e
          obtain ⟨v, r8, n21, e, h0⟩ := h0
          subst e
          rcases icase ((W (n3 - n19))) n21 with q9f | q9f
          · replace h0 := h0.1 q9f
            exact ent_ret (fs := [fo q0, rd q1, fd q2, fr (cl65 h5 : RC PP AA F65 [] h5 (.mapv cK65 cL65) h5), fw (rfl : findKey (.int .i64 3) cK65 cL65 = some (some (.fn (.func F93) [] [.bp (.fn (.func F78) [] []) 0 0, .bp (vI 0) 0 0, .bp (vI 1) 0 0]))), bT, fr r6, bF, fr (r8 h5), tt q9f]) p49 a49 (by kernel_rfl) h0
          · replace h0 := h0.2 q9f
            obtain ⟨v, r10, n22, l23, e, h0⟩ := h0
            subst e
            exact ent_ret (fs := [fo q0, rd q1, fd q2, fr (cl65 h5 : RC PP AA F65 [] h5 (.mapv cK65 cL65) h5), fw (rfl : findKey (.int .i64 3) cK65 cL65 = some (some (.fn (.func F93) [] [.bp (.fn (.func F78) [] []) 0 0, .bp (vI 0) 0 0, .bp (vI 1) 0 0]))), bT, fr r6, bF, fr (r8 h5), tl q9f, fr (r10 h5), bF, bF, bF, bF, bF, bF, bF, bF, bF, bF, bF, bF, bF]) p49 a49 (by kernel_rfl) h0
        · replace h0 := h0.2 e
          subst e
          exact ent_ret (fs := [fo q0, rd q1, fd q2, fr (cl65 h5 : RC PP AA F65 [] h5 (.mapv cK65 cL65) h5), fw (rfl : findKey (.int .i64 3) cK65 cL65 = some (some (.fn (.func F93) [] [.bp (.fn (.func F78) [] []) 0 0, .bp (vI 0) 0 0, .bp (vI 1) 0 0]))), bT, fr r6, bT]) p49 a49 (by kernel_rfl) h0
      · replace h0 := h0.2 q4k2f
        rcases Classical.em (n15 = 4) with e | q4k3f
        · replace h0 := h0.1 e
          subst e
          obtain ⟨v, r6, b18, n19, n20, e, h0⟩ := h0
          subst e
          rcases bcase b18 with e | e
          · replace h0 := h0.1 e
            subst e
            obtain ⟨v, r8, n21, e, h0⟩ := h0
            subst e
            rcases icase ((W (n3 - n19))) n21 with q9f | q9f
            · replace h0 := h0.1 q9f
              exact ent_ret (fs := [fo q0, rd q1, fd q2, fr (cl65 h5 : RC PP AA F65 [] h5 (.mapv cK65 cL65) h5), fw (rfl : findKey (.int .i64 4) cK65 cL65 = some (some (.fn (.func F93) [] [.bp (.fn (.func F83) [] []) 0 0, .bp (vI 0) 0 0, .bp (vI 1) 0 0]))), bT, fr r6, bF, fr (r8 h5), tt q9f]) p49 a49 (by kernel_rfl) h0
            · replace h0 := h0.2 q9f
              obtain ⟨v, r10, n22, l23, e, h0⟩ := h0
              subst e
              exact ent_ret (fs := [fo q0, rd q1, fd q2, fr (cl65 h5 : RC PP AA F65 [] h5 (.mapv cK65 cL65) h5), fw (rfl : findKey (.int .i64 4) cK65 cL65 = some (some (.fn (.func F93) [] [.bp (.fn (.func F83) [] []) 0 0, .bp (vI 0) 0 0, .bp (vI 1) 0 0]))), bT, fr r6, bF, fr (r8 h5), tl q9f, fr (r10 h5), bF, bF, bF, bF, bF, bF, bF, bF, bF, bF, bF, bF, bF]) p49 a49 (by kernel_rfl) h0
          · replace h0 := h0.2 e
            subst e
            exact ent_ret (fs := [fo q0, rd q1, fd q2, fr (cl65 h5 : RC PP AA F65 [] h5 (.mapv cK65 cL65) h5), fw (rfl : findKey (.int .i64 4) cK65 cL65 = some (some (.fn (.func F93) [] [.bp (.fn (.func F83) [] []) 0 0, .bp (vI 0) 0 0, .bp (vI 1) 0 0]))), bT, fr r6, bT]) p49 a49 (by kernel_rfl) h0
        · replace h0 := h0.2 q4k3f
          rcases Classical.em (n15 = 5) with e | q4k4f
          · replace h0 := h0.1 e
            subst e
            obtain ⟨v, r6, b18, n19, n20, e, h0⟩ := h0
            subst e
            rcases bcase b18 with e | e
            · replace h0 := h0.1 e
              subst e
              obtain ⟨v, r8, n21, e, h0⟩ := h0
              subst e
              rcases icase ((W (n3 - n19))) n21 with q9f | q9f
              · replace h0 := h0.1 q9f
                exact ent_ret (fs := [fo q0, rd q1, fd q2, fr (cl65 h5 : RC PP AA F65 [] h5 (.mapv cK65 cL65) h5), fw (rfl : findKey (.int .i64 5) cK65 cL65 = some (some (.fn (.func F84) [] []))), bT, fr r6, bF, fr (r8 h5), tt q9f]) p49 a49 (by kernel_rfl) h0
              · replace h0 := h0.2 q9f
                obtain ⟨v, r10, n22, l23, e, h0⟩ := h0
                subst e
                exact ent_ret (fs := [fo q0, rd q1, fd q2, fr (cl65 h5 : RC PP AA F65 [] h5 (.mapv cK65 cL65) h5), fw (rfl : findKey (.int .i64 5) cK65 cL65 = some (some (.fn (.func F84) [] []))), bT, fr r6, bF, fr (r8 h5), tl q9f, fr (r10 h5), bF, bF, bF, bF, bF, bF, bF, bF, bF, bF, bF, bF, bF]) p49 a49 (by kernel_rfl) h0
            · replace h0 := h0.2 e
              subst e
              exact ent_ret (fs := [fo q0, rd q1, fd q2, fr (cl65 h5 : RC PP AA F65 [] h5 (.mapv cK65 cL65) h5), fw (rfl : findKey (.int .i64 5) cK65 cL65 = some (some (.fn (.func F84) [] []))), bT, fr r6, bT]) p49 a49 (by kernel_rfl) h0
          · replace h0 := h0.2 q4k4f
            rcases Classical.em (n15 = 6) with e | q4k5f
            · replace h0 := h0.1 e
              subst e
              obtain ⟨v, r6, b18, n19, n20, e, h0⟩ := h0
              subst e
              rcases bcase b18 with e | e
              · replace h0 := h0.1 e
                subst e
                obtain ⟨v, r8, n21, e, h0⟩ := h0
                subst e
                rcases icase ((W (n3 - n19))) n21 with q9f | q9f
                · replace h0 := h0.1 q9f
                  exact ent_ret (fs := [fo q0, rd q1, fd q2, fr (cl65 h5 : RC PP AA F65 [] h5 (.mapv cK65 cL65) h5), fw (rfl : findKey (.int .i64 6) cK65 cL65 = some (some (.fn (.func F93) [] [.bp (.fn (.func F79) [] []) 0 0, .bp (vI 0) 0 0, .bp (vI 1) 0 0]))), bT, fr r6, bF, fr (r8 h5), tt q9f]) p49 a49 (by kernel_rfl) h0
                · replace h0 := h0.2 q9f
                  obtain ⟨v, r10, n22, l23, e, h0⟩ := h0
                  subst e
                  exact ent_ret (fs := [fo q0, rd q1, fd q2, fr (cl65 h5 : RC PP AA F65 [] h5 (.mapv cK65 cL65) h5), fw (rfl : findKey (.int .i64 6) cK65 cL65 = some (some (.fn (.func F93) [] [.bp (.fn (.func F79) [] []) 0 0, .bp (vI 0) 0 0, .bp (vI 1) 0 0]))), bT, fr r6, bF, fr (r8 h5), tl q9f, fr (r10 h5), bF, bF, bF, bF, bF, bF, bF, bF, bF, bF, bF, bF, bF]) p49 a49 (by kernel_rfl) h0
              · replace h0 := h0.2 e
                subst e
                exact ent_ret (fs := [fo q0, rd q1, fd q2, fr (cl65 h5 : RC PP AA F65 [] h5 (.mapv cK65 cL65) h5), fw (rfl : findKey (.int .i64 6) cK65 cL65 = some (some (.fn (.func F93) [] [.bp (.fn (.func F79) [] []) 0 0, .bp (vI 0) 0 0, .bp (vI 1) 0 0]))), bT, fr r6, bT]) p49 a49 (by kernel_rfl) h0
            · replace h0 := h0.2 q4k5f
              rcases Classical.em (n15 = 7) with e | q4k6f
              · replace h0 := h0.1 e
                subst e
                obtain ⟨v, r6, b18, n19, n20, e, h0⟩ := h0
                subst e
                rcases bcase b18 with e | e
                · replace h0 := h0.1 e
                  subst e
                  obtain ⟨v, r8, n21, e, h0⟩ := h0
                  subst e
                  rcases icase ((W (n3 - n19))) n21 with q9f | q9f
                  · replace h0 := h0.1 q9f
                    exact ent_ret (fs := [fo q0, rd q1, fd q2, fr (cl65 h5 : RC PP AA F65 [] h5 (.mapv cK65 cL65) h5), fw (rfl : findKey (.int .i64 7) cK65 cL65 = some (some (.fn (.func F93) [] [.bp (.fn (.func F78) [] []) 0 0, .bp (vI 1) 0 0, .bp (vI 0) 0 0]))), bT, fr r6, bF, fr (r8 h5), tt q9f]) p49 a49 (by kernel_rfl) h0
                  · replace h0 := h0.2 q9f
                    obtain ⟨v, r10, n22, l23, e, h0⟩ := h0
                    subst e
                    exact ent_ret (fs := [fo q0, rd q1, fd q2, fr (cl65 h5 : RC PP AA F65 [] h5 (.mapv cK65 cL65) h5), fw (rfl : findKey (.int .i64 7) cK65 cL65 = some (some (.fn (.func F93) [] [.bp (.fn (.func F78) [] []) 0 0, .bp (vI 1) 0 0, .bp (vI 0) 0 0]))), bT, fr r6, bF, fr (r8 h5), tl q9f, fr (r10 h5), bF, bF, bF, bF, bF, bF, bF, bF, bF, bF, bF, bF, bF]) p49 a49 (by kernel_rfl) h0
                · replace h0 := h0.2 e
                  subst e
                  exact ent_ret (fs := [fo q0, rd q1, fd q2, fr (cl65 h5 : RC PP AA F65 [] h5 (.mapv cK65 cL65) h5), fw (rfl : findKey (.int .i64 7) cK65 cL65 = some (some (.fn (.func F93) [] [.bp (.fn (.func F78) [] []) 0 0, .bp (vI 1) 0 0, .bp (vI 0) 0 0]))), bT, fr r6, bT]) p49 a49 (by kernel_rfl) h0
              · replace h0 := h0.2 q4k6f
                rcases Classical.em (n15 = 8) with e | q4k7f
                · replace h0 := h0.1 e
                  subst e
                  obtain ⟨v, r6, b18, n19, n20, e, h0⟩ := h0
                  subst e
                  rcases bcase b18 with e | e
                  · replace h0 := h0.1 e
                    subst e
                    obtain ⟨v, r8, n21, e, h0⟩ := h0
                    subst e
                    rcases icase ((W (n3 - n19))) n21 with q9f | q9f
                    · replace h0 := h0.1 q9f
                      exact ent_ret (fs := [fo q0, rd q1, fd q2, fr (cl65 h5 : RC PP AA F65 [] h5 (.mapv cK65 cL65) h5), fw (rfl : findKey (.int .i64 8) cK65 cL65 = some (some (.fn (.func F93) [] [.bp (.fn (.func F79) [] []) 0 0, .bp (vI 1) 0 0, .bp (vI 0) 0 0]))), bT, fr r6, bF, fr (r8 h5), tt q9f]) p49 a49 (by kernel_rfl) h0
                    · replace h0 := h0.2 q9f
                      obtain ⟨v, r10, n22, l23, e, h0⟩ := h0
                      subst e
                      exact ent_ret (fs := [fo q0, rd q1, fd q2, fr (cl65 h5 : RC PP AA F65 [] h5 (.mapv cK65 cL65) h5), fw (rfl : findKey (.int .i64 8) cK65 cL65 = some (some (.fn (.func F93) [] [.bp (.fn (.func F79) [] []) 0 0, .bp (vI 1) 0 0, .bp (vI 0) 0 0]))), bT, fr r6, bF, fr (r8 h5), tl q9f, fr (r10 h5), bF, bF, bF, bF, bF, bF, bF, bF, bF, bF, bF, bF, bF]) p49 a49 (by kernel_rfl) h0
                  · replace h0 := h0.2 e
                    subst e
                    exact ent_ret (fs := [fo q0, rd q1, fd q2, fr (cl65 h5 : RC PP AA F65 [] h5 (.mapv cK65 cL65) h5), fw (rfl : findKey (.int .i64 8) cK65 cL65 = some (some (.fn (.func F93) [] [.bp (.fn (.func F79) [] []) 0 0, .bp (vI 1) 0 0, .bp (vI 0) 0 0]))), bT, fr r6, bT]) p49 a49 (by kernel_rfl) h0
                · replace h0 := h0.2 q4k7f
                  rcases Classical.em (n15 = 9) with e | q4k8f
                  · replace h0 := h0.1 e
                    subst e
                    obtain ⟨v, r6, b18, n19, n20, e, h0⟩ := h0
                    subst e
                    rcases bcase b18 with e | e
                    · replace h0 := h0.1 e
                      subst e
                      obtain ⟨v, r8, n21, e, h0⟩ := h0
                      subst e
                      rcases icase ((W (n3 - n19))) n21 with q9f | q9f
                      · replace h0 := h0.1 q9f
                        exact ent_ret (fs := [fo q0, rd q1, fd q2, fr (cl65 h5 : RC PP AA F65 [] h5 (.mapv cK65 cL65) h5), fw (rfl : findKey (.int .i64 9) cK65 cL65 = some (some (.fn (.func F94) [] [.bp (vI 1) 0 0, .bp (vI 0) 0 0]))), bT, fr r6, bF, fr (r8 h5), tt q9f]) p49 a49 (by kernel_rfl) h0
                      · replace h0 := h0.2 q9f
                        obtain ⟨v, r10, n22, l23, e, h0⟩ := h0
                        subst e
                        exact ent_ret (fs := [fo q0, rd q1, fd q2, fr (cl65 h5 : RC PP AA F65 [] h5 (.mapv cK65 cL65) h5), fw (rfl : findKey (.int .i64 9) cK65 cL65 = some (some (.fn (.func F94) [] [.bp (vI 1) 0 0, .bp (vI 0) 0 0]))), bT, fr r6, bF, fr (r8 h5), tl q9f, fr (r10 h5), bF, bF, bF, bF, bF, bF, bF, bF, bF, bF, bF, bF, bF]) p49 a49 (by kernel_rfl) h0
                    · replace h0 := h0.2 e
                      subst e
                      exact ent_ret (fs := [fo q0, rd q1, fd q2, fr (cl65 h5 : RC PP AA F65 [] h5 (.mapv cK65 cL65) h5), fw (rfl : findKey (.int .i64 9) cK65 cL65 = some (some (.fn (.func F94) [] [.bp (vI 1) 0 0, .bp (vI 0) 0 0]))), bT, fr r6, bT]) p49 a49 (by kernel_rfl) h0
                  · replace h0 := h0.2 q4k8f
                    rcases Classical.em (n15 = 10) with e | q4k9f
                    · replace h0 := h0.1 e
                      subst e
                      obtain ⟨v, r6, b18, n19, n20, e, h0⟩ := h0
                      subst e
                      rcases bcase b18 with e | e
                      · replace h0 := h0.1 e
                        subst e
                        obtain ⟨v, r8, n21, e, h0⟩ := h0
                        subst e
                        rcases icase ((W (n3 - n19))) n21 with q9f | q9f
                        · replace h0 := h0.1 q9f
                          exact ent_ret (fs := [fo q0, rd q1, fd q2, fr (cl65 h5 : RC PP AA F65 [] h5 (.mapv cK65 cL65) h5), fw (rfl : findKey (.int .i64 10) cK65 cL65 = some (some (.fn (.func F86) [] []))), bT, fr r6, bF, fr (r8 h5), tt q9f]) p49 a49 (by kernel_rfl) h0
                        · replace h0 := h0.2 q9f
                          obtain ⟨v, r10, n22, l23, e, h0⟩ := h0
                          subst e
                          exact ent_ret (fs := [fo q0, rd q1, fd q2, fr (cl65 h5 : RC PP AA F65 [] h5 (.mapv cK65 cL65) h5), fw (rfl : findKey (.int .i64 10) cK65 cL65 = some (some (.fn (.func F86) [] []))), bT, fr r6, bF, fr (r8 h5), tl q9f, fr (r10 h5), bF, bF, bF, bF, bF, bF, bF, bF, bF, bF, bF, bF, bF]) p49 a49 (by kernel_rfl) h0
                      · replace h0 := h0.2 e
                        subst e
                        exact ent_ret (fs := [fo q0, rd q1, fd q2, fr (cl65 h5 : RC PP AA F65 [] h5 (.mapv cK65 cL65) h5), fw (rfl : findKey (.int .i64 10) cK65 cL65 = some (some (.fn (.func F86) [] []))), bT, fr r6, bT]) p49 a49 (by kernel_rfl) h0
                    · replace h0 := h0.2 q4k9f
                      rcases Classical.em (n15 = 11) with e | q4k10f
                      · replace h0 := h0.1 e
                        subst e
                        obtain ⟨v, r6, b18, n19, n20, e, h0⟩ := h0
                        subst e
                        rcases bcase b18 with e | e
                        · replace h0 := h0.1 e
                          subst e
                          obtain ⟨v, r8, n21, e, h0⟩ := h0
                          subst e
                          rcases icase ((W (n3 - n19))) n21 with q9f | q9f
                          · replace h0 := h0.1 q9f
                            exact ent_ret (fs := [fo q0, rd q1, fd q2, fr (cl65 h5 : RC PP AA F65 [] h5 (.mapv cK65 cL65) h5), fw (rfl : findKey (.int .i64 11) cK65 cL65 = some (some (.fn (.func F87) [] []))), bT, fr r6, bF, fr (r8 h5), tt q9f]) p49 a49 (by kernel_rfl) h0
                          · replace h0 := h0.2 q9f
                            obtain ⟨v, r10, n22, l23, e, h0⟩ := h0
                            subst e
                            exact ent_ret (fs := [fo q0, rd q1, fd q2, fr (cl65 h5 : RC PP AA F65 [] h5 (.mapv cK65 cL65) h5), fw (rfl : findKey (.int .i64 11) cK65 cL65 = some (some (.fn (.func F87) [] []))), bT, fr r6, bF, fr (r8 h5), tl q9f, fr (r10 h5), bF, bF, bF, bF, bF, bF, bF, bF, bF, bF, bF, bF, bF]) p49 a49 (by kernel_rfl) h0
                        · replace h0 := h0.2 e
                          subst e
                          exact ent_ret (fs := [fo q0, rd q1, fd q2, fr (cl65 h5 : RC PP AA F65 [] h5 (.mapv cK65 cL65) h5), fw (rfl : findKey (.int .i64 11) cK65 cL65 = some (some (.fn (.func F87) [] []))), bT, fr r6, bT]) p49 a49 (by kernel_rfl) h0
                      · replace h0 := h0.2 q4k10f
                        rcases Classical.em (n15 = 12) with e | q4k11f
                        · replace h0 := h0.1 e
                          subst e
                          obtain ⟨v, r6, b18, n19, n20, e, h0⟩ := h0
                          subst e
                          rcases bcase b18 with e | e
                          · replace h0 := h0.1 e
                            subst e
                            obtain ⟨v, r8, n21, e, h0⟩ := h0
                            subst e
                            rcases icase ((W (n3 - n19))) n21 with q9f | q9f
                            · replace h0 := h0.1 q9f
                              exact ent_ret (fs := [fo q0, rd q1, fd q2, fr (cl65 h5 : RC PP AA F65 [] h5 (.mapv cK65 cL65) h5), fw (rfl : findKey (.int .i64 12) cK65 cL65 = some (some (.fn (.func F93) [] [.bp (.fn (.func F88) [] []) 0 0, .bp (vI 1) 0 0, .bp (vI 1) 0 0]))), bT, fr r6, bF, fr (r8 h5), tt q9f]) p49 a49 (by kernel_rfl) h0
                            · replace h0 := h0.2 q9f
                              obtain ⟨v, r10, n22, l23, e, h0⟩ := h0
                              subst e
                              exact ent_ret (fs := [fo q0, rd q1, fd q2, fr (cl65 h5 : RC PP AA F65 [] h5 (.mapv cK65 cL65) h5), fw (rfl : findKey (.int .i64 12) cK65 cL65 = some (some (.fn (.func F93) [] [.bp (.fn (.func F88) [] []) 0 0, .bp (vI 1) 0 0, .bp (vI 1) 0 0]))), bT, fr r6, bF, fr (r8 h5), tl q9f, fr (r10 h5), bF, bF, bF, bF, bF, bF, bF, bF, bF, bF, bF, bF, bF]) p49 a49 (by kernel_rfl) h0
                          · replace h0 := h0.2 e
                            subst e
                            exact ent_ret (fs := [fo q0, rd q1, fd q2, fr (cl65 h5 : RC PP AA F65 [] h5 (.mapv cK65 cL65) h5), fw (rfl : findKey (.int .i64 12) cK65 cL65 = some (some (.fn (.func F93) [] [.bp (.fn (.func F88) [] []) 0 0, .bp (vI 1) 0 0, .bp (vI 1) 0 0]))), bT, fr r6, bT]) p49 a49 (by kernel_rfl) h0
                        · replace h0 := h0.2 q4k11f
                          rcases Classical.em (n15 = 13) with e | q4k12f
                          · replace h0 := h0.1 e
                            subst e
                            obtain ⟨v, r6, b18, n19, n20, e, h0⟩ := h0
                            subst e
                            rcases bcase b18 with e | e
                            · replace h0 := h0.1 e
                              subst e
                              obtain ⟨v, r8, n21, e, h0⟩ := h0
                              subst e
                              rcases icase ((W (n3 - n19))) n21 with q9f | q9f
                              · replace h0 := h0.1 q9f
                                exact ent_ret (fs := [fo q0, rd q1, fd q2, fr (cl65 h5 : RC PP AA F65 [] h5 (.mapv cK65 cL65) h5), fw (rfl : findKey (.int .i64 13) cK65 cL65 = some (some (.fn (.func F94) [] [.bp (vI 2) 0 0, .bp (vI 1) 0 0]))), bT, fr r6, bF, fr (r8 h5), tt q9f]) p49 a49 (by kernel_rfl) h0
                              · replace h0 := h0.2 q9f
                                obtain ⟨v, r10, n22, l23, e, h0⟩ := h0
                                subst e
                                exact ent_ret (fs := [fo q0, rd q1, fd q2, fr (cl65 h5 : RC PP AA F65 [] h5 (.mapv cK65 cL65) h5), fw (rfl : findKey (.int .i64 13) cK65 cL65 = some (some (.fn (.func F94) [] [.bp (vI 2) 0 0, .bp (vI 1) 0 0]))), bT, fr r6, bF, fr (r8 h5), tl q9f, fr (r10 h5), bF, bF, bF, bF, bF, bF, bF, bF, bF, bF, bF, bF, bF]) p49 a49 (by kernel_rfl) h0
                            · replace h0 := h0.2 e
                              subst e
                              exact ent_ret (fs := [fo q0, rd q1, fd q2, fr (cl65 h5 : RC PP AA F65 [] h5 (.mapv cK65 cL65) h5), fw (rfl : findKey (.int .i64 13) cK65 cL65 = some (some (.fn (.func F94) [] [.bp (vI 2) 0 0, .bp (vI 1) 0 0]))), bT, fr r6, bT]) p49 a49 (by kernel_rfl) h0
                          · replace h0 := h0.2 q4k12f
                            rcases Classical.em (n15 = 14) with e | q4k13f
                            · replace h0 := h0.1 e
                              subst e
                              obtain ⟨v, r6, b18, n19, n20, e, h0⟩ := h0
                              subst e
                              rcases bcase b18 with e | e
                              · replace h0 := h0.1 e
                                subst e
                                obtain ⟨v, r8, n21, e, h0⟩ := h0
                                subst e
                                rcases icase ((W (n3 - n19))) n21 with q9f | q9f
                                · replace h0 := h0.1 q9f
                                  exact ent_ret (fs := [fo q0, rd q1, fd q2, fr (cl65 h5 : RC PP AA F65 [] h5 (.mapv cK65 cL65) h5), fw (rfl : findKey (.int .i64 14) cK65 cL65 = some (some (.fn (.func F94) [] [.bp (vI 2) 0 0, .bp (vI 0) 0 0]))), bT, fr r6, bF, fr (r8 h5), tt q9f]) p49 a49 (by kernel_rfl) h0
                                · replace h0 := h0.2 q9f
                                  obtain ⟨v, r10, n22, l23, e, h0⟩ := h0
                                  subst e
                                  exact ent_ret (fs := [fo q0, rd q1, fd q2, fr (cl65 h5 : RC PP AA F65 [] h5 (.mapv cK65 cL65) h5), fw (rfl : findKey (.int .i64 14) cK65 cL65 = some (some (.fn (.func F94) [] [.bp (vI 2) 0 0, .bp (vI 0) 0 0]))), bT, fr r6, bF, fr (r8 h5), tl q9f, fr (r10 h5), bT, bT]) p49 a49 (by kernel_rfl) h0
                              · replace h0 := h0.2 e
                                subst e
                                exact ent_ret (fs := [fo q0, rd q1, fd q2, fr (cl65 h5 : RC PP AA F65 [] h5 (.mapv cK65 cL65) h5), fw (rfl : findKey (.int .i64 14) cK65 cL65 = some (some (.fn (.func F94) [] [.bp (vI 2) 0 0, .bp (vI 0) 0 0]))), bT, fr r6, bT]) p49 a49 (by kernel_rfl) h0
                            · replace h0 := h0.2 q4k13f
                              rcases Classical.em (n15 = 15) with e | q4k14f
                              · replace h0 := h0.1 e
                                subst e
                                obtain ⟨v, r6, b18, n19, n20, e, h0⟩ := h0
                                subst e
                                rcases bcase b18 with e | e
                                · replace h0 := h0.1 e
                                  subst e
                                  obtain ⟨v, r8, n21, e, h0⟩ := h0
                                  subst e
                                  rcases icase ((W (n3 - n19))) n21 with q9f | q9f
                                  · replace h0 := h0.1 q9f
                                    exact ent_ret (fs := [fo q0, rd q1, fd q2, fr (cl65 h5 : RC PP AA F65 [] h5 (.mapv cK65 cL65) h5), fw (rfl : findKey (.int .i64 15) cK65 cL65 = some (some (.fn (.func F94) [] [.bp (vI 1) 0 0, .bp (vI 0) 0 0]))), bT, fr r6, bF, fr (r8 h5), tt q9f]) p49 a49 (by kernel_rfl) h0
                                  · replace h0 := h0.2 q9f
                                    obtain ⟨v, r10, n22, l23, e, h0⟩ := h0
                                    subst e
                                    exact ent_ret (fs := [fo q0, rd q1, fd q2, fr (cl65 h5 : RC PP AA F65 [] h5 (.mapv cK65 cL65) h5), fw (rfl : findKey (.int .i64 15) cK65 cL65 = some (some (.fn (.func F94) [] [.bp (vI 1) 0 0, .bp (vI 0) 0 0]))), bT, fr r6, bF, fr (r8 h5), tl q9f, fr (r10 h5), bF, bT]) p49 a49 (by kernel_rfl) h0
                                · replace h0 := h0.2 e
                                  subst e
                                  exact ent_ret (fs := [fo q0, rd q1, fd q2, fr (cl65 h5 : RC PP AA F65 [] h5 (.mapv cK65 cL65) h5), fw (rfl : findKey (.int .i64 15) cK65 cL65 = some (some (.fn (.func F94) [] [.bp (vI 1) 0 0, .bp (vI 0) 0 0]))), bT, fr r6, bT]) p49 a49 (by kernel_rfl) h0
                              · replace h0 := h0.2 q4k14f
                                rcases Classical.em (n15 = 17) with e | q4k15f
                                · replace h0 := h0.1 e
                                  subst e
                                  obtain ⟨v, r6, b18, n19, n20, e, h0⟩ := h0
                                  subst e
                                  rcases bcase b18 with e | e
                                  · replace h0 := h0.1 e
                                    subst e
                                    obtain ⟨v, r8, n21, e, h0⟩ := h0
                                    subst e
                                    rcases icase ((W (n3 - n19))) n21 with q9f | q9f
                                    · replace h0 := h0.1 q9f
                                      exact ent_ret (fs := [fo q0, rd q1, fd q2, fr (cl65 h5 : RC PP AA F65 [] h5 (.mapv cK65 cL65) h5), fw (rfl : findKey (.int .i64 17) cK65 cL65 = some (some (.fn (.func F94) [] [.bp (vI 1) 0 0, .bp (vI 0) 0 0]))), bT, fr r6, bF, fr (r8 h5), tt q9f]) p49 a49 (by kernel_rfl) h0
                                    · replace h0 := h0.2 q9f
                                      obtain ⟨v, r10, n22, l23, e, h0⟩ := h0
                                      subst e
                                      exact ent_ret (fs := [fo q0, rd q1, fd q2, fr (cl65 h5 : RC PP AA F65 [] h5 (.mapv cK65 cL65) h5), fw (rfl : findKey (.int .i64 17) cK65 cL65 = some (some (.fn (.func F94) [] [.bp (vI 1) 0 0, .bp (vI 0) 0 0]))), bT, fr r6, bF, fr (r8 h5), tl q9f, fr (r10 h5), bF, bF, bF, bF, bF, bT]) p49 a49 (by kernel_rfl) h0
                                  · replace h0 := h0.2 e
                                    subst e
                                    exact ent_ret (fs := [fo q0, rd q1, fd q2, fr (cl65 h5 : RC PP AA F65 [] h5 (.mapv cK65 cL65) h5), fw (rfl : findKey (.int .i64 17) cK65 cL65 = some (some (.fn (.func F94) [] [.bp (vI 1) 0 0, .bp (vI 0) 0 0]))), bT, fr r6, bT]) p49 a49 (by kernel_rfl) h0
                                · replace h0 := h0.2 q4k15f
                                  rcases Classical.em (n15 = 18) with e | q4k16f
                                  · replace h0 := h0.1 e
                                    subst e
                                    obtain ⟨v, r6, b18, n19, n20, e, h0⟩ := h0
                                    subst e
                                    rcases bcase b18 with e | e
                                    · replace h0 := h0.1 e
                                      subst e
                                      obtain ⟨v, r8, n21, e, h0⟩ := h0
                                      subst e
                                      rcases icase ((W (n3 - n19))) n21 with q9f | q9f
                                      · replace h0 := h0.1 q9f
                                        exact ent_ret (fs := [fo q0, rd q1, fd q2, fr (cl65 h5 : RC PP AA F65 [] h5 (.mapv cK65 cL65) h5), fw (rfl : findKey (.int .i64 18) cK65 cL65 = some (some (.fn (.func F94) [] [.bp (vI 1) 0 0, .bp (vI 0) 0 0]))), bT, fr r6, bF, fr (r8 h5), tt q9f]) p49 a49 (by kernel_rfl) h0
                                      · replace h0 := h0.2 q9f
                                        obtain ⟨v, r10, n22, l23, e, h0⟩ := h0
                                        subst e
                                        exact ent_ret (fs := [fo q0, rd q1, fd q2, fr (cl65 h5 : RC PP AA F65 [] h5 (.mapv cK65 cL65) h5), fw (rfl : findKey (.int .i64 18) cK65 cL65 = some (some (.fn (.func F94) [] [.bp (vI 1) 0 0, .bp (vI 0) 0 0]))), bT, fr r6, bF, fr (r8 h5), tl q9f, fr (r10 h5), bF, bF, bF, bF, bF, bF, bT]) p49 a49 (by kernel_rfl) h0
                                    · replace h0 := h0.2 e
                                      subst e
                                      exact ent_ret (fs := [fo q0, rd q1, fd q2, fr (cl65 h5 : RC PP AA F65 [] h5 (.mapv cK65 cL65) h5), fw (rfl : findKey (.int .i64 18) cK65 cL65 = some (some (.fn (.func F94) [] [.bp (vI 1) 0 0, .bp (vI 0) 0 0]))), bT, fr r6, bT]) p49 a49 (by kernel_rfl) h0
                                  · replace h0 := h0.2 q4k16f
                                    rcases Classical.em (n15 = 19) with e | q4k17f
                                    · replace h0 := h0.1 e
                                      subst e
                                      obtain ⟨v, r6, b18, n19, n20, e, h0⟩ := h0
                                      subst e
                                      rcases bcase b18 with e | e
                                      · replace h0 := h0.1 e
                                        subst e
                                        obtain ⟨v, r8, n21, e, h0⟩ := h0
                                        subst e
                                        rcases icase ((W (n3 - n19))) n21 with q9f | q9f
                                        · replace h0 := h0.1 q9f
                                          exact ent_ret (fs := [fo q0, rd q1, fd q2, fr (cl65 h5 : RC PP AA F65 [] h5 (.mapv cK65 cL65) h5), fw (rfl : findKey (.int .i64 19) cK65 cL65 = some (some (.fn (.func F93) [] [.bp (.fn (.func F89) [] []) 0 0, .bp (vI 2) 0 0, .bp (vI 1) 0 0]))), bT, fr r6, bF, fr (r8 h5), tt q9f]) p49 a49 (by kernel_rfl) h0
                                        · replace h0 := h0.2 q9f
                                          obtain ⟨v, r10, n22, l23, e, h0⟩ := h0
                                          subst e
                                          exact ent_ret (fs := [fo q0, rd q1, fd q2, fr (cl65 h5 : RC PP AA F65 [] h5 (.mapv cK65 cL65) h5), fw (rfl : findKey (.int .i64 19) cK65 cL65 = some (some (.fn (.func F93) [] [.bp (.fn (.func F89) [] []) 0 0, .bp (vI 2) 0 0, .bp (vI 1) 0 0]))), bT, fr r6, bF, fr (r8 h5), tl q9f, fr (r10 h5), bF, bF, bF, bF, bF, bF, bF, bF, bF, bF, bF, bF, bF]) p49 a49 (by kernel_rfl) h0
                                      · replace h0 := h0.2 e
                                        subst e
                                        exact ent_ret (fs := [fo q0, rd q1, fd q2, fr (cl65 h5 : RC PP AA F65 [] h5 (.mapv cK65 cL65) h5), fw (rfl : findKey (.int .i64 19) cK65 cL65 = some (some (.fn (.func F93) [] [.bp (.fn (.func F89) [] []) 0 0, .bp (vI 2) 0 0, .bp (vI 1) 0 0]))), bT, fr r6, bT]) p49 a49 (by kernel_rfl) h0
                                    · replace h0 := h0.2 q4k17f
                                      rcases Classical.em (n15 = 20) with e | q4k18f
                                      · replace h0 := h0.1 e
                                        subst e
                                        obtain ⟨v, r6, b18, n19, n20, e, h0⟩ := h0
                                        subst e
                                        rcases bcase b18 with e | e
                                        · replace h0 := h0.1 e
                                          subst e
                                          obtain ⟨v, r8, n21, e, h0⟩ := h0
                                          subst e
                                          rcases icase ((W (n3 - n19))) n21 with q9f | q9f
                                          · replace h0 := h0.1 q9f
                                            exact ent_ret (fs := [fo q0, rd q1, fd q2, fr (cl65 h5 : RC PP AA F65 [] h5 (.mapv cK65 cL65) h5), fw (rfl : findKey (.int .i64 20) cK65 cL65 = some (some (.fn (.func F94) [] [.bp (vI 2) 0 0, .bp (vI 1) 0 0]))), bT, fr r6, bF, fr (r8 h5), tt q9f]) p49 a49 (by kernel_rfl) h0
                                          · replace h0 := h0.2 q9f
                                            obtain ⟨v, r10, n22, l23, e, h0⟩ := h0
                                            subst e
                                            exact ent_ret (fs := [fo q0, rd q1, fd q2, fr (cl65 h5 : RC PP AA F65 [] h5 (.mapv cK65 cL65) h5), fw (rfl : findKey (.int .i64 20) cK65 cL65 = some (some (.fn (.func F94) [] [.bp (vI 2) 0 0, .bp (vI 1) 0 0]))), bT, fr r6, bF, fr (r8 h5), tl q9f, fr (r10 h5), bF, bF, bF, bF, bF, bF, bF, bF, bF, bF, bF, bF, bF]) p49 a49 (by kernel_rfl) h0
                                        · replace h0 := h0.2 e
                                          subst e
                                          exact ent_ret (fs := [fo q0, rd q1, fd q2, fr (cl65 h5 : RC PP AA F65 [] h5 (.mapv cK65 cL65) h5), fw (rfl : findKey (.int .i64 20) cK65 cL65 = some (some (.fn (.func F94) [] [.bp (vI 2) 0 0, .bp (vI 1) 0 0]))), bT, fr r6, bT]) p49 a49 (by kernel_rfl) h0
                                      · replace h0 := h0.2 q4k18f
                                        rcases Classical.em (n15 = 23) with e | q4k19f
                                        · replace h0 := h0.1 e
                                          subst e
                                          obtain ⟨v, r6, b18, n19, n20, e, h0⟩ := h0
                                          subst e
                                          rcases bcase b18 with e | e
                                          · replace h0 := h0.1 e
                                            subst e
                                            obtain ⟨v, r8, n21, e, h0⟩ := h0
                                            subst e
                                            rcases icase ((W (n3 - n19))) n21 with q9f | q9f
                                            · replace h0 := h0.1 q9f
                                              exact ent_ret (fs := [fo q0, rd q1, fd q2, fr (cl65 h5 : RC PP AA F65 [] h5 (.mapv cK65 cL65) h5), fw (rfl : findKey (.int .i64 23) cK65 cL65 = some (some (.fn (.func F94) [] [.bp (vI 1) 0 0, .bp (vI 0) 0 0]))), bT, fr r6, bF, fr (r8 h5), tt q9f]) p49 a49 (by kernel_rfl) h0
                                            · replace h0 := h0.2 q9f
                                              obtain ⟨v, r10, n22, l23, e, h0⟩ := h0
                                              subst e
                                              exact ent_ret (fs := [fo q0, rd q1, fd q2, fr (cl65 h5 : RC PP AA F65 [] h5 (.mapv cK65 cL65) h5), fw (rfl : findKey (.int .i64 23) cK65 cL65 = some (some (.fn (.func F94) [] [.bp (vI 1) 0 0, .bp (vI 0) 0 0]))), bT, fr r6, bF, fr (r8 h5), tl q9f, fr (r10 h5), bF, bF, bT, bT]) p49 a49 (by kernel_rfl) h0
                                          · replace h0 := h0.2 e
                                            subst e
                                            exact ent_ret (fs := [fo q0, rd q1, fd q2, fr (cl65 h5 : RC PP AA F65 [] h5 (.mapv cK65 cL65) h5), fw (rfl : findKey (.int .i64 23) cK65 cL65 = some (some (.fn (.func F94) [] [.bp (vI 1) 0 0, .bp (vI 0) 0 0]))), bT, fr r6, bT]) p49 a49 (by kernel_rfl) h0
                                        · replace h0 := h0.2 q4k19f
                                          rcases Classical.em (n15 = 24) with e | q4k20f
                                          · replace h0 := h0.1 e
                                            subst e
                                            obtain ⟨v, r6, b18, n19, n20, e, h0⟩ := h0
                                            subst e
                                            rcases bcase b18 with e | e
                                            · replace h0 := h0.1 e
                                              subst e
                                              obtain ⟨v, r8, n21, e, h0⟩ := h0
                                              subst e
                                              rcases icase ((W (n3 - n19))) n21 with q9f | q9f
                                              · replace h0 := h0.1 q9f
                                                exact ent_ret (fs := [fo q0, rd q1, fd q2, fr (cl65 h5 : RC PP AA F65 [] h5 (.mapv cK65 cL65) h5), fw (rfl : findKey (.int .i64 24) cK65 cL65 = some (some (.fn (.func F94) [] [.bp (vI 1) 0 0, .bp (vI 1) 0 0]))), bT, fr r6, bF, fr (r8 h5), tt q9f]) p49 a49 (by kernel_rfl) h0
                                              · replace h0 := h0.2 q9f
                                                obtain ⟨v, r10, n22, l23, e, h0⟩ := h0
                                                subst e
                                                exact ent_ret (fs := [fo q0, rd q1, fd q2, fr (cl65 h5 : RC PP AA F65 [] h5 (.mapv cK65 cL65) h5), fw (rfl : findKey (.int .i64 24) cK65 cL65 = some (some (.fn (.func F94) [] [.bp (vI 1) 0 0, .bp (vI 1) 0 0]))), bT, fr r6, bF, fr (r8 h5), tl q9f, fr (r10 h5), bF, bF, bF, bF, bF, bF, bF, bF, bF, bF, bF, bF, bF]) p49 a49 (by kernel_rfl) h0
                                            · replace h0 := h0.2 e
                                              subst e
                                              exact ent_ret (fs := [fo q0, rd q1, fd q2, fr (cl65 h5 : RC PP AA F65 [] h5 (.mapv cK65 cL65) h5), fw (rfl : findKey (.int .i64 24) cK65 cL65 = some (some (.fn (.func F94) [] [.bp (vI 1) 0 0, .bp (vI 1) 0 0]))), bT, fr r6, bT]) p49 a49 (by kernel_rfl) h0
                                          · replace h0 := h0.2 q4k20f
                                            rcases Classical.em (n15 = 25) with e | q4k21f
                                            · replace h0 := h0.1 e
                                              subst e
                                              obtain ⟨v, r6, b18, n19, n20, e, h0⟩ := h0
                                              subst e
                                              rcases bcase b18 with e | e
                                              · replace h0 := h0.1 e
                                                subst e
                                                obtain ⟨v, r8, n21, e, h0⟩ := h0
                                                subst e
                                                rcases icase ((W (n3 - n19))) n21 with q9f | q9f
                                                · replace h0 := h0.1 q9f
                                                  exact ent_ret (fs := [fo q0, rd q1, fd q2, fr (cl65 h5 : RC PP AA F65 [] h5 (.mapv cK65 cL65) h5), fw (rfl : findKey (.int .i64 25) cK65 cL65 = some (some (.fn (.func F94) [] [.bp (vI 1) 0 0, .bp (vI 1) 0 0]))), bT, fr r6, bF, fr (r8 h5), tt q9f]) p49 a49 (by kernel_rfl) h0
                                                · replace h0 := h0.2 q9f
                                                  obtain ⟨v, r10, n22, l23, e, h0⟩ := h0
                                                  subst e
                                                  exact ent_ret (fs := [fo q0, rd q1, fd q2, fr (cl65 h5 : RC PP AA F65 [] h5 (.mapv cK65 cL65) h5), fw (rfl : findKey (.int .i64 25) cK65 cL65 = some (some (.fn (.func F94) [] [.bp (vI 1) 0 0, .bp (vI 1) 0 0]))), bT, fr r6, bF, fr (r8 h5), tl q9f, fr (r10 h5), bF, bF, bF, bF, bF, bF, bF, bF, bF, bF, bF, bF, bF]) p49 a49 (by kernel_rfl) h0
                                              · replace h0 := h0.2 e
                                                subst e
                                                exact ent_ret (fs := [fo q0, rd q1, fd q2, fr (cl65 h5 : RC PP AA F65 [] h5 (.mapv cK65 cL65) h5), fw (rfl : findKey (.int .i64 25) cK65 cL65 = some (some (.fn (.func F94) [] [.bp (vI 1) 0 0, .bp (vI 1) 0 0]))), bT, fr r6, bT]) p49 a49 (by kernel_rfl) h0
                                            · replace h0 := h0.2 q4k21f
                                              rcases Classical.em (n15 = 31) with e | q4k22f
                                              · replace h0 := h0.1 e
                                                subst e
                                                obtain ⟨v, r6, b18, n19, n20, e, h0⟩ := h0
                                                subst e
                                                rcases bcase b18 with e | e
                                                · replace h0 := h0.1 e
                                                  subst e
                                                  obtain ⟨v, r8, n21, e, h0⟩ := h0
                                                  subst e
                                                  rcases icase ((W (n3 - n19))) n21 with q9f | q9f
                                                  · replace h0 := h0.1 q9f
                                                    exact ent_ret (fs := [fo q0, rd q1, fd q2, fr (cl65 h5 : RC PP AA F65 [] h5 (.mapv cK65 cL65) h5), fw (rfl : findKey (.int .i64 31) cK65 cL65 = some (some (.fn (.func F94) [] [.bp (vI 1) 0 0, .bp (vI 1) 0 0]))), bT, fr r6, bF, fr (r8 h5), tt q9f]) p49 a49 (by kernel_rfl) h0
                                                  · replace h0 := h0.2 q9f
                                                    obtain ⟨v, r10, n22, l23, e, h0⟩ := h0
                                                    subst e
                                                    exact ent_ret (fs := [fo q0, rd q1, fd q2, fr (cl65 h5 : RC PP AA F65 [] h5 (.mapv cK65 cL65) h5), fw (rfl : findKey (.int .i64 31) cK65 cL65 = some (some (.fn (.func F94) [] [.bp (vI 1) 0 0, .bp (vI 1) 0 0]))), bT, fr r6, bF, fr (r8 h5), tl q9f, fr (r10 h5), bF, bF, bF, bF, bF, bF, bF, bF, bF, bF, bF, bF, bF]) p49 a49 (by kernel_rfl) h0
                                                · replace h0 := h0.2 e
                                                  subst e
                                                  exact ent_ret (fs := [fo q0, rd q1, fd q2, fr (cl65 h5 : RC PP AA F65 [] h5 (.mapv cK65 cL65) h5), fw (rfl : findKey (.int .i64 31) cK65 cL65 = some (some (.fn (.func F94) [] [.bp (vI 1) 0 0, .bp (vI 1) 0 0]))), bT, fr r6, bT]) p49 a49 (by kernel_rfl) h0
                                              · replace h0 := h0.2 q4k22f
                                                rcases Classical.em (n15 = 32) with e | q4k23f
                                                · replace h0 := h0.1 e
                                                  subst e
                                                  obtain ⟨v, r6, b18, n19, n20, e, h0⟩ := h0
                                                  subst e
                                                  rcases bcase b18 with e | e
                                                  · replace h0 := h0.1 e
                                                    subst e
                                                    obtain ⟨v, r8, n21, e, h0⟩ := h0
                                                    subst e
                                                    rcases icase ((W (n3 - n19))) n21 with q9f | q9f
                                                    · replace h0 := h0.1 q9f
                                                      exact ent_ret (fs := [fo q0, rd q1, fd q2, fr (cl65 h5 : RC PP AA F65 [] h5 (.mapv cK65 cL65) h5), fw (rfl : findKey (.int .i64 32) cK65 cL65 = some (some (.fn (.func F94) [] [.bp (vI 1) 0 0, .bp (vI 1) 0 0]))), bT, fr r6, bF, fr (r8 h5), tt q9f]) p49 a49 (by kernel_rfl) h0
                                                    · replace h0 := h0.2 q9f
                                                      obtain ⟨v, r10, n22, l23, e, h0⟩ := h0
                                                      subst e
                                                      exact ent_ret (fs := [fo q0, rd q1, fd q2, fr (cl65 h5 : RC PP AA F65 [] h5 (.mapv cK65 cL65) h5), fw (rfl : findKey (.int .i64 32) cK65 cL65 = some (some (.fn (.func F94) [] [.bp (vI 1) 0 0, .bp (vI 1) 0 0]))), bT, fr r6, bF, fr (r8 h5), tl q9f, fr (r10 h5), bF, bF, bF, bF, bF, bF, bF, bF, bF, bF, bF, bF, bF]) p49 a49 (by kernel_rfl) h0
                                                  · replace h0 := h0.2 e
                                                    subst e
                                                    exact ent_ret (fs := [fo q0, rd q1, fd q2, fr (cl65 h5 : RC PP AA F65 [] h5 (.mapv cK65 cL65) h5), fw (rfl : findKey (.int .i64 32) cK65 cL65 = some (some (.fn (.func F94) [] [.bp (vI 1) 0 0, .bp (vI 1) 0 0]))), bT, fr r6, bT]) p49 a49 (by kernel_rfl) h0
                                                · replace h0 := h0.2 q4k23f
                                                  rcases Classical.em (n15 = 33) with e | q4k24f
                                                  · replace h0 := h0.1 e
                                                    subst e
                                                    obtain ⟨v, r6, b18, n19, n20, e, h0⟩ := h0
                                                    subst e
                                                    rcases bcase b18 with e | e
                                                    · replace h0 := h0.1 e
                                                      subst e
                                                      obtain ⟨v, r8, n21, e, h0⟩ := h0
                                                      subst e
                                                      rcases icase ((W (n3 - n19))) n21 with q9f | q9f
                                                      · replace h0 := h0.1 q9f
                                                        exact ent_ret (fs := [fo q0, rd q1, fd q2, fr (cl65 h5 : RC PP AA F65 [] h5 (.mapv cK65 cL65) h5), fw (rfl : findKey (.int .i64 33) cK65 cL65 = some (some (.fn (.func F94) [] [.bp (vI 2) 0 0, .bp (vI 1) 0 0]))), bT, fr r6, bF, fr (r8 h5), tt q9f]) p49 a49 (by kernel_rfl) h0
                                                      · replace h0 := h0.2 q9f
                                                        obtain ⟨v, r10, n22, l23, e, h0⟩ := h0
                                                        subst e
                                                        exact ent_ret (fs := [fo q0, rd q1, fd q2, fr (cl65 h5 : RC PP AA F65 [] h5 (.mapv cK65 cL65) h5), fw (rfl : findKey (.int .i64 33) cK65 cL65 = some (some (.fn (.func F94) [] [.bp (vI 2) 0 0, .bp (vI 1) 0 0]))), bT, fr r6, bF, fr (r8 h5), tl q9f, fr (r10 h5), bF, bF, bF, bF, bF, bF, bF, bF, bF, bF, bF, bF, bF]) p49 a49 (by kernel_rfl) h0
                                                    · replace h0 := h0.2 e
                                                      subst e
                                                      exact ent_ret (fs := [fo q0, rd q1, fd q2, fr (cl65 h5 : RC PP AA F65 [] h5 (.mapv cK65 cL65) h5), fw (rfl : findKey (.int .i64 33) cK65 cL65 = some (some (.fn (.func F94) [] [.bp (vI 2) 0 0, .bp (vI 1) 0 0]))), bT, fr r6, bT]) p49 a49 (by kernel_rfl) h0
                                                  · replace h0 := h0.2 q4k24f
                                                    obtain ⟨q4, h0⟩ := h0
                                                    obtain ⟨v, r6, n18, e, h0⟩ := h0
                                                    subst e
                                                    rcases icase ((W (n3 - 0))) n18 with q7f | q7f
                                                    · replace h0 := h0.1 q7f
                                                      exact ent_ret (fs := [fo q0, rd q1, fd q2, fr (cl65 h5 : RC PP AA F65 [] h5 (.mapv cK65 cL65) h5), fw q4, bF, fr (r6 h5), tt q7f]) p49 a49 (by kernel_rfl) h0
                                                    · replace h0 := h0.2 q7f
                                                      obtain ⟨v, r8, n19, l20, e, h0⟩ := h0
                                                      subst e
                                                      rcases Classical.em (n15 = 30) with e | q12f
                                                      · replace h0 := h0.1 e
                                                        subst e
                                                        exact ent_ret (fs := [fo q0, rd q1, fd q2, fr (cl65 h5 : RC PP AA F65 [] h5 (.mapv cK65 cL65) h5), fw (rfl : findKey (.int .i64 30) cK65 cL65 = some none), bF, fr (r6 h5), tl q7f, fr (r8 h5), bF, bF, bF, bT]) p49 a49 (by kernel_rfl) h0
                                                      · replace h0 := h0.2 q12f
                                                        rcases Classical.em (n15 = 16) with e | q13f
                                                        · replace h0 := h0.1 e
                                                          subst e
                                                          exact ent_ret (fs := [fo q0, rd q1, fd q2, fr (cl65 h5 : RC PP AA F65 [] h5 (.mapv cK65 cL65) h5), fw (rfl : findKey (.int .i64 16) cK65 cL65 = some none), bF, fr (r6 h5), tl q7f, fr (r8 h5), bF, bF, bF, bF, bT]) p49 a49 (by kernel_rfl) h0
                                                        · replace h0 := h0.2 q13f
                                                          rcases Classical.em (n15 = 21) with e | q16f
                                                          · replace h0 := h0.1 e
                                                            subst e
                                                            obtain ⟨v, r17, n21, l22, e, h0⟩ := h0
                                                            subst e
                                                            obtain ⟨v, r18, n23, l24, e, h0⟩ := h0
                                                            subst e
                                                            exact ent_ret (fs := [fo q0, rd q1, fd q2, fr (cl65 h5 : RC PP AA F65 [] h5 (.mapv cK65 cL65) h5), fw (rfl : findKey (.int .i64 21) cK65 cL65 = some none), bF, fr (r6 h5), tl q7f, fr (r8 h5), bF, bF, bF, bF, bF, bF, bF, bT, fr (r17 h5), fr (r18 h5)]) p49 a49 (by kernel_rfl) h0
                                                          · replace h0 := h0.2 q16f
                                                            rcases Classical.em (n15 = 28) with e | q17f
                                                            · replace h0 := h0.1 e
                                                              subst e
                                                              obtain ⟨v, r18, n21, l22, e, h0⟩ := h0
                                                              subst e
                                                              exact ent_ret (fs := [fo q0, rd q1, fd q2, fr (cl65 h5 : RC PP AA F65 [] h5 (.mapv cK65 cL65) h5), fw (rfl : findKey (.int .i64 28) cK65 cL65 = some none), bF, fr (r6 h5), tl q7f, fr (r8 h5), bF, bF, bF, bF, bF, bF, bF, bF, bT, fr (r18 h5)]) p49 a49 (by kernel_rfl) h0
                                                            · replace h0 := h0.2 q17f
                                                              rcases Classical.em (n15 = 26) with e | q18f
                                                              · replace h0 := h0.1 e
                                                                subst e
                                                                obtain ⟨v, r19, n21, l22, e, h0⟩ := h0
                                                                subst e
                                                                obtain ⟨v, r20, b23, e, h0⟩ := h0
                                                                subst e
                                                                exact ent_ret (fs := [fo q0, rd q1, fd q2, fr (cl65 h5 : RC PP AA F65 [] h5 (.mapv cK65 cL65) h5), fw (rfl : findKey (.int .i64 26) cK65 cL65 = some none), bF, fr (r6 h5), tl q7f, fr (r8 h5), bF, bF, bF, bF, bF, bF, bF, bF, bF, bT, fr (r19 h5), fr (r20 h5)]) p49 a49 (by kernel_rfl) h0
                                                              · replace h0 := h0.2 q18f
                                                                rcases Classical.em (n15 = 22) with e | q19f
                                                                · replace h0 := h0.1 e
                                                                  subst e
                                                                  obtain ⟨v, r22, n21, l22, b23, e, h0⟩ := h0
                                                                  subst e
                                                                  exact ent_ret (fs := [fo q0, rd q1, fd q2, fr (cl65 h5 : RC PP AA F65 [] h5 (.mapv cK65 cL65) h5), fw (rfl : findKey (.int .i64 22) cK65 cL65 = some none), bF, fr (r6 h5), tl q7f, fr (r8 h5), bF, bF, bF, bF, bF, bF, bF, bF, bF, bF, bT, bT, fw (rfl : findKey (.int .i64 22) ([.int .i64 22, .int .i64 27, .int .i64 29]) ([vI 21, vI 26, vI 28]) = some (some (vI 21))), fr (r22 h5)]) p49 a49 (by kernel_rfl) h0
                                                                · replace h0 := h0.2 q19f
                                                                  rcases Classical.em (n15 = 27) with e | q20f
                                                                  · replace h0 := h0.1 e
                                                                    subst e
                                                                    obtain ⟨v, r23, n21, l22, b23, e, h0⟩ := h0
                                                                    subst e
                                                                    exact ent_ret (fs := [fo q0, rd q1, fd q2, fr (cl65 h5 : RC PP AA F65 [] h5 (.mapv cK65 cL65) h5), fw (rfl : findKey (.int .i64 27) cK65 cL65 = some none), bF, fr (r6 h5), tl q7f, fr (r8 h5), bF, bF, bF, bF, bF, bF, bF, bF, bF, bF, bF, bT, bT, fw (rfl : findKey (.int .i64 27) ([.int .i64 22, .int .i64 27, .int .i64 29]) ([vI 21, vI 26, vI 28]) = some (some (vI 26))), fr (r23 h5)]) p49 a49 (by kernel_rfl) h0
                                                                  · replace h0 := h0.2 q20f
                                                                    rcases Classical.em (n15 = 29) with e | q21f
                                                                    · replace h0 := h0.1 e
                                                                      subst e
                                                                      obtain ⟨v, r23, n21, l22, b23, e, h0⟩ := h0
                                                                      subst e
                                                                      exact ent_ret (fs := [fo q0, rd q1, fd q2, fr (cl65 h5 : RC PP AA F65 [] h5 (.mapv cK65 cL65) h5), fw (rfl : findKey (.int .i64 29) cK65 cL65 = some none), bF, fr (r6 h5), tl q7f, fr (r8 h5), bF, bF, bF, bF, bF, bF, bF, bF, bF, bF, bF, bF, bT, fw (rfl : findKey (.int .i64 29) ([.int .i64 22, .int .i64 27, .int .i64 29]) ([vI 21, vI 26, vI 28]) = some (some (vI 28))), fr (r23 h5)]) p49 a49 (by kernel_rfl) h0
                                                                    · replace h0 := h0.2 q21f
                                                                      exact ent_ret (fs := [fo q0, rd q1, fd q2, fr (cl65 h5 : RC PP AA F65 [] h5 (.mapv cK65 cL65) h5), fw q4, bF, fr (r6 h5), tl q7f, fr (r8 h5), bf (beq_eq_false_iff_ne.mpr q4k13f), bf (beq_eq_false_iff_ne.mpr q4k14f), bf (beq_eq_false_iff_ne.mpr q4k19f), bf (beq_eq_false_iff_ne.mpr q12f), bf (beq_eq_false_iff_ne.mpr q13f), bf (beq_eq_false_iff_ne.mpr q4k15f), bf (beq_eq_false_iff_ne.mpr q4k16f), bf (beq_eq_false_iff_ne.mpr q16f), bf (beq_eq_false_iff_ne.mpr q17f), bf (beq_eq_false_iff_ne.mpr q18f), bf (beq_eq_false_iff_ne.mpr q19f), bf (beq_eq_false_iff_ne.mpr q20f), bf (beq_eq_false_iff_ne.mpr q21f)]) p49 a49 (by kernel_rfl) h0

end Am
