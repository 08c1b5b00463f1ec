/- GenMany: the law's function returns true for every input, and what came in reads as before; without conditions. This text: part 5 of 6 of the proof. -/
import Derived.Test.YthcndflaijcghaaGreatX4

/- Rules, printed by sym.py. -/
namespace Am
open Go Go.Proofs
set_option maxRecDepth 100000
/- selvage/verify.same -/
noncomputable abbrev PF50 := Tryz.f61

theorem p50 : AA.prim F50 = none := by kernel_rfl
theorem a50 : AA.alone F50 = true := by kernel_rfl

theorem w50 {n1 : Int} {l2 : List D} {n3 : Int} {l4 : List D} {Q : V → Prop}
    (h0 : ((n1 = n3 → (Wa PP AA F72 [.d (.slice 2 l2), .d (.slice 2 l4)] fun v => ∃ (b5 : Bool), v = vBool b5 ∧ Q (vBool b5))) ∧ (n1 ≠ n3 → Q (vBool false)))) :
    Wa PP AA F50 [.s 2 (.agg [dI n1, .slice 2 l2]), .s 2 (.agg [dI n3, .slice 2 l4])] Q := by
  rcases Classical.em ((n1 : Int) = n3) with q0f | q0f
  · replace h0 := h0.1 q0f
    obtain ⟨v, r5, b5, e, h0⟩ := h0
    subst e
    exact ent_retA (fs := [bt (beq_iff_eq.mpr q0f), bt (beq_iff_eq.mpr q0f), bt (beq_iff_eq.mpr q0f), bt (beq_iff_eq.mpr q0f), bt (beq_iff_eq.mpr q0f), fr (r5 Heap.none), bt (beq_iff_eq.mpr q0f)]) (h' := Heap.none) p50 a50 (by kernel_rfl) (by kernel_rfl) (by kernel_rfl) h0
  · replace h0 := h0.2 q0f
    exact ent_retA (fs := [bf (beq_eq_false_iff_ne.mpr q0f), bf (beq_eq_false_iff_ne.mpr q0f), bf (beq_eq_false_iff_ne.mpr q0f), bf (beq_eq_false_iff_ne.mpr q0f), bf (beq_eq_false_iff_ne.mpr q0f), bf (beq_eq_false_iff_ne.mpr q0f)]) (h' := Heap.none) p50 a50 (by kernel_rfl) (by kernel_rfl) (by kernel_rfl) h0

/- selvage/selvageref13.Uses -/
noncomputable abbrev PF51 := Tryz.f85

noncomputable def f51_K1 : List It := [.lp (cdAt (codeOf PF51) [1, 1, 1, 1, 0, 1, 0, 0]), .blk 0, .c (cdAt (codeOf PF51) [1, 1, 1, 1, 1])]

noncomputable def f51_S1 (p1_1 : Int) (p1_2 : Int) : St :=
  { nt := 39, tm := [(0, vI p1_1), (3, .d (.slice 0 ([dI 10, dI 11, dI 18]))), (4, .d (.slice 0 ([dI 5, dI 9, dI 13, dI 14, dI 15, dI 20, dI 22, dI 23, dI 24, dI 25, dI 26, dI 27, dI 29, dI 30, dI 31, dI 32, dI 33]))), (5, vI p1_2)], lo := [], hp := Heap.none }

noncomputable def f51_K2 : List It := [.lp (cdAt (codeOf PF51) [1, 1, 1, 1, 1, 0, 1, 0, 0]), .blk 2, .c (cdAt (codeOf PF51) [1, 1, 1, 1, 1, 1])]

noncomputable def f51_S2 (p2_1 : Int) (p2_2 : Int) : St :=
  { nt := 39, tm := [(0, vI p2_1), (4, .d (.slice 0 ([dI 5, dI 9, dI 13, dI 14, dI 15, dI 20, dI 22, dI 23, dI 24, dI 25, dI 26, dI 27, dI 29, dI 30, dI 31, dI 32, dI 33]))), (6, vI p2_2)], lo := [], hp := Heap.none }

theorem p51 : AA.prim F51 = none := by kernel_rfl
theorem a51 : AA.alone F51 = true := by kernel_rfl

theorem w51 {n1 : Int} {Q : V → Prop}
    (h0 : ((n1 < 1 → Q (vI (-1))) ∧ ((1 : Int) ≤ n1 → (((33 : Int) < n1 → Q (vI (-1))) ∧ (n1 ≤ 33 → Wl PP AA F51 f51_K1 (f51_S1 n1 0) (QAl Q)))))) :
    Wa PP AA F51 [vI n1] Q := by
  rcases icase n1 1 with q0f | q0f
  · replace h0 := h0.1 q0f
    exact ent_retA (fs := [tt q0f, tt q0f, tt q0f, bT]) (h' := Heap.none) p51 a51 (by kernel_rfl) (by kernel_rfl) (by kernel_rfl) h0
  · replace h0 := h0.2 q0f
    rcases icase 33 n1 with q3f | q3f
    · replace h0 := h0.1 q3f
      exact ent_retA (fs := [tl q0f, tl q0f, tl q0f, tt q3f]) (h' := Heap.none) p51 a51 (by kernel_rfl) (by kernel_rfl) (by kernel_rfl) h0
    · replace h0 := h0.2 q3f
      exact ent_atA (fs := [tl q0f, tl q0f, tl q0f, tl q3f]) p51 a51 (by kernel_rfl) (by kernel_rfl) h0

theorem w51_1 {p1_1 : Int} {p1_2 : Int} {Q : V → Prop}
    (h0 : ((p1_2 < 3 → ((0 : Int) ≤ p1_2 ∧ (∃ (nr11 : Int), (([dI 10, dI 11, dI 18] : List D))[(Int.toNat p1_2)]? = some (dI nr11) ∧ ((nr11 = p1_1 → Q (vI 2)) ∧ (nr11 ≠ p1_1 → Wl PP AA F51 f51_K1 (f51_S1 p1_1 ((W (p1_2 + 1)))) (QAl Q)))))) ∧ ((3 : Int) ≤ p1_2 → Wl PP AA F51 f51_K2 (f51_S2 p1_1 0) (QAl Q)))) :
    Wl PP AA F51 f51_K1 (f51_S1 p1_1 p1_2) (QAl Q) := by
  rcases icase p1_2 3 with q0f | q0f
  · replace h0 := h0.1 q0f
    obtain ⟨q1, h0⟩ := h0
    obtain ⟨nr11, q2, h0⟩ := h0
    rcases Classical.em ((nr11 : Int) = p1_1) with q3f | q3f
    · replace h0 := h0.1 q3f
      exact lp_ret (fs := [tt q0f, rd q1, fd q2, bt (beq_iff_eq.mpr q3f)]) (h' := Heap.none) (by kernel_rfl) ⟨by kernel_rfl, h0⟩
    · replace h0 := h0.2 q3f
      exact lp_at (fs := [tt q0f, rd q1, fd q2, bf (beq_eq_false_iff_ne.mpr q3f)]) (by kernel_rfl) h0
  · replace h0 := h0.2 q0f
    exact lp_at (fs := [tl q0f]) (by kernel_rfl) h0

theorem w51_2 {p2_1 : Int} {p2_2 : Int} {Q : V → Prop}
    (h0 : ((p2_2 < 17 → ((0 : Int) ≤ p2_2 ∧ (∃ (nr21 : Int), (([dI 5, dI 9, dI 13, dI 14, dI 15, dI 20, dI 22, dI 23, dI 24, dI 25, dI 26, dI 27, dI 29, dI 30, dI 31, dI 32, dI 33] : List D))[(Int.toNat p2_2)]? = some (dI nr21) ∧ ((nr21 = p2_1 → Q (vI 0)) ∧ (nr21 ≠ p2_1 → Wl PP AA F51 f51_K2 (f51_S2 p2_1 ((W (p2_2 + 1)))) (QAl Q)))))) ∧ ((17 : Int) ≤ p2_2 → Q (vI 1)))) :
    Wl PP AA F51 f51_K2 (f51_S2 p2_1 p2_2) (QAl Q) := by
  rcases icase p2_2 17 with q0f | q0f
  · replace h0 := h0.1 q0f
    obtain ⟨q1, h0⟩ := h0
    obtain ⟨nr21, q2, h0⟩ := h0
    rcases Classical.em ((nr21 : Int) = p2_1) with q3f | q3f
    · replace h0 := h0.1 q3f
      exact lp_ret (fs := [tt q0f, rd q1, fd q2, bt (beq_iff_eq.mpr q3f)]) (h' := Heap.none) (by kernel_rfl) ⟨by kernel_rfl, h0⟩
    · replace h0 := h0.2 q3f
      exact lp_at (fs := [tt q0f, rd q1, fd q2, bf (beq_eq_false_iff_ne.mpr q3f)]) (by kernel_rfl) h0
  · replace h0 := h0.2 q0f
    exact lp_ret (fs := [tl q0f]) (h' := Heap.none) (by kernel_rfl) ⟨by kernel_rfl, h0⟩

/- selvage/selvageref14.Effect -/
noncomputable abbrev PF52 := Tryz.f86

theorem p52 : AA.prim F52 = none := by kernel_rfl
theorem a52 : AA.alone F52 = true := by kernel_rfl

theorem w52 {l1 : List D} {l2 : List D} {l3 : List D} {n4 : Int} {n5 : Int} {n6 : Int} {n7 : Int} {n8 : Int} {Q : V → Prop}
    (h0 : ((0 : Int) ≤ n5 ∧ (∃ (n9 : Int) (n10 : Int) (n11 : Int) (l12 : List D), l1[(Int.toNat n5)]? = some (.agg [dI n9, dI n10, dI n11, .slice 3 l12]) ∧ ((n6 = 1 → Q (.tuple [vBool (decide (n7 < ((l2.length : Nat) : Int))), vI 0, vI 1])) ∧ (n6 ≠ 1 → ((n6 = 2 → Q (.tuple [vBool (decide (n7 < ((l3.length : Nat) : Int))), vI 0, vI 1])) ∧ (n6 ≠ 2 → ((n6 = 3 → Q (.tuple [vBool (decide (n7 < n10)), vI 0, vI 1])) ∧ (n6 ≠ 3 → ((n6 = 4 → Q (.tuple [vBool (decide (n7 < n9)), vI 0, vI 1])) ∧ (n6 ≠ 4 → ((n6 = 5 → Q (.tuple [vBool ((n5 : Int) != 0), vI 0, vI 1])) ∧ (n6 ≠ 5 → ((n6 = 6 → Q (.tuple [vBool (decide (n7 < n4)), vI 0, vI 1])) ∧ (n6 ≠ 6 → ((n6 = 7 → Q (.tuple [vBool (decide (n7 < n10)), vI 1, vI 0])) ∧ (n6 ≠ 7 → ((n6 = 8 → Q (.tuple [vBool (decide (n7 < n4)), vI 1, vI 0])) ∧ (n6 ≠ 8 → ((n6 = 9 → Q (.tuple [vBool true, vI 1, vI 0])) ∧ (n6 ≠ 9 → ((n6 = 15 → Q (.tuple [vBool true, vI 1, vI 0])) ∧ (n6 ≠ 15 → ((n6 = 23 → Q (.tuple [vBool true, vI 1, vI 0])) ∧ (n6 ≠ 23 → ((n6 = 17 → Q (.tuple [vBool true, vI 1, vI 0])) ∧ (n6 ≠ 17 → ((n6 = 18 → Q (.tuple [vBool true, vI 1, vI 0])) ∧ (n6 ≠ 18 → ((n6 = 10 → (((199 : Int) < n7 → Q (.tuple [vBool false, vI n8, vI 1])) ∧ (n7 ≤ 199 → ((n8 < 1 → Q (.tuple [vBool false, vI n8, vI 1])) ∧ ((1 : Int) ≤ n8 → Q (.tuple [vBool (decide (n8 ≤ 4)), vI n8, vI 1])))))) ∧ (n6 ≠ 10 → ((n6 = 11 → ((n7 < 1 → Q (.tuple [vBool false, vI n8, vI 1])) ∧ ((1 : Int) ≤ n7 → ((n7 < ((l1.length : Nat) : Int) → (∃ (n13 : Int) (n14 : Int) (n15 : Int) (l16 : List D), l1[(Int.toNat n7)]? = some (.agg [dI n13, dI n14, dI n15, .slice 3 l16]) ∧ Q (.tuple [vBool ((n13 : Int) == n8), vI n8, vI 1]))) ∧ (((l1.length : Nat) : Int) ≤ n7 → Q (.tuple [vBool false, vI n8, vI 1])))))) ∧ (n6 ≠ 11 → ((n6 = 12 → Q (.tuple [vBool (decide (n7 < 4)), vI 1, vI 1])) ∧ (n6 ≠ 12 → ((n6 = 13 → Q (.tuple [vBool true, vI 2, vI 1])) ∧ (n6 ≠ 13 → ((n6 = 20 → Q (.tuple [vBool true, vI 2, vI 1])) ∧ (n6 ≠ 20 → ((n6 = 33 → Q (.tuple [vBool true, vI 2, vI 1])) ∧ (n6 ≠ 33 → ((n6 = 19 → Q (.tuple [vBool (decide (n7 < 7)), vI 2, vI 1])) ∧ (n6 ≠ 19 → ((n6 = 14 → Q (.tuple [vBool true, vI 2, vI 0])) ∧ (n6 ≠ 14 → ((n6 = 24 → Q (.tuple [vBool true, vI 1, vI 1])) ∧ (n6 ≠ 24 → ((n6 = 25 → Q (.tuple [vBool true, vI 1, vI 1])) ∧ (n6 ≠ 25 → ((n6 = 31 → Q (.tuple [vBool true, vI 1, vI 1])) ∧ (n6 ≠ 31 → ((n6 = 32 → Q (.tuple [vBool true, vI 1, vI 1])) ∧ (n6 ≠ 32 → Q (.tuple [vBool true, vI 0, vI 0])))))))))))))))))))))))))))))))))))))))))))))))))))))) :
    Wa PP AA F52 [.s 4 (.agg [.slice 4 l1, .slice 0 l2, .slice 0 l3, dI n4]), vI n5, .s 3 (.agg [dI n6, dI n7, dI n8])] Q := by
  obtain ⟨q0, h0⟩ := h0
  obtain ⟨n9, n10, n11, l12, q1, h0⟩ := h0
  rcases Classical.em (n6 = 1) with e | q2f
  · replace h0 := h0.1 e
    subst e
    exact ent_retA (fs := [rd q0, fd q1, bT]) (h' := Heap.none) p52 a52 (by kernel_rfl) (by kernel_rfl) (by kernel_rfl) h0
  · replace h0 := h0.2 q2f
    rcases Classical.em (n6 = 2) with e | q3f
    · replace h0 := h0.1 e
      subst e
      exact ent_retA (fs := [rd q0, fd q1, bF, bT]) (h' := Heap.none) p52 a52 (by kernel_rfl) (by kernel_rfl) (by kernel_rfl) h0
    · replace h0 := h0.2 q3f
      rcases Classical.em (n6 = 3) with e | q4f
      · replace h0 := h0.1 e
        subst e
        exact ent_retA (fs := [rd q0, fd q1, bF, bF, bT]) (h' := Heap.none) p52 a52 (by kernel_rfl) (by kernel_rfl) (by kernel_rfl) h0
      · replace h0 := h0.2 q4f
        rcases Classical.em (n6 = 4) with e | q5f
        · replace h0 := h0.1 e
          subst e
          exact ent_retA (fs := [rd q0, fd q1, bF, bF, bF, bT]) (h' := Heap.none) p52 a52 (by kernel_rfl) (by kernel_rfl) (by kernel_rfl) h0
        · replace h0 := h0.2 q5f
          rcases Classical.em (n6 = 5) with e | q6f
          · replace h0 := h0.1 e
            subst e
            exact ent_retA (fs := [rd q0, fd q1, bF, bF, bF, bF, bT]) (h' := Heap.none) p52 a52 (by kernel_rfl) (by kernel_rfl) (by kernel_rfl) h0
          · replace h0 := h0.2 q6f
            rcases Classical.em (n6 = 6) with e | q7f
            · replace h0 := h0.1 e
              subst e
              exact ent_retA (fs := [rd q0, fd q1, bF, bF, bF, bF, bF, bT]) (h' := Heap.none) p52 a52 (by kernel_rfl) (by kernel_rfl) (by kernel_rfl) h0
            · replace h0 := h0.2 q7f
              rcases Classical.em (n6 = 7) with e | q8f
              · replace h0 := h0.1 e
                subst e
                exact ent_retA (fs := [rd q0, fd q1, bF, bF, bF, bF, bF, bF, bT]) (h' := Heap.none) p52 a52 (by kernel_rfl) (by kernel_rfl) (by kernel_rfl) h0
              · replace h0 := h0.2 q8f
                rcases Classical.em (n6 = 8) with e | q9f
                · replace h0 := h0.1 e
                  subst e
                  exact ent_retA (fs := [rd q0, fd q1, bF, bF, bF, bF, bF, bF, bF, bT]) (h' := Heap.none) p52 a52 (by kernel_rfl) (by kernel_rfl) (by kernel_rfl) h0
                · replace h0 := h0.2 q9f
                  rcases Classical.em (n6 = 9) with e | q10f
                  · replace h0 := h0.1 e
                    subst e
                    exact ent_retA (fs := [rd q0, fd q1, bF, bF, bF, bF, bF, bF, bF, bF, bT, bT]) (h' := Heap.none) p52 a52 (by kernel_rfl) (by kernel_rfl) (by kernel_rfl) h0
                  · replace h0 := h0.2 q10f
                    rcases Classical.em (n6 = 15) with e | q11f
                    · replace h0 := h0.1 e
                      subst e
                      exact ent_retA (fs := [rd q0, fd q1, bF, bF, bF, bF, bF, bF, bF, bF, bF, bT, bT]) (h' := Heap.none) p52 a52 (by kernel_rfl) (by kernel_rfl) (by kernel_rfl) h0
                    · replace h0 := h0.2 q11f
                      rcases Classical.em (n6 = 23) with e | q12f
                      · replace h0 := h0.1 e
                        subst e
                        exact ent_retA (fs := [rd q0, fd q1, bF, bF, bF, bF, bF, bF, bF, bF, bF, bF, bT, bT]) (h' := Heap.none) p52 a52 (by kernel_rfl) (by kernel_rfl) (by kernel_rfl) h0
                      · replace h0 := h0.2 q12f
                        rcases Classical.em (n6 = 17) with e | q13f
                        · replace h0 := h0.1 e
                          subst e
                          exact ent_retA (fs := [rd q0, fd q1, bF, bF, bF, bF, bF, bF, bF, bF, bF, bF, bF, bT, bT]) (h' := Heap.none) p52 a52 (by kernel_rfl) (by kernel_rfl) (by kernel_rfl) h0
                        · replace h0 := h0.2 q13f
                          rcases Classical.em (n6 = 18) with e | q14f
                          · replace h0 := h0.1 e
                            subst e
                            exact ent_retA (fs := [rd q0, fd q1, bF, bF, bF, bF, bF, bF, bF, bF, bF, bF, bF, bF, bT]) (h' := Heap.none) p52 a52 (by kernel_rfl) (by kernel_rfl) (by kernel_rfl) h0
                          · replace h0 := h0.2 q14f
                            rcases Classical.em (n6 = 10) with e | q15f
                            · replace h0 := h0.1 e
                              subst e
                              rcases icase 199 n7 with q16f | q16f
                              · replace h0 := h0.1 q16f
                                exact ent_retA (fs := [rd q0, fd q1, bF, bF, bF, bF, bF, bF, bF, bF, bF, bF, bF, bF, bF, bT, tg q16f, tg q16f, tg q16f, tg q16f, bF, bF, bF, bF]) (h' := Heap.none) p52 a52 (by kernel_rfl) (by kernel_rfl) (by kernel_rfl) h0
                              · replace h0 := h0.2 q16f
                                rcases icase n8 1 with q20f | q20f
                                · replace h0 := h0.1 q20f
                                  exact ent_retA (fs := [rd q0, fd q1, bF, bF, bF, bF, bF, bF, bF, bF, bF, bF, bF, bF, bF, bT, tt q16f, tt q16f, tt q16f, tt q16f, tg q20f, tg q20f, tg q20f, tg q20f]) (h' := Heap.none) p52 a52 (by kernel_rfl) (by kernel_rfl) (by kernel_rfl) h0
                                · replace h0 := h0.2 q20f
                                  exact ent_retA (fs := [rd q0, fd q1, bF, bF, bF, bF, bF, bF, bF, bF, bF, bF, bF, bF, bF, bT, tt q16f, tt q16f, tt q16f, tt q16f, tt q20f, tt q20f, tt q20f, tt q20f]) (h' := Heap.none) p52 a52 (by kernel_rfl) (by kernel_rfl) (by kernel_rfl) h0
                            · replace h0 := h0.2 q15f
                              rcases Classical.em (n6 = 11) with e | q16f
                              · replace h0 := h0.1 e
                                subst e
                                rcases icase n7 1 with q17f | q17f
                                · replace h0 := h0.1 q17f
                                  exact ent_retA (fs := [rd q0, fd q1, bF, bF, bF, bF, bF, bF, bF, bF, bF, bF, bF, bF, bF, bF, bT, tg q17f, tg q17f, tg q17f, tg q17f, tg q17f, tg q17f, tg q17f, bF, bF, bF, bF, bF, bF, bF, bF, bF, bF, bF]) (h' := Heap.none) p52 a52 (by kernel_rfl) (by kernel_rfl) (by kernel_rfl) h0
                                · replace h0 := h0.2 q17f
                                  rcases icase n7 (((l1.length : Nat) : Int)) with q24f | q24f
                                  · replace h0 := h0.1 q24f
                                    have q29 : (0 : Int) ≤ n7 := by omega
                                    obtain ⟨n13, n14, n15, l16, q30, h0⟩ := h0
                                    exact ent_retA (fs := [rd q0, fd q1, bF, bF, bF, bF, bF, bF, bF, bF, bF, bF, bF, bF, bF, bF, bT, tt q17f, tt q17f, tt q17f, tt q17f, tt q17f, tt q17f, tt q17f, tt q24f, tt q24f, tt q24f, tt q24f, tt q24f, rd q29, fd q30, tt q24f, tt q24f, tt q24f, tt q24f, tt q24f, tt q24f]) (h' := Heap.none) p52 a52 (by kernel_rfl) (by kernel_rfl) (by kernel_rfl) h0
                                  · replace h0 := h0.2 q24f
                                    exact ent_retA (fs := [rd q0, fd q1, bF, bF, bF, bF, bF, bF, bF, bF, bF, bF, bF, bF, bF, bF, bT, tt q17f, tt q17f, tt q17f, tt q17f, tt q17f, tt q17f, tt q17f, tl q24f, tl q24f, tl q24f, tl q24f, tl q24f, tl q24f, tl q24f, tl q24f, tl q24f, tl q24f, tl q24f]) (h' := Heap.none) p52 a52 (by kernel_rfl) (by kernel_rfl) (by kernel_rfl) h0
                              · replace h0 := h0.2 q16f
                                rcases Classical.em (n6 = 12) with e | q17f
                                · replace h0 := h0.1 e
                                  subst e
                                  exact ent_retA (fs := [rd q0, fd q1, bF, bF, bF, bF, bF, bF, bF, bF, bF, bF, bF, bF, bF, bF, bF, bT]) (h' := Heap.none) p52 a52 (by kernel_rfl) (by kernel_rfl) (by kernel_rfl) h0
                                · replace h0 := h0.2 q17f
                                  rcases Classical.em (n6 = 13) with e | q18f
                                  · replace h0 := h0.1 e
                                    subst e
                                    exact ent_retA (fs := [rd q0, fd q1, bF, bF, bF, bF, bF, bF, bF, bF, bF, bF, bF, bF, bF, bF, bF, bF, bT, bT]) (h' := Heap.none) p52 a52 (by kernel_rfl) (by kernel_rfl) (by kernel_rfl) h0
                                  · replace h0 := h0.2 q18f
                                    rcases Classical.em (n6 = 20) with e | q19f
                                    · replace h0 := h0.1 e
                                      subst e
                                      exact ent_retA (fs := [rd q0, fd q1, bF, bF, bF, bF, bF, bF, bF, bF, bF, bF, bF, bF, bF, bF, bF, bF, bF, bT, bT]) (h' := Heap.none) p52 a52 (by kernel_rfl) (by kernel_rfl) (by kernel_rfl) h0
                                    · replace h0 := h0.2 q19f
                                      rcases Classical.em (n6 = 33) with e | q20f
                                      · replace h0 := h0.1 e
                                        subst e
                                        exact ent_retA (fs := [rd q0, fd q1, bF, bF, bF, bF, bF, bF, bF, bF, bF, bF, bF, bF, bF, bF, bF, bF, bF, bF, bT]) (h' := Heap.none) p52 a52 (by kernel_rfl) (by kernel_rfl) (by kernel_rfl) h0
                                      · replace h0 := h0.2 q20f
                                        rcases Classical.em (n6 = 19) with e | q21f
                                        · replace h0 := h0.1 e
                                          subst e
                                          exact ent_retA (fs := [rd q0, fd q1, bF, bF, bF, bF, bF, bF, bF, bF, bF, bF, bF, bF, bF, bF, bF, bF, bF, bF, bF, bT]) (h' := Heap.none) p52 a52 (by kernel_rfl) (by kernel_rfl) (by kernel_rfl) h0
                                        · replace h0 := h0.2 q21f
                                          rcases Classical.em (n6 = 14) with e | q22f
                                          · replace h0 := h0.1 e
                                            subst e
                                            exact ent_retA (fs := [rd q0, fd q1, bF, bF, bF, bF, bF, bF, bF, bF, bF, bF, bF, bF, bF, bF, bF, bF, bF, bF, bF, bF, bT]) (h' := Heap.none) p52 a52 (by kernel_rfl) (by kernel_rfl) (by kernel_rfl) h0
                                          · replace h0 := h0.2 q22f
                                            rcases Classical.em (n6 = 24) with e | q23f
                                            · replace h0 := h0.1 e
                                              subst e
                                              exact ent_retA (fs := [rd q0, fd q1, bF, bF, bF, bF, bF, bF, bF, bF, bF, bF, bF, bF, bF, bF, bF, bF, bF, bF, bF, bF, bF, bT, bT]) (h' := Heap.none) p52 a52 (by kernel_rfl) (by kernel_rfl) (by kernel_rfl) h0
                                            · replace h0 := h0.2 q23f
                                              rcases Classical.em (n6 = 25) with e | q24f
                                              · replace h0 := h0.1 e
                                                subst e
                                                exact ent_retA (fs := [rd q0, fd q1, bF, bF, bF, bF, bF, bF, bF, bF, bF, bF, bF, bF, bF, bF, bF, bF, bF, bF, bF, bF, bF, bF, bT, bT]) (h' := Heap.none) p52 a52 (by kernel_rfl) (by kernel_rfl) (by kernel_rfl) h0
                                              · replace h0 := h0.2 q24f
                                                rcases Classical.em (n6 = 31) with e | q25f
                                                · replace h0 := h0.1 e
                                                  subst e
                                                  exact ent_retA (fs := [rd q0, fd q1, bF, bF, bF, bF, bF, bF, bF, bF, bF, bF, bF, bF, bF, bF, bF, bF, bF, bF, bF, bF, bF, bF, bF, bT, bT]) (h' := Heap.none) p52 a52 (by kernel_rfl) (by kernel_rfl) (by kernel_rfl) h0
                                                · replace h0 := h0.2 q25f
                                                  rcases Classical.em (n6 = 32) with e | q26f
                                                  · replace h0 := h0.1 e
                                                    subst e
                                                    exact ent_retA (fs := [rd q0, fd q1, bF, bF, bF, bF, bF, bF, bF, bF, bF, bF, bF, bF, bF, bF, bF, bF, bF, bF, bF, bF, bF, bF, bF, bF, bT]) (h' := Heap.none) p52 a52 (by kernel_rfl) (by kernel_rfl) (by kernel_rfl) h0
                                                  · replace h0 := h0.2 q26f
                                                    exact ent_retA (fs := [rd q0, fd q1, bf (beq_eq_false_iff_ne.mpr q2f), bf (beq_eq_false_iff_ne.mpr q3f), bf (beq_eq_false_iff_ne.mpr q4f), bf (beq_eq_false_iff_ne.mpr q5f), bf (beq_eq_false_iff_ne.mpr q6f), bf (beq_eq_false_iff_ne.mpr q7f), bf (beq_eq_false_iff_ne.mpr q8f), bf (beq_eq_false_iff_ne.mpr q9f), bf (beq_eq_false_iff_ne.mpr q10f), bf (beq_eq_false_iff_ne.mpr q11f), bf (beq_eq_false_iff_ne.mpr q12f), bf (beq_eq_false_iff_ne.mpr q13f), bf (beq_eq_false_iff_ne.mpr q14f), bf (beq_eq_false_iff_ne.mpr q15f), bf (beq_eq_false_iff_ne.mpr q16f), bf (beq_eq_false_iff_ne.mpr q17f), bf (beq_eq_false_iff_ne.mpr q18f), bf (beq_eq_false_iff_ne.mpr q19f), bf (beq_eq_false_iff_ne.mpr q20f), bf (beq_eq_false_iff_ne.mpr q21f), bf (beq_eq_false_iff_ne.mpr q22f), bf (beq_eq_false_iff_ne.mpr q23f), bf (beq_eq_false_iff_ne.mpr q24f), bf (beq_eq_false_iff_ne.mpr q25f), bf (beq_eq_false_iff_ne.mpr q26f)]) (h' := Heap.none) p52 a52 (by kernel_rfl) (by kernel_rfl) (by kernel_rfl) h0

/- selvage/selvageref14.own -/
noncomputable abbrev PF53 := Tryz.f87

theorem p53 : AA.prim F53 = none := by kernel_rfl
theorem a53 : AA.alone F53 = false := by kernel_rfl

theorem w53 {l1 : List D} {h2 : Heap} {Q : V → Heap → Prop}
    (h0 : (hpAt (Heap.push h2 (.darr 0 2 ([]))) h2.n 0 = some (.darr 0 2 ([])) ∧ ((0 + l1.length) ≤ 274877906944 ∧ Q (.sl (.he h2.n 1) 2 none) (Heap.put (Heap.push h2 (.darr 0 2 ([]))) h2.n (some (.darr 1 2 (([] ++ l1)))))))) :
    Wc PP AA F53 [.d (.slice 2 l1)] h2 Q := by
  obtain ⟨q0, h0⟩ := h0
  obtain ⟨q1, h0⟩ := h0
  exact ent_ret (fs := [fo q0, rt (Nat.ble_eq_true_of_le q1)]) p53 a53 (by kernel_rfl) h0

/- selvage/selvageref14.hand -/
noncomputable abbrev PF54 := Tryz.f88

theorem p54 : AA.prim F54 = none := by kernel_rfl
theorem a54 : AA.alone F54 = false := by kernel_rfl

theorem w54 {c1 : Nat} {g2 : Nat} {n3 : Int} {b4 : Bool} {n5 : Int} {l6 : List D} {n7 : Int} {h8 : Heap} {Q : V → Heap → Prop}
    (h0 : (∃ (l9 : List D), hpAt h8 c1 g2 = some (.darr g2 3 l9) ∧ ((n3 < ((l9.length : Nat) : Int) → ((n7 < n5 → Q (vBool false) h8) ∧ (n5 ≤ n7 → ((0 : Int) ≤ n3 ∧ ((Int.toNat n3) < l9.length ∧ (∃ (b10 : Bool) (n11 : Int) (l12 : List D), l9[(Int.toNat n3)]? = some (.agg [dB b10, dI n11, .slice 2 l12]) ∧ (Wa PP AA F73 [.s 3 (.agg [dB b10, dI n11, .slice 2 l12]), .s 3 (.agg [dB b4, dI n5, .slice 2 l6])] fun v => ∃ (b13 : Bool), v = vBool b13 ∧ ((b10 = true → ((b13 = true → (Wc PP AA F53 [.d (.slice 2 l6)] h8 fun v H16 => ∃ (c14 : Nat) (g15 : Nat), v = .sl (.he c14 g15) 2 none ∧ (∃ (l17 : List D), hpAt H16 c14 g15 = some (.darr g15 2 l17) ∧ (∃ (l18 : List D), hpAt (Heap.put H16 c14 none) c1 g2 = some (.darr g2 3 l18) ∧ ((Int.toNat n3) < l18.length ∧ (∃ (b19 : Bool) (n20 : Int) (l21 : List D), l18[(Int.toNat n3)]? = some (.agg [dB b19, dI n20, .slice 2 l21]) ∧ Q (vBool true) (Heap.put (Heap.put H16 c14 none) c1 (some (.darr g2 3 ((l18.set ((Int.toNat n3)) (.agg [dB true, dI n5, .slice 2 l17])))))))))))) ∧ (b13 = false → Q (vBool false) h8))) ∧ (b10 = false → (Wc PP AA F53 [.d (.slice 2 l6)] h8 fun v H16 => ∃ (c14 : Nat) (g15 : Nat), v = .sl (.he c14 g15) 2 none ∧ (∃ (l17 : List D), hpAt H16 c14 g15 = some (.darr g15 2 l17) ∧ (∃ (l18 : List D), hpAt (Heap.put H16 c14 none) c1 g2 = some (.darr g2 3 l18) ∧ ((Int.toNat n3) < l18.length ∧ (∃ (b19 : Bool) (n20 : Int) (l21 : List D), l18[(Int.toNat n3)]? = some (.agg [dB b19, dI n20, .slice 2 l21]) ∧ Q (vBool true) (Heap.put (Heap.put H16 c14 none) c1 (some (.darr g2 3 ((l18.set ((Int.toNat n3)) (.agg [dB true, dI n5, .slice 2 l17])))))))))))))))))))) ∧ (((l9.length : Nat) : Int) ≤ n3 → Q (vBool false) h8)))) :
    Wc PP AA F54 [.sl (.he c1 g2) 3 none, vI n3, .s 3 (.agg [dB b4, dI n5, .slice 2 l6]), vI n7] h8 Q := by
  obtain ⟨l9, q0, h0⟩ := h0
  rcases icase n3 (((l9.length : Nat) : Int)) with q1f | q1f
  · replace h0 := h0.1 q1f
    rcases icase n7 n5 with q6f | q6f
    · replace h0 := h0.1 q6f
      exact ent_ret (fs := [fo q0, tg q1f, tg q1f, tg q1f, tg q1f, tg q1f, tt q6f]) p54 a54 (by kernel_rfl) h0
    · replace h0 := h0.2 q6f
      obtain ⟨q7, h0⟩ := h0
      obtain ⟨q9, h0⟩ := h0
      obtain ⟨b10, n11, l12, q11, h0⟩ := h0
      obtain ⟨v, r12, b13, e, h0⟩ := h0
      subst e
      rcases bcase b10 with e | e
      · replace h0 := h0.1 e
        subst e
        rcases bcase b13 with e | e
        · replace h0 := h0.1 e
          subst e
          obtain ⟨v, H16, r22, c14, g15, e, h0⟩ := h0
          subst e
          obtain ⟨l17, q23, h0⟩ := h0
          obtain ⟨l18, q26, h0⟩ := h0
          obtain ⟨q27, h0⟩ := h0
          obtain ⟨b19, n20, l21, q29, h0⟩ := h0
          exact ent_ret (fs := [fo q0, tg q1f, tg q1f, tg q1f, tg q1f, tg q1f, tl q6f, rd q7, fo q0, rt (Nat.ble_eq_true_of_le q9), fo q0, fd q11, fr (r12 h8), rd q7, fo q0, rt (Nat.ble_eq_true_of_le q9), fo q0, fd q11, bT, bT, bT, bF, fr r22, fo q23, fo q23, rd q7, fo q26, rt (Nat.ble_eq_true_of_le q27), fo q26, fd q29]) p54 a54 (by kernel_rfl) h0
        · replace h0 := h0.2 e
          subst e
          exact ent_ret (fs := [fo q0, tg q1f, tg q1f, tg q1f, tg q1f, tg q1f, tl q6f, rd q7, fo q0, rt (Nat.ble_eq_true_of_le q9), fo q0, fd q11, fr (r12 h8), rd q7, fo q0, rt (Nat.ble_eq_true_of_le q9), fo q0, fd q11, bT, bT, bT, bT]) p54 a54 (by kernel_rfl) h0
      · replace h0 := h0.2 e
        subst e
        obtain ⟨v, H16, r22, c14, g15, e, h0⟩ := h0
        subst e
        obtain ⟨l17, q23, h0⟩ := h0
        obtain ⟨l18, q26, h0⟩ := h0
        obtain ⟨q27, h0⟩ := h0
        obtain ⟨b19, n20, l21, q29, h0⟩ := h0
        exact ent_ret (fs := [fo q0, tg q1f, tg q1f, tg q1f, tg q1f, tg q1f, tl q6f, rd q7, fo q0, rt (Nat.ble_eq_true_of_le q9), fo q0, fd q11, fr (r12 h8), rd q7, fo q0, rt (Nat.ble_eq_true_of_le q9), fo q0, fd q11, bF, bF, bF, bF, fr r22, fo q23, fo q23, rd q7, fo q26, rt (Nat.ble_eq_true_of_le q27), fo q26, fd q29]) p54 a54 (by kernel_rfl) h0
  · replace h0 := h0.2 q1f
    exact ent_ret (fs := [fo q0, tt q1f, tt q1f, tt q1f, tt q1f, tt q1f, bT]) p54 a54 (by kernel_rfl) h0

/- (*selvage/gen.writer).tree -/
noncomputable abbrev PF55 := Tryz.f66

noncomputable def f55_K1 : List It := [.lp (cdAt (codeOf PF55) [1, 1, 1, 1, 1, 1, 0, 1, 0, 0]), .blk 0, .c (cdAt (codeOf PF55) [1, 1, 1, 1, 1, 1, 1])]

noncomputable def f55_S1 (p1_1 : Nat) (p1_2 : Int) (p1_3 : Nat) (p1_4 : Int) (p1_5 : Int) (p1_6 : List D) (p1_7 : List D) (p1_8 : List D) (p1_9 : List D) (p1_10 : List D) (p1_11 : Int) (p1_12 : Int) (p1_13 : List D) (p1_14 : Heap) : St :=
  { nt := 121, tm := [(0, .ptr (.he p1_1 0) 0 2 0), (2, vI p1_2), (3, .map (.he p1_3 0)), (4, vI p1_4), (6, .bp (.s 4 (.agg [dI p1_5, .slice 0 p1_6, .slice 6 p1_7, .slice 4 p1_8])) 4 0), (10, .d (.slice 6 p1_9)), (11, .d (.slice 4 p1_10)), (13, .sl (.lo 2) 0 none), (68, .d (.slice 6 p1_9)), (69, vI p1_11), (70, vI p1_12)], lo := [(2, .darr 0 0 p1_13)], hp := p1_14 }

noncomputable def f55_K2 : List It := [.lp (cdAt (codeOf PF55) [1, 1, 1, 1, 1, 1, 1, 1, 1, 0, 0]), .blk 2]

noncomputable def f55_S2 (p2_1 : Nat) (p2_2 : Int) (p2_3 : Nat) (p2_4 : Int) (p2_5 : List D) (p2_6 : Int) (p2_7 : Int) (p2_8 : List D) (p2_9 : Heap) : St :=
  { nt := 121, tm := [(0, .ptr (.he p2_1 0) 0 2 0), (2, vI p2_2), (3, .map (.he p2_3 0)), (4, vI p2_4), (13, .sl (.lo 2) 0 none), (98, .d (.slice 6 p2_5)), (99, vI p2_6), (100, vI p2_7)], lo := [(2, .darr 0 0 p2_8)], hp := p2_9 }

theorem p55 : AA.prim F55 = none := by kernel_rfl
theorem a55 : AA.alone F55 = false := by kernel_rfl

theorem w55 {i1 : Nat} {n2 : Int} {l3 : List D} {l4 : List D} {l5 : List D} {n6 : Int} {m7 : Nat} {n8 : Int} {h9 : Heap} {Q : V → Heap → Prop}
    (h0 : ((n8 = 0 → Q (.tuple []) h9) ∧ (n8 ≠ 0 → (∃ (i10 : Nat) (c11 : Nat) (g12 : Nat), hpAt h9 i1 0 = some (.var (.agg [.ptr (.he i10 0) 0 3 0, .sl (.he c11 g12) 3 none])) ∧ (∃ (l13 : List D), hpAt h9 c11 g12 = some (.darr g12 3 l13) ∧ (((400 : Int) < ((l13.length : Nat) : Int) → Q (.tuple []) h9) ∧ (((l13.length : Nat) : Int) ≤ 400 → ((((l4.length : Nat) : Int) = 0 → ((((l5.length : Nat) : Int) = 0 → (∃ (ks14 : List Value) (vs15 : List V), hpAt h9 m7 0 = some (.map ks14 vs15) ∧ ((∃ (c16 : Nat) (g17 : Nat), findKey (.int .i64 n2) ks14 vs15 = some (some (.sl (.he c16 g17) 0 none)) ∧ (Wc PP AA F16 [.ptr (.he i1 0) 0 2 0, vI 16, .d (.slice 0 ([]))] h9 fun v H19 => ∃ (n18 : Int), v = vI n18 ∧ (∃ (l20 : List D), hpAt H19 c16 g17 = some (.darr g17 0 l20) ∧ ((l20.length + 1) ≤ 274877906944 ∧ (∃ (ks21 : List Value) (vs22 : List V), hpAt (Heap.put H19 c16 (some (.darr ((g17 + 1)) 0 ((l20 ++ [dI n18]))))) m7 0 = some (.map ks21 vs22) ∧ (∃ (ks23 : List Value) (vs24 : List V), setKey (.int .i64 n2) (.sl (.he c16 ((g17 + 1))) 0 none) ks21 vs22 = some (ks23, vs24) ∧ (hpAt h9 m7 0 = hpAt H19 m7 0 ∧ Q (.tuple []) (Heap.put (Heap.put H19 c16 (some (.darr ((g17 + 1)) 0 ((l20 ++ [dI n18]))))) m7 (some (.map ks23 vs24)))))))))) ∨ (findKey (.int .i64 n2) ks14 vs15 = some none ∧ (Wc PP AA F16 [.ptr (.he i1 0) 0 2 0, vI 16, .d (.slice 0 ([]))] h9 fun v H17 => ∃ (n16 : Int), v = vI n16 ∧ (∃ (ks18 : List Value) (vs19 : List V), hpAt (Heap.push H17 (.darr 0 0 ([dI n16]))) m7 0 = some (.map ks18 vs19) ∧ (∃ (ks20 : List Value) (vs21 : List V), setKey (.int .i64 n2) (.sl (.he H17.n 0) 0 none) ks18 vs19 = some (ks20, vs21) ∧ (hpAt h9 m7 0 = hpAt H17 m7 0 ∧ Q (.tuple []) (Heap.put (Heap.push H17 (.darr 0 0 ([dI n16]))) m7 (some (.map ks20 vs21))))))))))) ∧ (((l5.length : Nat) : Int) ≠ 0 → Wl PP AA F55 f55_K1 (f55_S1 i1 n6 m7 n8 n2 l3 l4 l5 l4 l5 (((l4.length : Nat) : Int)) 0 ([]) h9) Q))) ∧ (((l4.length : Nat) : Int) ≠ 0 → ((((l5.length : Nat) : Int) = 0 → ((0 : Int) ≤ (W (((l4.length : Nat) : Int) - 1)) ∧ ((Int.toNat ((W (((l4.length : Nat) : Int) - 1)))) ≤ l4.length ∧ (0 ≤ (Int.toNat ((W (((l4.length : Nat) : Int) - 1)))) ∧ (∃ (s14 : ByteArray) (n15 : Int) (n16 : Int) (l17 : List D) (l18 : List D) (l19 : List D), l4[(Int.toNat ((W (((l4.length : Nat) : Int) - 1))))]? = some (.agg [dS s14, dI n15, dI n16, .slice 0 l17, .slice 6 l18, .slice 4 l19]) ∧ Wl PP AA F55 f55_K1 (f55_S1 i1 n6 m7 n8 n2 l3 l4 l5 ((((l4).take ((Int.toNat ((W (((l4.length : Nat) : Int) - 1)))))).drop 0)) ([.agg [dI n16, .slice 0 l17, .slice 6 l18, .slice 4 l19]]) ((((((((l4).take ((Int.toNat ((W (((l4.length : Nat) : Int) - 1)))))).drop 0) : List D).length) : Nat) : Int)) 0 ([]) h9) Q))))) ∧ (((l5.length : Nat) : Int) ≠ 0 → Wl PP AA F55 f55_K1 (f55_S1 i1 n6 m7 n8 n2 l3 l4 l5 l4 l5 (((l4.length : Nat) : Int)) 0 ([]) h9) Q))))))))))) :
    Wc PP AA F55 [.ptr (.he i1 0) 0 2 0, .s 4 (.agg [dI n2, .slice 0 l3, .slice 6 l4, .slice 4 l5]), vI n6, .map (.he m7 0), vI n8] h9 Q := by
  rcases Classical.em (n8 = 0) with e | q0f
  · replace h0 := h0.1 e
    subst e
    exact ent_ret (fs := [bT, bT, bT, bT, bT, bT, bT, bT]) p55 a55 (by kernel_rfl) h0
  · replace h0 := h0.2 q0f
    obtain ⟨i10, c11, g12, q4, h0⟩ := h0
    obtain ⟨l13, q6, h0⟩ := h0
    rcases icase 400 (((l13.length : Nat) : Int)) with q9f | q9f
    · replace h0 := h0.1 q9f
      exact ent_ret (fs := [bf (beq_eq_false_iff_ne.mpr q0f), bf (beq_eq_false_iff_ne.mpr q0f), bf (beq_eq_false_iff_ne.mpr q0f), bf (beq_eq_false_iff_ne.mpr q0f), fo q4, bf (beq_eq_false_iff_ne.mpr q0f), fo q6, bf (beq_eq_false_iff_ne.mpr q0f), bf (beq_eq_false_iff_ne.mpr q0f), tt q9f]) p55 a55 (by kernel_rfl) h0
    · replace h0 := h0.2 q9f
      rcases Classical.em ((((l4.length : Nat) : Int) : Int) = 0) with q10f | q10f
      · replace h0 := h0.1 q10f
        rcases Classical.em ((((l5.length : Nat) : Int) : Int) = 0) with q15f | q15f
        · replace h0 := h0.1 q15f
          obtain ⟨ks14, vs15, q16, h0⟩ := h0
          rcases h0 with h0 | h0
          · obtain ⟨c16, g17, q17, h0⟩ := h0
            obtain ⟨v, H19, r18, n18, e, h0⟩ := h0
            subst e
            obtain ⟨l20, q19, h0⟩ := h0
            obtain ⟨q20, h0⟩ := h0
            obtain ⟨ks21, vs22, q21, h0⟩ := h0
            obtain ⟨ks23, vs24, q22, h0⟩ := h0
            obtain ⟨q23, h0⟩ := h0
            exact ent_ret (fs := [bf (beq_eq_false_iff_ne.mpr q0f), bf (beq_eq_false_iff_ne.mpr q0f), bf (beq_eq_false_iff_ne.mpr q0f), bf (beq_eq_false_iff_ne.mpr q0f), fo q4, bf (beq_eq_false_iff_ne.mpr q0f), fo q6, bf (beq_eq_false_iff_ne.mpr q0f), bf (beq_eq_false_iff_ne.mpr q0f), tl q9f, bt (beq_iff_eq.mpr q10f), bt (beq_iff_eq.mpr q10f), bt (beq_iff_eq.mpr q10f), bt (beq_iff_eq.mpr q10f), bt (beq_iff_eq.mpr q10f), bt (beq_iff_eq.mpr q15f), fo q16, fw q17, fr r18, fo q19, rt (Nat.ble_eq_true_of_le q20), fo q21, fk q22, fc q23]) p55 a55 (by kernel_rfl) h0
          · obtain ⟨q17, h0⟩ := h0
            obtain ⟨v, H17, r18, n16, e, h0⟩ := h0
            subst e
            obtain ⟨ks18, vs19, q20, h0⟩ := h0
            obtain ⟨ks20, vs21, q21, h0⟩ := h0
            obtain ⟨q22, h0⟩ := h0
            exact ent_ret (fs := [bf (beq_eq_false_iff_ne.mpr q0f), bf (beq_eq_false_iff_ne.mpr q0f), bf (beq_eq_false_iff_ne.mpr q0f), bf (beq_eq_false_iff_ne.mpr q0f), fo q4, bf (beq_eq_false_iff_ne.mpr q0f), fo q6, bf (beq_eq_false_iff_ne.mpr q0f), bf (beq_eq_false_iff_ne.mpr q0f), tl q9f, bt (beq_iff_eq.mpr q10f), bt (beq_iff_eq.mpr q10f), bt (beq_iff_eq.mpr q10f), bt (beq_iff_eq.mpr q10f), bt (beq_iff_eq.mpr q10f), bt (beq_iff_eq.mpr q15f), fo q16, fw q17, fr r18, rq, fo q20, fk q21, fc q22]) p55 a55 (by kernel_rfl) h0
        · replace h0 := h0.2 q15f
          exact ent_at (fs := [bf (beq_eq_false_iff_ne.mpr q0f), bf (beq_eq_false_iff_ne.mpr q0f), bf (beq_eq_false_iff_ne.mpr q0f), bf (beq_eq_false_iff_ne.mpr q0f), fo q4, bf (beq_eq_false_iff_ne.mpr q0f), fo q6, bf (beq_eq_false_iff_ne.mpr q0f), bf (beq_eq_false_iff_ne.mpr q0f), tl q9f, bt (beq_iff_eq.mpr q10f), bt (beq_iff_eq.mpr q10f), bt (beq_iff_eq.mpr q10f), bt (beq_iff_eq.mpr q10f), bt (beq_iff_eq.mpr q10f), bf (beq_eq_false_iff_ne.mpr q15f), bf (beq_eq_false_iff_ne.mpr q15f)]) p55 a55 (by kernel_rfl) h0
      · replace h0 := h0.2 q10f
        rcases Classical.em ((((l5.length : Nat) : Int) : Int) = 0) with q16f | q16f
        · replace h0 := h0.1 q16f
          obtain ⟨q17, h0⟩ := h0
          obtain ⟨q18a, h0⟩ := h0
          obtain ⟨q18b, h0⟩ := h0
          obtain ⟨s14, n15, n16, l17, l18, l19, q20, h0⟩ := h0
          exact ent_at (fs := [bf (beq_eq_false_iff_ne.mpr q0f), bf (beq_eq_false_iff_ne.mpr q0f), bf (beq_eq_false_iff_ne.mpr q0f), bf (beq_eq_false_iff_ne.mpr q0f), fo q4, bf (beq_eq_false_iff_ne.mpr q0f), fo q6, bf (beq_eq_false_iff_ne.mpr q0f), bf (beq_eq_false_iff_ne.mpr q0f), tl q9f, bf (beq_eq_false_iff_ne.mpr q10f), bf (beq_eq_false_iff_ne.mpr q10f), bf (beq_eq_false_iff_ne.mpr q10f), bf (beq_eq_false_iff_ne.mpr q10f), bf (beq_eq_false_iff_ne.mpr q10f), bF, bt (beq_iff_eq.mpr q16f), rd q17, rt (andT (Nat.ble_eq_true_of_le q18a) (Nat.ble_eq_true_of_le q18b)), rd q17, fd q20]) p55 a55 (by kernel_rfl) h0
        · replace h0 := h0.2 q16f
          exact ent_at (fs := [bf (beq_eq_false_iff_ne.mpr q0f), bf (beq_eq_false_iff_ne.mpr q0f), bf (beq_eq_false_iff_ne.mpr q0f), bf (beq_eq_false_iff_ne.mpr q0f), fo q4, bf (beq_eq_false_iff_ne.mpr q0f), fo q6, bf (beq_eq_false_iff_ne.mpr q0f), bf (beq_eq_false_iff_ne.mpr q0f), tl q9f, bf (beq_eq_false_iff_ne.mpr q10f), bf (beq_eq_false_iff_ne.mpr q10f), bf (beq_eq_false_iff_ne.mpr q10f), bf (beq_eq_false_iff_ne.mpr q10f), bf (beq_eq_false_iff_ne.mpr q10f), bF, bf (beq_eq_false_iff_ne.mpr q16f)]) p55 a55 (by kernel_rfl) h0

theorem w55_1 {p1_1 : Nat} {p1_2 : Int} {p1_3 : Nat} {p1_4 : Int} {p1_5 : Int} {p1_6 : List D} {p1_7 : List D} {p1_8 : List D} {p1_9 : List D} {p1_10 : List D} {p1_11 : Int} {p1_12 : Int} {p1_13 : List D} {p1_14 : Heap} {Q : V → Heap → Prop}
    (h0 : ((p1_12 < p1_11 → ((0 : Int) ≤ p1_12 ∧ (∃ (sr11 : ByteArray) (nr12 : Int) (nr13 : Int) (lr14 : List D) (lr15 : List D) (lr16 : List D), p1_9[(Int.toNat p1_12)]? = some (.agg [dS sr11, dI nr12, dI nr13, .slice 0 lr14, .slice 6 lr15, .slice 4 lr16]) ∧ (Wc PP AA F56 [.ptr (.he p1_1 0) 0 2 0, vI p1_2, .d (.slice 0 p1_6)] p1_14 fun v Hr17 => v = .tuple [] ∧ (Wc PP AA F74 [.ptr (.he p1_1 0) 0 2 0, .s 6 (.agg [dS sr11, dI nr12, dI nr13, .slice 0 lr14, .slice 6 lr15, .slice 4 lr16])] Hr17 fun v Hr19 => ∃ (nr18 : Int), v = vI nr18 ∧ (Wc PP AA F16 [.ptr (.he p1_1 0) 0 2 0, vI 18, .d (.slice 0 ([dI nr18, dI 0]))] Hr19 fun v Hr111 => ∃ (nr110 : Int), v = vI nr110 ∧ ((p1_13.length + 1) ≤ 274877906944 ∧ Wl PP AA F55 f55_K1 (f55_S1 p1_1 p1_2 p1_3 p1_4 p1_5 p1_6 p1_7 p1_8 p1_9 p1_10 p1_11 ((W (p1_12 + 1))) ((p1_13 ++ [dI nr110])) Hr111) Q))))))) ∧ (p1_11 ≤ p1_12 → (∃ (nr11 : Int) (lr12 : List D) (lr13 : List D) (lr14 : List D), p1_10[0]? = some (.agg [dI nr11, .slice 0 lr12, .slice 6 lr13, .slice 4 lr14]) ∧ (Wc PP AA F55 [.ptr (.he p1_1 0) 0 2 0, .s 4 (.agg [dI nr11, .slice 0 lr12, .slice 6 lr13, .slice 4 lr14]), vI p1_2, .map (.he p1_3 0), vI (W (p1_4 - 1))] p1_14 fun v Hr15 => v = .tuple [] ∧ Wl PP AA F55 f55_K2 (f55_S2 p1_1 p1_2 p1_3 p1_4 p1_9 (((p1_9.length : Nat) : Int)) 0 p1_13 Hr15) Q))))) :
    Wl PP AA F55 f55_K1 (f55_S1 p1_1 p1_2 p1_3 p1_4 p1_5 p1_6 p1_7 p1_8 p1_9 p1_10 p1_11 p1_12 p1_13 p1_14) Q := by
  rcases icase p1_12 p1_11 with q0f | q0f
  · replace h0 := h0.1 q0f
    obtain ⟨q1, h0⟩ := h0
    obtain ⟨sr11, nr12, nr13, lr14, lr15, lr16, q2, h0⟩ := h0
    obtain ⟨v, Hr17, r3, e, h0⟩ := h0
    subst e
    obtain ⟨v, Hr19, r4, nr18, e, h0⟩ := h0
    subst e
    obtain ⟨v, Hr111, r5, nr110, e, h0⟩ := h0
    subst e
    obtain ⟨q6, h0⟩ := h0
    exact lp_at (fs := [tt q0f, rd q1, fd q2, fr r3, fr r4, fr r5, rt (Nat.ble_eq_true_of_le q6)]) (by kernel_rfl) h0
  · replace h0 := h0.2 q0f
    obtain ⟨nr11, lr12, lr13, lr14, q2, h0⟩ := h0
    obtain ⟨v, Hr15, r3, e, h0⟩ := h0
    subst e
    exact lp_at (fs := [tl q0f, rq, fd q2, fr r3]) (by kernel_rfl) h0

theorem w55_2 {p2_1 : Nat} {p2_2 : Int} {p2_3 : Nat} {p2_4 : Int} {p2_5 : List D} {p2_6 : Int} {p2_7 : Int} {p2_8 : List D} {p2_9 : Heap} {Q : V → Heap → Prop}
    (h0 : ((p2_7 < p2_6 → ((0 : Int) ≤ p2_7 ∧ (∃ (sr21 : ByteArray) (nr22 : Int) (nr23 : Int) (lr24 : List D) (lr25 : List D) (lr26 : List D), p2_5[(Int.toNat p2_7)]? = some (.agg [dS sr21, dI nr22, dI nr23, .slice 0 lr24, .slice 6 lr25, .slice 4 lr26]) ∧ ((Int.toNat p2_7) < p2_8.length ∧ (∃ (nr27 : Int), p2_8[(Int.toNat p2_7)]? = some (dI nr27) ∧ (Wc PP AA F37 [.ptr (.he p2_1 0) 0 2 0, .d (.slice 0 ([dI nr27]))] p2_9 fun v Hr28 => v = .tuple [] ∧ (Wc PP AA F55 [.ptr (.he p2_1 0) 0 2 0, .s 4 (.agg [dI nr23, .slice 0 lr24, .slice 6 lr25, .slice 4 lr26]), vI p2_2, .map (.he p2_3 0), vI (W (p2_4 - 1))] Hr28 fun v Hr29 => v = .tuple [] ∧ Wl PP AA F55 f55_K2 (f55_S2 p2_1 p2_2 p2_3 p2_4 p2_5 p2_6 ((W (p2_7 + 1))) p2_8 Hr29) Q))))))) ∧ (p2_6 ≤ p2_7 → Q (.tuple []) p2_9))) :
    Wl PP AA F55 f55_K2 (f55_S2 p2_1 p2_2 p2_3 p2_4 p2_5 p2_6 p2_7 p2_8 p2_9) Q := by
  rcases icase p2_7 p2_6 with q0f | q0f
  · replace h0 := h0.1 q0f
    obtain ⟨q1, h0⟩ := h0
    obtain ⟨sr21, nr22, nr23, lr24, lr25, lr26, q2, h0⟩ := h0
    obtain ⟨q4, h0⟩ := h0
    obtain ⟨nr27, q5, h0⟩ := h0
    obtain ⟨v, Hr28, r6, e, h0⟩ := h0
    subst e
    obtain ⟨v, Hr29, r7, e, h0⟩ := h0
    subst e
    exact lp_at (fs := [tt q0f, rd q1, fd q2, rd q1, rt (Nat.ble_eq_true_of_le q4), fd q5, fr r6, fr r7]) (by kernel_rfl) h0
  · replace h0 := h0.2 q0f
    exact lp_ret (fs := [tl q0f]) (by kernel_rfl) h0

/- (*selvage/gen.writer).look -/
noncomputable abbrev PF56 := Tryz.f67

noncomputable def f56_K1 : List It := [.lp (cdAt (codeOf PF56) [1, 1, 0, 0]), .blk 0]

noncomputable def f56_S1 (p1_1 : Nat) (p1_2 : List D) (p1_3 : Int) (p1_4 : Int) (p1_5 : Heap) : St :=
  { nt := 23, tm := [(0, .ptr (.he p1_1 0) 0 2 0), (12, .d (.slice 0 p1_2)), (13, vI p1_3), (14, vI p1_4)], lo := [], hp := p1_5 }

theorem p56 : AA.prim F56 = none := by kernel_rfl
theorem a56 : AA.alone F56 = false := by kernel_rfl

theorem w56 {i1 : Nat} {n2 : Int} {l3 : List D} {h4 : Heap} {Q : V → Heap → Prop}
    (h0 : (Wc PP AA F16 [.ptr (.he i1 0) 0 2 0, vI 3, .d (.slice 0 ([dI n2]))] h4 fun v H6 => ∃ (n5 : Int), v = vI n5 ∧ Wl PP AA F56 f56_K1 (f56_S1 i1 l3 (((l3.length : Nat) : Int)) 0 H6) Q)) :
    Wc PP AA F56 [.ptr (.he i1 0) 0 2 0, vI n2, .d (.slice 0 l3)] h4 Q := by
  obtain ⟨v, H6, r0, n5, e, h0⟩ := h0
  subst e
  exact ent_at (fs := [fr r0]) p56 a56 (by kernel_rfl) h0

theorem w56_1 {p1_1 : Nat} {p1_2 : List D} {p1_3 : Int} {p1_4 : Int} {p1_5 : Heap} {Q : V → Heap → Prop}
    (h0 : ((p1_4 < p1_3 → ((0 : Int) ≤ p1_4 ∧ (∃ (nr11 : Int), p1_2[(Int.toNat p1_4)]? = some (dI nr11) ∧ (Wc PP AA F16 [.ptr (.he p1_1 0) 0 2 0, vI 12, .d (.slice 0 ([dI nr11]))] p1_5 fun v Hr13 => ∃ (nr12 : Int), v = vI nr12 ∧ Wl PP AA F56 f56_K1 (f56_S1 p1_1 p1_2 p1_3 ((W (p1_4 + 1))) Hr13) Q)))) ∧ (p1_3 ≤ p1_4 → Q (.tuple []) p1_5))) :
    Wl PP AA F56 f56_K1 (f56_S1 p1_1 p1_2 p1_3 p1_4 p1_5) Q := by
  rcases icase p1_4 p1_3 with q0f | q0f
  · replace h0 := h0.1 q0f
    obtain ⟨q1, h0⟩ := h0
    obtain ⟨nr11, q2, h0⟩ := h0
    obtain ⟨v, Hr13, r3, nr12, e, h0⟩ := h0
    subst e
    exact lp_at (fs := [tt q0f, rd q1, fd q2, fr r3]) (by kernel_rfl) h0
  · replace h0 := h0.2 q0f
    exact lp_ret (fs := [tl q0f]) (by kernel_rfl) h0

/- slices.IndexFunc[[]selvage/api.Body,selvage/api.Body] -/
noncomputable abbrev PF61 := Tryz.f72

noncomputable def f61_K1 : List It := [.lp (cdAt (codeOf PF61) [1, 0, 1, 0, 0]), .blk 0, .c (cdAt (codeOf PF61) [1, 1])]

noncomputable def f61_S1 (p1_1 : List D) (p1_2 : Nat) (p1_3 : Int) (p1_4 : Int) : St :=
  { nt := 19, tm := [(0, .d (.slice 4 p1_1)), (1, .fn (.func p1_2) [] []), (7, vI p1_3), (8, vI p1_4)], lo := [], hp := Heap.none }

theorem p61 : AA.prim F61 = none := by kernel_rfl
theorem a61 : AA.alone F61 = true := by kernel_rfl

theorem w61 {l1 : List D} {f2 : Nat} {Q : V → Prop}
    (h0 : Wl PP AA F61 f61_K1 (f61_S1 l1 f2 (((l1.length : Nat) : Int)) 0) (QAl Q)) :
    Wa PP AA F61 [.d (.slice 4 l1), .fn (.func f2) [] []] Q := by
  exact ent_atA (fs := []) p61 a61 (by kernel_rfl) (by kernel_rfl) h0

theorem w61_1 {p1_1 : List D} {p1_2 : Nat} {p1_3 : Int} {p1_4 : Int} {Q : V → Prop}
    (h0 : ((p1_4 < p1_3 → ((0 : Int) ≤ p1_4 ∧ (∃ (nr11 : Int) (nr12 : Int) (nr13 : Int) (lr14 : List D), p1_1[(Int.toNat p1_4)]? = some (.agg [dI nr11, dI nr12, dI nr13, .slice 3 lr14]) ∧ (Wa PP AA p1_2 [.s 4 (.agg [dI nr11, dI nr12, dI nr13, .slice 3 lr14])] fun v => ∃ (br15 : Bool), v = vBool br15 ∧ ((br15 = true → Q (vI p1_4)) ∧ (br15 = false → Wl PP AA F61 f61_K1 (f61_S1 p1_1 p1_2 p1_3 ((W (p1_4 + 1)))) (QAl Q))))))) ∧ (p1_3 ≤ p1_4 → Q (vI (-1))))) :
    Wl PP AA F61 f61_K1 (f61_S1 p1_1 p1_2 p1_3 p1_4) (QAl Q) := by
  rcases icase p1_4 p1_3 with q0f | q0f
  · replace h0 := h0.1 q0f
    obtain ⟨q1, h0⟩ := h0
    obtain ⟨nr11, nr12, nr13, lr14, q2, h0⟩ := h0
    obtain ⟨v, r3, br15, e, h0⟩ := h0
    subst e
    rcases bcase br15 with e | e
    · replace h0 := h0.1 e
      subst e
      exact lp_ret (fs := [tt q0f, rd q1, fd q2, fr (r3 Heap.none), bT]) (h' := Heap.none) (by kernel_rfl) ⟨by kernel_rfl, h0⟩
    · replace h0 := h0.2 e
      subst e
      exact lp_at (fs := [tt q0f, rd q1, fd q2, fr (r3 Heap.none), bF]) (by kernel_rfl) h0
  · replace h0 := h0.2 q0f
    exact lp_ret (fs := [tl q0f]) (h' := Heap.none) (by kernel_rfl) ⟨by kernel_rfl, h0⟩

/- selvage/code.odd -/
noncomputable abbrev PF62 := Tryz.f73

theorem p62 : AA.prim F62 = none := by kernel_rfl
theorem a62 : AA.alone F62 = true := by kernel_rfl

theorem w62 {n1 : Int} {n2 : Int} {n3 : Int} {Q : V → Prop}
    (h0 : (Wa PP AA F77 [vI n1] fun v => ∃ (n4 : Int), v = vI n4 ∧ ((n4 < 0 → Q (vBool true)) ∧ ((0 : Int) ≤ n4 → (Wa PP AA F42 [vI n2, vI 0, vI 65535] fun v => ∃ (b5 : Bool), v = vBool b5 ∧ ((b5 = true → (Wa PP AA F42 [vI n3, vI 0, vI 65535] fun v => ∃ (b6 : Bool), v = vBool b6 ∧ ((b6 = true → ((n4 < 1 → ((n2 = 0 → Q (vBool ((n3 : Int) != 0))) ∧ (n2 ≠ 0 → Q (vBool true)))) ∧ ((1 : Int) ≤ n4 → ((n4 < 2 → Q (vBool ((n3 : Int) != 0))) ∧ ((2 : Int) ≤ n4 → Q (vBool false)))))) ∧ (b6 = false → Q (vBool true))))) ∧ (b5 = false → Q (vBool true)))))))) :
    Wa PP AA F62 [.s 3 (.agg [dI n1, dI n2, dI n3])] Q := by
  obtain ⟨v, r0, n4, e, h0⟩ := h0
  subst e
  rcases icase n4 0 with q1f | q1f
  · replace h0 := h0.1 q1f
    exact ent_retA (fs := [fr (r0 Heap.none), tt q1f, tt q1f, tt q1f, tt q1f, tt q1f, bT, bT, bT, bT, bT, bT, bT, bT, bT, bT, bT, bT, bT, bT, bT]) (h' := Heap.none) p62 a62 (by kernel_rfl) (by kernel_rfl) (by kernel_rfl) h0
  · replace h0 := h0.2 q1f
    obtain ⟨v, r4, b5, e, h0⟩ := h0
    subst e
    rcases bcase b5 with e | e
    · replace h0 := h0.1 e
      subst e
      obtain ⟨v, r10, b6, e, h0⟩ := h0
      subst e
      rcases bcase b6 with e | e
      · replace h0 := h0.1 e
        subst e
        rcases icase n4 1 with q16f | q16f
        · replace h0 := h0.1 q16f
          rcases Classical.em (n2 = 0) with e | q22f
          · replace h0 := h0.1 e
            subst e
            have q25 : n4 < 2 := by omega
            exact ent_retA (fs := [fr (r0 Heap.none), tl q1f, tl q1f, tl q1f, fr (r4 Heap.none), tl q1f, tl q1f, bF, bF, bF, fr (r10 Heap.none), bF, bF, bF, bF, bF, tt q16f, tt q16f, tt q16f, bF, tt q16f, bF, bF, bF, bF, tt q25, tt q25, tt q25, bF, tt q25, bF]) (h' := Heap.none) p62 a62 (by kernel_rfl) (by kernel_rfl) (by kernel_rfl) h0
          · replace h0 := h0.2 q22f
            exact ent_retA (fs := [fr (r0 Heap.none), tl q1f, tl q1f, tl q1f, fr (r4 Heap.none), tl q1f, tl q1f, bF, bF, bF, fr (r10 Heap.none), bF, bF, bF, bF, bF, tt q16f, tt q16f, tt q16f, bF, tt q16f, bF, bt (bne_iff_ne.mpr q22f), bt (bne_iff_ne.mpr q22f), bt (bne_iff_ne.mpr q22f), bt (bne_iff_ne.mpr q22f), bt (bne_iff_ne.mpr q22f)]) (h' := Heap.none) p62 a62 (by kernel_rfl) (by kernel_rfl) (by kernel_rfl) h0
        · replace h0 := h0.2 q16f
          rcases icase n4 2 with q25f | q25f
          · replace h0 := h0.1 q25f
            exact ent_retA (fs := [fr (r0 Heap.none), tl q1f, tl q1f, tl q1f, fr (r4 Heap.none), tl q1f, tl q1f, bF, bF, bF, fr (r10 Heap.none), bF, bF, bF, bF, bF, tl q16f, tl q16f, tl q16f, bF, tl q16f, bF, bF, bF, bF, tt q25f, tt q25f, tt q25f, bF, tt q25f, bF]) (h' := Heap.none) p62 a62 (by kernel_rfl) (by kernel_rfl) (by kernel_rfl) h0
          · replace h0 := h0.2 q25f
            exact ent_retA (fs := [fr (r0 Heap.none), tl q1f, tl q1f, tl q1f, fr (r4 Heap.none), tl q1f, tl q1f, bF, bF, bF, fr (r10 Heap.none), bF, bF, bF, bF, bF, tl q16f, tl q16f, tl q16f, bF, tl q16f, bF, bF, bF, bF, tl q25f, tl q25f, tl q25f, bF, tl q25f, bF]) (h' := Heap.none) p62 a62 (by kernel_rfl) (by kernel_rfl) (by kernel_rfl) h0
      · replace h0 := h0.2 e
        subst e
        exact ent_retA (fs := [fr (r0 Heap.none), tl q1f, tl q1f, tl q1f, fr (r4 Heap.none), tl q1f, tl q1f, bF, bF, bF, fr (r10 Heap.none), bF, bF, bT, bT, bT, bT, bT, bT, bT, bT, bT, bT]) (h' := Heap.none) p62 a62 (by kernel_rfl) (by kernel_rfl) (by kernel_rfl) h0
    · replace h0 := h0.2 e
      subst e
      exact ent_retA (fs := [fr (r0 Heap.none), tl q1f, tl q1f, tl q1f, fr (r4 Heap.none), tl q1f, tl q1f, bT, bT, bT, bT, bT, bT, bT, bT, bT, bT, bT, bT, bT, bT, bT]) (h' := Heap.none) p62 a62 (by kernel_rfl) (by kernel_rfl) (by kernel_rfl) h0

/- slices.IndexFunc[[]int,int] -/
noncomputable abbrev PF63 := Tryz.f74

noncomputable def f63_K1 : List It := [.lp (cdAt (codeOf PF63) [1, 0, 1, 0, 0]), .blk 0, .c (cdAt (codeOf PF63) [1, 1])]

noncomputable def f63_S1 (p1_1 : List D) (p1_2 : Nat) (p1_3 : Int) (p1_4 : Int) : St :=
  { nt := 19, tm := [(0, .d (.slice 0 p1_1)), (1, .fn (.func p1_2) [] []), (7, vI p1_3), (8, vI p1_4)], lo := [], hp := Heap.none }

theorem p63 : AA.prim F63 = none := by kernel_rfl
theorem a63 : AA.alone F63 = true := by kernel_rfl

theorem w63 {l1 : List D} {f2 : Nat} {Q : V → Prop}
    (h0 : Wl PP AA F63 f63_K1 (f63_S1 l1 f2 (((l1.length : Nat) : Int)) 0) (QAl Q)) :
    Wa PP AA F63 [.d (.slice 0 l1), .fn (.func f2) [] []] Q := by
  exact ent_atA (fs := []) p63 a63 (by kernel_rfl) (by kernel_rfl) h0

theorem w63_1 {p1_1 : List D} {p1_2 : Nat} {p1_3 : Int} {p1_4 : Int} {Q : V → Prop}
    (h0 : ((p1_4 < p1_3 → ((0 : Int) ≤ p1_4 ∧ (∃ (nr11 : Int), p1_1[(Int.toNat p1_4)]? = some (dI nr11) ∧ (Wa PP AA p1_2 [vI nr11] fun v => ∃ (br12 : Bool), v = vBool br12 ∧ ((br12 = true → Q (vI p1_4)) ∧ (br12 = false → Wl PP AA F63 f63_K1 (f63_S1 p1_1 p1_2 p1_3 ((W (p1_4 + 1)))) (QAl Q))))))) ∧ (p1_3 ≤ p1_4 → Q (vI (-1))))) :
    Wl PP AA F63 f63_K1 (f63_S1 p1_1 p1_2 p1_3 p1_4) (QAl Q) := by
  rcases icase p1_4 p1_3 with q0f | q0f
  · replace h0 := h0.1 q0f
    obtain ⟨q1, h0⟩ := h0
    obtain ⟨nr11, q2, h0⟩ := h0
    obtain ⟨v, r3, br12, e, h0⟩ := h0
    subst e
    rcases bcase br12 with e | e
    · replace h0 := h0.1 e
      subst e
      exact lp_ret (fs := [tt q0f, rd q1, fd q2, fr (r3 Heap.none), bT]) (h' := Heap.none) (by kernel_rfl) ⟨by kernel_rfl, h0⟩
    · replace h0 := h0.2 e
      subst e
      exact lp_at (fs := [tt q0f, rd q1, fd q2, fr (r3 Heap.none), bF]) (by kernel_rfl) h0
  · replace h0 := h0.2 q0f
    exact lp_ret (fs := [tl q0f]) (h' := Heap.none) (by kernel_rfl) ⟨by kernel_rfl, h0⟩

/- slices.IndexFunc[[]string,string] -/
noncomputable abbrev PF64 := Tryz.f75

noncomputable def f64_K1 : List It := [.lp (cdAt (codeOf PF64) [1, 0, 1, 0, 0]), .blk 0, .c (cdAt (codeOf PF64) [1, 1])]

noncomputable def f64_S1 (p1_1 : List D) (p1_2 : Nat) (p1_3 : Int) (p1_4 : Int) : St :=
  { nt := 19, tm := [(0, .d (.slice 0 p1_1)), (1, .fn (.func p1_2) [] []), (7, vI p1_3), (8, vI p1_4)], lo := [], hp := Heap.none }

theorem p64 : AA.prim F64 = none := by kernel_rfl
theorem a64 : AA.alone F64 = true := by kernel_rfl

theorem w64 {l1 : List D} {f2 : Nat} {Q : V → Prop}
    (h0 : Wl PP AA F64 f64_K1 (f64_S1 l1 f2 (((l1.length : Nat) : Int)) 0) (QAl Q)) :
    Wa PP AA F64 [.d (.slice 0 l1), .fn (.func f2) [] []] Q := by
  exact ent_atA (fs := []) p64 a64 (by kernel_rfl) (by kernel_rfl) h0

theorem w64_1 {p1_1 : List D} {p1_2 : Nat} {p1_3 : Int} {p1_4 : Int} {Q : V → Prop}
    (h0 : ((p1_4 < p1_3 → ((0 : Int) ≤ p1_4 ∧ (∃ (sr11 : ByteArray), p1_1[(Int.toNat p1_4)]? = some (dS sr11) ∧ (Wa PP AA p1_2 [.d (dS sr11)] fun v => ∃ (br12 : Bool), v = vBool br12 ∧ ((br12 = true → Q (vI p1_4)) ∧ (br12 = false → Wl PP AA F64 f64_K1 (f64_S1 p1_1 p1_2 p1_3 ((W (p1_4 + 1)))) (QAl Q))))))) ∧ (p1_3 ≤ p1_4 → Q (vI (-1))))) :
    Wl PP AA F64 f64_K1 (f64_S1 p1_1 p1_2 p1_3 p1_4) (QAl Q) := by
  rcases icase p1_4 p1_3 with q0f | q0f
  · replace h0 := h0.1 q0f
    obtain ⟨q1, h0⟩ := h0
    obtain ⟨sr11, q2, h0⟩ := h0
    obtain ⟨v, r3, br12, e, h0⟩ := h0
    subst e
    rcases bcase br12 with e | e
    · replace h0 := h0.1 e
      subst e
      exact lp_ret (fs := [tt q0f, rd q1, fd q2, fr (r3 Heap.none), bT]) (h' := Heap.none) (by kernel_rfl) ⟨by kernel_rfl, h0⟩
    · replace h0 := h0.2 e
      subst e
      exact lp_at (fs := [tt q0f, rd q1, fd q2, fr (r3 Heap.none), bF]) (by kernel_rfl) h0
  · replace h0 := h0.2 q0f
    exact lp_ret (fs := [tl q0f]) (h' := Heap.none) (by kernel_rfl) ⟨by kernel_rfl, h0⟩

/- (selvage/verify.state).base -/
noncomputable abbrev PF66 := Tryz.f77

theorem p66 : AA.prim F66 = none := by kernel_rfl
theorem a66 : AA.alone F66 = true := by kernel_rfl

theorem w66 {n1 : Int} {l2 : List D} {Q : V → Prop}
    (h0 : (((0 : Int) < ((l2.length : Nat) : Int) → ((0 : Int) ≤ (W (((l2.length : Nat) : Int) - 1)) ∧ (∃ (n3 : Int) (n4 : Int), l2[(Int.toNat ((W (((l2.length : Nat) : Int) - 1))))]? = some (.agg [dI n3, dI n4]) ∧ Q (vI n4)))) ∧ (((l2.length : Nat) : Int) ≤ 0 → Q (vI 0)))) :
    Wa PP AA F66 [.s 2 (.agg [dI n1, .slice 2 l2])] Q := by
  rcases icase 0 (((l2.length : Nat) : Int)) with q0f | q0f
  · replace h0 := h0.1 q0f
    obtain ⟨q1, h0⟩ := h0
    obtain ⟨n3, n4, q2, h0⟩ := h0
    exact ent_retA (fs := [tt q0f, rd q1, fd q2]) (h' := Heap.none) p66 a66 (by kernel_rfl) (by kernel_rfl) (by kernel_rfl) h0
  · replace h0 := h0.2 q0f
    exact ent_retA (fs := [tl q0f]) (h' := Heap.none) p66 a66 (by kernel_rfl) (by kernel_rfl) (by kernel_rfl) h0

/- (selvage/verify.state).moved -/
noncomputable abbrev PF67 := Tryz.f78

theorem p67 : AA.prim F67 = none := by kernel_rfl
theorem a67 : AA.alone F67 = true := by kernel_rfl

theorem w67 {n1 : Int} {l2 : List D} {n3 : Int} {Q : V → Prop}
    (h0 : Q (.s 2 (.agg [dI (W (n1 + n3)), .slice 2 l2]))) :
    Wa PP AA F67 [.s 2 (.agg [dI n1, .slice 2 l2]), vI n3] Q := by
  exact ent_retA (fs := []) (h' := Heap.none) p67 a67 (by kernel_rfl) (by kernel_rfl) (by kernel_rfl) h0

/- (selvage/verify.state).with -/
noncomputable abbrev PF68 := Tryz.f79

theorem p68 : AA.prim F68 = none := by kernel_rfl
theorem a68 : AA.alone F68 = true := by kernel_rfl

theorem w68 {n1 : Int} {l2 : List D} {n3 : Int} {Q : V → Prop}
    (h0 : ((Int.toNat (((l2.length : Nat) : Int))) ≤ l2.length ∧ (0 ≤ (Int.toNat (((l2.length : Nat) : Int))) ∧ ((((((l2).take ((Int.toNat (((l2.length : Nat) : Int))))).drop 0) ++ [.agg [dI n3, dI n1]]) : List D).length ≤ 274877906944 ∧ (hpAt (Heap.push Heap.none (.darr 0 2 (((((l2).take ((Int.toNat (((l2.length : Nat) : Int))))).drop 0) ++ [.agg [dI n3, dI n1]])))) 0 0 = some (.darr 0 2 (((((l2).take ((Int.toNat (((l2.length : Nat) : Int))))).drop 0) ++ [.agg [dI n3, dI n1]]))) ∧ Q (.s 2 (.agg [dI n1, .slice 2 (((((l2).take ((Int.toNat (((l2.length : Nat) : Int))))).drop 0) ++ [.agg [dI n3, dI n1]]))]))))))) :
    Wa PP AA F68 [.s 2 (.agg [dI n1, .slice 2 l2]), vI n3] Q := by
  have q0 : (0 : Int) ≤ ((l2.length : Nat) : Int) := by omega
  obtain ⟨q1a, h0⟩ := h0
  obtain ⟨q1b, h0⟩ := h0
  obtain ⟨q4, h0⟩ := h0
  obtain ⟨q5, h0⟩ := h0
  exact ent_retA (fs := [rd q0, rt (andT (Nat.ble_eq_true_of_le q1a) (Nat.ble_eq_true_of_le q1b)), rd q0, rt (andT (nbeq_refl ((Int.toNat (((l2.length : Nat) : Int))))) rfl), rt (Nat.ble_eq_true_of_le q4), fo q5, fo q5, rq]) (h' := (Heap.put (Heap.push Heap.none (.darr 0 2 (((((l2).take ((Int.toNat (((l2.length : Nat) : Int))))).drop 0) ++ [.agg [dI n3, dI n1]])))) 0 none)) p68 a68 (by kernel_rfl) (by kernel_rfl) (by kernel_rfl) h0

/- slices.ContainsFunc[[]selvage/verify.mark,selvage/verify.mark] -/
noncomputable abbrev PF69 := Tryz.f80

theorem p69 : AA.prim F69 = none := by kernel_rfl
theorem a69 : AA.alone F69 = true := by kernel_rfl

theorem w69 {l1 : List D} {f2 : Nat} {Q : V → Prop}
    (h0 : (Wa PP AA F90 [.d (.slice 2 l1), .fn (.func f2) [] []] fun v => ∃ (n3 : Int), v = vI n3 ∧ Q (vBool (decide (n3 ≥ 0))))) :
    Wa PP AA F69 [.d (.slice 2 l1), .fn (.func f2) [] []] Q := by
  obtain ⟨v, r0, n3, e, h0⟩ := h0
  subst e
  exact ent_retA (fs := [fr (r0 Heap.none)]) (h' := Heap.none) p69 a69 (by kernel_rfl) (by kernel_rfl) (by kernel_rfl) h0

/- (*selvage/verify.walker).next$1 -/
noncomputable abbrev PF70 := Tryz.f81

theorem p70 : AA.prim F70 = none := by kernel_rfl
theorem a70 : AA.alone F70 = true := by kernel_rfl

theorem w70 {n1 : Int} {n2 : Int} {Q : V → Prop}
    (h0 : Q (vBool ((n1 : Int) == 26))) :
    Wa PP AA F70 [.s 2 (.agg [dI n1, dI n2])] Q := by
  exact ent_retA (fs := []) (h' := Heap.none) p70 a70 (by kernel_rfl) (by kernel_rfl) (by kernel_rfl) h0

/- (selvage/verify.state).without -/
noncomputable abbrev PF71 := Tryz.f82

theorem p71 : AA.prim F71 = none := by kernel_rfl
theorem a71 : AA.alone F71 = true := by kernel_rfl

theorem w71 {n1 : Int} {l2 : List D} {n3 : Int} {Q : V → Prop}
    (h0 : (((W (((l2.length : Nat) : Int) - 1)) < 0 → Q (.tuple [.s 2 (.agg [dI n1, .slice 2 l2]), vBool false])) ∧ ((0 : Int) ≤ (W (((l2.length : Nat) : Int) - 1)) → (∃ (n4 : Int) (n5 : Int), l2[(Int.toNat ((W (((l2.length : Nat) : Int) - 1))))]? = some (.agg [dI n4, dI n5]) ∧ ((n4 = n3 → ((Int.toNat ((W (((l2.length : Nat) : Int) - 1)))) ≤ l2.length ∧ (0 ≤ (Int.toNat ((W (((l2.length : Nat) : Int) - 1)))) ∧ Q (.tuple [.s 2 (.agg [dI n1, .slice 2 ((((l2).take ((Int.toNat ((W (((l2.length : Nat) : Int) - 1)))))).drop 0))]), vBool true])))) ∧ (n4 ≠ n3 → Q (.tuple [.s 2 (.agg [dI n1, .slice 2 l2]), vBool false]))))))) :
    Wa PP AA F71 [.s 2 (.agg [dI n1, .slice 2 l2]), vI n3] Q := by
  rcases icase ((W (((l2.length : Nat) : Int) - 1))) 0 with q0f | q0f
  · replace h0 := h0.1 q0f
    exact ent_retA (fs := [tt q0f, tt q0f, tt q0f, tt q0f, tt q0f, tt q0f, tt q0f, tt q0f, tt q0f, bT]) (h' := Heap.none) p71 a71 (by kernel_rfl) (by kernel_rfl) (by kernel_rfl) h0
  · replace h0 := h0.2 q0f
    obtain ⟨n4, n5, q5, h0⟩ := h0
    rcases Classical.em ((n4 : Int) = n3) with q11f | q11f
    · replace h0 := h0.1 q11f
      obtain ⟨q13a, h0⟩ := h0
      obtain ⟨q13b, h0⟩ := h0
      exact ent_retA (fs := [tl q0f, tl q0f, tl q0f, tl q0f, rd q0f, fd q5, tl q0f, tl q0f, tl q0f, tl q0f, tl q0f, bf (bne_eq_false_iff_eq.mpr q11f), rd q0f, rt (andT (Nat.ble_eq_true_of_le q13a) (Nat.ble_eq_true_of_le q13b))]) (h' := Heap.none) p71 a71 (by kernel_rfl) (by kernel_rfl) (by kernel_rfl) h0
    · replace h0 := h0.2 q11f
      exact ent_retA (fs := [tl q0f, tl q0f, tl q0f, tl q0f, rd q0f, fd q5, tl q0f, tl q0f, tl q0f, tl q0f, tl q0f, bt (bne_iff_ne.mpr q11f)]) (h' := Heap.none) p71 a71 (by kernel_rfl) (by kernel_rfl) (by kernel_rfl) h0

/- slices.Equal[[]selvage/verify.mark,selvage/verify.mark] -/
noncomputable abbrev PF72 := Tryz.f83

noncomputable def f72_K1 : List It := [.lp (cdAt (codeOf PF72) [1, 1, 0, 1, 0, 0]), .blk 0, .c (cdAt (codeOf PF72) [1, 1, 1])]

noncomputable def f72_S1 (p1_1 : List D) (p1_2 : List D) (p1_3 : Int) (p1_4 : Int) : St :=
  { nt := 26, tm := [(0, .d (.slice 2 p1_1)), (1, .d (.slice 2 p1_2)), (12, vI p1_3), (13, vI p1_4)], lo := [], hp := Heap.none }

theorem p72 : AA.prim F72 = none := by kernel_rfl
theorem a72 : AA.alone F72 = true := by kernel_rfl

theorem w72 {l1 : List D} {l2 : List D} {Q : V → Prop}
    (h0 : ((((l1.length : Nat) : Int) = ((l2.length : Nat) : Int) → Wl PP AA F72 f72_K1 (f72_S1 l1 l2 (((l1.length : Nat) : Int)) 0) (QAl Q)) ∧ (((l1.length : Nat) : Int) ≠ ((l2.length : Nat) : Int) → Q (vBool false)))) :
    Wa PP AA F72 [.d (.slice 2 l1), .d (.slice 2 l2)] Q := by
  rcases Classical.em ((((l1.length : Nat) : Int) : Int) = ((l2.length : Nat) : Int)) with q0f | q0f
  · replace h0 := h0.1 q0f
    exact ent_atA (fs := [bf (bne_eq_false_iff_eq.mpr q0f)]) p72 a72 (by kernel_rfl) (by kernel_rfl) h0
  · replace h0 := h0.2 q0f
    exact ent_retA (fs := [bt (bne_iff_ne.mpr q0f)]) (h' := Heap.none) p72 a72 (by kernel_rfl) (by kernel_rfl) (by kernel_rfl) h0

theorem w72_1 {p1_1 : List D} {p1_2 : List D} {p1_3 : Int} {p1_4 : Int} {Q : V → Prop}
    (h0 : ((p1_4 < p1_3 → ((0 : Int) ≤ p1_4 ∧ (∃ (nr11 : Int) (nr12 : Int), p1_1[(Int.toNat p1_4)]? = some (.agg [dI nr11, dI nr12]) ∧ (∃ (nr13 : Int) (nr14 : Int), p1_2[(Int.toNat p1_4)]? = some (.agg [dI nr13, dI nr14]) ∧ ((nr11 = nr13 → ((nr12 = nr14 → Wl PP AA F72 f72_K1 (f72_S1 p1_1 p1_2 p1_3 ((W (p1_4 + 1)))) (QAl Q)) ∧ (nr12 ≠ nr14 → Q (vBool false)))) ∧ (nr11 ≠ nr13 → Q (vBool false))))))) ∧ (p1_3 ≤ p1_4 → Q (vBool true)))) :
    Wl PP AA F72 f72_K1 (f72_S1 p1_1 p1_2 p1_3 p1_4) (QAl Q) := by
  rcases icase p1_4 p1_3 with q0f | q0f
  · replace h0 := h0.1 q0f
    obtain ⟨q1, h0⟩ := h0
    obtain ⟨nr11, nr12, q2, h0⟩ := h0
    obtain ⟨nr13, nr14, q4, h0⟩ := h0
    rcases Classical.em ((nr11 : Int) = nr13) with q5af | q5af
    · replace h0 := h0.1 q5af
      rcases Classical.em ((nr12 : Int) = nr14) with q5baf | q5baf
      · replace h0 := h0.1 q5baf
        exact lp_at (fs := [tt q0f, rd q1, fd q2, rd q1, fd q4, bf (congrArg not (andT (beq_iff_eq.mpr q5af) (andT (beq_iff_eq.mpr q5baf) rfl)))]) (by kernel_rfl) h0
      · replace h0 := h0.2 q5baf
        exact lp_ret (fs := [tt q0f, rd q1, fd q2, rd q1, fd q4, bt (congrArg not (andF2 (a := ((nr11 : Int) == nr13)) (andF1 (b := true) (beq_eq_false_iff_ne.mpr q5baf))))]) (h' := Heap.none) (by kernel_rfl) ⟨by kernel_rfl, h0⟩
    · replace h0 := h0.2 q5af
      exact lp_ret (fs := [tt q0f, rd q1, fd q2, rd q1, fd q4, bt (congrArg not (andF1 (b := (((nr12 : Int) == nr14) && true)) (beq_eq_false_iff_ne.mpr q5af)))]) (h' := Heap.none) (by kernel_rfl) ⟨by kernel_rfl, h0⟩
  · replace h0 := h0.2 q0f
    exact lp_ret (fs := [tl q0f]) (h' := Heap.none) (by kernel_rfl) ⟨by kernel_rfl, h0⟩

/- selvage/selvageref14.same -/
noncomputable abbrev PF73 := Tryz.f106

noncomputable def f73_K1 : List It := [.lp (cdAt (codeOf PF73) [1, 1, 0, 1, 0, 0]), .blk 0, .c (cdAt (codeOf PF73) [1, 1, 1])]

noncomputable def f73_S1 (p1_1 : Bool) (p1_2 : Int) (p1_3 : List D) (p1_4 : Bool) (p1_5 : Int) (p1_6 : List D) (p1_7 : Int) : St :=
  { nt := 38, tm := [(2, .bp (.s 3 (.agg [dB p1_1, dI p1_2, .slice 2 p1_3])) 3 0), (3, .bp (.s 3 (.agg [dB p1_4, dI p1_5, .slice 2 p1_6])) 3 0), (5, vI p1_7)], lo := [], hp := Heap.none }

theorem p73 : AA.prim F73 = none := by kernel_rfl
theorem a73 : AA.alone F73 = true := by kernel_rfl

theorem w73 {b1 : Bool} {n2 : Int} {l3 : List D} {b4 : Bool} {n5 : Int} {l6 : List D} {Q : V → Prop}
    (h0 : ((n2 = n5 → ((((l3.length : Nat) : Int) = ((l6.length : Nat) : Int) → Wl PP AA F73 f73_K1 (f73_S1 b1 n2 l3 b4 n5 l6 0) (QAl Q)) ∧ (((l3.length : Nat) : Int) ≠ ((l6.length : Nat) : Int) → Q (vBool false)))) ∧ (n2 ≠ n5 → Q (vBool false)))) :
    Wa PP AA F73 [.s 3 (.agg [dB b1, dI n2, .slice 2 l3]), .s 3 (.agg [dB b4, dI n5, .slice 2 l6])] Q := by
  rcases Classical.em ((n2 : Int) = n5) with q0f | q0f
  · replace h0 := h0.1 q0f
    rcases Classical.em ((((l3.length : Nat) : Int) : Int) = ((l6.length : Nat) : Int)) with q8f | q8f
    · replace h0 := h0.1 q8f
      exact ent_atA (fs := [bf (bne_eq_false_iff_eq.mpr q0f), bf (bne_eq_false_iff_eq.mpr q0f), bf (bne_eq_false_iff_eq.mpr q0f), bf (bne_eq_false_iff_eq.mpr q0f), bf (bne_eq_false_iff_eq.mpr q0f), bf (bne_eq_false_iff_eq.mpr q0f), bf (bne_eq_false_iff_eq.mpr q0f), bf (bne_eq_false_iff_eq.mpr q0f), bf (bne_eq_false_iff_eq.mpr q8f)]) p73 a73 (by kernel_rfl) (by kernel_rfl) h0
    · replace h0 := h0.2 q8f
      exact ent_retA (fs := [bf (bne_eq_false_iff_eq.mpr q0f), bf (bne_eq_false_iff_eq.mpr q0f), bf (bne_eq_false_iff_eq.mpr q0f), bf (bne_eq_false_iff_eq.mpr q0f), bf (bne_eq_false_iff_eq.mpr q0f), bf (bne_eq_false_iff_eq.mpr q0f), bf (bne_eq_false_iff_eq.mpr q0f), bf (bne_eq_false_iff_eq.mpr q0f), bt (bne_iff_ne.mpr q8f)]) (h' := Heap.none) p73 a73 (by kernel_rfl) (by kernel_rfl) (by kernel_rfl) h0
  · replace h0 := h0.2 q0f
    exact ent_retA (fs := [bt (bne_iff_ne.mpr q0f), bt (bne_iff_ne.mpr q0f), bt (bne_iff_ne.mpr q0f), bt (bne_iff_ne.mpr q0f), bt (bne_iff_ne.mpr q0f), bt (bne_iff_ne.mpr q0f), bt (bne_iff_ne.mpr q0f), bt (bne_iff_ne.mpr q0f), bT]) (h' := Heap.none) p73 a73 (by kernel_rfl) (by kernel_rfl) (by kernel_rfl) h0

theorem w73_1 {p1_1 : Bool} {p1_2 : Int} {p1_3 : List D} {p1_4 : Bool} {p1_5 : Int} {p1_6 : List D} {p1_7 : Int} {Q : V → Prop}
    (h0 : ((p1_7 < ((p1_3.length : Nat) : Int) → ((0 : Int) ≤ p1_7 ∧ (∃ (nr11 : Int) (nr12 : Int), p1_3[(Int.toNat p1_7)]? = some (.agg [dI nr11, dI nr12]) ∧ (∃ (nr13 : Int) (nr14 : Int), p1_6[(Int.toNat p1_7)]? = some (.agg [dI nr13, dI nr14]) ∧ ((nr11 = nr13 → ((nr12 = nr14 → Wl PP AA F73 f73_K1 (f73_S1 p1_1 p1_2 p1_3 p1_4 p1_5 p1_6 ((W (p1_7 + 1)))) (QAl Q)) ∧ (nr12 ≠ nr14 → Q (vBool false)))) ∧ (nr11 ≠ nr13 → Q (vBool false))))))) ∧ (((p1_3.length : Nat) : Int) ≤ p1_7 → Q (vBool true)))) :
    Wl PP AA F73 f73_K1 (f73_S1 p1_1 p1_2 p1_3 p1_4 p1_5 p1_6 p1_7) (QAl Q) := by
  rcases icase p1_7 (((p1_3.length : Nat) : Int)) with q0f | q0f
  · replace h0 := h0.1 q0f
    obtain ⟨q1, h0⟩ := h0
    obtain ⟨nr11, nr12, q2, h0⟩ := h0
    obtain ⟨nr13, nr14, q4, h0⟩ := h0
    rcases Classical.em ((nr11 : Int) = nr13) with q5af | q5af
    · replace h0 := h0.1 q5af
      rcases Classical.em ((nr12 : Int) = nr14) with q5baf | q5baf
      · replace h0 := h0.1 q5baf
        exact lp_at (fs := [tt q0f, rd q1, fd q2, rd q1, fd q4, bf (congrArg not (andT (beq_iff_eq.mpr q5af) (andT (beq_iff_eq.mpr q5baf) rfl)))]) (by kernel_rfl) h0
      · replace h0 := h0.2 q5baf
        exact lp_ret (fs := [tt q0f, rd q1, fd q2, rd q1, fd q4, bt (congrArg not (andF2 (a := ((nr11 : Int) == nr13)) (andF1 (b := true) (beq_eq_false_iff_ne.mpr q5baf))))]) (h' := Heap.none) (by kernel_rfl) ⟨by kernel_rfl, h0⟩
    · replace h0 := h0.2 q5af
      exact lp_ret (fs := [tt q0f, rd q1, fd q2, rd q1, fd q4, bt (congrArg not (andF1 (b := (((nr12 : Int) == nr14) && true)) (beq_eq_false_iff_ne.mpr q5af)))]) (h' := Heap.none) (by kernel_rfl) ⟨by kernel_rfl, h0⟩
  · replace h0 := h0.2 q0f
    exact lp_ret (fs := [tl q0f]) (h' := Heap.none) (by kernel_rfl) ⟨by kernel_rfl, h0⟩

/- (*selvage/gen.writer).tag -/
noncomputable abbrev PF74 := Tryz.f89

theorem p74 : AA.prim F74 = none := by kernel_rfl
theorem a74 : AA.alone F74 = false := by kernel_rfl

theorem w74 {i1 : Nat} {s2 : ByteArray} {n3 : Int} {n4 : Int} {l5 : List D} {l6 : List D} {l7 : List D} {h8 : Heap} {Q : V → Heap → Prop}
    (h0 : (∃ (i9 : Nat) (c10 : Nat) (g11 : Nat), hpAt h8 i1 0 = some (.var (.agg [.ptr (.he i9 0) 0 3 0, .sl (.he c10 g11) 3 none])) ∧ (∃ (l12 : List D) (c13 : Nat) (g14 : Nat) (c15 : Nat) (g16 : Nat), hpAt h8 i9 0 = some (.var (.agg [.d (.slice 5 l12), .sl (.he c13 g14) 0 none, .sl (.he c15 g16) 0 none])) ∧ (Wa PP AA F91 [.d (.slice 5 l12), .fn (.func F92) [] [.bp (.s 6 (.agg [dS s2, dI n3, dI n4, .slice 0 l5, .slice 6 l6, .slice 4 l7])) 6 0]] fun v => ∃ (n17 : Int), v = vI n17 ∧ ((n17 < 0 → Q (vI n3) h8) ∧ ((0 : Int) ≤ n17 → (∃ (s18 : ByteArray) (s19 : ByteArray) (n20 : Int) (n21 : Int) (n22 : Int), l12[(Int.toNat n17)]? = some (.agg [dS s18, dS s19, dI n20, dI n21, dI n22]) ∧ Q (vI n20) h8))))))) :
    Wc PP AA F74 [.ptr (.he i1 0) 0 2 0, .s 6 (.agg [dS s2, dI n3, dI n4, .slice 0 l5, .slice 6 l6, .slice 4 l7])] h8 Q := by
  obtain ⟨i9, c10, g11, q0, h0⟩ := h0
  obtain ⟨l12, c13, g14, c15, g16, q1, h0⟩ := h0
  obtain ⟨v, r2, n17, e, h0⟩ := h0
  subst e
  rcases icase n17 0 with q3f | q3f
  · replace h0 := h0.1 q3f
    exact ent_ret (fs := [fo q0, fo q1, fr (r2 h8), tt q3f]) p74 a74 (by kernel_rfl) h0
  · replace h0 := h0.2 q3f
    obtain ⟨s18, s19, n20, n21, n22, q7, h0⟩ := h0
    exact ent_ret (fs := [fo q0, fo q1, fr (r2 h8), tl q3f, fo q0, fo q1, rd q3f, fd q7]) p74 a74 (by kernel_rfl) h0

/- selvage/code.Uses -/
noncomputable abbrev PF77 := Tryz.f92

theorem p77 : AA.prim F77 = none := by kernel_rfl
theorem a77 : AA.alone F77 = true := by kernel_rfl

theorem w77 {n1 : Int} {Q : V → Prop}
    (h0 : ((n1 = 10 → Q (vI 2)) ∧ (n1 ≠ 10 → ((n1 = 11 → Q (vI 2)) ∧ (n1 ≠ 11 → ((n1 = 18 → Q (vI 2)) ∧ (n1 ≠ 18 → ((n1 = 1 → Q (vI 1)) ∧ (n1 ≠ 1 → ((n1 = 2 → Q (vI 1)) ∧ (n1 ≠ 2 → ((n1 = 3 → Q (vI 1)) ∧ (n1 ≠ 3 → ((n1 = 4 → Q (vI 1)) ∧ (n1 ≠ 4 → ((n1 = 6 → Q (vI 1)) ∧ (n1 ≠ 6 → ((n1 = 7 → Q (vI 1)) ∧ (n1 ≠ 7 → ((n1 = 8 → Q (vI 1)) ∧ (n1 ≠ 8 → ((n1 = 12 → Q (vI 1)) ∧ (n1 ≠ 12 → ((n1 = 16 → Q (vI 1)) ∧ (n1 ≠ 16 → ((n1 = 17 → Q (vI 1)) ∧ (n1 ≠ 17 → ((n1 = 19 → Q (vI 1)) ∧ (n1 ≠ 19 → ((n1 = 21 → Q (vI 1)) ∧ (n1 ≠ 21 → ((n1 = 28 → Q (vI 1)) ∧ (n1 ≠ 28 → ((n1 < 1 → Q (vI (-1))) ∧ ((1 : Int) ≤ n1 → (((33 : Int) < n1 → Q (vI (-1))) ∧ (n1 ≤ 33 → Q (vI 0)))))))))))))))))))))))))))))))))))))) :
    Wa PP AA F77 [vI n1] Q := by
  rcases Classical.em (n1 = 10) with e | q0f
  · replace h0 := h0.1 e
    subst e
    exact ent_retA (fs := [bT, bT]) (h' := Heap.none) p77 a77 (by kernel_rfl) (by kernel_rfl) (by kernel_rfl) h0
  · replace h0 := h0.2 q0f
    rcases Classical.em (n1 = 11) with e | q1f
    · replace h0 := h0.1 e
      subst e
      exact ent_retA (fs := [bF, bT, bT]) (h' := Heap.none) p77 a77 (by kernel_rfl) (by kernel_rfl) (by kernel_rfl) h0
    · replace h0 := h0.2 q1f
      rcases Classical.em (n1 = 18) with e | q2f
      · replace h0 := h0.1 e
        subst e
        exact ent_retA (fs := [bF, bF, bT]) (h' := Heap.none) p77 a77 (by kernel_rfl) (by kernel_rfl) (by kernel_rfl) h0
      · replace h0 := h0.2 q2f
        rcases Classical.em (n1 = 1) with e | q3f
        · replace h0 := h0.1 e
          subst e
          exact ent_retA (fs := [bF, bF, bF, bT, bT]) (h' := Heap.none) p77 a77 (by kernel_rfl) (by kernel_rfl) (by kernel_rfl) h0
        · replace h0 := h0.2 q3f
          rcases Classical.em (n1 = 2) with e | q4f
          · replace h0 := h0.1 e
            subst e
            exact ent_retA (fs := [bF, bF, bF, bF, bT, bT]) (h' := Heap.none) p77 a77 (by kernel_rfl) (by kernel_rfl) (by kernel_rfl) h0
          · replace h0 := h0.2 q4f
            rcases Classical.em (n1 = 3) with e | q5f
            · replace h0 := h0.1 e
              subst e
              exact ent_retA (fs := [bF, bF, bF, bF, bF, bT, bT]) (h' := Heap.none) p77 a77 (by kernel_rfl) (by kernel_rfl) (by kernel_rfl) h0
            · replace h0 := h0.2 q5f
              rcases Classical.em (n1 = 4) with e | q6f
              · replace h0 := h0.1 e
                subst e
                exact ent_retA (fs := [bF, bF, bF, bF, bF, bF, bT, bT]) (h' := Heap.none) p77 a77 (by kernel_rfl) (by kernel_rfl) (by kernel_rfl) h0
              · replace h0 := h0.2 q6f
                rcases Classical.em (n1 = 6) with e | q7f
                · replace h0 := h0.1 e
                  subst e
                  exact ent_retA (fs := [bF, bF, bF, bF, bF, bF, bF, bT, bT]) (h' := Heap.none) p77 a77 (by kernel_rfl) (by kernel_rfl) (by kernel_rfl) h0
                · replace h0 := h0.2 q7f
                  rcases Classical.em (n1 = 7) with e | q8f
                  · replace h0 := h0.1 e
                    subst e
                    exact ent_retA (fs := [bF, bF, bF, bF, bF, bF, bF, bF, bT, bT]) (h' := Heap.none) p77 a77 (by kernel_rfl) (by kernel_rfl) (by kernel_rfl) h0
                  · replace h0 := h0.2 q8f
                    rcases Classical.em (n1 = 8) with e | q9f
                    · replace h0 := h0.1 e
                      subst e
                      exact ent_retA (fs := [bF, bF, bF, bF, bF, bF, bF, bF, bF, bT, bT]) (h' := Heap.none) p77 a77 (by kernel_rfl) (by kernel_rfl) (by kernel_rfl) h0
                    · replace h0 := h0.2 q9f
                      rcases Classical.em (n1 = 12) with e | q10f
                      · replace h0 := h0.1 e
                        subst e
                        exact ent_retA (fs := [bF, bF, bF, bF, bF, bF, bF, bF, bF, bF, bT, bT]) (h' := Heap.none) p77 a77 (by kernel_rfl) (by kernel_rfl) (by kernel_rfl) h0
                      · replace h0 := h0.2 q10f
                        rcases Classical.em (n1 = 16) with e | q11f
                        · replace h0 := h0.1 e
                          subst e
                          exact ent_retA (fs := [bF, bF, bF, bF, bF, bF, bF, bF, bF, bF, bF, bT, bT]) (h' := Heap.none) p77 a77 (by kernel_rfl) (by kernel_rfl) (by kernel_rfl) h0
                        · replace h0 := h0.2 q11f
                          rcases Classical.em (n1 = 17) with e | q12f
                          · replace h0 := h0.1 e
                            subst e
                            exact ent_retA (fs := [bF, bF, bF, bF, bF, bF, bF, bF, bF, bF, bF, bF, bT, bT]) (h' := Heap.none) p77 a77 (by kernel_rfl) (by kernel_rfl) (by kernel_rfl) h0
                          · replace h0 := h0.2 q12f
                            rcases Classical.em (n1 = 19) with e | q13f
                            · replace h0 := h0.1 e
                              subst e
                              exact ent_retA (fs := [bF, bF, bF, bF, bF, bF, bF, bF, bF, bF, bF, bF, bF, bT, bT]) (h' := Heap.none) p77 a77 (by kernel_rfl) (by kernel_rfl) (by kernel_rfl) h0
                            · replace h0 := h0.2 q13f
                              rcases Classical.em (n1 = 21) with e | q14f
                              · replace h0 := h0.1 e
                                subst e
                                exact ent_retA (fs := [bF, bF, bF, bF, bF, bF, bF, bF, bF, bF, bF, bF, bF, bF, bT, bT]) (h' := Heap.none) p77 a77 (by kernel_rfl) (by kernel_rfl) (by kernel_rfl) h0
                              · replace h0 := h0.2 q14f
                                rcases Classical.em (n1 = 28) with e | q15f
                                · replace h0 := h0.1 e
                                  subst e
                                  exact ent_retA (fs := [bF, bF, bF, bF, bF, bF, bF, bF, bF, bF, bF, bF, bF, bF, bF, bT]) (h' := Heap.none) p77 a77 (by kernel_rfl) (by kernel_rfl) (by kernel_rfl) h0
                                · replace h0 := h0.2 q15f
                                  rcases icase n1 1 with q16f | q16f
                                  · replace h0 := h0.1 q16f
                                    exact ent_retA (fs := [bf (beq_eq_false_iff_ne.mpr q0f), bf (beq_eq_false_iff_ne.mpr q1f), bf (beq_eq_false_iff_ne.mpr q2f), bf (beq_eq_false_iff_ne.mpr q3f), bf (beq_eq_false_iff_ne.mpr q4f), bf (beq_eq_false_iff_ne.mpr q5f), bf (beq_eq_false_iff_ne.mpr q6f), bf (beq_eq_false_iff_ne.mpr q7f), bf (beq_eq_false_iff_ne.mpr q8f), bf (beq_eq_false_iff_ne.mpr q9f), bf (beq_eq_false_iff_ne.mpr q10f), bf (beq_eq_false_iff_ne.mpr q11f), bf (beq_eq_false_iff_ne.mpr q12f), bf (beq_eq_false_iff_ne.mpr q13f), bf (beq_eq_false_iff_ne.mpr q14f), bf (beq_eq_false_iff_ne.mpr q15f), tt q16f, tt q16f, tt q16f, bT]) (h' := Heap.none) p77 a77 (by kernel_rfl) (by kernel_rfl) (by kernel_rfl) h0
                                  · replace h0 := h0.2 q16f
                                    rcases icase 33 n1 with q19f | q19f
                                    · replace h0 := h0.1 q19f
                                      exact ent_retA (fs := [bf (beq_eq_false_iff_ne.mpr q0f), bf (beq_eq_false_iff_ne.mpr q1f), bf (beq_eq_false_iff_ne.mpr q2f), bf (beq_eq_false_iff_ne.mpr q3f), bf (beq_eq_false_iff_ne.mpr q4f), bf (beq_eq_false_iff_ne.mpr q5f), bf (beq_eq_false_iff_ne.mpr q6f), bf (beq_eq_false_iff_ne.mpr q7f), bf (beq_eq_false_iff_ne.mpr q8f), bf (beq_eq_false_iff_ne.mpr q9f), bf (beq_eq_false_iff_ne.mpr q10f), bf (beq_eq_false_iff_ne.mpr q11f), bf (beq_eq_false_iff_ne.mpr q12f), bf (beq_eq_false_iff_ne.mpr q13f), bf (beq_eq_false_iff_ne.mpr q14f), bf (beq_eq_false_iff_ne.mpr q15f), tl q16f, tl q16f, tl q16f, tt q19f]) (h' := Heap.none) p77 a77 (by kernel_rfl) (by kernel_rfl) (by kernel_rfl) h0
                                    · replace h0 := h0.2 q19f
                                      exact ent_retA (fs := [bf (beq_eq_false_iff_ne.mpr q0f), bf (beq_eq_false_iff_ne.mpr q1f), bf (beq_eq_false_iff_ne.mpr q2f), bf (beq_eq_false_iff_ne.mpr q3f), bf (beq_eq_false_iff_ne.mpr q4f), bf (beq_eq_false_iff_ne.mpr q5f), bf (beq_eq_false_iff_ne.mpr q6f), bf (beq_eq_false_iff_ne.mpr q7f), bf (beq_eq_false_iff_ne.mpr q8f), bf (beq_eq_false_iff_ne.mpr q9f), bf (beq_eq_false_iff_ne.mpr q10f), bf (beq_eq_false_iff_ne.mpr q11f), bf (beq_eq_false_iff_ne.mpr q12f), bf (beq_eq_false_iff_ne.mpr q13f), bf (beq_eq_false_iff_ne.mpr q14f), bf (beq_eq_false_iff_ne.mpr q15f), tl q16f, tl q16f, tl q16f, tl q19f]) (h' := Heap.none) p77 a77 (by kernel_rfl) (by kernel_rfl) (by kernel_rfl) h0

/- selvage/verify.rules$1 -/
noncomputable abbrev PF78 := Tryz.f93

theorem p78 : AA.prim F78 = none := by kernel_rfl
theorem a78 : AA.alone F78 = false := by kernel_rfl

theorem w78 {i1 : Nat} {h2 : Heap} {Q : V → Heap → Prop}
    (h0 : (∃ (l3 : List D) (l4 : List D) (l5 : List D) (n6 : Int) (n7 : Int) (n8 : Int) (n9 : Int) (n10 : Int) (l11 : List D), hpAt h2 i1 0 = some (.var (.s 9 (.agg [.slice 4 l3, .slice 0 l4, .slice 0 l5, dI n6, dI n7, dI n8, dI n9, dI n10, .slice 3 l11]))) ∧ Q (vI n9) h2)) :
    Wc PP AA F78 [.ptr (.he i1 0) 0 9 0] h2 Q := by
  obtain ⟨l3, l4, l5, n6, n7, n8, n9, n10, l11, q0, h0⟩ := h0
  exact ent_ret (fs := [fo q0]) p78 a78 (by kernel_rfl) h0

/- selvage/verify.rules$2 -/
noncomputable abbrev PF79 := Tryz.f94

theorem p79 : AA.prim F79 = none := by kernel_rfl
theorem a79 : AA.alone F79 = false := by kernel_rfl

theorem w79 {i1 : Nat} {h2 : Heap} {Q : V → Heap → Prop}
    (h0 : (∃ (l3 : List D) (l4 : List D) (l5 : List D) (n6 : Int) (n7 : Int) (n8 : Int) (n9 : Int) (n10 : Int) (l11 : List D), hpAt h2 i1 0 = some (.var (.s 9 (.agg [.slice 4 l3, .slice 0 l4, .slice 0 l5, dI n6, dI n7, dI n8, dI n9, dI n10, .slice 3 l11]))) ∧ Q (vI n6) h2)) :
    Wc PP AA F79 [.ptr (.he i1 0) 0 9 0] h2 Q := by
  obtain ⟨l3, l4, l5, n6, n7, n8, n9, n10, l11, q0, h0⟩ := h0
  exact ent_ret (fs := [fo q0]) p79 a79 (by kernel_rfl) h0

/- selvage/verify.rules$3 -/
noncomputable abbrev PF81 := Tryz.f96

theorem p81 : AA.prim F81 = none := by kernel_rfl
theorem a81 : AA.alone F81 = false := by kernel_rfl

theorem w81 {i1 : Nat} {h2 : Heap} {Q : V → Heap → Prop}
    (h0 : (∃ (l3 : List D) (l4 : List D) (l5 : List D) (n6 : Int) (n7 : Int) (n8 : Int) (n9 : Int) (n10 : Int) (l11 : List D), hpAt h2 i1 0 = some (.var (.s 9 (.agg [.slice 4 l3, .slice 0 l4, .slice 0 l5, dI n6, dI n7, dI n8, dI n9, dI n10, .slice 3 l11]))) ∧ Q (vI ((l4.length : Nat) : Int)) h2)) :
    Wc PP AA F81 [.ptr (.he i1 0) 0 9 0] h2 Q := by
  obtain ⟨l3, l4, l5, n6, n7, n8, n9, n10, l11, q0, h0⟩ := h0
  exact ent_ret (fs := [fo q0]) p81 a81 (by kernel_rfl) h0

/- selvage/verify.rules$4 -/
noncomputable abbrev PF82 := Tryz.f97

theorem p82 : AA.prim F82 = none := by kernel_rfl
theorem a82 : AA.alone F82 = false := by kernel_rfl

theorem w82 {i1 : Nat} {h2 : Heap} {Q : V → Heap → Prop}
    (h0 : (∃ (l3 : List D) (l4 : List D) (l5 : List D) (n6 : Int) (n7 : Int) (n8 : Int) (n9 : Int) (n10 : Int) (l11 : List D), hpAt h2 i1 0 = some (.var (.s 9 (.agg [.slice 4 l3, .slice 0 l4, .slice 0 l5, dI n6, dI n7, dI n8, dI n9, dI n10, .slice 3 l11]))) ∧ Q (vI ((l5.length : Nat) : Int)) h2)) :
    Wc PP AA F82 [.ptr (.he i1 0) 0 9 0] h2 Q := by
  obtain ⟨l3, l4, l5, n6, n7, n8, n9, n10, l11, q0, h0⟩ := h0
  exact ent_ret (fs := [fo q0]) p82 a82 (by kernel_rfl) h0

end Am

/- Rules, printed by sym.py. -/
namespace Am
open Go Go.Proofs
set_option maxRecDepth 100000
/- selvage/verify.rules$5 -/
noncomputable abbrev PF83 := Tryz.f98

theorem p83 : AA.prim F83 = none := by kernel_rfl
theorem a83 : AA.alone F83 = false := by kernel_rfl

theorem w83 {i1 : Nat} {h2 : Heap} {Q : V → Heap → Prop}
    (h0 : (∃ (l3 : List D) (l4 : List D) (l5 : List D) (n6 : Int) (n7 : Int) (n8 : Int) (n9 : Int) (n10 : Int) (l11 : List D), hpAt h2 i1 0 = some (.var (.s 9 (.agg [.slice 4 l3, .slice 0 l4, .slice 0 l5, dI n6, dI n7, dI n8, dI n9, dI n10, .slice 3 l11]))) ∧ Q (vI n8) h2)) :
    Wc PP AA F83 [.ptr (.he i1 0) 0 9 0] h2 Q := by
  obtain ⟨l3, l4, l5, n6, n7, n8, n9, n10, l11, q0, h0⟩ := h0
  exact ent_ret (fs := [fo q0]) p83 a83 (by kernel_rfl) h0

/- selvage/verify.rules$6 -/
noncomputable abbrev PF84 := Tryz.f99

theorem p84 : AA.prim F84 = none := by kernel_rfl
theorem a84 : AA.alone F84 = false := by kernel_rfl

theorem w84 {i1 : Nat} {n2 : Int} {n3 : Int} {n4 : Int} {h5 : Heap} {Q : V → Heap → Prop}
    (h0 : (∃ (l6 : List D) (l7 : List D) (l8 : List D) (n9 : Int) (n10 : Int) (n11 : Int) (n12 : Int) (n13 : Int) (l14 : List D), hpAt h5 i1 0 = some (.var (.s 9 (.agg [.slice 4 l6, .slice 0 l7, .slice 0 l8, dI n9, dI n10, dI n11, dI n12, dI n13, .slice 3 l14]))) ∧ Q (.tuple [vBool (decide (n10 > 0)), vI 0, vI 1]) h5)) :
    Wc PP AA F84 [.ptr (.he i1 0) 0 9 0, .s 3 (.agg [dI n2, dI n3, dI n4])] h5 Q := by
  obtain ⟨l6, l7, l8, n9, n10, n11, n12, n13, l14, q0, h0⟩ := h0
  exact ent_ret (fs := [fo q0]) p84 a84 (by kernel_rfl) h0

/- selvage/verify.rules$7 -/
noncomputable abbrev PF86 := Tryz.f101

theorem p86 : AA.prim F86 = none := by kernel_rfl
theorem a86 : AA.alone F86 = false := by kernel_rfl

theorem w86 {i1 : Nat} {n2 : Int} {n3 : Int} {n4 : Int} {h5 : Heap} {Q : V → Heap → Prop}
    (h0 : (((199 : Int) < n3 → Q (.tuple [vBool false, vI n4, vI 1]) h5) ∧ (n3 ≤ 199 → ((n4 < 1 → Q (.tuple [vBool false, vI n4, vI 1]) h5) ∧ ((1 : Int) ≤ n4 → Q (.tuple [vBool (decide (n4 ≤ 4)), vI n4, vI 1]) h5))))) :
    Wc PP AA F86 [.ptr (.he i1 0) 0 9 0, .s 3 (.agg [dI n2, dI n3, dI n4])] h5 Q := by
  rcases icase 199 n3 with q0f | q0f
  · replace h0 := h0.1 q0f
    exact ent_ret (fs := [tg q0f, tg q0f, tg q0f, tg q0f, bF, bF, bF, bF]) p86 a86 (by kernel_rfl) h0
  · replace h0 := h0.2 q0f
    rcases icase n4 1 with q4f | q4f
    · replace h0 := h0.1 q4f
      exact ent_ret (fs := [tt q0f, tt q0f, tt q0f, tt q0f, tg q4f, tg q4f, tg q4f, tg q4f]) p86 a86 (by kernel_rfl) h0
    · replace h0 := h0.2 q4f
      exact ent_ret (fs := [tt q0f, tt q0f, tt q0f, tt q0f, tt q4f, tt q4f, tt q4f, tt q4f]) p86 a86 (by kernel_rfl) h0

/- selvage/verify.rules$8 -/
noncomputable abbrev PF87 := Tryz.f102

theorem p87 : AA.prim F87 = none := by kernel_rfl
theorem a87 : AA.alone F87 = false := by kernel_rfl

theorem w87 {i1 : Nat} {n2 : Int} {n3 : Int} {n4 : Int} {h5 : Heap} {Q : V → Heap → Prop}
    (h0 : (((0 : Int) < n3 → (∃ (l6 : List D) (l7 : List D) (l8 : List D) (n9 : Int) (n10 : Int) (n11 : Int) (n12 : Int) (n13 : Int) (l14 : List D), hpAt h5 i1 0 = some (.var (.s 9 (.agg [.slice 4 l6, .slice 0 l7, .slice 0 l8, dI n9, dI n10, dI n11, dI n12, dI n13, .slice 3 l14]))) ∧ ((n3 < ((l6.length : Nat) : Int) → (∃ (n15 : Int) (n16 : Int) (n17 : Int) (l18 : List D), l6[(Int.toNat n3)]? = some (.agg [dI n15, dI n16, dI n17, .slice 3 l18]) ∧ Q (.tuple [vBool ((n15 : Int) == n4), vI n4, vI 1]) h5)) ∧ (((l6.length : Nat) : Int) ≤ n3 → Q (.tuple [vBool false, vI n4, vI 1]) h5)))) ∧ (n3 ≤ 0 → Q (.tuple [vBool false, vI n4, vI 1]) h5))) :
    Wc PP AA F87 [.ptr (.he i1 0) 0 9 0, .s 3 (.agg [dI n2, dI n3, dI n4])] h5 Q := by
  rcases icase 0 n3 with q0f | q0f
  · replace h0 := h0.1 q0f
    obtain ⟨l6, l7, l8, n9, n10, n11, n12, n13, l14, q7, h0⟩ := h0
    rcases icase n3 (((l6.length : Nat) : Int)) with q11f | q11f
    · replace h0 := h0.1 q11f
      have q20 : (0 : Int) ≤ n3 := by omega
      obtain ⟨n15, n16, n17, l18, q21, h0⟩ := h0
      exact ent_ret (fs := [tt q0f, tt q0f, tt q0f, tt q0f, tt q0f, tt q0f, tt q0f, fo q7, tt q0f, tt q0f, tt q0f, tt q11f, tt q11f, tt q11f, tt q11f, tt q11f, fo q7, tt q11f, tt q11f, tt q11f, rd q20, fd q21, tt q11f, tt q11f, tt q11f, tt q11f, tt q11f, tt q11f]) p87 a87 (by kernel_rfl) h0
    · replace h0 := h0.2 q11f
      exact ent_ret (fs := [tt q0f, tt q0f, tt q0f, tt q0f, tt q0f, tt q0f, tt q0f, fo q7, tt q0f, tt q0f, tt q0f, tl q11f, tl q11f, tl q11f, tl q11f, tl q11f, tl q11f, tl q11f, tl q11f, tl q11f, tl q11f, tl q11f, tl q11f, tl q11f, tl q11f]) p87 a87 (by kernel_rfl) h0
  · replace h0 := h0.2 q0f
    exact ent_ret (fs := [tl q0f, tl q0f, tl q0f, tl q0f, tl q0f, tl q0f, tl q0f, tl q0f, tl q0f, tl q0f, bF, bF, bF, bF, bF, bF, bF, bF, bF, bF, bF, bF, bF, bF]) p87 a87 (by kernel_rfl) h0

/- selvage/verify.rules$9 -/
noncomputable abbrev PF88 := Tryz.f103

theorem p88 : AA.prim F88 = none := by kernel_rfl
theorem a88 : AA.alone F88 = false := by kernel_rfl

theorem w88 {i1 : Nat} {h2 : Heap} {Q : V → Heap → Prop}
    (h0 : Q (vI 4) h2) :
    Wc PP AA F88 [.ptr (.he i1 0) 0 9 0] h2 Q := by
  exact ent_ret (fs := []) p88 a88 (by kernel_rfl) h0

/- selvage/verify.rules$10 -/
noncomputable abbrev PF89 := Tryz.f104

theorem p89 : AA.prim F89 = none := by kernel_rfl
theorem a89 : AA.alone F89 = false := by kernel_rfl

theorem w89 {i1 : Nat} {h2 : Heap} {Q : V → Heap → Prop}
    (h0 : Q (vI 7) h2) :
    Wc PP AA F89 [.ptr (.he i1 0) 0 9 0] h2 Q := by
  exact ent_ret (fs := []) p89 a89 (by kernel_rfl) h0

/- slices.IndexFunc[[]selvage/verify.mark,selvage/verify.mark] -/
noncomputable abbrev PF90 := Tryz.f105

noncomputable def f90_K1 : List It := [.lp (cdAt (codeOf PF90) [1, 0, 1, 0, 0]), .blk 0, .c (cdAt (codeOf PF90) [1, 1])]

noncomputable def f90_S1 (p1_1 : List D) (p1_2 : Nat) (p1_3 : Int) (p1_4 : Int) : St :=
  { nt := 19, tm := [(0, .d (.slice 2 p1_1)), (1, .fn (.func p1_2) [] []), (7, vI p1_3), (8, vI p1_4)], lo := [], hp := Heap.none }

theorem p90 : AA.prim F90 = none := by kernel_rfl
theorem a90 : AA.alone F90 = true := by kernel_rfl

theorem w90 {l1 : List D} {f2 : Nat} {Q : V → Prop}
    (h0 : Wl PP AA F90 f90_K1 (f90_S1 l1 f2 (((l1.length : Nat) : Int)) 0) (QAl Q)) :
    Wa PP AA F90 [.d (.slice 2 l1), .fn (.func f2) [] []] Q := by
  exact ent_atA (fs := []) p90 a90 (by kernel_rfl) (by kernel_rfl) h0

theorem w90_1 {p1_1 : List D} {p1_2 : Nat} {p1_3 : Int} {p1_4 : Int} {Q : V → Prop}
    (h0 : ((p1_4 < p1_3 → ((0 : Int) ≤ p1_4 ∧ (∃ (nr11 : Int) (nr12 : Int), p1_1[(Int.toNat p1_4)]? = some (.agg [dI nr11, dI nr12]) ∧ (Wa PP AA p1_2 [.s 2 (.agg [dI nr11, dI nr12])] fun v => ∃ (br13 : Bool), v = vBool br13 ∧ ((br13 = true → Q (vI p1_4)) ∧ (br13 = false → Wl PP AA F90 f90_K1 (f90_S1 p1_1 p1_2 p1_3 ((W (p1_4 + 1)))) (QAl Q))))))) ∧ (p1_3 ≤ p1_4 → Q (vI (-1))))) :
    Wl PP AA F90 f90_K1 (f90_S1 p1_1 p1_2 p1_3 p1_4) (QAl Q) := by
  rcases icase p1_4 p1_3 with q0f | q0f
  · replace h0 := h0.1 q0f
    obtain ⟨q1, h0⟩ := h0
    obtain ⟨nr11, nr12, q2, h0⟩ := h0
    obtain ⟨v, r3, br13, e, h0⟩ := h0
    subst e
    rcases bcase br13 with e | e
    · replace h0 := h0.1 e
      subst e
      exact lp_ret (fs := [tt q0f, rd q1, fd q2, fr (r3 Heap.none), bT]) (h' := Heap.none) (by kernel_rfl) ⟨by kernel_rfl, h0⟩
    · replace h0 := h0.2 e
      subst e
      exact lp_at (fs := [tt q0f, rd q1, fd q2, fr (r3 Heap.none), bF]) (by kernel_rfl) h0
  · replace h0 := h0.2 q0f
    exact lp_ret (fs := [tl q0f]) (h' := Heap.none) (by kernel_rfl) ⟨by kernel_rfl, h0⟩

/- slices.IndexFunc[[]selvage/api.Con,selvage/api.Con] -/
noncomputable abbrev PF91 := Tryz.f107

noncomputable def f91_K1 : List It := [.lp (cdAt (codeOf PF91) [1, 0, 1, 0, 0]), .blk 0, .c (cdAt (codeOf PF91) [1, 1])]

noncomputable def f91_S1 (p1_1 : List D) (p1_2 : Nat) (p1_3 : Int) (p1_4 : Int) : St :=
  { nt := 19, tm := [(0, .d (.slice 5 p1_1)), (1, .fn (.func p1_2) [] []), (7, vI p1_3), (8, vI p1_4)], lo := [], hp := Heap.none }

theorem p91 : AA.prim F91 = none := by kernel_rfl
theorem a91 : AA.alone F91 = true := by kernel_rfl

theorem w91 {l1 : List D} {f2 : Nat} {Q : V → Prop}
    (h0 : Wl PP AA F91 f91_K1 (f91_S1 l1 f2 (((l1.length : Nat) : Int)) 0) (QAl Q)) :
    Wa PP AA F91 [.d (.slice 5 l1), .fn (.func f2) [] []] Q := by
  exact ent_atA (fs := []) p91 a91 (by kernel_rfl) (by kernel_rfl) h0

theorem w91_1 {p1_1 : List D} {p1_2 : Nat} {p1_3 : Int} {p1_4 : Int} {Q : V → Prop}
    (h0 : ((p1_4 < p1_3 → ((0 : Int) ≤ p1_4 ∧ (∃ (sr11 : ByteArray) (sr12 : ByteArray) (nr13 : Int) (nr14 : Int) (nr15 : Int), p1_1[(Int.toNat p1_4)]? = some (.agg [dS sr11, dS sr12, dI nr13, dI nr14, dI nr15]) ∧ (Wa PP AA p1_2 [.s 5 (.agg [dS sr11, dS sr12, dI nr13, dI nr14, dI nr15])] fun v => ∃ (br16 : Bool), v = vBool br16 ∧ ((br16 = true → Q (vI p1_4)) ∧ (br16 = false → Wl PP AA F91 f91_K1 (f91_S1 p1_1 p1_2 p1_3 ((W (p1_4 + 1)))) (QAl Q))))))) ∧ (p1_3 ≤ p1_4 → Q (vI (-1))))) :
    Wl PP AA F91 f91_K1 (f91_S1 p1_1 p1_2 p1_3 p1_4) (QAl Q) := by
  rcases icase p1_4 p1_3 with q0f | q0f
  · replace h0 := h0.1 q0f
    obtain ⟨q1, h0⟩ := h0
    obtain ⟨sr11, sr12, nr13, nr14, nr15, q2, h0⟩ := h0
    obtain ⟨v, r3, br16, e, h0⟩ := h0
    subst e
    rcases bcase br16 with e | e
    · replace h0 := h0.1 e
      subst e
      exact lp_ret (fs := [tt q0f, rd q1, fd q2, fr (r3 Heap.none), bT]) (h' := Heap.none) (by kernel_rfl) ⟨by kernel_rfl, h0⟩
    · replace h0 := h0.2 e
      subst e
      exact lp_at (fs := [tt q0f, rd q1, fd q2, fr (r3 Heap.none), bF]) (by kernel_rfl) h0
  · replace h0 := h0.2 q0f
    exact lp_ret (fs := [tl q0f]) (h' := Heap.none) (by kernel_rfl) ⟨by kernel_rfl, h0⟩

/- (*selvage/gen.writer).tag$1 -/
noncomputable abbrev PF92 := Tryz.f108

theorem p92 : AA.prim F92 = none := by kernel_rfl
theorem a92 : AA.alone F92 = false := by kernel_rfl

theorem w92 {s1 : ByteArray} {s2 : ByteArray} {n3 : Int} {n4 : Int} {n5 : Int} {s6 : ByteArray} {n7 : Int} {n8 : Int} {l9 : List D} {l10 : List D} {l11 : List D} {h12 : Heap} {Q : V → Heap → Prop}
    (h0 : Q (vBool (s1.toList == s6.toList)) h12) :
    Wc PP AA F92 [.s 5 (.agg [dS s1, dS s2, dI n3, dI n4, dI n5]), .bp (.s 6 (.agg [dS s6, dI n7, dI n8, .slice 0 l9, .slice 6 l10, .slice 4 l11])) 5 0] h12 Q := by
  exact ent_ret (fs := []) p92 a92 (by kernel_rfl) h0

/- selvage/verify.below$1 -/
noncomputable abbrev PF93 := Tryz.f109

theorem p93 : AA.prim F93 = none := by kernel_rfl
theorem a93 : AA.alone F93 = false := by kernel_rfl

theorem w93 {i1 : Nat} {n2 : Int} {n3 : Int} {n4 : Int} {f5 : Nat} {n6 : Int} {n7 : Int} {h8 : Heap} {Q : V → Heap → Prop}
    (h0 : (Wn PP AA f5 [.ptr (.he i1 0) 0 9 0] h8 fun v => ∃ (n9 : Int), v = vI n9 ∧ Q (.tuple [vBool (decide (n3 < n9)), vI n6, vI n7]) h8)) :
    Wc PP AA F93 [.ptr (.he i1 0) 0 9 0, .s 3 (.agg [dI n2, dI n3, dI n4]), .bp (.fn (.func f5) [] []) 0 0, .bp (vI n6) 0 0, .bp (vI n7) 0 0] h8 Q := by
  obtain ⟨v, r0, n9, e, h0⟩ := h0
  subst e
  exact ent_ret (fs := [fr r0]) p93 a93 (by kernel_rfl) h0

/- selvage/verify.fixed$1 -/
noncomputable abbrev PF94 := Tryz.f110

theorem p94 : AA.prim F94 = none := by kernel_rfl
theorem a94 : AA.alone F94 = false := by kernel_rfl

theorem w94 {i1 : Nat} {n2 : Int} {n3 : Int} {n4 : Int} {n5 : Int} {n6 : Int} {h7 : Heap} {Q : V → Heap → Prop}
    (h0 : Q (.tuple [vBool true, vI n5, vI n6]) h7) :
    Wc PP AA F94 [.ptr (.he i1 0) 0 9 0, .s 3 (.agg [dI n2, dI n3, dI n4]), .bp (vI n5) 0 0, .bp (vI n6) 0 0] h7 Q := by
  exact ent_ret (fs := []) p94 a94 (by kernel_rfl) h0

/- selvage/selvagelaw15.GenMany -/
noncomputable abbrev PF200 := Tryz.f3

noncomputable def f200_K1 : List It := [.lp (cdAt (codeOf PF200) [1, 1, 1, 1, 1, 0, 1, 0, 0]), .blk 0, .c (cdAt (codeOf PF200) [1, 1, 1, 1, 1, 1])]

noncomputable def f200_S1 (p1_1 : Int) (p1_2 : Int) : St :=
  { nt := 88, tm := [(0, vI p1_1), (1, vI p1_2), (5, .ptr (.lo 0) 0 9 0), (6, vI 0)], lo := [(0, .var (.agg [vI 1, vI 0, .d (dS (mkStr [])), .nilS, vI 0, .nilS, .nilS, .nilS, .nilS]))], hp := Heap.none }

noncomputable def f200_K2 : List It := [.lp (cdAt (codeOf PF200) [1, 1, 1, 1, 1, 0, 1, 0, 0]), .blk 0, .c (cdAt (codeOf PF200) [1, 1, 1, 1, 1, 1])]

noncomputable def f200_S2 (p2_1 : Int) (p2_2 : Int) (p2_3 : Int) (p2_4 : Int) (p2_5 : ByteArray) (p2_6 : Int) (p2_7 : Int) (p2_8 : ByteArray) (p2_9 : List D) (p2_10 : Int) : St :=
  { nt := 88, tm := [(0, vI p2_1), (1, vI p2_2), (5, .ptr (.lo 0) 0 9 0), (6, vI p2_3)], lo := [(0, .var (.agg [vI p2_4, vI 0, .d (dS p2_5), .d (.slice 9 ([.agg [dI 1, dI p2_6, dS (mkStr []), .slice 9 ([]), dI 0, .slice 0 ([]), .slice 6 ([]), .slice 4 ([]), .slice 0 ([])], .agg [dI p2_7, dI 0, dS p2_8, .slice 9 p2_9, dI 0, .slice 0 ([]), .slice 6 ([]), .slice 4 ([]), .slice 0 ([])]])), vI 0, .nilS, .nilS, .nilS, .nilS])), (1, .var (.agg [vI 1, vI p2_10, .d (dS (mkStr [])), .nilS, vI 0, .nilS, .nilS, .nilS, .nilS]))], hp := Heap.none }

noncomputable def f200_K3 : List It := [.lp (cdAt (codeOf PF200) [1, 1, 1, 1, 1, 0, 1, 0, 0]), .blk 0, .c (cdAt (codeOf PF200) [1, 1, 1, 1, 1, 1])]

noncomputable def f200_S3 (p3_1 : Int) (p3_2 : Int) (p3_3 : Int) (p3_4 : Int) : St :=
  { nt := 88, tm := [(0, vI p3_1), (1, vI p3_2), (5, .ptr (.lo 0) 0 9 0), (6, vI p3_3)], lo := [(0, .var (.agg [vI 1, vI 0, .d (dS (mkStr [])), .nilS, vI 0, .nilS, .nilS, .nilS, .nilS])), (1, .var (.agg [vI 1, vI p3_4, .d (dS (mkStr [])), .nilS, vI 0, .nilS, .nilS, .nilS, .nilS]))], hp := Heap.none }

theorem p200 : AA.prim F200 = none := by kernel_rfl
theorem a200 : AA.alone F200 = true := by kernel_rfl

theorem w200 {n1 : Int} {n2 : Int} {Q : V → Prop}
    (h0 : ((n1 < 0 → ((n2 < 0 → Wl PP AA F200 f200_K1 (f200_S1 ((Int.tmod ((IntKind.wrap .i64 (0 - (W (n1 + 1))))) 251)) ((IntKind.wrap .i64 (0 - (W (n2 + 1)))))) (QAl Q)) ∧ ((0 : Int) ≤ n2 → Wl PP AA F200 f200_K1 (f200_S1 ((Int.tmod ((IntKind.wrap .i64 (0 - (W (n1 + 1))))) 251)) n2) (QAl Q)))) ∧ ((0 : Int) ≤ n1 → ((n2 < 0 → Wl PP AA F200 f200_K1 (f200_S1 ((Int.tmod n1 251)) ((IntKind.wrap .i64 (0 - (W (n2 + 1)))))) (QAl Q)) ∧ ((0 : Int) ≤ n2 → Wl PP AA F200 f200_K1 (f200_S1 ((Int.tmod n1 251)) n2) (QAl Q)))))) :
    Wa PP AA F200 [vI n1, vI n2] Q := by
  rcases icase n1 0 with q0f | q0f
  · replace h0 := h0.1 q0f
    rcases icase n2 0 with q1f | q1f
    · replace h0 := h0.1 q1f
      exact ent_atA (fs := [tt q0f, tt q1f, rq]) p200 a200 (by kernel_rfl) (by kernel_rfl) h0
    · replace h0 := h0.2 q1f
      exact ent_atA (fs := [tt q0f, tl q1f, rq]) p200 a200 (by kernel_rfl) (by kernel_rfl) h0
  · replace h0 := h0.2 q0f
    rcases icase n2 0 with q1f | q1f
    · replace h0 := h0.1 q1f
      exact ent_atA (fs := [tl q0f, tt q1f, rq]) p200 a200 (by kernel_rfl) (by kernel_rfl) h0
    · replace h0 := h0.2 q1f
      exact ent_atA (fs := [tl q0f, tl q1f, rq]) p200 a200 (by kernel_rfl) (by kernel_rfl) h0

theorem w200_1 {p1_1 : Int} {p1_2 : Int} {Q : V → Prop}
    (h0 : (((0 : Int) < p1_1 → (((Int.tmod p1_2 3) = 0 → Wl PP AA F200 f200_K2 (f200_S2 p1_1 p1_2 1 15 ((mkStr [])) ((W (1 * (IntKind.wrap .i64 (Int.tdiv ((Int.tmod p1_2 3)) 2))))) 1 ((mkStr [])) ([]) ((W (1 * (IntKind.wrap .i64 (Int.tdiv ((Int.tmod p1_2 3)) 2)))))) (QAl Q)) ∧ ((Int.tmod p1_2 3) ≠ 0 → (((Int.tmod p1_2 3) = 2 → Wl PP AA F200 f200_K2 (f200_S2 p1_1 p1_2 1 15 ((mkStr [])) ((W (1 * (IntKind.wrap .i64 (Int.tdiv ((Int.tmod p1_2 3)) 2))))) 1 ((mkStr [])) ([]) ((W (1 * (IntKind.wrap .i64 (Int.tdiv ((Int.tmod p1_2 3)) 2)))))) (QAl Q)) ∧ ((Int.tmod p1_2 3) ≠ 2 → (((Int.tmod p1_2 3) = 1 → Wl PP AA F200 f200_K2 (f200_S2 p1_1 p1_2 1 14 ((mkStr [43])) ((W (1 * (IntKind.wrap .i64 (Int.tdiv ((Int.tmod p1_2 3)) 2))))) 1 ((mkStr [])) ([]) ((W (1 * (IntKind.wrap .i64 (Int.tdiv ((Int.tmod p1_2 3)) 2)))))) (QAl Q)) ∧ ((Int.tmod p1_2 3) ≠ 1 → Wl PP AA F200 f200_K3 (f200_S3 p1_1 p1_2 1 ((W (1 * (IntKind.wrap .i64 (Int.tdiv ((Int.tmod p1_2 3)) 2)))))) (QAl Q)))))))) ∧ (p1_1 ≤ 0 → (Wa PP AA F5 [.d (.slice 11 ([.agg [dI 0, dI 0, dI 1, dI 0, dS (mkStr []), .slice 9 ([]), dI 0, .slice 0 ([]), .slice 6 ([]), .slice 4 ([]), .slice 0 ([])]])), .d (.slice 5 ([])), vI 0] fun v => ∃ (lr11 : List D) (lr12 : List D) (lr13 : List D) (nr14 : Int) (nr15 : Int) (nr16 : Int), v = .tuple [.s 4 (.agg [.slice 4 lr11, .slice 0 lr12, .slice 0 lr13, dI nr14]), vI nr15, vI nr16] ∧ (Wa PP AA F201 [.d (.slice 11 ([.agg [dI 0, dI 0, dI 1, dI 0, dS (mkStr []), .slice 9 ([]), dI 0, .slice 0 ([]), .slice 6 ([]), .slice 4 ([]), .slice 0 ([])]])), .d (.slice 5 ([])), vI 0] fun v => ∃ (lr17 : List D) (lr18 : List D) (lr19 : List D) (nr110 : Int) (nr111 : Int) (nr112 : Int), v = .tuple [.s 4 (.agg [.slice 4 lr17, .slice 0 lr18, .slice 0 lr19, dI nr110]), vI nr111, vI nr112] ∧ (Wa PP AA F202 [.s 4 (.agg [.slice 4 lr11, .slice 0 lr12, .slice 0 lr13, dI nr14]), .s 4 (.agg [.slice 4 lr17, .slice 0 lr18, .slice 0 lr19, dI nr110])] fun v => ∃ (br113 : Bool), v = vBool br113 ∧ ((br113 = true → ((nr15 = nr111 → ((nr16 = nr112 → (Wa PP AA F6 [] fun v => ∃ (br114 : Bool), v = vBool br114 ∧ Q (vBool br114))) ∧ (nr16 ≠ nr112 → Q (vBool false)))) ∧ (nr15 ≠ nr111 → Q (vBool false)))) ∧ (br113 = false → Q (vBool false))))))))) :
    Wl PP AA F200 f200_K1 (f200_S1 p1_1 p1_2) (QAl Q) := by
  rcases icase 0 p1_1 with q0f | q0f
  · replace h0 := h0.1 q0f
    rcases Classical.em (((Int.tmod p1_2 3) : Int) = 0) with q4f | q4f
    · replace h0 := h0.1 q4f
      exact lp_at (fs := [tt q0f, rq, rq, rq, bt (beq_iff_eq.mpr q4f), bt (beq_iff_eq.mpr q4f)]) (by kernel_rfl) h0
    · replace h0 := h0.2 q4f
      rcases Classical.em (((Int.tmod p1_2 3) : Int) = 2) with q5f | q5f
      · replace h0 := h0.1 q5f
        exact lp_at (fs := [tt q0f, rq, rq, rq, bf (beq_eq_false_iff_ne.mpr q4f), bt (beq_iff_eq.mpr q5f)]) (by kernel_rfl) h0
      · replace h0 := h0.2 q5f
        rcases Classical.em (((Int.tmod p1_2 3) : Int) = 1) with q6f | q6f
        · replace h0 := h0.1 q6f
          exact lp_at (fs := [tt q0f, rq, rq, rq, bf (beq_eq_false_iff_ne.mpr q4f), bf (beq_eq_false_iff_ne.mpr q5f), bt (beq_iff_eq.mpr q6f)]) (by kernel_rfl) h0
        · replace h0 := h0.2 q6f
          exact lp_at (fs := [tt q0f, rq, rq, rq, bf (beq_eq_false_iff_ne.mpr q4f), bf (beq_eq_false_iff_ne.mpr q5f), bf (beq_eq_false_iff_ne.mpr q6f)]) (by kernel_rfl) h0
  · replace h0 := h0.2 q0f
    obtain ⟨v, r1, lr11, lr12, lr13, nr14, nr15, nr16, e, h0⟩ := h0
    subst e
    obtain ⟨v, r2, lr17, lr18, lr19, nr110, nr111, nr112, e, h0⟩ := h0
    subst e
    obtain ⟨v, r3, br113, e, h0⟩ := h0
    subst e
    rcases bcase br113 with e | e
    · replace h0 := h0.1 e
      subst e
      rcases Classical.em ((nr15 : Int) = nr111) with q8f | q8f
      · replace h0 := h0.1 q8f
        rcases Classical.em ((nr16 : Int) = nr112) with q12f | q12f
        · replace h0 := h0.1 q12f
          obtain ⟨v, r13, br114, e, h0⟩ := h0
          subst e
          exact lp_ret (fs := [tl q0f, fr (r1 Heap.none), fr (r2 Heap.none), fr (r3 Heap.none), bT, bT, bT, bT, bt (beq_iff_eq.mpr q8f), bt (beq_iff_eq.mpr q8f), bt (beq_iff_eq.mpr q8f), bt (beq_iff_eq.mpr q8f), bt (beq_iff_eq.mpr q12f), fr (r13 Heap.none), bt (beq_iff_eq.mpr q12f)]) (h' := Heap.none) (by kernel_rfl) ⟨by kernel_rfl, h0⟩
        · replace h0 := h0.2 q12f
          exact lp_ret (fs := [tl q0f, fr (r1 Heap.none), fr (r2 Heap.none), fr (r3 Heap.none), bT, bT, bT, bT, bt (beq_iff_eq.mpr q8f), bt (beq_iff_eq.mpr q8f), bt (beq_iff_eq.mpr q8f), bt (beq_iff_eq.mpr q8f), bf (beq_eq_false_iff_ne.mpr q12f), bf (beq_eq_false_iff_ne.mpr q12f)]) (h' := Heap.none) (by kernel_rfl) ⟨by kernel_rfl, h0⟩
      · replace h0 := h0.2 q8f
        exact lp_ret (fs := [tl q0f, fr (r1 Heap.none), fr (r2 Heap.none), fr (r3 Heap.none), bT, bT, bT, bT, bf (beq_eq_false_iff_ne.mpr q8f), bf (beq_eq_false_iff_ne.mpr q8f), bf (beq_eq_false_iff_ne.mpr q8f), bf (beq_eq_false_iff_ne.mpr q8f), bF, bF]) (h' := Heap.none) (by kernel_rfl) ⟨by kernel_rfl, h0⟩
    · replace h0 := h0.2 e
      subst e
      exact lp_ret (fs := [tl q0f, fr (r1 Heap.none), fr (r2 Heap.none), fr (r3 Heap.none), bF, bF, bF, bF, bF, bF, bF, bF, bF, bF]) (h' := Heap.none) (by kernel_rfl) ⟨by kernel_rfl, h0⟩

theorem w200_2 {p2_1 : Int} {p2_2 : Int} {p2_3 : Int} {p2_4 : Int} {p2_5 : ByteArray} {p2_6 : Int} {p2_7 : Int} {p2_8 : ByteArray} {p2_9 : List D} {p2_10 : Int} {Q : V → Prop}
    (h0 : ((p2_3 < p2_1 → (((Int.tmod p2_2 3) = 0 → Wl PP AA F200 f200_K2 (f200_S2 p2_1 p2_2 ((W (p2_3 + 1))) 15 ((mkStr [])) ((W ((W (p2_3 + 1)) * (IntKind.wrap .i64 (Int.tdiv ((Int.tmod p2_2 3)) 2))))) p2_4 p2_5 ([.agg [dI 1, dI p2_6, dS (mkStr []), .slice 9 ([]), dI 0, .slice 0 ([]), .slice 6 ([]), .slice 4 ([]), .slice 0 ([])], .agg [dI p2_7, dI 0, dS p2_8, .slice 9 p2_9, dI 0, .slice 0 ([]), .slice 6 ([]), .slice 4 ([]), .slice 0 ([])]]) ((W ((W (p2_3 + 1)) * (IntKind.wrap .i64 (Int.tdiv ((Int.tmod p2_2 3)) 2)))))) (QAl Q)) ∧ ((Int.tmod p2_2 3) ≠ 0 → (((Int.tmod p2_2 3) = 2 → Wl PP AA F200 f200_K2 (f200_S2 p2_1 p2_2 ((W (p2_3 + 1))) 15 ((mkStr [])) ((W ((W (p2_3 + 1)) * (IntKind.wrap .i64 (Int.tdiv ((Int.tmod p2_2 3)) 2))))) p2_4 p2_5 ([.agg [dI 1, dI p2_6, dS (mkStr []), .slice 9 ([]), dI 0, .slice 0 ([]), .slice 6 ([]), .slice 4 ([]), .slice 0 ([])], .agg [dI p2_7, dI 0, dS p2_8, .slice 9 p2_9, dI 0, .slice 0 ([]), .slice 6 ([]), .slice 4 ([]), .slice 0 ([])]]) ((W ((W (p2_3 + 1)) * (IntKind.wrap .i64 (Int.tdiv ((Int.tmod p2_2 3)) 2)))))) (QAl Q)) ∧ ((Int.tmod p2_2 3) ≠ 2 → (((Int.tmod p2_2 3) = 1 → Wl PP AA F200 f200_K2 (f200_S2 p2_1 p2_2 ((W (p2_3 + 1))) 14 ((mkStr [43])) ((W ((W (p2_3 + 1)) * (IntKind.wrap .i64 (Int.tdiv ((Int.tmod p2_2 3)) 2))))) p2_4 p2_5 ([.agg [dI 1, dI p2_6, dS (mkStr []), .slice 9 ([]), dI 0, .slice 0 ([]), .slice 6 ([]), .slice 4 ([]), .slice 0 ([])], .agg [dI p2_7, dI 0, dS p2_8, .slice 9 p2_9, dI 0, .slice 0 ([]), .slice 6 ([]), .slice 4 ([]), .slice 0 ([])]]) ((W ((W (p2_3 + 1)) * (IntKind.wrap .i64 (Int.tdiv ((Int.tmod p2_2 3)) 2)))))) (QAl Q)) ∧ ((Int.tmod p2_2 3) ≠ 1 → Wl PP AA F200 f200_K2 (f200_S2 p2_1 p2_2 ((W (p2_3 + 1))) p2_4 p2_5 p2_6 p2_7 p2_8 p2_9 ((W ((W (p2_3 + 1)) * (IntKind.wrap .i64 (Int.tdiv ((Int.tmod p2_2 3)) 2)))))) (QAl Q)))))))) ∧ (p2_1 ≤ p2_3 → (Wa PP AA F5 [.d (.slice 11 ([.agg [dI 0, dI 0, dI p2_4, dI 0, dS p2_5, .slice 9 ([.agg [dI 1, dI p2_6, dS (mkStr []), .slice 9 ([]), dI 0, .slice 0 ([]), .slice 6 ([]), .slice 4 ([]), .slice 0 ([])], .agg [dI p2_7, dI 0, dS p2_8, .slice 9 p2_9, dI 0, .slice 0 ([]), .slice 6 ([]), .slice 4 ([]), .slice 0 ([])]]), dI 0, .slice 0 ([]), .slice 6 ([]), .slice 4 ([]), .slice 0 ([])]])), .d (.slice 5 ([])), vI 0] fun v => ∃ (lr21 : List D) (lr22 : List D) (lr23 : List D) (nr24 : Int) (nr25 : Int) (nr26 : Int), v = .tuple [.s 4 (.agg [.slice 4 lr21, .slice 0 lr22, .slice 0 lr23, dI nr24]), vI nr25, vI nr26] ∧ (Wa PP AA F201 [.d (.slice 11 ([.agg [dI 0, dI 0, dI p2_4, dI 0, dS p2_5, .slice 9 ([.agg [dI 1, dI p2_6, dS (mkStr []), .slice 9 ([]), dI 0, .slice 0 ([]), .slice 6 ([]), .slice 4 ([]), .slice 0 ([])], .agg [dI p2_7, dI 0, dS p2_8, .slice 9 p2_9, dI 0, .slice 0 ([]), .slice 6 ([]), .slice 4 ([]), .slice 0 ([])]]), dI 0, .slice 0 ([]), .slice 6 ([]), .slice 4 ([]), .slice 0 ([])]])), .d (.slice 5 ([])), vI 0] fun v => ∃ (lr27 : List D) (lr28 : List D) (lr29 : List D) (nr210 : Int) (nr211 : Int) (nr212 : Int), v = .tuple [.s 4 (.agg [.slice 4 lr27, .slice 0 lr28, .slice 0 lr29, dI nr210]), vI nr211, vI nr212] ∧ (Wa PP AA F202 [.s 4 (.agg [.slice 4 lr21, .slice 0 lr22, .slice 0 lr23, dI nr24]), .s 4 (.agg [.slice 4 lr27, .slice 0 lr28, .slice 0 lr29, dI nr210])] fun v => ∃ (br213 : Bool), v = vBool br213 ∧ ((br213 = true → ((nr25 = nr211 → ((nr26 = nr212 → (Wa PP AA F6 [] fun v => ∃ (br214 : Bool), v = vBool br214 ∧ Q (vBool br214))) ∧ (nr26 ≠ nr212 → Q (vBool false)))) ∧ (nr25 ≠ nr211 → Q (vBool false)))) ∧ (br213 = false → Q (vBool false))))))))) :
    Wl PP AA F200 f200_K2 (f200_S2 p2_1 p2_2 p2_3 p2_4 p2_5 p2_6 p2_7 p2_8 p2_9 p2_10) (QAl Q) := by
  rcases icase p2_3 p2_1 with q0f | q0f
  · replace h0 := h0.1 q0f
    rcases Classical.em (((Int.tmod p2_2 3) : Int) = 0) with q4f | q4f
    · replace h0 := h0.1 q4f
      exact lp_at (fs := [tt q0f, rq, rq, rq, bt (beq_iff_eq.mpr q4f), bt (beq_iff_eq.mpr q4f)]) (by kernel_rfl) h0
    · replace h0 := h0.2 q4f
      rcases Classical.em (((Int.tmod p2_2 3) : Int) = 2) with q5f | q5f
      · replace h0 := h0.1 q5f
        exact lp_at (fs := [tt q0f, rq, rq, rq, bf (beq_eq_false_iff_ne.mpr q4f), bt (beq_iff_eq.mpr q5f)]) (by kernel_rfl) h0
      · replace h0 := h0.2 q5f
        rcases Classical.em (((Int.tmod p2_2 3) : Int) = 1) with q6f | q6f
        · replace h0 := h0.1 q6f
          exact lp_at (fs := [tt q0f, rq, rq, rq, bf (beq_eq_false_iff_ne.mpr q4f), bf (beq_eq_false_iff_ne.mpr q5f), bt (beq_iff_eq.mpr q6f)]) (by kernel_rfl) h0
        · replace h0 := h0.2 q6f
          exact lp_at (fs := [tt q0f, rq, rq, rq, bf (beq_eq_false_iff_ne.mpr q4f), bf (beq_eq_false_iff_ne.mpr q5f), bf (beq_eq_false_iff_ne.mpr q6f)]) (by kernel_rfl) h0
  · replace h0 := h0.2 q0f
    obtain ⟨v, r1, lr21, lr22, lr23, nr24, nr25, nr26, e, h0⟩ := h0
    subst e
    obtain ⟨v, r2, lr27, lr28, lr29, nr210, nr211, nr212, e, h0⟩ := h0
    subst e
    obtain ⟨v, r3, br213, e, h0⟩ := h0
    subst e
    rcases bcase br213 with e | e
    · replace h0 := h0.1 e
      subst e
      rcases Classical.em ((nr25 : Int) = nr211) with q8f | q8f
      · replace h0 := h0.1 q8f
        rcases Classical.em ((nr26 : Int) = nr212) with q12f | q12f
        · replace h0 := h0.1 q12f
          obtain ⟨v, r13, br214, e, h0⟩ := h0
          subst e
          exact lp_ret (fs := [tl q0f, fr (r1 Heap.none), fr (r2 Heap.none), fr (r3 Heap.none), bT, bT, bT, bT, bt (beq_iff_eq.mpr q8f), bt (beq_iff_eq.mpr q8f), bt (beq_iff_eq.mpr q8f), bt (beq_iff_eq.mpr q8f), bt (beq_iff_eq.mpr q12f), fr (r13 Heap.none), bt (beq_iff_eq.mpr q12f)]) (h' := Heap.none) (by kernel_rfl) ⟨by kernel_rfl, h0⟩
        · replace h0 := h0.2 q12f
          exact lp_ret (fs := [tl q0f, fr (r1 Heap.none), fr (r2 Heap.none), fr (r3 Heap.none), bT, bT, bT, bT, bt (beq_iff_eq.mpr q8f), bt (beq_iff_eq.mpr q8f), bt (beq_iff_eq.mpr q8f), bt (beq_iff_eq.mpr q8f), bf (beq_eq_false_iff_ne.mpr q12f), bf (beq_eq_false_iff_ne.mpr q12f)]) (h' := Heap.none) (by kernel_rfl) ⟨by kernel_rfl, h0⟩
      · replace h0 := h0.2 q8f
        exact lp_ret (fs := [tl q0f, fr (r1 Heap.none), fr (r2 Heap.none), fr (r3 Heap.none), bT, bT, bT, bT, bf (beq_eq_false_iff_ne.mpr q8f), bf (beq_eq_false_iff_ne.mpr q8f), bf (beq_eq_false_iff_ne.mpr q8f), bf (beq_eq_false_iff_ne.mpr q8f), bF, bF]) (h' := Heap.none) (by kernel_rfl) ⟨by kernel_rfl, h0⟩
    · replace h0 := h0.2 e
      subst e
      exact lp_ret (fs := [tl q0f, fr (r1 Heap.none), fr (r2 Heap.none), fr (r3 Heap.none), bF, bF, bF, bF, bF, bF, bF, bF, bF, bF]) (h' := Heap.none) (by kernel_rfl) ⟨by kernel_rfl, h0⟩

theorem w200_3 {p3_1 : Int} {p3_2 : Int} {p3_3 : Int} {p3_4 : Int} {Q : V → Prop}
    (h0 : ((p3_3 < p3_1 → (((Int.tmod p3_2 3) = 0 → Wl PP AA F200 f200_K2 (f200_S2 p3_1 p3_2 ((W (p3_3 + 1))) 15 ((mkStr [])) ((W ((W (p3_3 + 1)) * (IntKind.wrap .i64 (Int.tdiv ((Int.tmod p3_2 3)) 2))))) 1 ((mkStr [])) ([]) ((W ((W (p3_3 + 1)) * (IntKind.wrap .i64 (Int.tdiv ((Int.tmod p3_2 3)) 2)))))) (QAl Q)) ∧ ((Int.tmod p3_2 3) ≠ 0 → (((Int.tmod p3_2 3) = 2 → Wl PP AA F200 f200_K2 (f200_S2 p3_1 p3_2 ((W (p3_3 + 1))) 15 ((mkStr [])) ((W ((W (p3_3 + 1)) * (IntKind.wrap .i64 (Int.tdiv ((Int.tmod p3_2 3)) 2))))) 1 ((mkStr [])) ([]) ((W ((W (p3_3 + 1)) * (IntKind.wrap .i64 (Int.tdiv ((Int.tmod p3_2 3)) 2)))))) (QAl Q)) ∧ ((Int.tmod p3_2 3) ≠ 2 → (((Int.tmod p3_2 3) = 1 → Wl PP AA F200 f200_K2 (f200_S2 p3_1 p3_2 ((W (p3_3 + 1))) 14 ((mkStr [43])) ((W ((W (p3_3 + 1)) * (IntKind.wrap .i64 (Int.tdiv ((Int.tmod p3_2 3)) 2))))) 1 ((mkStr [])) ([]) ((W ((W (p3_3 + 1)) * (IntKind.wrap .i64 (Int.tdiv ((Int.tmod p3_2 3)) 2)))))) (QAl Q)) ∧ ((Int.tmod p3_2 3) ≠ 1 → Wl PP AA F200 f200_K3 (f200_S3 p3_1 p3_2 ((W (p3_3 + 1))) ((W ((W (p3_3 + 1)) * (IntKind.wrap .i64 (Int.tdiv ((Int.tmod p3_2 3)) 2)))))) (QAl Q)))))))) ∧ (p3_1 ≤ p3_3 → (Wa PP AA F5 [.d (.slice 11 ([.agg [dI 0, dI 0, dI 1, dI 0, dS (mkStr []), .slice 9 ([]), dI 0, .slice 0 ([]), .slice 6 ([]), .slice 4 ([]), .slice 0 ([])]])), .d (.slice 5 ([])), vI 0] fun v => ∃ (lr31 : List D) (lr32 : List D) (lr33 : List D) (nr34 : Int) (nr35 : Int) (nr36 : Int), v = .tuple [.s 4 (.agg [.slice 4 lr31, .slice 0 lr32, .slice 0 lr33, dI nr34]), vI nr35, vI nr36] ∧ (Wa PP AA F201 [.d (.slice 11 ([.agg [dI 0, dI 0, dI 1, dI 0, dS (mkStr []), .slice 9 ([]), dI 0, .slice 0 ([]), .slice 6 ([]), .slice 4 ([]), .slice 0 ([])]])), .d (.slice 5 ([])), vI 0] fun v => ∃ (lr37 : List D) (lr38 : List D) (lr39 : List D) (nr310 : Int) (nr311 : Int) (nr312 : Int), v = .tuple [.s 4 (.agg [.slice 4 lr37, .slice 0 lr38, .slice 0 lr39, dI nr310]), vI nr311, vI nr312] ∧ (Wa PP AA F202 [.s 4 (.agg [.slice 4 lr31, .slice 0 lr32, .slice 0 lr33, dI nr34]), .s 4 (.agg [.slice 4 lr37, .slice 0 lr38, .slice 0 lr39, dI nr310])] fun v => ∃ (br313 : Bool), v = vBool br313 ∧ ((br313 = true → ((nr35 = nr311 → ((nr36 = nr312 → (Wa PP AA F6 [] fun v => ∃ (br314 : Bool), v = vBool br314 ∧ Q (vBool br314))) ∧ (nr36 ≠ nr312 → Q (vBool false)))) ∧ (nr35 ≠ nr311 → Q (vBool false)))) ∧ (br313 = false → Q (vBool false))))))))) :
    Wl PP AA F200 f200_K3 (f200_S3 p3_1 p3_2 p3_3 p3_4) (QAl Q) := by
  rcases icase p3_3 p3_1 with q0f | q0f
  · replace h0 := h0.1 q0f
    rcases Classical.em (((Int.tmod p3_2 3) : Int) = 0) with q4f | q4f
    · replace h0 := h0.1 q4f
      exact lp_at (fs := [tt q0f, rq, rq, rq, bt (beq_iff_eq.mpr q4f), bt (beq_iff_eq.mpr q4f)]) (by kernel_rfl) h0
    · replace h0 := h0.2 q4f
      rcases Classical.em (((Int.tmod p3_2 3) : Int) = 2) with q5f | q5f
      · replace h0 := h0.1 q5f
        exact lp_at (fs := [tt q0f, rq, rq, rq, bf (beq_eq_false_iff_ne.mpr q4f), bt (beq_iff_eq.mpr q5f)]) (by kernel_rfl) h0
      · replace h0 := h0.2 q5f
        rcases Classical.em (((Int.tmod p3_2 3) : Int) = 1) with q6f | q6f
        · replace h0 := h0.1 q6f
          exact lp_at (fs := [tt q0f, rq, rq, rq, bf (beq_eq_false_iff_ne.mpr q4f), bf (beq_eq_false_iff_ne.mpr q5f), bt (beq_iff_eq.mpr q6f)]) (by kernel_rfl) h0
        · replace h0 := h0.2 q6f
          exact lp_at (fs := [tt q0f, rq, rq, rq, bf (beq_eq_false_iff_ne.mpr q4f), bf (beq_eq_false_iff_ne.mpr q5f), bf (beq_eq_false_iff_ne.mpr q6f)]) (by kernel_rfl) h0
  · replace h0 := h0.2 q0f
    obtain ⟨v, r1, lr31, lr32, lr33, nr34, nr35, nr36, e, h0⟩ := h0
    subst e
    obtain ⟨v, r2, lr37, lr38, lr39, nr310, nr311, nr312, e, h0⟩ := h0
    subst e
    obtain ⟨v, r3, br313, e, h0⟩ := h0
    subst e
    rcases bcase br313 with e | e
    · replace h0 := h0.1 e
      subst e
      rcases Classical.em ((nr35 : Int) = nr311) with q8f | q8f
      · replace h0 := h0.1 q8f
        rcases Classical.em ((nr36 : Int) = nr312) with q12f | q12f
        · replace h0 := h0.1 q12f
          obtain ⟨v, r13, br314, e, h0⟩ := h0
          subst e
          exact lp_ret (fs := [tl q0f, fr (r1 Heap.none), fr (r2 Heap.none), fr (r3 Heap.none), bT, bT, bT, bT, bt (beq_iff_eq.mpr q8f), bt (beq_iff_eq.mpr q8f), bt (beq_iff_eq.mpr q8f), bt (beq_iff_eq.mpr q8f), bt (beq_iff_eq.mpr q12f), fr (r13 Heap.none), bt (beq_iff_eq.mpr q12f)]) (h' := Heap.none) (by kernel_rfl) ⟨by kernel_rfl, h0⟩
        · replace h0 := h0.2 q12f
          exact lp_ret (fs := [tl q0f, fr (r1 Heap.none), fr (r2 Heap.none), fr (r3 Heap.none), bT, bT, bT, bT, bt (beq_iff_eq.mpr q8f), bt (beq_iff_eq.mpr q8f), bt (beq_iff_eq.mpr q8f), bt (beq_iff_eq.mpr q8f), bf (beq_eq_false_iff_ne.mpr q12f), bf (beq_eq_false_iff_ne.mpr q12f)]) (h' := Heap.none) (by kernel_rfl) ⟨by kernel_rfl, h0⟩
      · replace h0 := h0.2 q8f
        exact lp_ret (fs := [tl q0f, fr (r1 Heap.none), fr (r2 Heap.none), fr (r3 Heap.none), bT, bT, bT, bT, bf (beq_eq_false_iff_ne.mpr q8f), bf (beq_eq_false_iff_ne.mpr q8f), bf (beq_eq_false_iff_ne.mpr q8f), bf (beq_eq_false_iff_ne.mpr q8f), bF, bF]) (h' := Heap.none) (by kernel_rfl) ⟨by kernel_rfl, h0⟩
    · replace h0 := h0.2 e
      subst e
      exact lp_ret (fs := [tl q0f, fr (r1 Heap.none), fr (r2 Heap.none), fr (r3 Heap.none), bF, bF, bF, bF, bF, bF, bF, bF, bF, bF]) (h' := Heap.none) (by kernel_rfl) ⟨by kernel_rfl, h0⟩

/- selvage/selvageref15.Code -/
noncomputable abbrev PF201 := Tryz.f5

noncomputable def f201_K1 : List It := [.lp (cdAt (codeOf PF201) [1, 1, 1, 0, 1, 0, 0]), .blk 0, .c (cdAt (codeOf PF201) [1, 1, 1, 1])]

noncomputable def f201_S1 (p1_1 : List D) (p1_2 : Int) (p1_3 : Nat) (p1_4 : Int) (p1_5 : Heap) : St :=
  { nt := 130, tm := [(0, .d (.slice 11 p1_1)), (6, .ptr (.lo 0) 0 4 0), (9, .ptr (.he 2 0) 0 4 0), (10, .ptr (.lo 1) 0 4 0), (11, vI p1_2)], lo := [(0, .var (.agg [.nilS, .nilS, .nilS, vI 0])), (1, .var (.agg [.sl (.he 3 p1_3) 4 none, .nilS, .nilS, vI p1_4]))], hp := p1_5 }

noncomputable def f201_K2 : List It := [.lp (cdAt (codeOf PF201) [1, 1, 1, 0, 1, 0, 0, 1, 0, 0, 1, 1, 1, 0, 1, 0, 0]), .blk 2, .c (cdAt (codeOf PF201) [1, 1, 1, 0, 1, 0, 0, 1, 0, 0, 1, 1, 1, 1]), .blk 1, .c (cdAt (codeOf PF201) [1, 1, 1, 0, 1, 0, 0, 1, 1]), .lp (cdAt (codeOf PF201) [1, 1, 1, 0, 1, 0, 0]), .blk 0, .c (cdAt (codeOf PF201) [1, 1, 1, 1])]

noncomputable def f201_S2 (p2_1 : List D) (p2_2 : Int) (p2_3 : List D) (p2_4 : Int) (p2_5 : Bool) (p2_6 : Int) (p2_7 : Nat) (p2_8 : Int) (p2_9 : Heap) : St :=
  { nt := 130, tm := [(0, .d (.slice 11 p2_1)), (6, .ptr (.lo 0) 0 4 0), (9, .ptr (.he 2 0) 0 4 0), (10, .ptr (.lo 1) 0 4 0), (11, vI p2_2), (12, .d (.slice 3 p2_3)), (13, vI p2_4), (14, vBool p2_5), (15, vI p2_6)], lo := [(0, .var (.agg [.nilS, .nilS, .nilS, vI 0])), (1, .var (.agg [.sl (.he 3 p2_7) 4 none, .nilS, .nilS, vI p2_8]))], hp := p2_9 }

theorem p201 : AA.prim F201 = none := by kernel_rfl
theorem a201 : AA.alone F201 = true := by kernel_rfl

theorem w201 {l1 : List D} {l2 : List D} {n3 : Int} {Q : V → Prop}
    (h0 : Wl PP AA F201 f201_K1 (f201_S1 l1 0 0 n3 ((Heap.push (Heap.push (Heap.push (Heap.push Heap.none (.darr 0 0 ([]))) (.darr 0 0 ([]))) (.var (.agg [.d (.slice 5 l2), .sl (.he 0 0) 0 none, .sl (.he 1 0) 0 none, vBool false]))) (.darr 0 4 ([]))))) (QAl Q)) :
    Wa PP AA F201 [.d (.slice 11 l1), .d (.slice 5 l2), vI n3] Q := by
  exact ent_atA (fs := []) p201 a201 (by kernel_rfl) (by kernel_rfl) h0

theorem w201_1 {p1_1 : List D} {p1_2 : Int} {p1_3 : Nat} {p1_4 : Int} {p1_5 : Heap} {Q : V → Prop}
    (h0 : ((p1_2 < ((p1_1.length : Nat) : Int) → ((0 : Int) ≤ p1_2 ∧ (∃ (nr11 : Int) (nr12 : Int) (nr13 : Int) (nr14 : Int) (sr15 : ByteArray) (lr16 : List D) (nr17 : Int) (lr18 : List D) (lr19 : List D) (lr110 : List D) (lr111 : List D), p1_1[(Int.toNat p1_2)]? = some (.agg [dI nr11, dI nr12, dI nr13, dI nr14, dS sr15, .slice 9 lr16, dI nr17, .slice 0 lr18, .slice 6 lr19, .slice 4 lr110, .slice 0 lr111]) ∧ (Wc PP AA F203 [.ptr (.he 2 0) 0 4 0, .s 9 (.agg [dI nr13, dI nr14, dS sr15, .slice 9 lr16, dI nr17, .slice 0 lr18, .slice 6 lr19, .slice 4 lr110, .slice 0 lr111]), vI 0, vBool true] p1_5 fun v Hr114 => ∃ (cr112 : Nat) (gr113 : Nat), v = .sl (.he cr112 gr113) 3 none ∧ (∃ (lr115 : List D), hpAt Hr114 cr112 gr113 = some (.darr gr113 3 lr115) ∧ (Wa PP AA F204 [.s 9 (.agg [dI nr13, dI nr14, dS sr15, .slice 9 lr16, dI nr17, .slice 0 lr18, .slice 6 lr19, .slice 4 lr110, .slice 0 lr111])] fun v => ∃ (nr116 : Int), v = vI nr116 ∧ Wl PP AA F201 f201_K2 (f201_S2 p1_1 p1_2 lr115 nr116 false 0 p1_3 p1_4 ((Heap.put Hr114 cr112 none))) (QAl Q))))))) ∧ (((p1_1.length : Nat) : Int) ≤ p1_2 → (∃ (lr11 : List D) (cr12 : Nat) (gr13 : Nat) (cr14 : Nat) (gr15 : Nat) (br16 : Bool), hpAt p1_5 2 0 = some (.var (.agg [.d (.slice 5 lr11), .sl (.he cr12 gr13) 0 none, .sl (.he cr14 gr15) 0 none, vBool br16])) ∧ (∃ (lr17 : List D), hpAt p1_5 3 p1_3 = some (.darr p1_3 4 lr17) ∧ (∃ (lr18 : List D), hpAt p1_5 cr12 gr13 = some (.darr gr13 0 lr18) ∧ (∃ (lr19 : List D), hpAt p1_5 cr14 gr15 = some (.darr gr15 0 lr19) ∧ (hpAt (Heap.put p1_5 3 none) cr12 gr13 = some (.darr gr13 0 lr18) ∧ (hpAt (Heap.put (Heap.put p1_5 3 none) cr12 none) cr14 gr15 = some (.darr gr15 0 lr19) ∧ (Wa PP AA F7 [.s 4 (.agg [.slice 4 lr17, .slice 0 lr18, .slice 0 lr19, dI p1_4])] fun v => ∃ (nr110 : Int), v = vI nr110 ∧ ((nr110 = 0 → Q (.tuple [.s 4 (.agg [.slice 4 lr17, .slice 0 lr18, .slice 0 lr19, dI p1_4]), vI 0, vI 0])) ∧ (nr110 ≠ 0 → Q (.tuple [.s 4 (.agg [.slice 4 ([]), .slice 0 ([]), .slice 0 ([]), dI 0]), vI 0, vI 1]))))))))))))) :
    Wl PP AA F201 f201_K1 (f201_S1 p1_1 p1_2 p1_3 p1_4 p1_5) (QAl Q) := by
  rcases icase p1_2 (((p1_1.length : Nat) : Int)) with q0f | q0f
  · replace h0 := h0.1 q0f
    obtain ⟨q1, h0⟩ := h0
    obtain ⟨nr11, nr12, nr13, nr14, sr15, lr16, nr17, lr18, lr19, lr110, lr111, q2, h0⟩ := h0
    obtain ⟨v, Hr114, r3, cr112, gr113, e, h0⟩ := h0
    subst e
    obtain ⟨lr115, q4, h0⟩ := h0
    obtain ⟨v, r8, nr116, e, h0⟩ := h0
    subst e
    exact lp_at (fs := [tt q0f, rd q1, fd q2, fr r3, fo q4, fo q4, rd q1, fd q2, fr (r8 ((Heap.put Hr114 cr112 none)))]) (by kernel_rfl) h0
  · replace h0 := h0.2 q0f
    obtain ⟨lr11, cr12, gr13, cr14, gr15, br16, q1, h0⟩ := h0
    obtain ⟨lr17, q3, h0⟩ := h0
    obtain ⟨lr18, q4, h0⟩ := h0
    obtain ⟨lr19, q5, h0⟩ := h0
    obtain ⟨q7, h0⟩ := h0
    obtain ⟨q8, h0⟩ := h0
    obtain ⟨v, r10, nr110, e, h0⟩ := h0
    subst e
    rcases Classical.em (nr110 = 0) with e | q11f
    · replace h0 := h0.1 e
      subst e
      exact lp_ret (fs := [tl q0f, fo q1, fo q1, fo q3, fo q4, fo q5, fo q3, fo q7, fo q8, rq, fr (r10 ((Heap.put (Heap.put (Heap.put p1_5 3 none) cr12 none) cr14 none))), bF, rq]) (h' := (Heap.put (Heap.put (Heap.put p1_5 3 none) cr12 none) cr14 none)) (by kernel_rfl) ⟨by kernel_rfl, h0⟩
    · replace h0 := h0.2 q11f
      exact lp_ret (fs := [tl q0f, fo q1, fo q1, fo q3, fo q4, fo q5, fo q3, fo q7, fo q8, rq, fr (r10 ((Heap.put (Heap.put (Heap.put p1_5 3 none) cr12 none) cr14 none))), bt (bne_iff_ne.mpr q11f)]) (h' := (Heap.put (Heap.put (Heap.put p1_5 3 none) cr12 none) cr14 none)) (by kernel_rfl) ⟨by kernel_rfl, h0⟩

theorem w201_2 {p2_1 : List D} {p2_2 : Int} {p2_3 : List D} {p2_4 : Int} {p2_5 : Bool} {p2_6 : Int} {p2_7 : Nat} {p2_8 : Int} {p2_9 : Heap} {Q : V → Prop}
    (h0 : ((p2_6 < ((p2_3.length : Nat) : Int) → ((p2_5 = true → Wl PP AA F201 f201_K2 (f201_S2 p2_1 p2_2 p2_3 p2_4 true ((W (p2_6 + 1))) p2_7 p2_8 p2_9) (QAl Q)) ∧ (p2_5 = false → ((0 : Int) ≤ p2_6 ∧ (∃ (nr21 : Int) (nr22 : Int) (nr23 : Int), p2_3[(Int.toNat p2_6)]? = some (.agg [dI nr21, dI nr22, dI nr23]) ∧ ((nr21 = 18 → Wl PP AA F201 f201_K2 (f201_S2 p2_1 p2_2 p2_3 p2_4 ((decide (nr22 > 65535))) ((W (p2_6 + 1))) p2_7 p2_8 p2_9) (QAl Q)) ∧ (nr21 ≠ 18 → Wl PP AA F201 f201_K2 (f201_S2 p2_1 p2_2 p2_3 p2_4 false ((W (p2_6 + 1))) p2_7 p2_8 p2_9) (QAl Q)))))))) ∧ (((p2_3.length : Nat) : Int) ≤ p2_6 → ((p2_5 = true → Q (.tuple [.s 4 (.agg [.slice 4 ([]), .slice 0 ([]), .slice 0 ([]), dI 0]), vI p2_2, vI 16])) ∧ (p2_5 = false → (∃ (lr21 : List D) (cr22 : Nat) (gr23 : Nat) (cr24 : Nat) (gr25 : Nat) (br26 : Bool), hpAt p2_9 2 0 = some (.var (.agg [.d (.slice 5 lr21), .sl (.he cr22 gr23) 0 none, .sl (.he cr24 gr25) 0 none, vBool br26])) ∧ ((br26 = true → Q (.tuple [.s 4 (.agg [.slice 4 ([]), .slice 0 ([]), .slice 0 ([]), dI 0]), vI p2_2, vI 16])) ∧ (br26 = false → (((400 : Int) < ((p2_3.length : Nat) : Int) → Q (.tuple [.s 4 (.agg [.slice 4 ([]), .slice 0 ([]), .slice 0 ([]), dI 0]), vI p2_2, vI 16])) ∧ (((p2_3.length : Nat) : Int) ≤ 400 → (∃ (lr27 : List D), hpAt p2_9 cr22 gr23 = some (.darr gr23 0 lr27) ∧ (((120 : Int) < ((lr27.length : Nat) : Int) → Q (.tuple [.s 4 (.agg [.slice 4 ([]), .slice 0 ([]), .slice 0 ([]), dI 0]), vI p2_2, vI 16])) ∧ (((lr27.length : Nat) : Int) ≤ 120 → (∃ (lr28 : List D), hpAt p2_9 cr24 gr25 = some (.darr gr25 0 lr28) ∧ (((120 : Int) < ((lr28.length : Nat) : Int) → Q (.tuple [.s 4 (.agg [.slice 4 ([]), .slice 0 ([]), .slice 0 ([]), dI 0]), vI p2_2, vI 16])) ∧ (((lr28.length : Nat) : Int) ≤ 120 → (((60 : Int) < p2_4 → Q (.tuple [.s 4 (.agg [.slice 4 ([]), .slice 0 ([]), .slice 0 ([]), dI 0]), vI p2_2, vI 16])) ∧ (p2_4 ≤ 60 → ((0 : Int) ≤ p2_2 ∧ (∃ (nr29 : Int) (nr210 : Int) (nr211 : Int) (nr212 : Int) (sr213 : ByteArray) (lr214 : List D) (nr215 : Int) (lr216 : List D) (lr217 : List D) (lr218 : List D) (lr219 : List D), p2_1[(Int.toNat p2_2)]? = some (.agg [dI nr29, dI nr210, dI nr211, dI nr212, dS sr213, .slice 9 lr214, dI nr215, .slice 0 lr216, .slice 6 lr217, .slice 4 lr218, .slice 0 lr219]) ∧ (∃ (lr220 : List D), hpAt p2_9 3 p2_7 = some (.darr p2_7 4 lr220) ∧ ((lr220.length + 1) ≤ 274877906944 ∧ Wl PP AA F201 f201_K1 (f201_S1 p2_1 ((W (p2_2 + 1))) ((p2_7 + 1)) p2_8 ((Heap.put p2_9 3 (some (.darr ((p2_7 + 1)) 4 ((lr220 ++ [.agg [dI nr29, dI nr210, dI p2_4, .slice 3 p2_3]]))))))) (QAl Q))))))))))))))))))))))) :
    Wl PP AA F201 f201_K2 (f201_S2 p2_1 p2_2 p2_3 p2_4 p2_5 p2_6 p2_7 p2_8 p2_9) (QAl Q) := by
  rcases icase p2_6 (((p2_3.length : Nat) : Int)) with q0f | q0f
  · replace h0 := h0.1 q0f
    rcases bcase p2_5 with e | e
    · replace h0 := h0.1 e
      subst e
      exact lp_at (fs := [tt q0f, bT, bT, bT, bT, bT, bT, bT, bT, bT]) (by kernel_rfl) h0
    · replace h0 := h0.2 e
      subst e
      obtain ⟨q4, h0⟩ := h0
      obtain ⟨nr21, nr22, nr23, q5, h0⟩ := h0
      rcases Classical.em (nr21 = 18) with e | q10f
      · replace h0 := h0.1 e
        subst e
        exact lp_at (fs := [tt q0f, bF, bF, bF, rd q4, fd q5, bF, bF, bF, bF, bT, bT, bT, rd q4, fd q5, bT, bT, bT, bF, bT, bF]) (by kernel_rfl) h0
      · replace h0 := h0.2 q10f
        exact lp_at (fs := [tt q0f, bF, bF, bF, rd q4, fd q5, bF, bF, bF, bF, bf (beq_eq_false_iff_ne.mpr q10f), bf (beq_eq_false_iff_ne.mpr q10f), bf (beq_eq_false_iff_ne.mpr q10f), bf (beq_eq_false_iff_ne.mpr q10f), bf (beq_eq_false_iff_ne.mpr q10f), bf (beq_eq_false_iff_ne.mpr q10f), bF, bf (beq_eq_false_iff_ne.mpr q10f), bF]) (by kernel_rfl) h0
  · replace h0 := h0.2 q0f
    rcases bcase p2_5 with e | e
    · replace h0 := h0.1 e
      subst e
      exact lp_ret (fs := [tl q0f, bT, bT, bT, bT, bT, bT, bT, bT, bT, bT, bT, bT, bT, bT, bT, bT, bT, bT, bT, bT, bT, bT, bT, bT, bT, bT, bT]) (h' := p2_9) (by kernel_rfl) ⟨by kernel_rfl, h0⟩
    · replace h0 := h0.2 e
      subst e
      obtain ⟨lr21, cr22, gr23, cr24, gr25, br26, q5, h0⟩ := h0
      rcases bcase br26 with e | e
      · replace h0 := h0.1 e
        subst e
        exact lp_ret (fs := [tl q0f, bF, bF, bF, bF, fo q5, bF, bT, bT, bT, bT, bT, bT, bT, bT, bT, bT, bT, bT, bT, bT, bT, bT, bT, bT, bT, bT, bT, bT]) (h' := p2_9) (by kernel_rfl) ⟨by kernel_rfl, h0⟩
      · replace h0 := h0.2 e
        subst e
        rcases icase 400 (((p2_3.length : Nat) : Int)) with q11f | q11f
        · replace h0 := h0.1 q11f
          exact lp_ret (fs := [tl q0f, bF, bF, bF, bF, fo q5, bF, bF, bF, bF, bF, tt q11f, tt q11f, tt q11f, tt q11f, tt q11f, tt q11f, tt q11f, bT, bT, bT, bT, bT, bT, bT, bT, bT, bT, bT]) (h' := p2_9) (by kernel_rfl) ⟨by kernel_rfl, h0⟩
        · replace h0 := h0.2 q11f
          obtain ⟨lr27, q17, h0⟩ := h0
          rcases icase 120 (((lr27.length : Nat) : Int)) with q20f | q20f
          · replace h0 := h0.1 q20f
            exact lp_ret (fs := [tl q0f, bF, bF, bF, bF, fo q5, bF, bF, bF, bF, bF, tl q11f, tl q11f, tl q11f, tl q11f, fo q5, tl q11f, fo q17, tl q11f, tl q11f, tt q20f, tt q20f, tt q20f, tt q20f, tt q20f, tt q20f, tt q20f, bT, bT, bT, bT]) (h' := p2_9) (by kernel_rfl) ⟨by kernel_rfl, h0⟩
          · replace h0 := h0.2 q20f
            obtain ⟨lr28, q26, h0⟩ := h0
            rcases icase 120 (((lr28.length : Nat) : Int)) with q29f | q29f
            · replace h0 := h0.1 q29f
              exact lp_ret (fs := [tl q0f, bF, bF, bF, bF, fo q5, bF, bF, bF, bF, bF, tl q11f, tl q11f, tl q11f, tl q11f, fo q5, tl q11f, fo q17, tl q11f, tl q11f, tl q20f, tl q20f, tl q20f, tl q20f, fo q5, tl q20f, fo q26, tl q20f, tl q20f, tt q29f, tt q29f, tt q29f, bT]) (h' := p2_9) (by kernel_rfl) ⟨by kernel_rfl, h0⟩
            · replace h0 := h0.2 q29f
              rcases icase 60 p2_4 with q32f | q32f
              · replace h0 := h0.1 q32f
                exact lp_ret (fs := [tl q0f, bF, bF, bF, bF, fo q5, bF, bF, bF, bF, bF, tl q11f, tl q11f, tl q11f, tl q11f, fo q5, tl q11f, fo q17, tl q11f, tl q11f, tl q20f, tl q20f, tl q20f, tl q20f, fo q5, tl q20f, fo q26, tl q20f, tl q20f, tl q29f, tl q29f, tl q29f, tt q32f]) (h' := p2_9) (by kernel_rfl) ⟨by kernel_rfl, h0⟩
              · replace h0 := h0.2 q32f
                obtain ⟨q33, h0⟩ := h0
                obtain ⟨nr29, nr210, nr211, nr212, sr213, lr214, nr215, lr216, lr217, lr218, lr219, q34, h0⟩ := h0
                obtain ⟨lr220, q37, h0⟩ := h0
                obtain ⟨q38, h0⟩ := h0
                exact lp_at (fs := [tl q0f, bF, bF, bF, bF, fo q5, bF, bF, bF, bF, bF, tl q11f, tl q11f, tl q11f, tl q11f, fo q5, tl q11f, fo q17, tl q11f, tl q11f, tl q20f, tl q20f, tl q20f, tl q20f, fo q5, tl q20f, fo q26, tl q20f, tl q20f, tl q29f, tl q29f, tl q29f, tl q32f, rd q33, fd q34, rd q33, fd q34, fo q37, rt (Nat.ble_eq_true_of_le q38)]) (by kernel_rfl) h0

/- selvage/selvageref13.Same -/
noncomputable abbrev PF202 := Tryz.f6

noncomputable def f202_K1 : List It := [.lp (cdAt (codeOf PF202) [1, 1, 0, 1, 0, 0]), .blk 0, .c (cdAt (codeOf PF202) [1, 1, 1])]

noncomputable def f202_S1 (p1_1 : List D) (p1_2 : List D) (p1_3 : List D) (p1_4 : Int) (p1_5 : List D) (p1_6 : List D) (p1_7 : List D) (p1_8 : Int) (p1_9 : Int) : St :=
  { nt := 142, tm := [(2, .bp (.s 4 (.agg [.slice 4 p1_1, .slice 0 p1_2, .slice 0 p1_3, dI p1_4])) 4 0), (3, .bp (.s 4 (.agg [.slice 4 p1_5, .slice 0 p1_6, .slice 0 p1_7, dI p1_8])) 4 0), (5, vI p1_9)], lo := [], hp := Heap.none }

noncomputable def f202_K2 : List It := [.lp (cdAt (codeOf PF202) [1, 1, 1, 0, 1, 0, 0]), .blk 2, .c (cdAt (codeOf PF202) [1, 1, 1, 1])]

noncomputable def f202_S2 (p2_1 : List D) (p2_2 : List D) (p2_3 : List D) (p2_4 : Int) (p2_5 : List D) (p2_6 : List D) (p2_7 : List D) (p2_8 : Int) (p2_9 : Int) : St :=
  { nt := 142, tm := [(2, .bp (.s 4 (.agg [.slice 4 p2_1, .slice 0 p2_2, .slice 0 p2_3, dI p2_4])) 4 0), (3, .bp (.s 4 (.agg [.slice 4 p2_5, .slice 0 p2_6, .slice 0 p2_7, dI p2_8])) 4 0), (6, vI p2_9)], lo := [], hp := Heap.none }

noncomputable def f202_K3 : List It := [.lp (cdAt (codeOf PF202) [1, 1, 1, 1, 0, 1, 0, 0]), .blk 4, .c (cdAt (codeOf PF202) [1, 1, 1, 1, 1])]

noncomputable def f202_S3 (p3_1 : List D) (p3_2 : List D) (p3_3 : List D) (p3_4 : Int) (p3_5 : List D) (p3_6 : List D) (p3_7 : List D) (p3_8 : Int) (p3_9 : Int) : St :=
  { nt := 142, tm := [(2, .bp (.s 4 (.agg [.slice 4 p3_1, .slice 0 p3_2, .slice 0 p3_3, dI p3_4])) 4 0), (3, .bp (.s 4 (.agg [.slice 4 p3_5, .slice 0 p3_6, .slice 0 p3_7, dI p3_8])) 4 0), (7, vI p3_9)], lo := [], hp := Heap.none }

noncomputable def f202_K4 : List It := [.lp (cdAt (codeOf PF202) [1, 1, 1, 1, 0, 1, 0, 0, 1, 0, 0, 1, 1, 1, 1, 0, 0]), .blk 6, .blk 5, .c (cdAt (codeOf PF202) [1, 1, 1, 1, 0, 1, 0, 0, 1, 1]), .lp (cdAt (codeOf PF202) [1, 1, 1, 1, 0, 1, 0, 0]), .blk 4, .c (cdAt (codeOf PF202) [1, 1, 1, 1, 1])]

noncomputable def f202_S4 (p4_1 : List D) (p4_2 : List D) (p4_3 : List D) (p4_4 : Int) (p4_5 : List D) (p4_6 : List D) (p4_7 : List D) (p4_8 : Int) (p4_9 : Int) (p4_10 : Int) (p4_11 : Int) (p4_12 : Int) (p4_13 : Int) (p4_14 : List D) (p4_15 : Int) (p4_16 : Int) (p4_17 : Int) (p4_18 : List D) : St :=
  { nt := 142, tm := [(2, .bp (.s 4 (.agg [.slice 4 p4_1, .slice 0 p4_2, .slice 0 p4_3, dI p4_4])) 4 0), (3, .bp (.s 4 (.agg [.slice 4 p4_5, .slice 0 p4_6, .slice 0 p4_7, dI p4_8])) 4 0), (7, vI p4_9), (8, .ptr (.lo 0) 0 4 0), (9, .ptr (.lo 1) 0 4 0), (10, vI p4_10)], lo := [(0, .var (.s 4 (.agg [dI p4_11, dI p4_12, dI p4_13, .slice 3 p4_14]))), (1, .var (.s 4 (.agg [dI p4_15, dI p4_16, dI p4_17, .slice 3 p4_18])))], hp := Heap.none }

theorem p202 : AA.prim F202 = none := by kernel_rfl
theorem a202 : AA.alone F202 = true := by kernel_rfl

theorem w202 {l1 : List D} {l2 : List D} {l3 : List D} {n4 : Int} {l5 : List D} {l6 : List D} {l7 : List D} {n8 : Int} {Q : V → Prop}
    (h0 : ((((l1.length : Nat) : Int) = ((l5.length : Nat) : Int) → ((((l2.length : Nat) : Int) = ((l6.length : Nat) : Int) → ((((l3.length : Nat) : Int) = ((l7.length : Nat) : Int) → ((n4 = n8 → Wl PP AA F202 f202_K1 (f202_S1 l1 l2 l3 n4 l5 l6 l7 n8 0) (QAl Q)) ∧ (n4 ≠ n8 → Q (vBool false)))) ∧ (((l3.length : Nat) : Int) ≠ ((l7.length : Nat) : Int) → Q (vBool false)))) ∧ (((l2.length : Nat) : Int) ≠ ((l6.length : Nat) : Int) → Q (vBool false)))) ∧ (((l1.length : Nat) : Int) ≠ ((l5.length : Nat) : Int) → Q (vBool false)))) :
    Wa PP AA F202 [.s 4 (.agg [.slice 4 l1, .slice 0 l2, .slice 0 l3, dI n4]), .s 4 (.agg [.slice 4 l5, .slice 0 l6, .slice 0 l7, dI n8])] Q := by
  rcases Classical.em ((((l1.length : Nat) : Int) : Int) = ((l5.length : Nat) : Int)) with q0f | q0f
  · replace h0 := h0.1 q0f
    rcases Classical.em ((((l2.length : Nat) : Int) : Int) = ((l6.length : Nat) : Int)) with q8f | q8f
    · replace h0 := h0.1 q8f
      rcases Classical.em ((((l3.length : Nat) : Int) : Int) = ((l7.length : Nat) : Int)) with q16f | q16f
      · replace h0 := h0.1 q16f
        rcases Classical.em ((n4 : Int) = n8) with q22f | q22f
        · replace h0 := h0.1 q22f
          exact ent_atA (fs := [bf (bne_eq_false_iff_eq.mpr q0f), bf (bne_eq_false_iff_eq.mpr q0f), bf (bne_eq_false_iff_eq.mpr q0f), bf (bne_eq_false_iff_eq.mpr q0f), bf (bne_eq_false_iff_eq.mpr q0f), bf (bne_eq_false_iff_eq.mpr q0f), bf (bne_eq_false_iff_eq.mpr q0f), bf (bne_eq_false_iff_eq.mpr q0f), bf (bne_eq_false_iff_eq.mpr q8f), bf (bne_eq_false_iff_eq.mpr q8f), bf (bne_eq_false_iff_eq.mpr q8f), bf (bne_eq_false_iff_eq.mpr q8f), bf (bne_eq_false_iff_eq.mpr q8f), bf (bne_eq_false_iff_eq.mpr q8f), bf (bne_eq_false_iff_eq.mpr q8f), bf (bne_eq_false_iff_eq.mpr q8f), bf (bne_eq_false_iff_eq.mpr q16f), bf (bne_eq_false_iff_eq.mpr q16f), bf (bne_eq_false_iff_eq.mpr q16f), bf (bne_eq_false_iff_eq.mpr q16f), bf (bne_eq_false_iff_eq.mpr q16f), bf (bne_eq_false_iff_eq.mpr q16f), bf (bne_eq_false_iff_eq.mpr q22f)]) p202 a202 (by kernel_rfl) (by kernel_rfl) h0
        · replace h0 := h0.2 q22f
          exact ent_retA (fs := [bf (bne_eq_false_iff_eq.mpr q0f), bf (bne_eq_false_iff_eq.mpr q0f), bf (bne_eq_false_iff_eq.mpr q0f), bf (bne_eq_false_iff_eq.mpr q0f), bf (bne_eq_false_iff_eq.mpr q0f), bf (bne_eq_false_iff_eq.mpr q0f), bf (bne_eq_false_iff_eq.mpr q0f), bf (bne_eq_false_iff_eq.mpr q0f), bf (bne_eq_false_iff_eq.mpr q8f), bf (bne_eq_false_iff_eq.mpr q8f), bf (bne_eq_false_iff_eq.mpr q8f), bf (bne_eq_false_iff_eq.mpr q8f), bf (bne_eq_false_iff_eq.mpr q8f), bf (bne_eq_false_iff_eq.mpr q8f), bf (bne_eq_false_iff_eq.mpr q8f), bf (bne_eq_false_iff_eq.mpr q8f), bf (bne_eq_false_iff_eq.mpr q16f), bf (bne_eq_false_iff_eq.mpr q16f), bf (bne_eq_false_iff_eq.mpr q16f), bf (bne_eq_false_iff_eq.mpr q16f), bf (bne_eq_false_iff_eq.mpr q16f), bf (bne_eq_false_iff_eq.mpr q16f), bt (bne_iff_ne.mpr q22f)]) (h' := Heap.none) p202 a202 (by kernel_rfl) (by kernel_rfl) (by kernel_rfl) h0
      · replace h0 := h0.2 q16f
        exact ent_retA (fs := [bf (bne_eq_false_iff_eq.mpr q0f), bf (bne_eq_false_iff_eq.mpr q0f), bf (bne_eq_false_iff_eq.mpr q0f), bf (bne_eq_false_iff_eq.mpr q0f), bf (bne_eq_false_iff_eq.mpr q0f), bf (bne_eq_false_iff_eq.mpr q0f), bf (bne_eq_false_iff_eq.mpr q0f), bf (bne_eq_false_iff_eq.mpr q0f), bf (bne_eq_false_iff_eq.mpr q8f), bf (bne_eq_false_iff_eq.mpr q8f), bf (bne_eq_false_iff_eq.mpr q8f), bf (bne_eq_false_iff_eq.mpr q8f), bf (bne_eq_false_iff_eq.mpr q8f), bf (bne_eq_false_iff_eq.mpr q8f), bf (bne_eq_false_iff_eq.mpr q8f), bf (bne_eq_false_iff_eq.mpr q8f), bt (bne_iff_ne.mpr q16f), bt (bne_iff_ne.mpr q16f), bt (bne_iff_ne.mpr q16f), bt (bne_iff_ne.mpr q16f), bt (bne_iff_ne.mpr q16f), bt (bne_iff_ne.mpr q16f), bT]) (h' := Heap.none) p202 a202 (by kernel_rfl) (by kernel_rfl) (by kernel_rfl) h0
    · replace h0 := h0.2 q8f
      exact ent_retA (fs := [bf (bne_eq_false_iff_eq.mpr q0f), bf (bne_eq_false_iff_eq.mpr q0f), bf (bne_eq_false_iff_eq.mpr q0f), bf (bne_eq_false_iff_eq.mpr q0f), bf (bne_eq_false_iff_eq.mpr q0f), bf (bne_eq_false_iff_eq.mpr q0f), bf (bne_eq_false_iff_eq.mpr q0f), bf (bne_eq_false_iff_eq.mpr q0f), bt (bne_iff_ne.mpr q8f), bt (bne_iff_ne.mpr q8f), bt (bne_iff_ne.mpr q8f), bt (bne_iff_ne.mpr q8f), bt (bne_iff_ne.mpr q8f), bt (bne_iff_ne.mpr q8f), bt (bne_iff_ne.mpr q8f), bt (bne_iff_ne.mpr q8f), bT, bT, bT, bT, bT, bT, bT]) (h' := Heap.none) p202 a202 (by kernel_rfl) (by kernel_rfl) (by kernel_rfl) h0
  · replace h0 := h0.2 q0f
    exact ent_retA (fs := [bt (bne_iff_ne.mpr q0f), bt (bne_iff_ne.mpr q0f), bt (bne_iff_ne.mpr q0f), bt (bne_iff_ne.mpr q0f), bt (bne_iff_ne.mpr q0f), bt (bne_iff_ne.mpr q0f), bt (bne_iff_ne.mpr q0f), bt (bne_iff_ne.mpr q0f), bT, bT, bT, bT, bT, bT, bT, bT, bT, bT, bT, bT, bT, bT, bT]) (h' := Heap.none) p202 a202 (by kernel_rfl) (by kernel_rfl) (by kernel_rfl) h0

theorem w202_1 {p1_1 : List D} {p1_2 : List D} {p1_3 : List D} {p1_4 : Int} {p1_5 : List D} {p1_6 : List D} {p1_7 : List D} {p1_8 : Int} {p1_9 : Int} {Q : V → Prop}
    (h0 : ((p1_9 < ((p1_2.length : Nat) : Int) → ((0 : Int) ≤ p1_9 ∧ (∃ (nr11 : Int), p1_2[(Int.toNat p1_9)]? = some (dI nr11) ∧ (∃ (nr12 : Int), p1_6[(Int.toNat p1_9)]? = some (dI nr12) ∧ ((nr11 = nr12 → Wl PP AA F202 f202_K1 (f202_S1 p1_1 p1_2 p1_3 p1_4 p1_5 p1_6 p1_7 p1_8 ((W (p1_9 + 1)))) (QAl Q)) ∧ (nr11 ≠ nr12 → Q (vBool false))))))) ∧ (((p1_2.length : Nat) : Int) ≤ p1_9 → Wl PP AA F202 f202_K2 (f202_S2 p1_1 p1_2 p1_3 p1_4 p1_5 p1_6 p1_7 p1_8 0) (QAl Q)))) :
    Wl PP AA F202 f202_K1 (f202_S1 p1_1 p1_2 p1_3 p1_4 p1_5 p1_6 p1_7 p1_8 p1_9) (QAl Q) := by
  rcases icase p1_9 (((p1_2.length : Nat) : Int)) with q0f | q0f
  · replace h0 := h0.1 q0f
    obtain ⟨q1, h0⟩ := h0
    obtain ⟨nr11, q2, h0⟩ := h0
    obtain ⟨nr12, q4, h0⟩ := h0
    rcases Classical.em ((nr11 : Int) = nr12) with q5f | q5f
    · replace h0 := h0.1 q5f
      exact lp_at (fs := [tt q0f, rd q1, fd q2, rd q1, fd q4, bf (bne_eq_false_iff_eq.mpr q5f)]) (by kernel_rfl) h0
    · replace h0 := h0.2 q5f
      exact lp_ret (fs := [tt q0f, rd q1, fd q2, rd q1, fd q4, bt (bne_iff_ne.mpr q5f)]) (h' := Heap.none) (by kernel_rfl) ⟨by kernel_rfl, h0⟩
  · replace h0 := h0.2 q0f
    exact lp_at (fs := [tl q0f]) (by kernel_rfl) h0

theorem w202_2 {p2_1 : List D} {p2_2 : List D} {p2_3 : List D} {p2_4 : Int} {p2_5 : List D} {p2_6 : List D} {p2_7 : List D} {p2_8 : Int} {p2_9 : Int} {Q : V → Prop}
    (h0 : ((p2_9 < ((p2_3.length : Nat) : Int) → ((0 : Int) ≤ p2_9 ∧ (∃ (sr21 : ByteArray), p2_3[(Int.toNat p2_9)]? = some (dS sr21) ∧ (∃ (sr22 : ByteArray), p2_7[(Int.toNat p2_9)]? = some (dS sr22) ∧ (((sr21.toList == sr22.toList) = true → Wl PP AA F202 f202_K2 (f202_S2 p2_1 p2_2 p2_3 p2_4 p2_5 p2_6 p2_7 p2_8 ((W (p2_9 + 1)))) (QAl Q)) ∧ ((sr21.toList == sr22.toList) = false → Q (vBool false))))))) ∧ (((p2_3.length : Nat) : Int) ≤ p2_9 → Wl PP AA F202 f202_K3 (f202_S3 p2_1 p2_2 p2_3 p2_4 p2_5 p2_6 p2_7 p2_8 0) (QAl Q)))) :
    Wl PP AA F202 f202_K2 (f202_S2 p2_1 p2_2 p2_3 p2_4 p2_5 p2_6 p2_7 p2_8 p2_9) (QAl Q) := by
  rcases icase p2_9 (((p2_3.length : Nat) : Int)) with q0f | q0f
  · replace h0 := h0.1 q0f
    obtain ⟨q1, h0⟩ := h0
    obtain ⟨sr21, q2, h0⟩ := h0
    obtain ⟨sr22, q4, h0⟩ := h0
    rcases bcase ((sr21.toList == sr22.toList)) with q5f | q5f
    · replace h0 := h0.1 q5f
      exact lp_at (fs := [tt q0f, rd q1, fd q2, rd q1, fd q4, bf (congrArg not q5f)]) (by kernel_rfl) h0
    · replace h0 := h0.2 q5f
      exact lp_ret (fs := [tt q0f, rd q1, fd q2, rd q1, fd q4, bt (congrArg not q5f)]) (h' := Heap.none) (by kernel_rfl) ⟨by kernel_rfl, h0⟩
  · replace h0 := h0.2 q0f
    exact lp_at (fs := [tl q0f]) (by kernel_rfl) h0

theorem w202_3 {p3_1 : List D} {p3_2 : List D} {p3_3 : List D} {p3_4 : Int} {p3_5 : List D} {p3_6 : List D} {p3_7 : List D} {p3_8 : Int} {p3_9 : Int} {Q : V → Prop}
    (h0 : ((p3_9 < ((p3_1.length : Nat) : Int) → ((0 : Int) ≤ p3_9 ∧ (∃ (nr31 : Int) (nr32 : Int) (nr33 : Int) (lr34 : List D), p3_1[(Int.toNat p3_9)]? = some (.agg [dI nr31, dI nr32, dI nr33, .slice 3 lr34]) ∧ (∃ (nr35 : Int) (nr36 : Int) (nr37 : Int) (lr38 : List D), p3_5[(Int.toNat p3_9)]? = some (.agg [dI nr35, dI nr36, dI nr37, .slice 3 lr38]) ∧ ((nr31 = nr35 → ((nr32 = nr36 → ((nr33 = nr37 → ((((lr34.length : Nat) : Int) = ((lr38.length : Nat) : Int) → Wl PP AA F202 f202_K4 (f202_S4 p3_1 p3_2 p3_3 p3_4 p3_5 p3_6 p3_7 p3_8 p3_9 0 nr31 nr32 nr33 lr34 nr35 nr36 nr37 lr38) (QAl Q)) ∧ (((lr34.length : Nat) : Int) ≠ ((lr38.length : Nat) : Int) → Q (vBool false)))) ∧ (nr33 ≠ nr37 → Q (vBool false)))) ∧ (nr32 ≠ nr36 → Q (vBool false)))) ∧ (nr31 ≠ nr35 → Q (vBool false))))))) ∧ (((p3_1.length : Nat) : Int) ≤ p3_9 → Q (vBool true)))) :
    Wl PP AA F202 f202_K3 (f202_S3 p3_1 p3_2 p3_3 p3_4 p3_5 p3_6 p3_7 p3_8 p3_9) (QAl Q) := by
  rcases icase p3_9 (((p3_1.length : Nat) : Int)) with q0f | q0f
  · replace h0 := h0.1 q0f
    obtain ⟨q1, h0⟩ := h0
    obtain ⟨nr31, nr32, nr33, lr34, q2, h0⟩ := h0
    obtain ⟨nr35, nr36, nr37, lr38, q4, h0⟩ := h0
    rcases Classical.em ((nr31 : Int) = nr35) with q5f | q5f
    · replace h0 := h0.1 q5f
      rcases Classical.em ((nr32 : Int) = nr36) with q11f | q11f
      · replace h0 := h0.1 q11f
        rcases Classical.em ((nr33 : Int) = nr37) with q17f | q17f
        · replace h0 := h0.1 q17f
          rcases Classical.em ((((lr34.length : Nat) : Int) : Int) = ((lr38.length : Nat) : Int)) with q25f | q25f
          · replace h0 := h0.1 q25f
            exact lp_at (fs := [tt q0f, rd q1, fd q2, rd q1, fd q4, bf (bne_eq_false_iff_eq.mpr q5f), bf (bne_eq_false_iff_eq.mpr q5f), bf (bne_eq_false_iff_eq.mpr q5f), bf (bne_eq_false_iff_eq.mpr q5f), bf (bne_eq_false_iff_eq.mpr q5f), bf (bne_eq_false_iff_eq.mpr q5f), bf (bne_eq_false_iff_eq.mpr q11f), bf (bne_eq_false_iff_eq.mpr q11f), bf (bne_eq_false_iff_eq.mpr q11f), bf (bne_eq_false_iff_eq.mpr q11f), bf (bne_eq_false_iff_eq.mpr q11f), bf (bne_eq_false_iff_eq.mpr q11f), bf (bne_eq_false_iff_eq.mpr q17f), bf (bne_eq_false_iff_eq.mpr q17f), bf (bne_eq_false_iff_eq.mpr q17f), bf (bne_eq_false_iff_eq.mpr q17f), bf (bne_eq_false_iff_eq.mpr q17f), bf (bne_eq_false_iff_eq.mpr q17f), bf (bne_eq_false_iff_eq.mpr q17f), bf (bne_eq_false_iff_eq.mpr q17f), bf (bne_eq_false_iff_eq.mpr q25f)]) (by kernel_rfl) h0
          · replace h0 := h0.2 q25f
            exact lp_ret (fs := [tt q0f, rd q1, fd q2, rd q1, fd q4, bf (bne_eq_false_iff_eq.mpr q5f), bf (bne_eq_false_iff_eq.mpr q5f), bf (bne_eq_false_iff_eq.mpr q5f), bf (bne_eq_false_iff_eq.mpr q5f), bf (bne_eq_false_iff_eq.mpr q5f), bf (bne_eq_false_iff_eq.mpr q5f), bf (bne_eq_false_iff_eq.mpr q11f), bf (bne_eq_false_iff_eq.mpr q11f), bf (bne_eq_false_iff_eq.mpr q11f), bf (bne_eq_false_iff_eq.mpr q11f), bf (bne_eq_false_iff_eq.mpr q11f), bf (bne_eq_false_iff_eq.mpr q11f), bf (bne_eq_false_iff_eq.mpr q17f), bf (bne_eq_false_iff_eq.mpr q17f), bf (bne_eq_false_iff_eq.mpr q17f), bf (bne_eq_false_iff_eq.mpr q17f), bf (bne_eq_false_iff_eq.mpr q17f), bf (bne_eq_false_iff_eq.mpr q17f), bf (bne_eq_false_iff_eq.mpr q17f), bf (bne_eq_false_iff_eq.mpr q17f), bt (bne_iff_ne.mpr q25f)]) (h' := Heap.none) (by kernel_rfl) ⟨by kernel_rfl, h0⟩
        · replace h0 := h0.2 q17f
          exact lp_ret (fs := [tt q0f, rd q1, fd q2, rd q1, fd q4, bf (bne_eq_false_iff_eq.mpr q5f), bf (bne_eq_false_iff_eq.mpr q5f), bf (bne_eq_false_iff_eq.mpr q5f), bf (bne_eq_false_iff_eq.mpr q5f), bf (bne_eq_false_iff_eq.mpr q5f), bf (bne_eq_false_iff_eq.mpr q5f), bf (bne_eq_false_iff_eq.mpr q11f), bf (bne_eq_false_iff_eq.mpr q11f), bf (bne_eq_false_iff_eq.mpr q11f), bf (bne_eq_false_iff_eq.mpr q11f), bf (bne_eq_false_iff_eq.mpr q11f), bf (bne_eq_false_iff_eq.mpr q11f), bt (bne_iff_ne.mpr q17f), bt (bne_iff_ne.mpr q17f), bt (bne_iff_ne.mpr q17f), bt (bne_iff_ne.mpr q17f), bt (bne_iff_ne.mpr q17f), bt (bne_iff_ne.mpr q17f), bt (bne_iff_ne.mpr q17f), bt (bne_iff_ne.mpr q17f), bT]) (h' := Heap.none) (by kernel_rfl) ⟨by kernel_rfl, h0⟩
      · replace h0 := h0.2 q11f
        exact lp_ret (fs := [tt q0f, rd q1, fd q2, rd q1, fd q4, bf (bne_eq_false_iff_eq.mpr q5f), bf (bne_eq_false_iff_eq.mpr q5f), bf (bne_eq_false_iff_eq.mpr q5f), bf (bne_eq_false_iff_eq.mpr q5f), bf (bne_eq_false_iff_eq.mpr q5f), bf (bne_eq_false_iff_eq.mpr q5f), bt (bne_iff_ne.mpr q11f), bt (bne_iff_ne.mpr q11f), bt (bne_iff_ne.mpr q11f), bt (bne_iff_ne.mpr q11f), bt (bne_iff_ne.mpr q11f), bt (bne_iff_ne.mpr q11f), bT, bT, bT, bT, bT, bT, bT, bT, bT]) (h' := Heap.none) (by kernel_rfl) ⟨by kernel_rfl, h0⟩
    · replace h0 := h0.2 q5f
      exact lp_ret (fs := [tt q0f, rd q1, fd q2, rd q1, fd q4, bt (bne_iff_ne.mpr q5f), bt (bne_iff_ne.mpr q5f), bt (bne_iff_ne.mpr q5f), bt (bne_iff_ne.mpr q5f), bt (bne_iff_ne.mpr q5f), bt (bne_iff_ne.mpr q5f), bT, bT, bT, bT, bT, bT, bT, bT, bT, bT, bT, bT, bT, bT, bT]) (h' := Heap.none) (by kernel_rfl) ⟨by kernel_rfl, h0⟩
  · replace h0 := h0.2 q0f
    exact lp_ret (fs := [tl q0f]) (h' := Heap.none) (by kernel_rfl) ⟨by kernel_rfl, h0⟩

theorem w202_4 {p4_1 : List D} {p4_2 : List D} {p4_3 : List D} {p4_4 : Int} {p4_5 : List D} {p4_6 : List D} {p4_7 : List D} {p4_8 : Int} {p4_9 : Int} {p4_10 : Int} {p4_11 : Int} {p4_12 : Int} {p4_13 : Int} {p4_14 : List D} {p4_15 : Int} {p4_16 : Int} {p4_17 : Int} {p4_18 : List D} {Q : V → Prop}
    (h0 : ((p4_10 < ((p4_14.length : Nat) : Int) → ((0 : Int) ≤ p4_10 ∧ (∃ (nr41 : Int) (nr42 : Int) (nr43 : Int), p4_14[(Int.toNat p4_10)]? = some (.agg [dI nr41, dI nr42, dI nr43]) ∧ (∃ (nr44 : Int) (nr45 : Int) (nr46 : Int), p4_18[(Int.toNat p4_10)]? = some (.agg [dI nr44, dI nr45, dI nr46]) ∧ ((nr41 = nr44 → ((nr42 = nr45 → ((nr43 = nr46 → Wl PP AA F202 f202_K4 (f202_S4 p4_1 p4_2 p4_3 p4_4 p4_5 p4_6 p4_7 p4_8 p4_9 ((W (p4_10 + 1))) p4_11 p4_12 p4_13 p4_14 p4_15 p4_16 p4_17 p4_18) (QAl Q)) ∧ (nr43 ≠ nr46 → Q (vBool false)))) ∧ (nr42 ≠ nr45 → Q (vBool false)))) ∧ (nr41 ≠ nr44 → Q (vBool false))))))) ∧ (((p4_14.length : Nat) : Int) ≤ p4_10 → Wl PP AA F202 f202_K3 (f202_S3 p4_1 p4_2 p4_3 p4_4 p4_5 p4_6 p4_7 p4_8 ((W (p4_9 + 1)))) (QAl Q)))) :
    Wl PP AA F202 f202_K4 (f202_S4 p4_1 p4_2 p4_3 p4_4 p4_5 p4_6 p4_7 p4_8 p4_9 p4_10 p4_11 p4_12 p4_13 p4_14 p4_15 p4_16 p4_17 p4_18) (QAl Q) := by
  rcases icase p4_10 (((p4_14.length : Nat) : Int)) with q0f | q0f
  · replace h0 := h0.1 q0f
    obtain ⟨q1, h0⟩ := h0
    obtain ⟨nr41, nr42, nr43, q2, h0⟩ := h0
    obtain ⟨nr44, nr45, nr46, q4, h0⟩ := h0
    rcases Classical.em ((nr41 : Int) = nr44) with q5af | q5af
    · replace h0 := h0.1 q5af
      rcases Classical.em ((nr42 : Int) = nr45) with q5baf | q5baf
      · replace h0 := h0.1 q5baf
        rcases Classical.em ((nr43 : Int) = nr46) with q5bbaf | q5bbaf
        · replace h0 := h0.1 q5bbaf
          exact lp_at (fs := [tt q0f, rd q1, fd q2, rd q1, fd q4, bf (congrArg not (andT (beq_iff_eq.mpr q5af) (andT (beq_iff_eq.mpr q5baf) (andT (beq_iff_eq.mpr q5bbaf) rfl))))]) (by kernel_rfl) h0
        · replace h0 := h0.2 q5bbaf
          exact lp_ret (fs := [tt q0f, rd q1, fd q2, rd q1, fd q4, bt (congrArg not (andF2 (a := ((nr41 : Int) == nr44)) (andF2 (a := ((nr42 : Int) == nr45)) (andF1 (b := true) (beq_eq_false_iff_ne.mpr q5bbaf)))))]) (h' := Heap.none) (by kernel_rfl) ⟨by kernel_rfl, h0⟩
      · replace h0 := h0.2 q5baf
        exact lp_ret (fs := [tt q0f, rd q1, fd q2, rd q1, fd q4, bt (congrArg not (andF2 (a := ((nr41 : Int) == nr44)) (andF1 (b := (((nr43 : Int) == nr46) && true)) (beq_eq_false_iff_ne.mpr q5baf))))]) (h' := Heap.none) (by kernel_rfl) ⟨by kernel_rfl, h0⟩
    · replace h0 := h0.2 q5af
      exact lp_ret (fs := [tt q0f, rd q1, fd q2, rd q1, fd q4, bt (congrArg not (andF1 (b := (((nr42 : Int) == nr45) && (((nr43 : Int) == nr46) && true))) (beq_eq_false_iff_ne.mpr q5af)))]) (h' := Heap.none) (by kernel_rfl) ⟨by kernel_rfl, h0⟩
  · replace h0 := h0.2 q0f
    exact lp_at (fs := [tl q0f]) (by kernel_rfl) h0

/- (*selvage/selvageref15.G).Exp -/
noncomputable abbrev PF203 := Tryz.f13

theorem p203 : AA.prim F203 = none := by kernel_rfl
theorem a203 : AA.alone F203 = false := by kernel_rfl

theorem w203i {n1 : Int} {n2 : Int} {s3 : ByteArray} {l4 : List D} {n5 : Int} {l6 : List D} {l7 : List D} {l8 : List D} {l9 : List D} {i10 : Nat} {n11 : Int} {b12 : Bool} {h13 : Heap} {Q : V → Heap → Prop}
    (h0 : (((400 : Int) < n11 → (∃ (l14 : List D) (c15 : Nat) (g16 : Nat) (c17 : Nat) (g18 : Nat) (b19 : Bool), hpAt h13 i10 0 = some (.var (.agg [.d (.slice 5 l14), .sl (.he c15 g16) 0 none, .sl (.he c17 g18) 0 none, vBool b19])) ∧ (hpAt (Heap.put h13 i10 (some (.var (.agg [.d (.slice 5 l14), .sl (.he c15 g16) 0 none, .sl (.he c17 g18) 0 none, vBool true])))) i10 0 = some (.var (.agg [.d (.slice 5 l14), .sl (.he c15 g16) 0 none, .sl (.he c17 g18) 0 none, vBool true])) ∧ Q (.sl (.he h13.n 0) 3 none) (Heap.push (Heap.put h13 i10 (some (.var (.agg [.d (.slice 5 l14), .sl (.he c15 g16) 0 none, .sl (.he c17 g18) 0 none, vBool true])))) (.darr 0 3 ([])))))) ∧ (n11 ≤ 400 → (∃ (l14 : List D) (c15 : Nat) (g16 : Nat) (c17 : Nat) (g18 : Nat) (b19 : Bool), hpAt h13 i10 0 = some (.var (.agg [.d (.slice 5 l14), .sl (.he c15 g16) 0 none, .sl (.he c17 g18) 0 none, vBool b19])) ∧ ((b19 = true → Q (.sl (.he h13.n 0) 3 none) (Heap.push h13 (.darr 0 3 ([])))) ∧ (b19 = false → (Wc PP AA F209 [.ptr (.he i10 0) 0 4 0, vI n2] (Heap.push h13 (.darr 0 3 ([]))) fun v H21 => ∃ (n20 : Int), v = vI n20 ∧ (Wa PP AA F205 [vI 1, vI n20, vI 0] fun v => ∃ (n22 : Int) (n23 : Int) (n24 : Int), v = .s 3 (.agg [dI n22, dI n23, dI n24]) ∧ (∃ (l25 : List D), hpAt H21 h13.n 0 = some (.darr 0 3 l25) ∧ ((l25.length + 1) ≤ 274877906944 ∧ ((b12 = true → (Wa PP AA F205 [vI 15, vI 0, vI 0] fun v => ∃ (n26 : Int) (n27 : Int) (n28 : Int), v = .s 3 (.agg [dI n26, dI n27, dI n28]) ∧ (hpAt (Heap.put H21 h13.n (some (.darr 1 3 ((l25 ++ [.agg [dI n22, dI n23, dI n24]]))))) h13.n 1 = some (.darr 1 3 ((l25 ++ [.agg [dI n22, dI n23, dI n24]]))) ∧ ((((l25 ++ [.agg [dI n22, dI n23, dI n24]]) : List D).length + 1) ≤ 274877906944 ∧ Q (.sl (.he h13.n 2) 3 none) (Heap.put (Heap.put H21 h13.n (some (.darr 1 3 ((l25 ++ [.agg [dI n22, dI n23, dI n24]]))))) h13.n (some (.darr 2 3 (((l25 ++ [.agg [dI n22, dI n23, dI n24]]) ++ [.agg [dI n26, dI n27, dI n28]]))))))))) ∧ (b12 = false → Q (.sl (.he h13.n 1) 3 none) (Heap.put H21 h13.n (some (.darr 1 3 ((l25 ++ [.agg [dI n22, dI n23, dI n24]]))))))))))))))))) :
    Wc PP AA F203 [.ptr (.he i10 0) 0 4 0, .s 9 (.agg [dI 1, dI n2, dS s3, .slice 9 l4, dI n5, .slice 0 l6, .slice 6 l7, .slice 4 l8, .slice 0 l9]), vI n11, vBool b12] h13 Q := by
  rcases icase 400 n11 with q0f | q0f
  · replace h0 := h0.1 q0f
    obtain ⟨l14, c15, g16, c17, g18, b19, q1, h0⟩ := h0
    obtain ⟨q2, h0⟩ := h0
    exact ent_ret (fs := [tt q0f, fo q1, fo q2, bT]) p203 a203 (by kernel_rfl) h0
  · replace h0 := h0.2 q0f
    obtain ⟨l14, c15, g16, c17, g18, b19, q1, h0⟩ := h0
    rcases bcase b19 with e | e
    · replace h0 := h0.1 e
      subst e
      exact ent_ret (fs := [tl q0f, fo q1, bT]) p203 a203 (by kernel_rfl) h0
    · replace h0 := h0.2 e
      subst e
      obtain ⟨v, H21, r9, n20, e, h0⟩ := h0
      subst e
      obtain ⟨v, r10, n22, n23, n24, e, h0⟩ := h0
      subst e
      obtain ⟨l25, q11, h0⟩ := h0
      obtain ⟨q12, h0⟩ := h0
      rcases bcase b12 with e | e
      · replace h0 := h0.1 e
        subst e
        obtain ⟨v, r14, n26, n27, n28, e, h0⟩ := h0
        subst e
        obtain ⟨q15, h0⟩ := h0
        obtain ⟨q16, h0⟩ := h0
        exact ent_ret (fs := [tl q0f, fo q1, bF, bF, bF, bF, bF, bF, bT, fr r9, fr (r10 H21), fo q11, rt (Nat.ble_eq_true_of_le q12), bT, fr (r14 ((Heap.put H21 h13.n (some (.darr 1 3 ((l25 ++ [.agg [dI n22, dI n23, dI n24]]))))))), fo q15, rt (Nat.ble_eq_true_of_le q16)]) p203 a203 (by kernel_rfl) h0
      · replace h0 := h0.2 e
        subst e
        exact ent_ret (fs := [tl q0f, fo q1, bF, bF, bF, bF, bF, bF, bT, fr r9, fr (r10 H21), fo q11, rt (Nat.ble_eq_true_of_le q12), bF]) p203 a203 (by kernel_rfl) h0

theorem w203o {n1 : Int} {n2 : Int} {s3 : ByteArray} {l4 : List D} {n5 : Int} {l6 : List D} {l7 : List D} {l8 : List D} {l9 : List D} {i10 : Nat} {n11 : Int} {b12 : Bool} {h13 : Heap} {Q : V → Heap → Prop}
    (h0 : (((400 : Int) < n11 → (∃ (l14 : List D) (c15 : Nat) (g16 : Nat) (c17 : Nat) (g18 : Nat) (b19 : Bool), hpAt h13 i10 0 = some (.var (.agg [.d (.slice 5 l14), .sl (.he c15 g16) 0 none, .sl (.he c17 g18) 0 none, vBool b19])) ∧ (hpAt (Heap.put h13 i10 (some (.var (.agg [.d (.slice 5 l14), .sl (.he c15 g16) 0 none, .sl (.he c17 g18) 0 none, vBool true])))) i10 0 = some (.var (.agg [.d (.slice 5 l14), .sl (.he c15 g16) 0 none, .sl (.he c17 g18) 0 none, vBool true])) ∧ Q (.sl (.he h13.n 0) 3 none) (Heap.push (Heap.put h13 i10 (some (.var (.agg [.d (.slice 5 l14), .sl (.he c15 g16) 0 none, .sl (.he c17 g18) 0 none, vBool true])))) (.darr 0 3 ([])))))) ∧ (n11 ≤ 400 → (∃ (l14 : List D) (c15 : Nat) (g16 : Nat) (c17 : Nat) (g18 : Nat) (b19 : Bool), hpAt h13 i10 0 = some (.var (.agg [.d (.slice 5 l14), .sl (.he c15 g16) 0 none, .sl (.he c17 g18) 0 none, vBool b19])) ∧ ((b19 = true → Q (.sl (.he h13.n 0) 3 none) (Heap.push h13 (.darr 0 3 ([])))) ∧ (b19 = false → (Wc PP AA F212 [.ptr (.he i10 0) 0 4 0, .s 9 (.agg [dI 14, dI n2, dS s3, .slice 9 l4, dI n5, .slice 0 l6, .slice 6 l7, .slice 4 l8, .slice 0 l9]), vI n11] (Heap.push h13 (.darr 0 3 ([]))) fun v H22 => ∃ (c20 : Nat) (g21 : Nat), v = .sl (.he c20 g21) 3 none ∧ ((b12 = true → (Wa PP AA F205 [vI 15, vI 0, vI 0] fun v => ∃ (n23 : Int) (n24 : Int) (n25 : Int), v = .s 3 (.agg [dI n23, dI n24, dI n25]) ∧ (∃ (l26 : List D), hpAt H22 c20 g21 = some (.darr g21 3 l26) ∧ ((l26.length + 1) ≤ 274877906944 ∧ Q (.sl (.he c20 ((g21 + 1))) 3 none) (Heap.put H22 c20 (some (.darr ((g21 + 1)) 3 ((l26 ++ [.agg [dI n23, dI n24, dI n25]]))))))))) ∧ (b12 = false → Q (.sl (.he c20 g21) 3 none) H22))))))))) :
    Wc PP AA F203 [.ptr (.he i10 0) 0 4 0, .s 9 (.agg [dI 14, dI n2, dS s3, .slice 9 l4, dI n5, .slice 0 l6, .slice 6 l7, .slice 4 l8, .slice 0 l9]), vI n11, vBool b12] h13 Q := by
  rcases icase 400 n11 with q0f | q0f
  · replace h0 := h0.1 q0f
    obtain ⟨l14, c15, g16, c17, g18, b19, q1, h0⟩ := h0
    obtain ⟨q2, h0⟩ := h0
    exact ent_ret (fs := [tt q0f, fo q1, fo q2, bT]) p203 a203 (by kernel_rfl) h0
  · replace h0 := h0.2 q0f
    obtain ⟨l14, c15, g16, c17, g18, b19, q1, h0⟩ := h0
    rcases bcase b19 with e | e
    · replace h0 := h0.1 e
      subst e
      exact ent_ret (fs := [tl q0f, fo q1, bT]) p203 a203 (by kernel_rfl) h0
    · replace h0 := h0.2 e
      subst e
      obtain ⟨v, H22, r14, c20, g21, e, h0⟩ := h0
      subst e
      rcases bcase b12 with e | e
      · replace h0 := h0.1 e
        subst e
        obtain ⟨v, r16, n23, n24, n25, e, h0⟩ := h0
        subst e
        obtain ⟨l26, q17, h0⟩ := h0
        obtain ⟨q18, h0⟩ := h0
        exact ent_ret (fs := [tl q0f, fo q1, bF, bF, bF, bF, bF, bF, bF, bF, bF, bF, bF, bT, fr r14, bT, fr (r16 H22), fo q17, rt (Nat.ble_eq_true_of_le q18)]) p203 a203 (by kernel_rfl) h0
      · replace h0 := h0.2 e
        subst e
        exact ent_ret (fs := [tl q0f, fo q1, bF, bF, bF, bF, bF, bF, bF, bF, bF, bF, bF, bT, fr r14, bF]) p203 a203 (by kernel_rfl) h0

theorem w203s {n1 : Int} {n2 : Int} {s3 : ByteArray} {l4 : List D} {n5 : Int} {l6 : List D} {l7 : List D} {l8 : List D} {l9 : List D} {i10 : Nat} {n11 : Int} {b12 : Bool} {h13 : Heap} {Q : V → Heap → Prop}
    (h0 : (((400 : Int) < n11 → (∃ (l14 : List D) (c15 : Nat) (g16 : Nat) (c17 : Nat) (g18 : Nat) (b19 : Bool), hpAt h13 i10 0 = some (.var (.agg [.d (.slice 5 l14), .sl (.he c15 g16) 0 none, .sl (.he c17 g18) 0 none, vBool b19])) ∧ (hpAt (Heap.put h13 i10 (some (.var (.agg [.d (.slice 5 l14), .sl (.he c15 g16) 0 none, .sl (.he c17 g18) 0 none, vBool true])))) i10 0 = some (.var (.agg [.d (.slice 5 l14), .sl (.he c15 g16) 0 none, .sl (.he c17 g18) 0 none, vBool true])) ∧ Q (.sl (.he h13.n 0) 3 none) (Heap.push (Heap.put h13 i10 (some (.var (.agg [.d (.slice 5 l14), .sl (.he c15 g16) 0 none, .sl (.he c17 g18) 0 none, vBool true])))) (.darr 0 3 ([])))))) ∧ (n11 ≤ 400 → (∃ (l14 : List D) (c15 : Nat) (g16 : Nat) (c17 : Nat) (g18 : Nat) (b19 : Bool), hpAt h13 i10 0 = some (.var (.agg [.d (.slice 5 l14), .sl (.he c15 g16) 0 none, .sl (.he c17 g18) 0 none, vBool b19])) ∧ ((b19 = true → Q (.sl (.he h13.n 0) 3 none) (Heap.push h13 (.darr 0 3 ([])))) ∧ (b19 = false → (∃ (n20 : Int) (n21 : Int) (s22 : ByteArray) (l23 : List D) (n24 : Int) (l25 : List D) (l26 : List D) (l27 : List D) (l28 : List D), l4[0]? = some (.agg [dI n20, dI n21, dS s22, .slice 9 l23, dI n24, .slice 0 l25, .slice 6 l26, .slice 4 l27, .slice 0 l28]) ∧ (Wc PP AA F203 [.ptr (.he i10 0) 0 4 0, .s 9 (.agg [dI n20, dI n21, dS s22, .slice 9 l23, dI n24, .slice 0 l25, .slice 6 l26, .slice 4 l27, .slice 0 l28]), vI n11, vBool false] (Heap.push h13 (.darr 0 3 ([]))) fun v H31 => ∃ (c29 : Nat) (g30 : Nat), v = .sl (.he c29 g30) 3 none ∧ ((n20 = 25 → (∃ (n32 : Int) (n33 : Int) (s34 : ByteArray) (l35 : List D) (n36 : Int) (l37 : List D) (l38 : List D) (l39 : List D) (l40 : List D), l4[1]? = some (.agg [dI n32, dI n33, dS s34, .slice 9 l35, dI n36, .slice 0 l37, .slice 6 l38, .slice 4 l39, .slice 0 l40]) ∧ (∃ (l41 : List D), hpAt H31 c29 g30 = some (.darr g30 3 l41) ∧ (Wc PP AA F203 [.ptr (.he i10 0) 0 4 0, .s 9 (.agg [dI n32, dI n33, dS s34, .slice 9 l35, dI n36, .slice 0 l37, .slice 6 l38, .slice 4 l39, .slice 0 l40]), vI (W (n11 + ((l41.length : Nat) : Int))), vBool b12] H31 fun v H44 => ∃ (c42 : Nat) (g43 : Nat), v = .sl (.he c42 g43) 3 none ∧ (∃ (l45 : List D), hpAt H44 c42 g43 = some (.darr g43 3 l45) ∧ (∃ (l46 : List D), hpAt (Heap.put H44 c42 none) c29 g30 = some (.darr g30 3 l46) ∧ ((l46.length + l45.length) ≤ 274877906944 ∧ Q (.sl (.he c29 ((g30 + 1))) 3 none) (Heap.put (Heap.put H44 c42 none) c29 (some (.darr ((g30 + 1)) 3 ((l46 ++ l45)))))))))))) ∧ (n20 ≠ 25 → (Wa PP AA F205 [vI 9, vI 0, vI 0] fun v => ∃ (n32 : Int) (n33 : Int) (n34 : Int), v = .s 3 (.agg [dI n32, dI n33, dI n34]) ∧ (∃ (l35 : List D), hpAt H31 c29 g30 = some (.darr g30 3 l35) ∧ ((l35.length + 1) ≤ 274877906944 ∧ (∃ (n36 : Int) (n37 : Int) (s38 : ByteArray) (l39 : List D) (n40 : Int) (l41 : List D) (l42 : List D) (l43 : List D) (l44 : List D), l4[1]? = some (.agg [dI n36, dI n37, dS s38, .slice 9 l39, dI n40, .slice 0 l41, .slice 6 l42, .slice 4 l43, .slice 0 l44]) ∧ (hpAt (Heap.put H31 c29 (some (.darr ((g30 + 1)) 3 ((l35 ++ [.agg [dI n32, dI n33, dI n34]]))))) c29 ((g30 + 1)) = some (.darr ((g30 + 1)) 3 ((l35 ++ [.agg [dI n32, dI n33, dI n34]]))) ∧ (Wc PP AA F203 [.ptr (.he i10 0) 0 4 0, .s 9 (.agg [dI n36, dI n37, dS s38, .slice 9 l39, dI n40, .slice 0 l41, .slice 6 l42, .slice 4 l43, .slice 0 l44]), vI (W (n11 + (((((l35 ++ [.agg [dI n32, dI n33, dI n34]]) : List D).length) : Nat) : Int))), vBool b12] (Heap.put H31 c29 (some (.darr ((g30 + 1)) 3 ((l35 ++ [.agg [dI n32, dI n33, dI n34]]))))) fun v H47 => ∃ (c45 : Nat) (g46 : Nat), v = .sl (.he c45 g46) 3 none ∧ (∃ (l48 : List D), hpAt H47 c45 g46 = some (.darr g46 3 l48) ∧ (∃ (l49 : List D), hpAt (Heap.put H47 c45 none) c29 ((g30 + 1)) = some (.darr ((g30 + 1)) 3 l49) ∧ ((l49.length + l48.length) ≤ 274877906944 ∧ Q (.sl (.he c29 (((g30 + 1) + 1))) 3 none) (Heap.put (Heap.put H47 c45 none) c29 (some (.darr (((g30 + 1) + 1)) 3 ((l49 ++ l48)))))))))))))))))))))))) :
    Wc PP AA F203 [.ptr (.he i10 0) 0 4 0, .s 9 (.agg [dI 15, dI n2, dS s3, .slice 9 l4, dI n5, .slice 0 l6, .slice 6 l7, .slice 4 l8, .slice 0 l9]), vI n11, vBool b12] h13 Q := by
  rcases icase 400 n11 with q0f | q0f
  · replace h0 := h0.1 q0f
    obtain ⟨l14, c15, g16, c17, g18, b19, q1, h0⟩ := h0
    obtain ⟨q2, h0⟩ := h0
    exact ent_ret (fs := [tt q0f, fo q1, fo q2, bT]) p203 a203 (by kernel_rfl) h0
  · replace h0 := h0.2 q0f
    obtain ⟨l14, c15, g16, c17, g18, b19, q1, h0⟩ := h0
    rcases bcase b19 with e | e
    · replace h0 := h0.1 e
      subst e
      exact ent_ret (fs := [tl q0f, fo q1, bT]) p203 a203 (by kernel_rfl) h0
    · replace h0 := h0.2 e
      subst e
      obtain ⟨n20, n21, s22, l23, n24, l25, l26, l27, l28, q6, h0⟩ := h0
      obtain ⟨v, H31, r7, c29, g30, e, h0⟩ := h0
      subst e
      rcases Classical.em (n20 = 25) with e | q11f
      · replace h0 := h0.1 e
        subst e
        obtain ⟨n32, n33, s34, l35, n36, l37, l38, l39, l40, q13, h0⟩ := h0
        obtain ⟨l41, q14, h0⟩ := h0
        obtain ⟨v, H44, r15, c42, g43, e, h0⟩ := h0
        subst e
        obtain ⟨l45, q16, h0⟩ := h0
        obtain ⟨l46, q18, h0⟩ := h0
        obtain ⟨q19, h0⟩ := h0
        exact ent_ret (fs := [tl q0f, fo q1, bF, bF, bT, rq, fd q6, fr r7, bF, rq, fd q6, bF, rq, fd q13, fo q14, fr r15, fo q16, fo q16, fo q18, rt (Nat.ble_eq_true_of_le q19)]) p203 a203 (by kernel_rfl) h0
      · replace h0 := h0.2 q11f
        obtain ⟨v, r12, n32, n33, n34, e, h0⟩ := h0
        subst e
        obtain ⟨l35, q13, h0⟩ := h0
        obtain ⟨q14, h0⟩ := h0
        obtain ⟨n36, n37, s38, l39, n40, l41, l42, l43, l44, q16, h0⟩ := h0
        obtain ⟨q17, h0⟩ := h0
        obtain ⟨v, H47, r18, c45, g46, e, h0⟩ := h0
        subst e
        obtain ⟨l48, q19, h0⟩ := h0
        obtain ⟨l49, q21, h0⟩ := h0
        obtain ⟨q22, h0⟩ := h0
        exact ent_ret (fs := [tl q0f, fo q1, bF, bF, bT, rq, fd q6, fr r7, bF, rq, fd q6, bt (bne_iff_ne.mpr q11f), fr (r12 H31), fo q13, rt (Nat.ble_eq_true_of_le q14), rq, fd q16, fo q17, fr r18, fo q19, fo q19, fo q21, rt (Nat.ble_eq_true_of_le q22)]) p203 a203 (by kernel_rfl) h0

end Am

/- Rules, printed by sym.py. -/
namespace Am
open Go Go.Proofs
set_option maxRecDepth 100000
/- selvage/selvageref15.Needs -/
noncomputable abbrev PF204 := Tryz.f14

noncomputable def f204_K1 : List It := [.lp (cdAt (codeOf PF204) [1, 1, 1, 0, 1, 0, 0]), .blk 0, .c (cdAt (codeOf PF204) [1, 1, 1, 1])]

noncomputable def f204_S1 (p1_1 : Int) (p1_2 : Int) (p1_3 : ByteArray) (p1_4 : List D) (p1_5 : Int) (p1_6 : List D) (p1_7 : List D) (p1_8 : List D) (p1_9 : List D) (p1_10 : Int) (p1_11 : Bool) (p1_12 : Int) : St :=
  { nt := 33, tm := [(1, .bp (.s 9 (.agg [dI p1_1, dI p1_2, dS p1_3, .slice 9 p1_4, dI p1_5, .slice 0 p1_6, .slice 6 p1_7, .slice 4 p1_8, .slice 0 p1_9])) 9 0), (3, vI p1_10), (4, vBool p1_11), (5, vI p1_12)], lo := [], hp := Heap.none }

theorem p204 : AA.prim F204 = none := by kernel_rfl
theorem a204 : AA.alone F204 = true := by kernel_rfl

theorem w204 {n1 : Int} {n2 : Int} {s3 : ByteArray} {l4 : List D} {n5 : Int} {l6 : List D} {l7 : List D} {l8 : List D} {l9 : List D} {Q : V → Prop}
    (h0 : (Wa PP AA F214 [vI n1] fun v => ∃ (b10 : Bool), v = vBool b10 ∧ Wl PP AA F204 f204_K1 (f204_S1 n1 n2 s3 l4 n5 l6 l7 l8 l9 1 b10 0) (QAl Q))) :
    Wa PP AA F204 [.s 9 (.agg [dI n1, dI n2, dS s3, .slice 9 l4, dI n5, .slice 0 l6, .slice 6 l7, .slice 4 l8, .slice 0 l9])] Q := by
  obtain ⟨v, r0, b10, e, h0⟩ := h0
  subst e
  exact ent_atA (fs := [fr (r0 Heap.none)]) p204 a204 (by kernel_rfl) (by kernel_rfl) h0

theorem w204_1 {p1_1 : Int} {p1_2 : Int} {p1_3 : ByteArray} {p1_4 : List D} {p1_5 : Int} {p1_6 : List D} {p1_7 : List D} {p1_8 : List D} {p1_9 : List D} {p1_10 : Int} {p1_11 : Bool} {p1_12 : Int} {Q : V → Prop}
    (h0 : ((p1_12 < ((p1_4.length : Nat) : Int) → ((0 : Int) ≤ p1_12 ∧ (∃ (nr11 : Int) (nr12 : Int) (sr13 : ByteArray) (lr14 : List D) (nr15 : Int) (lr16 : List D) (lr17 : List D) (lr18 : List D) (lr19 : List D), p1_4[(Int.toNat p1_12)]? = some (.agg [dI nr11, dI nr12, dS sr13, .slice 9 lr14, dI nr15, .slice 0 lr16, .slice 6 lr17, .slice 4 lr18, .slice 0 lr19]) ∧ (Wa PP AA F204 [.s 9 (.agg [dI nr11, dI nr12, dS sr13, .slice 9 lr14, dI nr15, .slice 0 lr16, .slice 6 lr17, .slice 4 lr18, .slice 0 lr19])] fun v => ∃ (nr110 : Int), v = vI nr110 ∧ ((p1_11 = true → ((p1_10 < nr110 → Wl PP AA F204 f204_K1 (f204_S1 p1_1 p1_2 p1_3 p1_4 p1_5 p1_6 p1_7 p1_8 p1_9 nr110 true ((W (p1_12 + 1)))) (QAl Q)) ∧ (nr110 ≤ p1_10 → Wl PP AA F204 f204_K1 (f204_S1 p1_1 p1_2 p1_3 p1_4 p1_5 p1_6 p1_7 p1_8 p1_9 p1_10 true ((W (p1_12 + 1)))) (QAl Q)))) ∧ (p1_11 = false → ((p1_10 < (W (nr110 + p1_12)) → Wl PP AA F204 f204_K1 (f204_S1 p1_1 p1_2 p1_3 p1_4 p1_5 p1_6 p1_7 p1_8 p1_9 ((W (nr110 + p1_12))) false ((W (p1_12 + 1)))) (QAl Q)) ∧ ((W (nr110 + p1_12)) ≤ p1_10 → Wl PP AA F204 f204_K1 (f204_S1 p1_1 p1_2 p1_3 p1_4 p1_5 p1_6 p1_7 p1_8 p1_9 p1_10 false ((W (p1_12 + 1)))) (QAl Q))))))))) ∧ (((p1_4.length : Nat) : Int) ≤ p1_12 → Q (vI p1_10)))) :
    Wl PP AA F204 f204_K1 (f204_S1 p1_1 p1_2 p1_3 p1_4 p1_5 p1_6 p1_7 p1_8 p1_9 p1_10 p1_11 p1_12) (QAl Q) := by
  rcases icase p1_12 (((p1_4.length : Nat) : Int)) with q0f | q0f
  · replace h0 := h0.1 q0f
    obtain ⟨q1, h0⟩ := h0
    obtain ⟨nr11, nr12, sr13, lr14, nr15, lr16, lr17, lr18, lr19, q2, h0⟩ := h0
    obtain ⟨v, r3, nr110, e, h0⟩ := h0
    subst e
    rcases bcase p1_11 with e | e
    · replace h0 := h0.1 e
      subst e
      rcases icase p1_10 nr110 with q5f | q5f
      · replace h0 := h0.1 q5f
        exact lp_at (fs := [tt q0f, rd q1, fd q2, fr (r3 Heap.none), bF, tt q5f]) (by kernel_rfl) h0
      · replace h0 := h0.2 q5f
        exact lp_at (fs := [tt q0f, rd q1, fd q2, fr (r3 Heap.none), bF, tl q5f]) (by kernel_rfl) h0
    · replace h0 := h0.2 e
      subst e
      rcases icase p1_10 ((W (nr110 + p1_12))) with q5f | q5f
      · replace h0 := h0.1 q5f
        exact lp_at (fs := [tt q0f, rd q1, fd q2, fr (r3 Heap.none), bT, tt q5f]) (by kernel_rfl) h0
      · replace h0 := h0.2 q5f
        exact lp_at (fs := [tt q0f, rd q1, fd q2, fr (r3 Heap.none), bT, tl q5f]) (by kernel_rfl) h0
  · replace h0 := h0.2 q0f
    exact lp_ret (fs := [tl q0f]) (h' := Heap.none) (by kernel_rfl) ⟨by kernel_rfl, h0⟩

/- selvage/selvageref15.one -/
noncomputable abbrev PF205 := Tryz.f29

theorem p205 : AA.prim F205 = none := by kernel_rfl
theorem a205 : AA.alone F205 = true := by kernel_rfl

theorem w205 {n1 : Int} {n2 : Int} {n3 : Int} {Q : V → Prop}
    (h0 : Q (.s 3 (.agg [dI n1, dI n2, dI n3]))) :
    Wa PP AA F205 [vI n1, vI n2, vI n3] Q := by
  exact ent_retA (fs := []) (h' := Heap.none) p205 a205 (by kernel_rfl) (by kernel_rfl) (by kernel_rfl) h0

/- (*selvage/selvageref15.G).kids -/
noncomputable abbrev PF208 := Tryz.f32

noncomputable def f208_K1 : List It := [.lp (cdAt (codeOf PF208) [1, 1, 0, 1, 0, 0]), .blk 0, .c (cdAt (codeOf PF208) [1, 1, 1])]

noncomputable def f208_S1 (p1_1 : Nat) (p1_2 : Int) (p1_3 : Int) (p1_4 : Int) (p1_5 : ByteArray) (p1_6 : List D) (p1_7 : Int) (p1_8 : List D) (p1_9 : List D) (p1_10 : List D) (p1_11 : List D) (p1_12 : Nat) (p1_13 : Nat) (p1_14 : Int) (p1_15 : Heap) : St :=
  { nt := 30, tm := [(0, .ptr (.he p1_1 0) 0 4 0), (2, vI p1_2), (4, .bp (.s 9 (.agg [dI p1_3, dI p1_4, dS p1_5, .slice 9 p1_6, dI p1_7, .slice 0 p1_8, .slice 6 p1_9, .slice 4 p1_10, .slice 0 p1_11])) 9 0), (7, .sl (.he p1_12 p1_13) 3 none), (8, vI p1_14)], lo := [], hp := p1_15 }

theorem p208 : AA.prim F208 = none := by kernel_rfl
theorem a208 : AA.alone F208 = false := by kernel_rfl

theorem w208 {i1 : Nat} {n2 : Int} {n3 : Int} {s4 : ByteArray} {l5 : List D} {n6 : Int} {l7 : List D} {l8 : List D} {l9 : List D} {l10 : List D} {n11 : Int} {h12 : Heap} {Q : V → Heap → Prop}
    (h0 : Wl PP AA F208 f208_K1 (f208_S1 i1 n11 n2 n3 s4 l5 n6 l7 l8 l9 l10 h12.n 0 0 ((Heap.push h12 (.darr 0 3 ([]))))) Q) :
    Wc PP AA F208 [.ptr (.he i1 0) 0 4 0, .s 9 (.agg [dI n2, dI n3, dS s4, .slice 9 l5, dI n6, .slice 0 l7, .slice 6 l8, .slice 4 l9, .slice 0 l10]), vI n11] h12 Q := by
  exact ent_at (fs := []) p208 a208 (by kernel_rfl) h0

theorem w208_1 {p1_1 : Nat} {p1_2 : Int} {p1_3 : Int} {p1_4 : Int} {p1_5 : ByteArray} {p1_6 : List D} {p1_7 : Int} {p1_8 : List D} {p1_9 : List D} {p1_10 : List D} {p1_11 : List D} {p1_12 : Nat} {p1_13 : Nat} {p1_14 : Int} {p1_15 : Heap} {Q : V → Heap → Prop}
    (h0 : ((p1_14 < ((p1_6.length : Nat) : Int) → ((0 : Int) ≤ p1_14 ∧ (∃ (nr11 : Int) (nr12 : Int) (sr13 : ByteArray) (lr14 : List D) (nr15 : Int) (lr16 : List D) (lr17 : List D) (lr18 : List D) (lr19 : List D), p1_6[(Int.toNat p1_14)]? = some (.agg [dI nr11, dI nr12, dS sr13, .slice 9 lr14, dI nr15, .slice 0 lr16, .slice 6 lr17, .slice 4 lr18, .slice 0 lr19]) ∧ (∃ (lr110 : List D), hpAt p1_15 p1_12 p1_13 = some (.darr p1_13 3 lr110) ∧ (Wc PP AA F203 [.ptr (.he p1_1 0) 0 4 0, .s 9 (.agg [dI nr11, dI nr12, dS sr13, .slice 9 lr14, dI nr15, .slice 0 lr16, .slice 6 lr17, .slice 4 lr18, .slice 0 lr19]), vI (W (p1_2 + ((lr110.length : Nat) : Int))), vBool false] p1_15 fun v Hr113 => ∃ (cr111 : Nat) (gr112 : Nat), v = .sl (.he cr111 gr112) 3 none ∧ (∃ (lr114 : List D), hpAt Hr113 cr111 gr112 = some (.darr gr112 3 lr114) ∧ (∃ (lr115 : List D), hpAt (Heap.put Hr113 cr111 none) p1_12 p1_13 = some (.darr p1_13 3 lr115) ∧ ((lr115.length + lr114.length) ≤ 274877906944 ∧ Wl PP AA F208 f208_K1 (f208_S1 p1_1 p1_2 p1_3 p1_4 p1_5 p1_6 p1_7 p1_8 p1_9 p1_10 p1_11 p1_12 ((p1_13 + 1)) ((W (p1_14 + 1))) ((Heap.put (Heap.put Hr113 cr111 none) p1_12 (some (.darr ((p1_13 + 1)) 3 ((lr115 ++ lr114))))))) Q)))))))) ∧ (((p1_6.length : Nat) : Int) ≤ p1_14 → Q (.sl (.he p1_12 p1_13) 3 none) p1_15))) :
    Wl PP AA F208 f208_K1 (f208_S1 p1_1 p1_2 p1_3 p1_4 p1_5 p1_6 p1_7 p1_8 p1_9 p1_10 p1_11 p1_12 p1_13 p1_14 p1_15) Q := by
  rcases icase p1_14 (((p1_6.length : Nat) : Int)) with q0f | q0f
  · replace h0 := h0.1 q0f
    obtain ⟨q1, h0⟩ := h0
    obtain ⟨nr11, nr12, sr13, lr14, nr15, lr16, lr17, lr18, lr19, q2, h0⟩ := h0
    obtain ⟨lr110, q3, h0⟩ := h0
    obtain ⟨v, Hr113, r4, cr111, gr112, e, h0⟩ := h0
    subst e
    obtain ⟨lr114, q5, h0⟩ := h0
    obtain ⟨lr115, q7, h0⟩ := h0
    obtain ⟨q8, h0⟩ := h0
    exact lp_at (fs := [tt q0f, rd q1, fd q2, fo q3, fr r4, fo q5, fo q5, fo q7, rt (Nat.ble_eq_true_of_le q8)]) (by kernel_rfl) h0
  · replace h0 := h0.2 q0f
    exact lp_ret (fs := [tl q0f]) (by kernel_rfl) h0

/- (*selvage/selvageref15.G).number -/
noncomputable abbrev PF209 := Tryz.f33

noncomputable def f209_K1 : List It := [.lp (cdAt (codeOf PF209) [1, 0, 1, 0, 0]), .blk 0, .c (cdAt (codeOf PF209) [1, 1])]

noncomputable def f209_S1 (p1_1 : Nat) (p1_2 : Int) (p1_3 : Int) (p1_4 : Heap) : St :=
  { nt := 41, tm := [(0, .ptr (.he p1_1 0) 0 4 0), (1, vI p1_2), (5, vI p1_3)], lo := [], hp := p1_4 }

theorem p209 : AA.prim F209 = none := by kernel_rfl
theorem a209 : AA.alone F209 = false := by kernel_rfl

theorem w209 {i1 : Nat} {n2 : Int} {h3 : Heap} {Q : V → Heap → Prop}
    (h0 : Wl PP AA F209 f209_K1 (f209_S1 i1 n2 0 h3) Q) :
    Wc PP AA F209 [.ptr (.he i1 0) 0 4 0, vI n2] h3 Q := by
  exact ent_at (fs := []) p209 a209 (by kernel_rfl) h0

theorem w209_1 {p1_1 : Nat} {p1_2 : Int} {p1_3 : Int} {p1_4 : Heap} {Q : V → Heap → Prop}
    (h0 : (∃ (lr11 : List D) (cr12 : Nat) (gr13 : Nat) (cr14 : Nat) (gr15 : Nat) (br16 : Bool), hpAt p1_4 p1_1 0 = some (.var (.agg [.d (.slice 5 lr11), .sl (.he cr12 gr13) 0 none, .sl (.he cr14 gr15) 0 none, vBool br16])) ∧ (∃ (lr17 : List D), hpAt p1_4 cr12 gr13 = some (.darr gr13 0 lr17) ∧ ((p1_3 < ((lr17.length : Nat) : Int) → ((0 : Int) ≤ p1_3 ∧ ((Int.toNat p1_3) < lr17.length ∧ (∃ (nr18 : Int), lr17[(Int.toNat p1_3)]? = some (dI nr18) ∧ ((nr18 = p1_2 → Q (vI p1_3) p1_4) ∧ (nr18 ≠ p1_2 → Wl PP AA F209 f209_K1 (f209_S1 p1_1 p1_2 ((W (p1_3 + 1))) p1_4) Q)))))) ∧ (((lr17.length : Nat) : Int) ≤ p1_3 → ((lr17.length + 1) ≤ 274877906944 ∧ (hpAt (Heap.put p1_4 cr12 (some (.darr ((gr13 + 1)) 0 ((lr17 ++ [dI p1_2]))))) p1_1 0 = some (.var (.agg [.d (.slice 5 lr11), .sl (.he cr12 gr13) 0 none, .sl (.he cr14 gr15) 0 none, vBool br16])) ∧ (hpAt (Heap.put (Heap.put p1_4 cr12 (some (.darr ((gr13 + 1)) 0 ((lr17 ++ [dI p1_2]))))) p1_1 (some (.var (.agg [.d (.slice 5 lr11), .sl (.he cr12 ((gr13 + 1))) 0 none, .sl (.he cr14 gr15) 0 none, vBool br16])))) p1_1 0 = some (.var (.agg [.d (.slice 5 lr11), .sl (.he cr12 ((gr13 + 1))) 0 none, .sl (.he cr14 gr15) 0 none, vBool br16])) ∧ (hpAt (Heap.put (Heap.put p1_4 cr12 (some (.darr ((gr13 + 1)) 0 ((lr17 ++ [dI p1_2]))))) p1_1 (some (.var (.agg [.d (.slice 5 lr11), .sl (.he cr12 ((gr13 + 1))) 0 none, .sl (.he cr14 gr15) 0 none, vBool br16])))) cr12 ((gr13 + 1)) = some (.darr ((gr13 + 1)) 0 ((lr17 ++ [dI p1_2]))) ∧ Q (vI (W ((((((lr17 ++ [dI p1_2]) : List D).length) : Nat) : Int) - 1))) (Heap.put (Heap.put p1_4 cr12 (some (.darr ((gr13 + 1)) 0 ((lr17 ++ [dI p1_2]))))) p1_1 (some (.var (.agg [.d (.slice 5 lr11), .sl (.he cr12 ((gr13 + 1))) 0 none, .sl (.he cr14 gr15) 0 none, vBool br16]))))))))))))) :
    Wl PP AA F209 f209_K1 (f209_S1 p1_1 p1_2 p1_3 p1_4) Q := by
  obtain ⟨lr11, cr12, gr13, cr14, gr15, br16, q0, h0⟩ := h0
  obtain ⟨lr17, q1, h0⟩ := h0
  rcases icase p1_3 (((lr17.length : Nat) : Int)) with q2f | q2f
  · replace h0 := h0.1 q2f
    obtain ⟨q4, h0⟩ := h0
    obtain ⟨q6, h0⟩ := h0
    obtain ⟨nr18, q8, h0⟩ := h0
    rcases Classical.em ((nr18 : Int) = p1_2) with q9f | q9f
    · replace h0 := h0.1 q9f
      exact lp_ret (fs := [fo q0, fo q1, tt q2f, fo q0, rd q4, fo q1, rt (Nat.ble_eq_true_of_le q6), fo q1, fd q8, bt (beq_iff_eq.mpr q9f)]) (by kernel_rfl) h0
    · replace h0 := h0.2 q9f
      exact lp_at (fs := [fo q0, fo q1, tt q2f, fo q0, rd q4, fo q1, rt (Nat.ble_eq_true_of_le q6), fo q1, fd q8, bf (beq_eq_false_iff_ne.mpr q9f)]) (by kernel_rfl) h0
  · replace h0 := h0.2 q2f
    obtain ⟨q5, h0⟩ := h0
    obtain ⟨q6, h0⟩ := h0
    obtain ⟨q7, h0⟩ := h0
    obtain ⟨q8, h0⟩ := h0
    exact lp_ret (fs := [fo q0, fo q1, tl q2f, fo q0, fo q1, rt (Nat.ble_eq_true_of_le q5), fo q6, fo q7, fo q8]) (by kernel_rfl) h0

/- (*selvage/selvageref15.G).op -/
noncomputable abbrev PF212 := Tryz.f36

noncomputable def f212_K1 : List It := [.lp (cdAt (codeOf PF212) [1, 1, 1, 1, 0, 1, 0, 0]), .blk 0, .c (cdAt (codeOf PF212) [1, 1, 1, 1, 1])]

noncomputable def f212_S1 (p1_1 : Int) (p1_2 : Int) (p1_3 : ByteArray) (p1_4 : List D) (p1_5 : Int) (p1_6 : List D) (p1_7 : List D) (p1_8 : List D) (p1_9 : List D) (p1_10 : Nat) (p1_11 : Nat) (p1_12 : Int) (p1_13 : Heap) : St :=
  { nt := 39, tm := [(4, .bp (.s 9 (.agg [dI p1_1, dI p1_2, dS p1_3, .slice 9 p1_4, dI p1_5, .slice 0 p1_6, .slice 6 p1_7, .slice 4 p1_8, .slice 0 p1_9])) 9 0), (7, .sl (.he p1_10 p1_11) 3 none), (8, .d (.slice 0 ([dS (mkStr [43]), dS (mkStr [45]), dS (mkStr [42]), dS (mkStr [47]), dS (mkStr [37]), dS (mkStr [61]), dS (mkStr [60])]))), (9, vI p1_12)], lo := [], hp := p1_13 }

theorem p212 : AA.prim F212 = none := by kernel_rfl
theorem a212 : AA.alone F212 = false := by kernel_rfl

theorem w212 {i1 : Nat} {n2 : Int} {n3 : Int} {s4 : ByteArray} {l5 : List D} {n6 : Int} {l7 : List D} {l8 : List D} {l9 : List D} {l10 : List D} {n11 : Int} {h12 : Heap} {Q : V → Heap → Prop}
    (h0 : (Wc PP AA F208 [.ptr (.he i1 0) 0 4 0, .s 9 (.agg [dI n2, dI n3, dS s4, .slice 9 l5, dI n6, .slice 0 l7, .slice 6 l8, .slice 4 l9, .slice 0 l10]), vI n11] h12 fun v H15 => ∃ (c13 : Nat) (g14 : Nat), v = .sl (.he c13 g14) 3 none ∧ (((s4.toList == ((mkStr [94])).toList) = true → (Wa PP AA F205 [vI 20, vI 0, vI 0] fun v => ∃ (n16 : Int) (n17 : Int) (n18 : Int), v = .s 3 (.agg [dI n16, dI n17, dI n18]) ∧ (∃ (l19 : List D), hpAt H15 c13 g14 = some (.darr g14 3 l19) ∧ ((l19.length + 1) ≤ 274877906944 ∧ Q (.sl (.he c13 ((g14 + 1))) 3 none) (Heap.put H15 c13 (some (.darr ((g14 + 1)) 3 ((l19 ++ [.agg [dI n16, dI n17, dI n18]]))))))))) ∧ ((s4.toList == ((mkStr [94])).toList) = false → Wl PP AA F212 f212_K1 (f212_S1 n2 n3 s4 l5 n6 l7 l8 l9 l10 c13 g14 0 H15) Q)))) :
    Wc PP AA F212 [.ptr (.he i1 0) 0 4 0, .s 9 (.agg [dI n2, dI n3, dS s4, .slice 9 l5, dI n6, .slice 0 l7, .slice 6 l8, .slice 4 l9, .slice 0 l10]), vI n11] h12 Q := by
  obtain ⟨v, H15, r0, c13, g14, e, h0⟩ := h0
  subst e
  rcases bcase ((s4.toList == ((mkStr [94])).toList)) with q1f | q1f
  · replace h0 := h0.1 q1f
    obtain ⟨v, r2, n16, n17, n18, e, h0⟩ := h0
    subst e
    obtain ⟨l19, q3, h0⟩ := h0
    obtain ⟨q4, h0⟩ := h0
    exact ent_ret (fs := [fr r0, bt q1f, fr (r2 H15), fo q3, rt (Nat.ble_eq_true_of_le q4)]) p212 a212 (by kernel_rfl) h0
  · replace h0 := h0.2 q1f
    exact ent_at (fs := [fr r0, bf q1f]) p212 a212 (by kernel_rfl) h0

theorem w212_1 {p1_1 : Int} {p1_2 : Int} {p1_3 : ByteArray} {p1_4 : List D} {p1_5 : Int} {p1_6 : List D} {p1_7 : List D} {p1_8 : List D} {p1_9 : List D} {p1_10 : Nat} {p1_11 : Nat} {p1_12 : Int} {p1_13 : Heap} {Q : V → Heap → Prop}
    (h0 : ((p1_12 < 7 → ((0 : Int) ≤ p1_12 ∧ (∃ (sr11 : ByteArray), (([dS (mkStr [43]), dS (mkStr [45]), dS (mkStr [42]), dS (mkStr [47]), dS (mkStr [37]), dS (mkStr [61]), dS (mkStr [60])] : List D))[(Int.toNat p1_12)]? = some (dS sr11) ∧ (((sr11.toList == p1_3.toList) = true → (Wa PP AA F205 [vI 19, vI p1_12, vI 0] fun v => ∃ (nr12 : Int) (nr13 : Int) (nr14 : Int), v = .s 3 (.agg [dI nr12, dI nr13, dI nr14]) ∧ (∃ (lr15 : List D), hpAt p1_13 p1_10 p1_11 = some (.darr p1_11 3 lr15) ∧ ((lr15.length + 1) ≤ 274877906944 ∧ Wl PP AA F212 f212_K1 (f212_S1 p1_1 p1_2 p1_3 p1_4 p1_5 p1_6 p1_7 p1_8 p1_9 p1_10 ((p1_11 + 1)) ((W (p1_12 + 1))) ((Heap.put p1_13 p1_10 (some (.darr ((p1_11 + 1)) 3 ((lr15 ++ [.agg [dI nr12, dI nr13, dI nr14]]))))))) Q)))) ∧ ((sr11.toList == p1_3.toList) = false → Wl PP AA F212 f212_K1 (f212_S1 p1_1 p1_2 p1_3 p1_4 p1_5 p1_6 p1_7 p1_8 p1_9 p1_10 p1_11 ((W (p1_12 + 1))) p1_13) Q))))) ∧ ((7 : Int) ≤ p1_12 → Q (.sl (.he p1_10 p1_11) 3 none) p1_13))) :
    Wl PP AA F212 f212_K1 (f212_S1 p1_1 p1_2 p1_3 p1_4 p1_5 p1_6 p1_7 p1_8 p1_9 p1_10 p1_11 p1_12 p1_13) Q := by
  rcases icase p1_12 7 with q0f | q0f
  · replace h0 := h0.1 q0f
    obtain ⟨q1, h0⟩ := h0
    obtain ⟨sr11, q2, h0⟩ := h0
    rcases bcase ((sr11.toList == p1_3.toList)) with q3f | q3f
    · replace h0 := h0.1 q3f
      obtain ⟨v, r4, nr12, nr13, nr14, e, h0⟩ := h0
      subst e
      obtain ⟨lr15, q5, h0⟩ := h0
      obtain ⟨q6, h0⟩ := h0
      exact lp_at (fs := [tt q0f, rd q1, fd q2, bt q3f, fr (r4 p1_13), fo q5, rt (Nat.ble_eq_true_of_le q6)]) (by kernel_rfl) h0
    · replace h0 := h0.2 q3f
      exact lp_at (fs := [tt q0f, rd q1, fd q2, bf q3f]) (by kernel_rfl) h0
  · replace h0 := h0.2 q0f
    exact lp_ret (fs := [tl q0f]) (by kernel_rfl) h0

/- selvage/selvageref15.Apart -/
noncomputable abbrev PF214 := Tryz.f38

theorem p214 : AA.prim F214 = none := by kernel_rfl
theorem a214 : AA.alone F214 = true := by kernel_rfl

theorem w214 {n1 : Int} {Q : V → Prop}
    (h0 : ((n1 = 10 → Q (vBool true)) ∧ (n1 ≠ 10 → ((n1 = 15 → Q (vBool true)) ∧ (n1 ≠ 15 → ((n1 = 11 → Q (vBool true)) ∧ (n1 ≠ 11 → ((n1 = 12 → Q (vBool true)) ∧ (n1 ≠ 12 → ((n1 = 13 → Q (vBool true)) ∧ (n1 ≠ 13 → ((n1 = 21 → Q (vBool true)) ∧ (n1 ≠ 21 → ((n1 = 19 → Q (vBool true)) ∧ (n1 ≠ 19 → Q (vBool false)))))))))))))))) :
    Wa PP AA F214 [vI n1] Q := by
  rcases Classical.em (n1 = 10) with e | q0f
  · replace h0 := h0.1 e
    subst e
    exact ent_retA (fs := [bT, bT]) (h' := Heap.none) p214 a214 (by kernel_rfl) (by kernel_rfl) (by kernel_rfl) h0
  · replace h0 := h0.2 q0f
    rcases Classical.em (n1 = 15) with e | q1f
    · replace h0 := h0.1 e
      subst e
      exact ent_retA (fs := [bF, bT, bT]) (h' := Heap.none) p214 a214 (by kernel_rfl) (by kernel_rfl) (by kernel_rfl) h0
    · replace h0 := h0.2 q1f
      rcases Classical.em (n1 = 11) with e | q2f
      · replace h0 := h0.1 e
        subst e
        exact ent_retA (fs := [bF, bF, bT, bT]) (h' := Heap.none) p214 a214 (by kernel_rfl) (by kernel_rfl) (by kernel_rfl) h0
      · replace h0 := h0.2 q2f
        rcases Classical.em (n1 = 12) with e | q3f
        · replace h0 := h0.1 e
          subst e
          exact ent_retA (fs := [bF, bF, bF, bT, bT]) (h' := Heap.none) p214 a214 (by kernel_rfl) (by kernel_rfl) (by kernel_rfl) h0
        · replace h0 := h0.2 q3f
          rcases Classical.em (n1 = 13) with e | q4f
          · replace h0 := h0.1 e
            subst e
            exact ent_retA (fs := [bF, bF, bF, bF, bT, bT]) (h' := Heap.none) p214 a214 (by kernel_rfl) (by kernel_rfl) (by kernel_rfl) h0
          · replace h0 := h0.2 q4f
            rcases Classical.em (n1 = 21) with e | q5f
            · replace h0 := h0.1 e
              subst e
              exact ent_retA (fs := [bF, bF, bF, bF, bF, bT, bT]) (h' := Heap.none) p214 a214 (by kernel_rfl) (by kernel_rfl) (by kernel_rfl) h0
            · replace h0 := h0.2 q5f
              rcases Classical.em (n1 = 19) with e | q6f
              · replace h0 := h0.1 e
                subst e
                exact ent_retA (fs := [bF, bF, bF, bF, bF, bF, bT]) (h' := Heap.none) p214 a214 (by kernel_rfl) (by kernel_rfl) (by kernel_rfl) h0
              · replace h0 := h0.2 q6f
                exact ent_retA (fs := [bf (beq_eq_false_iff_ne.mpr q0f), bf (beq_eq_false_iff_ne.mpr q1f), bf (beq_eq_false_iff_ne.mpr q2f), bf (beq_eq_false_iff_ne.mpr q3f), bf (beq_eq_false_iff_ne.mpr q4f), bf (beq_eq_false_iff_ne.mpr q5f), bf (beq_eq_false_iff_ne.mpr q6f)]) (h' := Heap.none) p214 a214 (by kernel_rfl) (by kernel_rfl) (by kernel_rfl) h0

end Am

/- AM: words for what functions come to. -/
namespace Am
open Go

theorem W_id {n : Int} (h1 : -9223372036854775808 ≤ n) (h2 : n ≤ 9223372036854775807) : W n = n := by
  show IntKind.wrap .i64 n = n
  simp [IntKind.wrap, IntKind.bits, IntKind.signed]
  omega

theorem W_succ {i l : Nat} (h : i < l) (hl : l ≤ 274877906944) : W ((i : Int) + 1) = ((i + 1 : Nat) : Int) := by
  rw [W_id (by omega) (by omega)]; rfl

theorem W_succ2 {i l : Nat} (h : i < l) (hl : l ≤ 9223372036854775807) : W ((i : Int) + 1) = ((i + 1 : Nat) : Int) := by
  rw [W_id (by omega) (by omega)]; rfl

/-- Down from the end. -/
theorem upto {n : Nat} {S : Nat → Prop} (h : ∀ i, i ≤ n → (i < n → S (i + 1)) → S i) : ∀ i, i ≤ n → S i := by
  intro i hi
  obtain ⟨m, rfl⟩ : ∃ m, n = i + m := ⟨n - i, by omega⟩
  clear hi
  induction m generalizing i with
  | zero => exact h i (by omega) fun h' => absurd h' (by omega)
  | succ m ih =>
    refine h i (by omega) fun _ => ih (i + 1) ?_
    rw [show i + 1 + m = i + (m + 1) by omega]
    exact h

theorem getI {α : Type} {l : List α} {i : Nat} (h : i < l.length) : l[((i : Int).toNat)]? = some l[i] := by
  simp

theorem drop_cons {α : Type} {l : List α} {i : Nat} (h : i < l.length) : l.drop i = l[i] :: l.drop (i + 1) := by
  simp

theorem Heap.get_put (h : Heap) (i j : Nat) (o : Option Obj) : (h.put i o).get j = if i = j then o else h.get j := heap_get_put h i j o
theorem hpAt_put_same {h : Heap} {i g : Nat} {o : Obj} (hg : o.gen = g) : hpAt (h.put i (some o)) i g = some o := by
  unfold hpAt; rw [heap_get_put]; simp [hg]
theorem hpAt_put_ne {h : Heap} {i j g : Nat} {o : Option Obj} (hn : i ≠ j) : hpAt (h.put i o) j g = hpAt h j g := by
  unfold hpAt; rw [heap_get_put]; simp [hn]
theorem hpAt_push_new {h : Heap} {g : Nat} {o : Obj} (hg : o.gen = g) : hpAt (h.push o) h.n g = some o := by
  unfold hpAt; rw [heap_get_push]; simp [hg]
theorem hpAt_push_old {h : Heap} {j g : Nat} {o : Obj} (hn : j < h.n) : hpAt (h.push o) j g = hpAt h j g := by
  unfold hpAt; rw [heap_get_push]; simp [show h.n ≠ j by omega]
@[simp] theorem Heap.put_n (h : Heap) (i : Nat) (o : Option Obj) : (h.put i o).n = h.n := rfl
@[simp] theorem Heap.push_n (h : Heap) (o : Obj) : (h.push o).n = h.n + 1 := rfl

theorem hpAt_ne {h : Heap} {i j g g' : Nat} {o o' : Obj} (h1 : hpAt h i g = some o) (h2 : hpAt h j g' = some o') (hn : o ≠ o') : i ≠ j := by
  rintro rfl
  unfold hpAt at h1 h2
  split at h1
  · rename_i x hx
    rw [hx] at h2
    simp only at h2
    cases hg : Nat.beq x.gen g <;> cases hg' : Nat.beq x.gen g' <;> simp [hg, hg'] at h1 h2
    exact hn (h1.symm.trans h2)
  · cases h1

theorem Wa.eq {P : Program} {an : An} {f : FuncId} {args : List V} {x : V} {Q : V → Prop} (w : Wa P an f args (· = x)) (q : Q x) : Wa P an f args Q :=
  w.mono fun _ e => e ▸ q

theorem Wa.ofC {P : Program} {an : An} {f : FuncId} {args : List V} {x : V} (w : ∀ h, Wc P an f args h fun v h' => v = x ∧ h' = h) : Wa P an f args (· = x) :=
  ⟨x, fun h => by obtain ⟨v, h', a, rfl, rfl⟩ := w h; exact a, rfl⟩

/-- The first place at which p is true, from i on. -/
def idxF (p : D → Bool) : List D → Int → Int
  | [], _ => -1
  | x :: r, i => if p x then i else idxF p r (i + 1)

theorem idxF_any (p : D → Bool) : ∀ (l : List D) (i : Int), 0 ≤ i → decide (idxF p l i ≥ 0) = l.any p
  | [], i, h => by simp [idxF]
  | x :: r, i, h => by
    have := idxF_any p r (i + 1) (by omega)
    simp only [idxF, List.any_cons]
    by_cases hp : p x = true
    · simp [hp, h]
    · simp only [hp, if_false, Bool.false_eq_true]
      rw [this]; simp

theorem idxF_lt (p : D → Bool) : ∀ (l : List D) (i : Int), idxF p l i < i + l.length ∧ -1 ≤ idxF p l i ∨ i < 0
  | [], i => by simp [idxF]; omega
  | x :: r, i => by
    have := idxF_lt p r (i + 1)
    simp only [idxF, List.length_cons]
    split <;> omega

end Am



/- GenRaw: whether an instruction may be, by the program and by the document. -/
namespace Am
open Go
set_option maxRecDepth 10000

theorem s42 (n a b : Int) : Wa PP AA F42 [vI n, vI a, vI b] (· = vBool (decide (a ≤ n ∧ n ≤ b))) := by
  refine w42 ⟨fun h => ?_, fun h => ?_⟩
  · congr 1; simp; omega
  · congr 1; simp [h]

/-- How many operands. -/
def usesM (n : Int) : Int :=
  if n = 10 ∨ n = 11 ∨ n = 18 then 2
  else if n = 1 ∨ n = 2 ∨ n = 3 ∨ n = 4 ∨ n = 6 ∨ n = 7 ∨ n = 8 ∨ n = 12 ∨ n = 16 ∨ n = 17 ∨ n = 19 ∨ n = 21 ∨ n = 28 then 1
  else if 1 ≤ n ∧ n ≤ 33 then 0 else -1

theorem s77 (n : Int) : Wa PP AA F77 [vI n] (· = vI (usesM n)) := by
  refine w77 ?_
  simp only [usesM]
  repeat' first
    | (refine And.intro (fun h => ?_) (fun h => ?_))
    | (subst h; rfl)
  all_goals first
    | rfl
    | (congr 1; repeat' split <;> first | rfl | omega)

def L2 : List Int := [10, 11, 18]
def L0 : List Int := [5, 9, 13, 14, 15, 20, 22, 23, 24, 25, 26, 27, 29, 30, 31, 32, 33]

theorem W_up {i : Nat} (h : i < 274877906944) : W ((i : Int) + 1) = ((i + 1 : Nat) : Int) := W_succ h (by omega)

theorem s51_2 (n : Int) : ∀ i : Nat, i ≤ 17 → Wl PP AA F51 f51_K2 (f51_S2 n i) (QAl (· = vI (if n ∈ L0.drop i then 0 else 1))) :=
  upto fun i hi ih => by
    refine w51_2 ⟨fun h => ⟨by omega, L0[i]'(by simp [L0]; omega), ?_, fun h2 => ?_, fun h2 => ?_⟩, fun h => ?_⟩
    · show (L0.map dI)[(i : Int).toNat]? = _
      rw [getI (by simp [L0]; omega)]; simp
    · rw [drop_cons (by simp [L0]; omega)]; simp [h2]
    · rw [W_up (by omega)]
      have := ih (by omega)
      rw [drop_cons (by simp [L0]; omega)]
      simp only [List.mem_cons, Ne.symm h2, false_or]
      exact this
    · have : i = 17 := by omega
      subst this; rfl

theorem s51_1 (n : Int) : ∀ i : Nat, i ≤ 3 → Wl PP AA F51 f51_K1 (f51_S1 n i) (QAl (· = vI (if n ∈ L2.drop i then 2 else if n ∈ L0 then 0 else 1))) :=
  upto fun i hi ih => by
    refine w51_1 ⟨fun h => ⟨by omega, L2[i]'(by simp [L2]; omega), ?_, fun h2 => ?_, fun h2 => ?_⟩, fun h => ?_⟩
    · show (L2.map dI)[(i : Int).toNat]? = _
      rw [getI (by simp [L2]; omega)]; simp
    · rw [drop_cons (by simp [L2]; omega)]; simp [h2]
    · rw [W_up (by omega)]
      have := ih (by omega)
      rw [drop_cons (by simp [L2]; omega)]
      simp only [List.mem_cons, Ne.symm h2, false_or]
      exact this
    · have : i = 3 := by omega
      subst this
      exact s51_2 n 0 (by omega)

theorem s51 (n : Int) : Wa PP AA F51 [vI n] (· = vI (usesM n)) := by
  refine w51 ⟨fun h => ?_, fun h => ⟨fun h2 => ?_, fun h2 => (s51_1 n 0 (by omega)).mono fun v _ ⟨a, b⟩ => ⟨a, b.trans ?_⟩⟩⟩
  · congr 1; unfold usesM; repeat' split <;> first | rfl | omega
  · congr 1; unfold usesM; repeat' split <;> first | rfl | omega
  · congr 1; simp only [usesM, L2, L0, List.drop_zero, List.mem_cons, List.not_mem_nil, or_false]
    repeat' split <;> first | rfl | omega

/-- May an instruction be? -/
def instrM (o a b : Int) : Bool := decide (0 ≤ usesM o ∧ 0 ≤ a ∧ a ≤ 65535 ∧ 0 ≤ b ∧ b ≤ 65535 ∧ (0 < usesM o ∨ a = 0) ∧ (1 < usesM o ∨ b = 0))

theorem s28 (o a b : Int) : Wa PP AA F28 [.s 3 (.agg [dI o, dI a, dI b])] (· = vBool (instrM o a b)) := by
  refine w28 ((s51 o).eq ⟨_, rfl, ?_⟩)
  unfold instrM
  generalize usesM o = u
  repeat' first
    | (refine And.intro (fun h => ?_) (fun h => ?_))
  all_goals (refine congrArg vBool (Bool.eq_iff_iff.2 ?_); simp; try omega)

theorem s62 (o a b : Int) : Wa PP AA F62 [.s 3 (.agg [dI o, dI a, dI b])] (· = vBool (!instrM o a b)) := by
  refine w62 ((s77 o).eq ⟨_, rfl, fun h => ?_, fun h => (s42 a 0 65535).eq ⟨_, rfl, fun h2 => (s42 b 0 65535).eq ⟨_, rfl, fun h3 => ?_, fun h3 => ?_⟩, fun h2 => ?_⟩⟩)
  all_goals
    unfold instrM
    generalize usesM o = u at *
    try simp only [decide_eq_true_eq, decide_eq_false_iff_not] at h2
    try simp only [decide_eq_true_eq, decide_eq_false_iff_not] at h3
    repeat' first
      | (refine And.intro (fun h => ?_) (fun h => ?_))
  all_goals (refine congrArg vBool (Bool.eq_iff_iff.2 ?_); simp; try omega)

end Am

/- GenRaw: lists gone through (in part printed by idx.py). -/
namespace Am
open Go
theorem s25_1 {l : List D} {f : Nat} {p : D → Bool} {h : Heap} (hl : l.length ≤ 274877906944) (hs : ∀ x ∈ l, (∃ a b c, x = .agg [dI a, dI b, dI c]) ∧ Wa PP AA f [.s 3 x] (· = vBool (p x))) :
    ∀ i : Nat, i ≤ l.length → Wl PP AA F25 f25_K1 (f25_S1 l f l.length i h) (fun v h' => v = vI (idxF p (l.drop i) i) ∧ h' = h) :=
  upto fun i hi ih => by
    refine w25_1 ⟨fun h => ?_, fun h => ?_⟩
    · have hi' : i < l.length := by omega
      obtain ⟨⟨a, b, c, e⟩, w⟩ := hs l[i] (List.getElem_mem hi')
      rw [e] at w
      refine ⟨by omega, a, b, c, by rw [getI hi', e], w.eq ⟨_, rfl, fun h2 => ⟨?_, rfl⟩, fun h2 => ?_⟩⟩
      · rw [drop_cons hi', idxF, e, h2]; rfl
      · rw [W_succ hi' hl]
        have := ih hi'
        rw [drop_cons hi', idxF, e, h2]
        exact this
    · rw [List.drop_of_length_le (by omega)]; exact ⟨rfl, rfl⟩
theorem s25 {l : List D} {f : Nat} {p : D → Bool} (hl : l.length ≤ 274877906944) (hs : ∀ x ∈ l, (∃ a b c, x = .agg [dI a, dI b, dI c]) ∧ Wa PP AA f [.s 3 x] (· = vBool (p x))) :
    Wa PP AA F25 [.d (.slice 3 l), .fn (.func f) [] []] (· = vI (idxF p l 0)) :=
  .ofC fun h => w25 (s25_1 hl hs 0 (by omega))
theorem s10 {l : List D} {f : Nat} {p : D → Bool} (hl : l.length ≤ 274877906944) (hs : ∀ x ∈ l, (∃ a b c, x = .agg [dI a, dI b, dI c]) ∧ Wa PP AA f [.s 3 x] (· = vBool (p x))) :
    Wa PP AA F10 [.d (.slice 3 l), .fn (.func f) [] []] (· = vBool (l.any p)) :=
  .ofC fun h => w10 ((s25 hl hs).eq ⟨_, rfl, by rw [idxF_any p l 0 (by omega)], rfl⟩)
theorem s25h_1 {l : List D} {f : Nat} {p : D → Bool} {c g : Nat} {h : Heap} (hl : l.length ≤ 274877906944) (ha : hpAt h c g = some (.darr g 3 l)) (hs : ∀ x ∈ l, (∃ a b c, x = .agg [dI a, dI b, dI c]) ∧ Wa PP AA f [.s 3 x] (· = vBool (p x))) :
    ∀ i : Nat, i ≤ l.length → Wl PP AA F25 f25h_K1 (f25h_S1 c g f l.length i h) (fun v h' => v = vI (idxF p (l.drop i) i) ∧ h' = h) :=
  upto fun i hi ih => by
    refine w25h_1 ⟨fun h => ?_, fun h => ?_⟩
    · have hi' : i < l.length := by omega
      obtain ⟨⟨a, b, c, e⟩, w⟩ := hs l[i] (List.getElem_mem hi')
      rw [e] at w
      refine ⟨by omega, _, ha, by simpa using hi', a, b, c, by rw [getI hi', e], w.eq ⟨_, rfl, fun h2 => ⟨?_, rfl⟩, fun h2 => ?_⟩⟩
      · rw [drop_cons hi', idxF, e, h2]; rfl
      · rw [W_succ hi' hl]
        have := ih hi'
        rw [drop_cons hi', idxF, e, h2]
        exact this
    · rw [List.drop_of_length_le (by omega)]; exact ⟨rfl, rfl⟩
theorem s10h {l : List D} {f : Nat} {p : D → Bool} {c g : Nat} {h : Heap} (hl : l.length ≤ 274877906944) (ha : hpAt h c g = some (.darr g 3 l)) (hs : ∀ x ∈ l, (∃ a b c, x = .agg [dI a, dI b, dI c]) ∧ Wa PP AA f [.s 3 x] (· = vBool (p x))) :
    Wn PP AA F10 [.sl (.he c g) 3 none, .fn (.func f) [] []] h (· = vBool (l.any p)) :=
  (w10h ((w25h ⟨_, ha, s25h_1 hl ha hs 0 (by omega)⟩ : Wc PP AA F25 [.sl (.he c g) 3 none, .fn (.func f) [] []] h fun v h' => v = vI (idxF p l 0) ∧ h' = h).toN ⟨_, rfl, by rw [idxF_any p l 0 (by omega)], rfl⟩) :
    Wc PP AA F10 _ h fun v h' => v = vBool (l.any p) ∧ h' = h).toN rfl
theorem s61_1 {l : List D} {f : Nat} {p : D → Bool} (hl : l.length ≤ 274877906944) (hs : ∀ x ∈ l, (∃ a b c d, x = .agg [dI a, dI b, dI c, .slice 3 d]) ∧ Wa PP AA f [.s 4 x] (· = vBool (p x))) :
    ∀ i : Nat, i ≤ l.length → Wl PP AA F61 f61_K1 (f61_S1 l f l.length i) (QAl fun v => ∃ k, v = vI k ∧ decide (k ≥ 0) = (l.drop i).any p) :=
  upto fun i hi ih => by
    refine w61_1 ⟨fun h => ?_, fun h => ?_⟩
    · have hi' : i < l.length := by omega
      obtain ⟨⟨a, b, c, d, e⟩, w⟩ := hs l[i] (List.getElem_mem hi')
      rw [e] at w
      refine ⟨by omega, a, b, c, d, by rw [getI hi', e], w.eq ⟨_, rfl, fun h2 => ⟨i, rfl, ?_⟩, fun h2 => ?_⟩⟩
      · rw [drop_cons hi', List.any_cons, e, h2]; simp
      · rw [W_succ hi' hl]
        have := ih hi'
        rw [drop_cons hi', List.any_cons, e, h2]
        simpa only [Bool.false_or] using this
    · refine ⟨-1, rfl, ?_⟩
      rw [List.drop_of_length_le (by omega)]; rfl
theorem s61 {l : List D} {f : Nat} {p : D → Bool} (hl : l.length ≤ 274877906944) (hs : ∀ x ∈ l, (∃ a b c d, x = .agg [dI a, dI b, dI c, .slice 3 d]) ∧ Wa PP AA f [.s 4 x] (· = vBool (p x))) :
    Wa PP AA F61 [.d (.slice 4 l), .fn (.func f) [] []] fun v => ∃ k, v = vI k ∧ decide (k ≥ 0) = l.any p :=
  w61 (s61_1 hl hs 0 (by omega))
theorem s43 {l : List D} {f : Nat} {p : D → Bool} (hl : l.length ≤ 274877906944) (hs : ∀ x ∈ l, (∃ a b c d, x = .agg [dI a, dI b, dI c, .slice 3 d]) ∧ Wa PP AA f [.s 4 x] (· = vBool (p x))) :
    Wa PP AA F43 [.d (.slice 4 l), .fn (.func f) [] []] (· = vBool (l.any p)) :=
  w43 ((s61 hl hs).mono fun _ ⟨k, e, h⟩ => ⟨k, e, by rw [h]⟩)

theorem s63_1 {l : List D} {f : Nat} {p : D → Bool} (hl : l.length ≤ 274877906944) (hs : ∀ x ∈ l, (∃ a, x = dI a) ∧ Wa PP AA f [.d x] (· = vBool (p x))) :
    ∀ i : Nat, i ≤ l.length → Wl PP AA F63 f63_K1 (f63_S1 l f l.length i) (QAl fun v => ∃ k, v = vI k ∧ decide (k ≥ 0) = (l.drop i).any p) :=
  upto fun i hi ih => by
    refine w63_1 ⟨fun h => ?_, fun h => ?_⟩
    · have hi' : i < l.length := by omega
      obtain ⟨⟨a, e⟩, w⟩ := hs l[i] (List.getElem_mem hi')
      rw [e] at w
      refine ⟨by omega, a, by rw [getI hi', e], w.eq ⟨_, rfl, fun h2 => ⟨i, rfl, ?_⟩, fun h2 => ?_⟩⟩
      · rw [drop_cons hi', List.any_cons, e, h2]; simp
      · rw [W_succ hi' hl]
        have := ih hi'
        rw [drop_cons hi', List.any_cons, e, h2]
        simpa only [Bool.false_or] using this
    · refine ⟨-1, rfl, ?_⟩
      rw [List.drop_of_length_le (by omega)]; rfl
theorem s63 {l : List D} {f : Nat} {p : D → Bool} (hl : l.length ≤ 274877906944) (hs : ∀ x ∈ l, (∃ a, x = dI a) ∧ Wa PP AA f [.d x] (· = vBool (p x))) :
    Wa PP AA F63 [.d (.slice 0 l), .fn (.func f) [] []] fun v => ∃ k, v = vI k ∧ decide (k ≥ 0) = l.any p :=
  w63 (s63_1 hl hs 0 (by omega))
theorem s45 {l : List D} {f : Nat} {p : D → Bool} (hl : l.length ≤ 274877906944) (hs : ∀ x ∈ l, (∃ a, x = dI a) ∧ Wa PP AA f [.d x] (· = vBool (p x))) :
    Wa PP AA F45 [.d (.slice 0 l), .fn (.func f) [] []] (· = vBool (l.any p)) :=
  w45 ((s63 hl hs).mono fun _ ⟨k, e, h⟩ => ⟨k, e, by rw [h]⟩)

theorem s64_1 {l : List D} {f : Nat} {p : D → Bool} (hl : l.length ≤ 274877906944) (hs : ∀ x ∈ l, (∃ a, x = dS a) ∧ Wa PP AA f [.d x] (· = vBool (p x))) :
    ∀ i : Nat, i ≤ l.length → Wl PP AA F64 f64_K1 (f64_S1 l f l.length i) (QAl fun v => ∃ k, v = vI k ∧ decide (k ≥ 0) = (l.drop i).any p) :=
  upto fun i hi ih => by
    refine w64_1 ⟨fun h => ?_, fun h => ?_⟩
    · have hi' : i < l.length := by omega
      obtain ⟨⟨a, e⟩, w⟩ := hs l[i] (List.getElem_mem hi')
      rw [e] at w
      refine ⟨by omega, a, by rw [getI hi', e], w.eq ⟨_, rfl, fun h2 => ⟨i, rfl, ?_⟩, fun h2 => ?_⟩⟩
      · rw [drop_cons hi', List.any_cons, e, h2]; simp
      · rw [W_succ hi' hl]
        have := ih hi'
        rw [drop_cons hi', List.any_cons, e, h2]
        simpa only [Bool.false_or] using this
    · refine ⟨-1, rfl, ?_⟩
      rw [List.drop_of_length_le (by omega)]; rfl
theorem s64 {l : List D} {f : Nat} {p : D → Bool} (hl : l.length ≤ 274877906944) (hs : ∀ x ∈ l, (∃ a, x = dS a) ∧ Wa PP AA f [.d x] (· = vBool (p x))) :
    Wa PP AA F64 [.d (.slice 0 l), .fn (.func f) [] []] fun v => ∃ k, v = vI k ∧ decide (k ≥ 0) = l.any p :=
  w64 (s64_1 hl hs 0 (by omega))
theorem s47 {l : List D} {f : Nat} {p : D → Bool} (hl : l.length ≤ 274877906944) (hs : ∀ x ∈ l, (∃ a, x = dS a) ∧ Wa PP AA f [.d x] (· = vBool (p x))) :
    Wa PP AA F47 [.d (.slice 0 l), .fn (.func f) [] []] (· = vBool (l.any p)) :=
  w47 ((s64 hl hs).mono fun _ ⟨k, e, h⟩ => ⟨k, e, by rw [h]⟩)

theorem s90_1 {l : List D} {f : Nat} {p : D → Bool} (hl : l.length ≤ 274877906944) (hs : ∀ x ∈ l, (∃ a b, x = .agg [dI a, dI b]) ∧ Wa PP AA f [.s 2 x] (· = vBool (p x))) :
    ∀ i : Nat, i ≤ l.length → Wl PP AA F90 f90_K1 (f90_S1 l f l.length i) (QAl fun v => ∃ k, v = vI k ∧ decide (k ≥ 0) = (l.drop i).any p) :=
  upto fun i hi ih => by
    refine w90_1 ⟨fun h => ?_, fun h => ?_⟩
    · have hi' : i < l.length := by omega
      obtain ⟨⟨a, b, e⟩, w⟩ := hs l[i] (List.getElem_mem hi')
      rw [e] at w
      refine ⟨by omega, a, b, by rw [getI hi', e], w.eq ⟨_, rfl, fun h2 => ⟨i, rfl, ?_⟩, fun h2 => ?_⟩⟩
      · rw [drop_cons hi', List.any_cons, e, h2]; simp
      · rw [W_succ hi' hl]
        have := ih hi'
        rw [drop_cons hi', List.any_cons, e, h2]
        simpa only [Bool.false_or] using this
    · refine ⟨-1, rfl, ?_⟩
      rw [List.drop_of_length_le (by omega)]; rfl
theorem s90 {l : List D} {f : Nat} {p : D → Bool} (hl : l.length ≤ 274877906944) (hs : ∀ x ∈ l, (∃ a b, x = .agg [dI a, dI b]) ∧ Wa PP AA f [.s 2 x] (· = vBool (p x))) :
    Wa PP AA F90 [.d (.slice 2 l), .fn (.func f) [] []] fun v => ∃ k, v = vI k ∧ decide (k ≥ 0) = l.any p :=
  w90 (s90_1 hl hs 0 (by omega))
theorem s69 {l : List D} {f : Nat} {p : D → Bool} (hl : l.length ≤ 274877906944) (hs : ∀ x ∈ l, (∃ a b, x = .agg [dI a, dI b]) ∧ Wa PP AA f [.s 2 x] (· = vBool (p x))) :
    Wa PP AA F69 [.d (.slice 2 l), .fn (.func f) [] []] (· = vBool (l.any p)) :=
  w69 ((s90 hl hs).mono fun _ ⟨k, e, h⟩ => ⟨k, e, by rw [h]⟩)

end Am

/- GenRaw: whether a code may be. -/
namespace Am
open Go
set_option maxRecDepth 10000



def IsI (x : D) : Prop := ∃ a b c, x = .agg [dI a, dI b, dI c]
def IsB (x : D) : Prop := ∃ a b c d, x = .agg [dI a, dI b, dI c, .slice 3 d] ∧ d.length ≤ 274877906944 ∧ ∀ y ∈ d, IsI y

def instrD : D → Bool
  | .agg [.v (.int _ o), .v (.int _ a), .v (.int _ b)] => instrM o a b
  | _ => false
def bodyD : D → Bool
  | .agg [.v (.int _ k), .v (.int _ l), .v (.int _ s), .slice _ cs] =>
    decide (0 ≤ k ∧ k ≤ 59 ∧ 0 ≤ l ∧ l ≤ 60 ∧ 1 ≤ s ∧ s ≤ 60 ∧ 1 ≤ cs.length ∧ cs.length ≤ 400) && cs.all instrD
  | _ => false
def intD : D → Bool
  | .v (.int _ n) => decide (-4611686018427387904 ≤ n ∧ n ≤ 4611686018427387903)
  | _ => false
def textD : D → Bool
  | .v (.string s) => decide (s.size ≤ 60)
  | _ => false

def mayM (fs is ts : List D) (n : Int) : Bool :=
  decide (1 ≤ fs.length ∧ fs.length ≤ 120 ∧ is.length ≤ 120 ∧ ts.length ≤ 120 ∧ 0 ≤ n ∧ n ≤ 60) && is.all intD && ts.all textD && fs.all bodyD

theorem any_not {α : Type} {l : List α} {p : α → Bool} : l.any (fun x => !p x) = !l.all p := by
  rw [List.not_all_eq_any_not]

theorem s46 (n : Int) : Wa PP AA F46 [vI n] (· = vBool (!intD (dI n))) :=
  w46 ((s42 _ _ _).eq ⟨_, rfl, rfl⟩)

theorem s48 (s : ByteArray) : Wa PP AA F48 [.d (dS s)] (· = vBool (!textD (dS s))) := by
  refine w48 ?_
  refine congrArg vBool (Bool.eq_iff_iff.2 ?_)
  simp [textD]
  omega

theorem s44 {a b c : Int} {d : List D} (hl : d.length ≤ 274877906944) (hd : ∀ y ∈ d, IsI y) : Wa PP AA F44 [.s 4 (.agg [dI a, dI b, dI c, .slice 3 d])] (· = vBool (!bodyD (.agg [dI a, dI b, dI c, .slice 3 d]))) := by
  have hc : Wa PP AA F10 [.d (.slice 3 d), .fn (.func F62) [] []] (· = vBool (d.any fun x => !instrD x)) :=
    s10 hl fun x hx => ⟨hd x hx, by obtain ⟨o, a, b, rfl⟩ := hd x hx; exact s62 o a b⟩
  refine w44 ((s42 _ _ _).eq ⟨_, rfl, fun h1 => (s42 _ _ _).eq ⟨_, rfl, fun h2 => (s42 _ _ _).eq ⟨_, rfl, fun h3 => (s42 _ _ _).eq ⟨_, rfl, fun h4 => hc.eq ⟨_, rfl, ?_⟩, fun h4 => ?_⟩, fun h3 => ?_⟩, fun h2 => ?_⟩, fun h1 => ?_⟩)
  all_goals
    try rw [any_not]
    clear hc
    simp only [decide_eq_true_eq, decide_eq_false_iff_not] at *
    refine congrArg vBool (Bool.eq_iff_iff.2 ?_)
    simp only [bodyD]
    generalize d.all instrD = q
    generalize d.length = n at *
    cases q <;> simp <;> try omega

theorem s26 {fs is ts : List D} (n : Int) (h1 : fs.length ≤ 274877906944) (h2 : is.length ≤ 274877906944) (h3 : ts.length ≤ 274877906944) (hf : ∀ x ∈ fs, IsB x) (hi : ∀ x ∈ is, ∃ a, x = dI a) (ht : ∀ x ∈ ts, ∃ a, x = dS a) :
    Wa PP AA F26 [.s 4 (.agg [.slice 4 fs, .slice 0 is, .slice 0 ts, dI n])] (· = vBool (mayM fs is ts n)) := by
  have c1 : Wa PP AA F43 [.d (.slice 4 fs), .fn (.func F44) [] []] (· = vBool (fs.any fun x => !bodyD x)) :=
    s43 h1 fun x hx => by
      obtain ⟨a, b, c, d, rfl, k1, k2⟩ := hf x hx
      exact ⟨⟨a, b, c, d, rfl⟩, s44 k1 k2⟩
  have c2 : Wa PP AA F45 [.d (.slice 0 is), .fn (.func F46) [] []] (· = vBool (is.any fun x => !intD x)) :=
    s45 h2 fun x hx => by
      obtain ⟨a, rfl⟩ := hi x hx
      exact ⟨⟨a, rfl⟩, s46 a⟩
  have c3 : Wa PP AA F47 [.d (.slice 0 ts), .fn (.func F48) [] []] (· = vBool (ts.any fun x => !textD x)) :=
    s47 h3 fun x hx => by
      obtain ⟨a, rfl⟩ := ht x hx
      exact ⟨⟨a, rfl⟩, s48 a⟩
  refine w26 ((s42 _ _ _).eq ⟨_, rfl, fun k1 => ⟨fun k2 => ?_, fun k2 => ⟨fun k3 => ?_, fun k3 => (s42 _ _ _).eq ⟨_, rfl, fun k4 => c1.eq ⟨_, rfl, fun k5 => ?_, fun k5 => c2.eq ⟨_, rfl, fun k6 => ?_, fun k6 => c3.eq ⟨_, rfl, ?_⟩⟩⟩, fun k4 => ?_⟩⟩⟩, fun k1 => ?_⟩)
  all_goals
    try rw [any_not] at k5
    try rw [any_not] at k6
    try rw [any_not]
    clear c1 c2 c3
    try simp only [decide_eq_true_eq, decide_eq_false_iff_not] at k1
    try simp only [decide_eq_true_eq, decide_eq_false_iff_not] at k4
    refine congrArg vBool (Bool.eq_iff_iff.2 ?_)
    simp only [mayM]
    generalize fs.all bodyD = q1 at *
    generalize is.all intD = q2 at *
    generalize ts.all textD = q3 at *
    cases q1 <;> cases q2 <;> cases q3 <;> simp at * <;> try omega

end Am

/- GenRaw: where an instruction goes, by the program. -/
namespace Am
open Go
set_option maxRecDepth 10000

abbrev Mk := Int × Int
abbrev Tg := Int × Int × List Mk
def mD (m : Mk) : D := .agg [dI m.1, dI m.2]
def tD (t : Tg) : D := .agg [dI t.1, dI t.2.1, .slice 2 (t.2.2.map mD)]

def baseM (ms : List Mk) : Int := match ms.getLast? with
  | some m => m.2
  | none => 0

theorem W_last {l : List D} (h : 0 < l.length) (hl : l.length ≤ 274877906944) : W ((l.length : Int) - 1) = ((l.length - 1 : Nat) : Int) := by
  rw [W_id (by omega) (by omega)]; omega

theorem last_get {ms : List Mk} (h : 0 < ms.length) : ∃ m, ms.getLast? = some m ∧ (ms.map mD)[ms.length - 1]? = some (mD m) := by
  refine ⟨ms.getLast (by intro e; simp [e] at h), List.getLast?_eq_some_getLast _, ?_⟩
  rw [List.getElem?_map, ← List.getLast?_eq_getElem?, List.getLast?_eq_some_getLast (by intro e; simp [e] at h)]
  rfl

section
variable {d : Int} {ms : List Mk}

theorem s66 (hm : ms.length ≤ 274877906944) : Wa PP AA F66 [.s 2 (.agg [dI d, .slice 2 (ms.map mD)])] (· = vI (baseM ms)) := by
  refine w66 ⟨fun h => ?_, fun h => ?_⟩
  · have hl : (ms.map mD).length = ms.length := by simp
    obtain ⟨m, h1, h2⟩ := last_get (ms := ms) (by omega)
    rw [W_last (by omega) (by omega)]
    refine ⟨by omega, m.1, m.2, ?_, ?_⟩
    · rw [hl]; simpa [mD] using h2
    · simp [baseM, h1]
  · have : ms = [] := by
      cases ms with
      | nil => rfl
      | cons a r => simp at h; omega
    subst this; rfl

theorem s67 (n : Int) (h1 : -1000000 ≤ d) (h2 : d ≤ 1000000) (h3 : -1000000 ≤ n) (h4 : n ≤ 1000000) {l : List D} : Wa PP AA F67 [.s 2 (.agg [dI d, .slice 2 l]), vI n] (· = .s 2 (.agg [dI (d + n), .slice 2 l])) := by
  refine w67 ?_
  rw [W_id (by omega) (by omega)]

theorem s68 (k : Int) (hm : ms.length < 274877906944) : Wa PP AA F68 [.s 2 (.agg [dI d, .slice 2 (ms.map mD)]), vI k] (· = .s 2 (.agg [dI d, .slice 2 ((ms ++ [(k, d)]).map mD)])) := by
  have e : ((ms.map mD).take (((ms.map mD).length : Nat) : Int).toNat).drop 0 ++ [.agg [dI k, dI d]] = (ms ++ [(k, d)]).map mD := by
    rw [Int.toNat_natCast, List.take_length]
    simp [mD]
  refine w68 ⟨by simp, by omega, ?_, ?_, ?_⟩
  · rw [e]; simp; omega
  · exact hpAt_push_new rfl
  · rw [e]

/-- The last mark, taken away. -/
def offM (k : Int) (ms : List Mk) : List Mk × Bool := match ms.getLast? with
  | some m => if m.1 = k then (ms.dropLast, true) else (ms, false)
  | none => (ms, false)

theorem s71 (k : Int) (hm : ms.length ≤ 274877906944) : Wa PP AA F71 [.s 2 (.agg [dI d, .slice 2 (ms.map mD)]), vI k] (· = .tuple [.s 2 (.agg [dI d, .slice 2 ((offM k ms).1.map mD)]), vBool (offM k ms).2]) := by
  have hl : (ms.map mD).length = ms.length := by simp
  refine w71 ⟨fun h => ?_, fun h => ?_⟩
  · have : ms = [] := by
      cases ms with
      | nil => rfl
      | cons a r => rw [W_id (by omega) (by omega)] at h; simp at h; omega
    subst this; rfl
  · rw [W_id (by omega) (by omega)] at h
    obtain ⟨m, h1, h2⟩ := last_get (ms := ms) (by omega)
    rw [W_last (by omega) (by omega)]
    refine ⟨m.1, m.2, ?_, fun h3 => ⟨by omega, by omega, ?_⟩, fun h3 => ?_⟩
    · rw [hl]; simpa [mD] using h2
    · simp only [offM, h1, h3, if_true]
      rw [hl]
      simp [List.dropLast_eq_take, List.map_take]
    · simp [offM, h1, h3]

theorem s70 (a b : Int) : Wa PP AA F70 [.s 2 (.agg [dI a, dI b])] (· = vBool (a == 26)) := w70 rfl

theorem s69' (hm : ms.length ≤ 274877906944) : Wa PP AA F69 [.d (.slice 2 (ms.map mD)), .fn (.func F70) [] []] (· = vBool (ms.any (·.1 == 26))) := by
  have := s69 (l := ms.map mD) (f := F70) (p := fun x => match x with
    | .agg [.v (.int _ a), _] => a == 26
    | _ => false) (by simpa using hm) fun x hx => by
      obtain ⟨m, _, rfl⟩ := List.mem_map.1 hx
      exact ⟨⟨m.1, m.2, rfl⟩, s70 m.1 m.2⟩
  rw [List.any_map] at this
  exact this
end

end Am

/- GenRaw: where an instruction goes, by the program: all of them. -/
namespace Am
open Go
set_option maxRecDepth 10000

def keptAt (fs : List D) (a : Int) : Int := match fs[a.toNat]? with
  | some (.agg [.v (.int _ k), _, _, _]) => k
  | _ => 0

/-- Are an instruction's operands right; what it takes; what it puts. -/
def effM (fs is ts : List D) (lets n kept locals o a b : Int) : Bool × Int × Int :=
  if o = 1 then (decide (a < is.length), 0, 1)
  else if o = 2 then (decide (a < ts.length), 0, 1)
  else if o = 3 then (decide (a < locals), 0, 1)
  else if o = 4 then (decide (a < kept), 0, 1)
  else if o = 5 then (decide (n > 0), 0, 1)
  else if o = 6 then (decide (a < lets), 0, 1)
  else if o = 7 then (decide (a < locals), 1, 0)
  else if o = 8 then (decide (a < lets), 1, 0)
  else if o = 9 then (true, 1, 0)
  else if o = 10 then (decide (a ≤ 199 ∧ 1 ≤ b ∧ b ≤ 4), b, 1)
  else if o = 11 then (decide (0 < a ∧ a < fs.length ∧ keptAt fs a = b), b, 1)
  else if o = 12 then (decide (a < 4), 1, 1)
  else if o = 13 then (true, 2, 1)
  else if o = 14 then (true, 2, 0)
  else if o = 15 then (true, 1, 0)
  else if o = 17 then (true, 1, 0)
  else if o = 18 then (true, 1, 0)
  else if o = 19 then (decide (a < 7), 2, 1)
  else if o = 20 then (true, 2, 1)
  else if o = 23 then (true, 1, 0)
  else if o = 24 then (true, 1, 1)
  else if o = 25 then (true, 1, 1)
  else if o = 31 then (true, 1, 1)
  else if o = 32 then (true, 1, 1)
  else if o = 33 then (true, 2, 1)
  else (true, 0, 0)

/-- Where it goes, in which state. -/
def goesM (o a b i d t : Int) (ms : List Mk) : List Tg × Bool :=
  if o = 14 ∨ o = 15 then ([], ms.isEmpty)
  else if o = 23 ∨ o = 30 then ([], true)
  else if o = 16 then ([(a, d, ms)], true)
  else if o = 17 then ([(i + 1, t, ms), (a, t, ms)], true)
  else if o = 18 then ([(i + 1, t, ms), (b, t, ms)], true)
  else if o = 21 then ([(i + 1, d, ms ++ [(21, d)]), (a, d + 1, ms)], true)
  else if o = 28 then ([(i + 1, d, ms ++ [(28, d)]), (a, d, ms)], true)
  else if o = 26 then ([(i + 1, d, ms ++ [(26, d)])], !ms.any (·.1 == 26))
  else if o = 22 then ([(i + 1, d, (offM 21 ms).1)], (offM 21 ms).2)
  else if o = 27 then ([(i + 1, d, (offM 26 ms).1)], (offM 26 ms).2)
  else if o = 29 then ([(i + 1, d, (offM 28 ms).1)], (offM 28 ms).2)
  else ([(i + 1, t, ms)], true)

def nextM (e : Bool × Int × Int) (o a b i d : Int) (ms : List Mk) : List Tg × Bool :=
  if e.1 = false then ([], false)
  else if d - e.2.1 < baseM ms then ([], false)
  else goesM o a b i d (d + (e.2.2 - e.2.1)) ms

section
variable {i : Nat} {h : Heap} {fs is ts cs : List D} {lets n kept locals stack : Int}
  (hW : hpAt h i 0 = some (.var (.s 9 (.agg [.slice 4 fs, .slice 0 is, .slice 0 ts, dI lets, dI n, dI kept, dI locals, dI stack, .slice 3 cs]))))

include hW in
theorem s78 : Wn PP AA F78 [.ptr (.he i 0) 0 9 0] h (· = vI locals) := (w78 ⟨_, _, _, _, _, _, _, _, _, hW, rfl, rfl⟩ : Wc PP AA F78 _ h fun v h' => v = vI locals ∧ h' = h).toN rfl
include hW in
theorem s79 : Wn PP AA F79 [.ptr (.he i 0) 0 9 0] h (· = vI lets) := (w79 ⟨_, _, _, _, _, _, _, _, _, hW, rfl, rfl⟩ : Wc PP AA F79 _ h fun v h' => v = vI lets ∧ h' = h).toN rfl
include hW in
theorem s81 : Wn PP AA F81 [.ptr (.he i 0) 0 9 0] h (· = vI is.length) := (w81 ⟨_, _, _, _, _, _, _, _, _, hW, rfl, rfl⟩ : Wc PP AA F81 _ h fun v h' => v = vI is.length ∧ h' = h).toN rfl
include hW in
theorem s82 : Wn PP AA F82 [.ptr (.he i 0) 0 9 0] h (· = vI ts.length) := (w82 ⟨_, _, _, _, _, _, _, _, _, hW, rfl, rfl⟩ : Wc PP AA F82 _ h fun v h' => v = vI ts.length ∧ h' = h).toN rfl
include hW in
theorem s83 : Wn PP AA F83 [.ptr (.he i 0) 0 9 0] h (· = vI kept) := (w83 ⟨_, _, _, _, _, _, _, _, _, hW, rfl, rfl⟩ : Wc PP AA F83 _ h fun v h' => v = vI kept ∧ h' = h).toN rfl
theorem s88 : Wn PP AA F88 [.ptr (.he i 0) 0 9 0] h (· = vI 4) := (w88 ⟨rfl, rfl⟩ : Wc PP AA F88 _ h fun v h' => v = vI 4 ∧ h' = h).toN rfl
theorem s89 : Wn PP AA F89 [.ptr (.he i 0) 0 9 0] h (· = vI 7) := (w89 ⟨rfl, rfl⟩ : Wc PP AA F89 _ h fun v h' => v = vI 7 ∧ h' = h).toN rfl

variable {o a b : Int}

theorem s93 {f : Nat} {x t p : Int} (hf : Wn PP AA f [.ptr (.he i 0) 0 9 0] h (· = vI x)) :
    Wn PP AA F93 [.ptr (.he i 0) 0 9 0, .s 3 (.agg [dI o, dI a, dI b]), .bp (.fn (.func f) [] []) 0 0, .bp (vI t) 0 0, .bp (vI p) 0 0] h (· = .tuple [vBool (decide (a < x)), vI t, vI p]) :=
  (w93 (hf.eq ⟨_, rfl, rfl, rfl⟩) : Wc PP AA F93 _ h fun v h' => v = .tuple [vBool (decide (a < x)), vI t, vI p] ∧ h' = h).toN rfl
theorem s94 {t p : Int} : Wn PP AA F94 [.ptr (.he i 0) 0 9 0, .s 3 (.agg [dI o, dI a, dI b]), .bp (vI t) 0 0, .bp (vI p) 0 0] h (· = .tuple [vBool true, vI t, vI p]) :=
  (w94 ⟨rfl, rfl⟩ : Wc PP AA F94 _ h fun v h' => v = .tuple [vBool true, vI t, vI p] ∧ h' = h).toN rfl
include hW in
theorem s84 : Wn PP AA F84 [.ptr (.he i 0) 0 9 0, .s 3 (.agg [dI o, dI a, dI b])] h (· = .tuple [vBool (decide (n > 0)), vI 0, vI 1]) :=
  (w84 ⟨_, _, _, _, _, _, _, _, _, hW, rfl, rfl⟩ : Wc PP AA F84 _ h fun v h' => v = .tuple [vBool (decide (n > 0)), vI 0, vI 1] ∧ h' = h).toN rfl
theorem s86 : Wn PP AA F86 [.ptr (.he i 0) 0 9 0, .s 3 (.agg [dI o, dI a, dI b])] h (· = .tuple [vBool (decide (a ≤ 199 ∧ 1 ≤ b ∧ b ≤ 4)), vI b, vI 1]) := by
  refine (w86 ⟨fun h => ?_, fun h => ⟨fun h2 => ?_, fun h2 => ?_⟩⟩ : Wc PP AA F86 _ h fun v h' => v = .tuple [vBool (decide (a ≤ 199 ∧ 1 ≤ b ∧ b ≤ 4)), vI b, vI 1] ∧ h' = h).toN rfl
  · rw [decide_eq_false (by omega)]; exact ⟨rfl, rfl⟩
  · rw [decide_eq_false (by omega)]; exact ⟨rfl, rfl⟩
  · refine ⟨?_, rfl⟩
    congr 3
    exact Bool.eq_iff_iff.2 (by simp; omega)
include hW in
theorem s87 (hf : ∀ x ∈ fs, IsB x) : Wn PP AA F87 [.ptr (.he i 0) 0 9 0, .s 3 (.agg [dI o, dI a, dI b])] h (· = .tuple [vBool (decide (0 < a ∧ a < fs.length ∧ keptAt fs a = b)), vI b, vI 1]) := by
  refine (w87 ⟨fun h1 => ⟨_, _, _, _, _, _, _, _, _, hW, fun h2 => ?_, fun h2 => ?_⟩, fun h1 => ?_⟩ : Wc PP AA F87 _ h fun v h' => v = .tuple [vBool (decide (0 < a ∧ a < fs.length ∧ keptAt fs a = b)), vI b, vI 1] ∧ h' = h).toN rfl
  · have hi : a.toNat < fs.length := by omega
    obtain ⟨x, y, z, l, e, _, _⟩ := hf fs[a.toNat] (List.getElem_mem hi)
    have e2 : fs[a.toNat]? = some (.agg [dI x, dI y, dI z, .slice 3 l]) := by rw [List.getElem?_eq_getElem hi, e]
    refine ⟨x, y, z, l, e2, ?_, rfl⟩
    congr 3
    refine Bool.eq_iff_iff.2 ?_
    simp [keptAt, e2]; omega
  · rw [decide_eq_false (by omega)]; exact ⟨rfl, rfl⟩
  · rw [decide_eq_false (by omega)]; exact ⟨rfl, rfl⟩
end
end Am

/- GenRaw: where an instruction goes, by the program: one step. -/
namespace Am
open Go
set_option maxRecDepth 10000

theorem sameKey_i (a b : Int) : sameKey (.int .i64 a) (.int .i64 b) = some (a == b) := rfl

theorem findKey_ne {o k : Int} {ks : List Value} {v : V} {vs : List V} (h : o ≠ k) : findKey (.int .i64 o) (.int .i64 k :: ks) (v :: vs) = findKey (.int .i64 o) ks vs := by
  have : (o == k) = false := by simpa using h
  simp only [findKey, sameKey_i, this]

theorem aft {d T p : Int} {ms : List Mk} {r : Bool} {X : Int → List D → Prop} {F : Prop} (hm : ms.length ≤ 274877906944) (hd : 0 ≤ d) (hd2 : d ≤ 1000) (hT : -100000 ≤ T) (hT2 : T ≤ 100000) (hp : -100000 ≤ p) (hp2 : p ≤ 100000)
    (h1 : r = false → F) (h2 : r = true → d - T < baseM ms → F) (h3 : r = true → ¬ (d - T < baseM ms) → X (d + (p - T)) (ms.map mD)) :
    (r = true → (Wa PP AA F66 [.s 2 (.agg [dI d, .slice 2 (ms.map mD)])] fun v => ∃ (n21 : Int), v = vI n21 ∧ (((W (d - T)) < n21 → F) ∧ (n21 ≤ (W (d - T)) → (Wa PP AA F67 [.s 2 (.agg [dI d, .slice 2 (ms.map mD)]), vI (W (p - T))] fun v => ∃ (n22 : Int) (l23 : List D), v = .s 2 (.agg [dI n22, .slice 2 l23]) ∧ X n22 l23))))) ∧ (r = false → F) := by
  refine ⟨fun hr => (s66 hm).eq ⟨_, rfl, fun h => h2 hr ?_, fun h => ?_⟩, h1⟩
  · rwa [W_id (by omega) (by omega)] at h
  · rw [W_id (by omega) (by omega)] at h
    rw [W_id (by omega) (by omega)]
    exact (s67 _ (by omega) (by omega) (by omega) (by omega)).eq ⟨_, _, rfl, h3 hr (by omega)⟩

theorem emptyM (ms : List Mk) : (((ms.map mD).length : Int) == 0) = ms.isEmpty := by
  cases ms with
  | nil => rfl
  | cons a r => simp; omega

section
variable {i : Nat} {h : Heap} {fs is ts cs : List D} {lets n kept locals stack : Int}
  (hW : hpAt h i 0 = some (.var (.s 9 (.agg [.slice 4 fs, .slice 0 is, .slice 0 ts, dI lets, dI n, dI kept, dI locals, dI stack, .slice 3 cs]))))
  {o a b j d : Int} {ms : List Mk}

include hW in
theorem s49 (hf : ∀ x ∈ fs, IsB x) (hj : 0 ≤ j) (hj2 : j ≤ 1000) (hg : cs[j.toNat]? = some (.agg [dI o, dI a, dI b])) (hb : 0 ≤ b) (hb2 : b ≤ 65535) (hd : 0 ≤ d) (hd2 : d ≤ 1000) (hm : ms.length ≤ 1000) :
    Wc PP AA F49 [.ptr (.he i 0) 0 9 0, vI j, .s 2 (.agg [dI d, .slice 2 (ms.map mD)])] h fun v h' =>
      v = .tuple [.d (.slice 3 ((nextM (effM fs is ts lets n kept locals o a b) o a b j d ms).1.map tD)), vBool (nextM (effM fs is ts lets n kept locals o a b) o a b j d ms).2] ∧ h' = h := by
  have hm' : ms.length ≤ 274877906944 := by omega
  refine w49 ⟨_, _, _, _, _, _, _, _, _, hW, by omega, o, a, b, hg, ?_⟩
  have hj1 : W (j + 1) = j + 1 := W_id (by omega) (by omega)
  rw [hj1]
  repeat' first
    | refine And.intro (fun (e : _ = _) => ?_) (fun (e : _ ≠ _) => ?_)
    | fail
  all_goals try subst e
  all_goals first
    | refine (s93 (s78 hW)).eq ⟨_, _, _, rfl, aft hm' (by omega) (by omega) (by omega) (by omega) (by omega) (by omega) (fun h1 => ?_) (fun h1 h2 => ?_) (fun h1 h2 => ?_)⟩
    | refine (s93 (s79 hW)).eq ⟨_, _, _, rfl, aft hm' (by omega) (by omega) (by omega) (by omega) (by omega) (by omega) (fun h1 => ?_) (fun h1 h2 => ?_) (fun h1 h2 => ?_)⟩
    | refine (s93 (s81 hW)).eq ⟨_, _, _, rfl, aft hm' (by omega) (by omega) (by omega) (by omega) (by omega) (by omega) (fun h1 => ?_) (fun h1 h2 => ?_) (fun h1 h2 => ?_)⟩
    | refine (s93 (s82 hW)).eq ⟨_, _, _, rfl, aft hm' (by omega) (by omega) (by omega) (by omega) (by omega) (by omega) (fun h1 => ?_) (fun h1 h2 => ?_) (fun h1 h2 => ?_)⟩
    | refine (s93 (s83 hW)).eq ⟨_, _, _, rfl, aft hm' (by omega) (by omega) (by omega) (by omega) (by omega) (by omega) (fun h1 => ?_) (fun h1 h2 => ?_) (fun h1 h2 => ?_)⟩
    | refine (s93 s88).eq ⟨_, _, _, rfl, aft hm' (by omega) (by omega) (by omega) (by omega) (by omega) (by omega) (fun h1 => ?_) (fun h1 h2 => ?_) (fun h1 h2 => ?_)⟩
    | refine (s93 s89).eq ⟨_, _, _, rfl, aft hm' (by omega) (by omega) (by omega) (by omega) (by omega) (by omega) (fun h1 => ?_) (fun h1 h2 => ?_) (fun h1 h2 => ?_)⟩
    | refine s94.eq ⟨_, _, _, rfl, aft hm' (by omega) (by omega) (by omega) (by omega) (by omega) (by omega) (fun h1 => ?_) (fun h1 h2 => ?_) (fun h1 h2 => ?_)⟩
    | refine (s84 hW).eq ⟨_, _, _, rfl, aft hm' (by omega) (by omega) (by omega) (by omega) (by omega) (by omega) (fun h1 => ?_) (fun h1 h2 => ?_) (fun h1 h2 => ?_)⟩
    | refine s86.eq ⟨_, _, _, rfl, aft hm' (by omega) (by omega) (by omega) (by omega) (by omega) (by omega) (fun h1 => ?_) (fun h1 h2 => ?_) (fun h1 h2 => ?_)⟩
    | refine (s87 hW hf).eq ⟨_, _, _, rfl, aft hm' (by omega) (by omega) (by omega) (by omega) (by omega) (by omega) (fun h1 => ?_) (fun h1 h2 => ?_) (fun h1 h2 => ?_)⟩
    | skip
  all_goals first
    | (refine ⟨?_, rfl⟩
       simp only [nextM, effM, goesM, Int.reduceEq, or_false, or_true, false_or, true_or, reduceIte, h1]
       first | done | rfl)
    | (refine ⟨?_, rfl⟩
       simp only [nextM, effM, goesM, Int.reduceEq, or_false, or_true, false_or, true_or, reduceIte, h1, h2, Bool.true_eq_false]
       first | done | rfl)
    | skip
  all_goals try
    (refine ⟨?_, rfl⟩
     rw [emptyM]
     simp only [nextM, effM, goesM, Int.reduceEq, or_false, or_true, false_or, true_or, reduceIte, h1, h2, Bool.true_eq_false]
     rfl)
  refine ⟨?_, ?_⟩
  · unfold cK65 cL65
    repeat rw [findKey_ne (by assumption)]
    rfl
  · have he : effM fs is ts lets n kept locals o a b = (true, 0, 0) := by
      unfold effM
      repeat rw [if_neg (by assumption)]
    rw [he]
    have w0 : W (d - 0) = d - 0 := W_id (by omega) (by omega)
    rw [w0]
    refine (s66 hm').eq ⟨_, rfl, fun h2 => ⟨?_, rfl⟩, fun h2 => (s67 0 (by omega) (by omega) (by omega) (by omega)).eq ⟨_, _, rfl, ?_⟩⟩
    · simp only [nextM, h2, if_true, Bool.true_eq_false, if_false]; rfl
    · have h2' : ¬ d - 0 < baseM ms := by omega
      refine ⟨fun e => ?_, fun e30 => ⟨fun e => ?_, fun e16 => ⟨fun e => ?_, fun e21 => ⟨fun e => ?_, fun e28 => ⟨fun e => ?_, fun e26 => ⟨fun e => ?_, fun e22 => ⟨fun e => ?_, fun e27 => ⟨fun e => ?_, fun e29 => ?_⟩⟩⟩⟩⟩⟩⟩⟩
      · subst e
        refine ⟨?_, rfl⟩
        simp only [nextM, goesM, Int.reduceEq, or_false, or_true, false_or, true_or, reduceIte, h2', Bool.true_eq_false]
        rfl
      · subst e
        refine ⟨?_, rfl⟩
        simp only [nextM, goesM, Int.reduceEq, or_false, or_true, false_or, true_or, reduceIte, h2', Bool.true_eq_false]
        rfl
      · subst e
        refine (s68 _ (by omega)).eq ⟨_, _, rfl, (s67 1 (by omega) (by omega) (by omega) (by omega)).eq ⟨_, _, rfl, ?_, rfl⟩⟩
        simp only [nextM, goesM, Int.reduceEq, or_false, or_true, false_or, true_or, reduceIte, h2', Bool.true_eq_false]
        rfl
      · subst e
        refine (s68 _ (by omega)).eq ⟨_, _, rfl, ?_, rfl⟩
        simp only [nextM, goesM, Int.reduceEq, or_false, or_true, false_or, true_or, reduceIte, h2', Bool.true_eq_false]
        rfl
      · subst e
        refine (s68 _ (by omega)).eq ⟨_, _, rfl, (s69' hm').eq ⟨_, rfl, ?_, rfl⟩⟩
        simp only [nextM, goesM, Int.reduceEq, or_false, or_true, false_or, true_or, reduceIte, h2', Bool.true_eq_false]
        rfl
      · subst e
        refine (s71 _ hm').eq ⟨_, _, _, rfl, ?_, rfl⟩
        simp only [nextM, goesM, Int.reduceEq, or_false, or_true, false_or, true_or, reduceIte, h2', Bool.true_eq_false]
        rfl
      · subst e
        refine (s71 _ hm').eq ⟨_, _, _, rfl, ?_, rfl⟩
        simp only [nextM, goesM, Int.reduceEq, or_false, or_true, false_or, true_or, reduceIte, h2', Bool.true_eq_false]
        rfl
      · subst e
        refine (s71 _ hm').eq ⟨_, _, _, rfl, ?_, rfl⟩
        simp only [nextM, goesM, Int.reduceEq, or_false, or_true, false_or, true_or, reduceIte, h2', Bool.true_eq_false]
        rfl
      · refine ⟨?_, rfl⟩
        have hg2 : goesM o a b j d (d + (0 - 0)) ms = ([(j + 1, d + (0 - 0), ms)], true) := by
          unfold goesM
          rw [if_neg (by rintro (h | h) <;> contradiction), if_neg (by rintro (h | h) <;> contradiction)]
          repeat rw [if_neg (by assumption)]
        simp only [nextM, h2', Bool.true_eq_false, if_false]
        rw [hg2]
        simp [tD]
end
end Am

/- GenRaw: what a walk needs of a step. -/
namespace Am
open Go
set_option maxRecDepth 10000

theorem s72_1 (a b : List Mk) (hl : a.length = b.length) (hm : a.length ≤ 274877906944) : ∀ i : Nat, i ≤ a.length →
    Wl PP AA F72 f72_K1 (f72_S1 (a.map mD) (b.map mD) a.length i) (QAl (· = vBool (decide (a.drop i = b.drop i)))) :=
  upto fun i hi ih => by
    refine w72_1 ⟨fun h => ?_, fun h => ?_⟩
    · have hi' : i < a.length := by omega
      have hi2 : i < b.length := by omega
      refine ⟨by omega, a[i].1, a[i].2, ?_, b[i].1, b[i].2, ?_, fun h1 => ⟨fun h2 => ?_, fun h2 => ?_⟩, fun h1 => ?_⟩
      · rw [getI (by simpa using hi')]; simp [mD]
      · rw [getI (by simpa using hi2)]; simp [mD]
      · rw [W_succ hi' hm]
        have := ih hi'
        rw [drop_cons hi', drop_cons hi2]
        have e : a[i] = b[i] := Prod.ext h1 h2
        simpa only [List.cons.injEq, e, true_and] using this
      · rw [drop_cons hi', drop_cons hi2]
        rw [decide_eq_false]
        intro e; simp only [List.cons.injEq] at e; exact h2 (by rw [e.1])
      · rw [drop_cons hi', drop_cons hi2]
        rw [decide_eq_false]
        intro e; simp only [List.cons.injEq] at e; exact h1 (by rw [e.1])
    · rw [List.drop_of_length_le (by omega), List.drop_of_length_le (by omega)]; rfl

theorem s50 (d e : Int) (a b : List Mk) (hm : a.length ≤ 274877906944) : Wa PP AA F50 [.s 2 (.agg [dI d, .slice 2 (a.map mD)]), .s 2 (.agg [dI e, .slice 2 (b.map mD)])] (· = vBool (decide (d = e ∧ a = b))) := by
  have h72 : Wa PP AA F72 [.d (.slice 2 (a.map mD)), .d (.slice 2 (b.map mD))] (· = vBool (decide (a = b))) := by
    refine w72 ⟨fun h => ?_, fun h => ?_⟩
    · have hl : a.length = b.length := by simp at h; omega
      have := s72_1 a b hl hm 0 (by omega)
      simpa using this
    · rw [decide_eq_false]
      rintro rfl; exact h rfl
  refine w50 ⟨fun h => h72.eq ⟨_, rfl, ?_⟩, fun h => ?_⟩
  · simp [h]
  · simp [h]

/-- A state that may be met: its depths are not less than 0. -/
def OkS (k : Nat) (s : Int × List Mk) : Prop := 0 ≤ s.1 ∧ s.1 ≤ 1000 ∧ s.2.length ≤ k ∧ ∀ m ∈ s.2, 0 ≤ m.2

theorem base_ok {ms : List Mk} (h : ∀ m ∈ ms, 0 ≤ m.2) : 0 ≤ baseM ms := by
  unfold baseM
  split
  · rename_i m e; exact h m (List.mem_of_getLast? e)
  · omega

theorem off_ok {k : Int} {ms : List Mk} (h : ∀ m ∈ ms, 0 ≤ m.2) : (∀ m ∈ (offM k ms).1, 0 ≤ m.2) ∧ (offM k ms).1.length ≤ ms.length := by
  unfold offM
  split
  · split
    · exact ⟨fun m hm => h m (List.dropLast_subset _ hm), by simp⟩
    · exact ⟨h, by simp⟩
  · exact ⟨h, by simp⟩

theorem ite_P {α : Type} {P : α → Prop} {p : Prop} [Decidable p] {x y : α} (h1 : P x) (h2 : P y) : P (if p then x else y) := by split <;> assumption

theorem one {i : Int} {s : Int × List Mk} {b : Bool} {Q : Int → Prop} {S : Int × List Mk → Prop} (h1 : Q i) (h2 : S s) : ∀ x ∈ (([(i, s)], b) : List Tg × Bool).1, Q x.1 ∧ S x.2 := by
  intro x hx
  simp at hx
  subst hx
  exact ⟨h1, h2⟩
theorem two {i j : Int} {s u : Int × List Mk} {b : Bool} {Q : Int → Prop} {S : Int × List Mk → Prop} (h1 : Q i) (h2 : S s) (h3 : Q j) (h4 : S u) : ∀ x ∈ (([(i, s), (j, u)], b) : List Tg × Bool).1, Q x.1 ∧ S x.2 := by
  intro x hx
  simp at hx
  rcases hx with rfl | rfl
  · exact ⟨h1, h2⟩
  · exact ⟨h3, h4⟩

theorem goes_ok {o a b i d t : Int} {ms : List Mk} {k : Nat} (ha : 0 ≤ a) (hb : 0 ≤ b) (hi : 0 ≤ i) (hd : 0 ≤ d) (hd2 : d ≤ 60) (ht : 0 ≤ t) (ht2 : t ≤ 1000) (hk : ms.length ≤ k) (hm : ∀ m ∈ ms, 0 ≤ m.2) :
    ∀ x ∈ (goesM o a b i d t ms).1, 0 ≤ x.1 ∧ OkS (k + 1) x.2 := by
  have m1 : ∀ (q : Int), OkS (k + 1) (d, ms ++ [(q, d)]) := fun q => ⟨hd, by dsimp only; omega, by simp; omega, by
    intro m hx
    rcases List.mem_append.1 hx with hx | hx
    · exact hm m hx
    · simp at hx; subst hx; exact hd⟩
  have m2 : ∀ (q : Int), OkS (k + 1) (d, (offM q ms).1) := fun q => ⟨hd, by dsimp only; omega, by have := (off_ok (k := q) hm).2; dsimp only; omega, (off_ok hm).1⟩
  have m3 : OkS (k + 1) (t, ms) := ⟨ht, ht2, by dsimp only; omega, hm⟩
  have m4 : OkS (k + 1) (d, ms) := ⟨hd, by dsimp only; omega, by dsimp only; omega, hm⟩
  have m5 : OkS (k + 1) (d + 1, ms) := ⟨by dsimp only; omega, by dsimp only; omega, by dsimp only; omega, hm⟩
  have hi1 : 0 ≤ i + 1 := by omega
  unfold goesM
  refine ite_P (P := fun r : List Tg × Bool => ∀ x ∈ r.1, 0 ≤ x.1 ∧ OkS (k + 1) x.2) (by simp) ?_
  refine ite_P (P := fun r : List Tg × Bool => ∀ x ∈ r.1, 0 ≤ x.1 ∧ OkS (k + 1) x.2) (by simp) ?_
  refine ite_P (P := fun r : List Tg × Bool => ∀ x ∈ r.1, 0 ≤ x.1 ∧ OkS (k + 1) x.2) (one ha m4) ?_
  refine ite_P (P := fun r : List Tg × Bool => ∀ x ∈ r.1, 0 ≤ x.1 ∧ OkS (k + 1) x.2) (two hi1 m3 ha m3) ?_
  refine ite_P (P := fun r : List Tg × Bool => ∀ x ∈ r.1, 0 ≤ x.1 ∧ OkS (k + 1) x.2) (two hi1 m3 hb m3) ?_
  refine ite_P (P := fun r : List Tg × Bool => ∀ x ∈ r.1, 0 ≤ x.1 ∧ OkS (k + 1) x.2) (two hi1 (m1 _) ha m5) ?_
  refine ite_P (P := fun r : List Tg × Bool => ∀ x ∈ r.1, 0 ≤ x.1 ∧ OkS (k + 1) x.2) (two hi1 (m1 _) ha m4) ?_
  refine ite_P (P := fun r : List Tg × Bool => ∀ x ∈ r.1, 0 ≤ x.1 ∧ OkS (k + 1) x.2) (one hi1 (m1 _)) ?_
  refine ite_P (P := fun r : List Tg × Bool => ∀ x ∈ r.1, 0 ≤ x.1 ∧ OkS (k + 1) x.2) (one hi1 (m2 _)) ?_
  refine ite_P (P := fun r : List Tg × Bool => ∀ x ∈ r.1, 0 ≤ x.1 ∧ OkS (k + 1) x.2) (one hi1 (m2 _)) ?_
  exact ite_P (P := fun r : List Tg × Bool => ∀ x ∈ r.1, 0 ≤ x.1 ∧ OkS (k + 1) x.2) (one hi1 (m2 _)) (one hi1 m3)

theorem eff_ok {fs is ts : List D} {lets n kept locals o a b : Int} (hb : 0 ≤ b) (hb2 : b ≤ 65535) :
    0 ≤ (effM fs is ts lets n kept locals o a b).2.2 ∧ (effM fs is ts lets n kept locals o a b).2.2 ≤ 1 ∧ 0 ≤ (effM fs is ts lets n kept locals o a b).2.1 := by
  unfold effM
  repeat' first
    | exact ite_P (P := fun e : Bool × Int × Int => 0 ≤ e.2.2 ∧ e.2.2 ≤ 1 ∧ 0 ≤ e.2.1) (by dsimp only; omega) (by dsimp only; omega)
    | refine ite_P (P := fun e : Bool × Int × Int => 0 ≤ e.2.2 ∧ e.2.2 ≤ 1 ∧ 0 ≤ e.2.1) (by dsimp only; omega) ?_

theorem next_ok {fs is ts : List D} {lets n kept locals o a b i d : Int} {ms : List Mk} {k : Nat} (ha : 0 ≤ a) (hb : 0 ≤ b) (hb2 : b ≤ 65535) (hi : 0 ≤ i) (hd : 0 ≤ d) (hd2 : d ≤ 60) (hk : ms.length ≤ k) (hm : ∀ m ∈ ms, 0 ≤ m.2) :
    ∀ x ∈ (nextM (effM fs is ts lets n kept locals o a b) o a b i d ms).1, 0 ≤ x.1 ∧ OkS (k + 1) x.2 := by
  obtain ⟨h1, h2, h3⟩ := eff_ok (fs := fs) (is := is) (ts := ts) (lets := lets) (n := n) (kept := kept) (locals := locals) (o := o) (a := a) hb hb2
  have hbase := base_ok hm
  intro x hx
  unfold nextM at hx
  split at hx
  · cases hx
  · split at hx
    · cases hx
    · exact goes_ok ha hb hi hd hd2 (by omega) (by omega) hk hm x hx
end Am

/- GenRaw: the program's walk through a function. -/
namespace Am
open Go
set_option maxRecDepth 10000

def stV (s : Int × List Mk) : V := .s 2 (.agg [dI s.1, .slice 2 (s.2.map mD)])
abbrev St' := Int × List Mk

/-- An instruction with operands that may be. -/
def IsI' (x : D) : Prop := ∃ o a b, x = .agg [dI o, dI a, dI b] ∧ 0 ≤ a ∧ a ≤ 65535 ∧ 0 ≤ b ∧ b ≤ 65535

section
variable (fs is ts : List D) (lets n kept locals stack : Int) (cs : List D)

def nx (o a b j : Int) (s : St') : List Tg × Bool := nextM (effM fs is ts lets n kept locals o a b) o a b j s.1 s.2

def walkV : V := .s 9 (.agg [.slice 4 fs, .slice 0 is, .slice 0 ts, dI lets, dI n, dI kept, dI locals, dI stack, .slice 3 cs])

/-- A function holds together: states that are handed on. -/
def IsCert (H : Nat → Option St') : Prop := H 0 = some (0, []) ∧ ∀ j s, H j = some s → j < cs.length ∧ OkS 1000 s ∧ s.1 ≤ stack ∧
  ∀ o a b, cs[j]? = some (.agg [dI o, dI a, dI b]) → (nx fs is ts lets n kept locals o a b j s).2 = true ∧ ∀ t ∈ (nx fs is ts lets n kept locals o a b j s).1, 0 ≤ t.1 ∧ H t.1.toNat = some t.2
def Cert : Prop := ∃ H : Nat → Option St', IsCert fs is ts lets n kept locals stack cs H

def count (H : Nat → Option St') : Nat → Nat
  | 0 => 0
  | m + 1 => count H m + (if (H m).isSome then 1 else 0)

theorem count_le (H : Nat → Option St') : ∀ m, count H m ≤ m
  | 0 => by simp [count]
  | m + 1 => by have := count_le H m; simp only [count]; split <;> omega

theorem count_set {H : Nat → Option St'} {j : Nat} {s : St'} (hj : H j = none) : ∀ m, count (fun q => if q = j then some s else H q) m = count H m + (if j < m then 1 else 0)
  | 0 => by simp [count]
  | m + 1 => by
    simp only [count, count_set hj m]
    by_cases e : m = j
    · subst e; simp [hj]
    · simp only [e, if_false]
      by_cases h : j < m
      · simp [h, show j < m + 1 by omega]; omega
      · simp [h, show ¬ j < m + 1 by omega]

structure WI (i c : Nat) (h : Heap) (H : Nat → Option St') (wl : List Tg) (k : Nat) : Prop where
  w : hpAt h i 0 = some (.var (walkV fs is ts lets n kept locals stack cs))
  il : i < h.n
  cl : c < h.n
  had : ∃ lr : List V, hpAt h c 0 = some (.varr 0 0 lr) ∧ lr.length = cs.length ∧ ∀ j, j < cs.length →
    (H j = none ∧ lr[j]? = some (.d (.v (.pointer none)))) ∨ ∃ q s, H j = some s ∧ lr[j]? = some (.ptr (.he q 0) 0 2 0) ∧ q < h.n ∧ hpAt h q 0 = some (.var (stV s))
  dom : ∀ j s, H j = some s → j < cs.length ∧ OkS k s ∧ s.1 ≤ stack
  cnt : count H cs.length = k
  wok : ∀ t ∈ wl, 0 ≤ t.1 ∧ OkS k t.2
  clo : ∀ j s, H j = some s → ∀ o a b, cs[j]? = some (.agg [dI o, dI a, dI b]) → (nx fs is ts lets n kept locals o a b j s).2 = true ∧
    ∀ t ∈ (nx fs is ts lets n kept locals o a b j s).1, 0 ≤ t.1 ∧ (t ∈ wl ∨ H t.1.toNat = some t.2)
  st : (0, 0, []) ∈ wl ∨ H 0 = some (0, [])
  agr : ∀ G, IsCert fs is ts lets n kept locals stack cs G → (∀ j s, H j = some s → G j = some s) ∧ ∀ t ∈ wl, G t.1.toNat = some t.2

variable {fs is ts lets n kept locals stack cs}
variable {i c : Nat} {h : Heap} {H : Nat → Option St'} {wl : List Tg} {k : Nat}

def QW (C : Prop) (v : V) (_ : Heap) : Prop := ∃ x b, v = .tuple [x, vBool b] ∧ (b = true → C) ∧ (b = false → ¬ C)

theorem QW_no {C : Prop} {x : V} (hC : ¬ C) : QW C (.tuple [x, vBool false]) h := ⟨x, false, rfl, (fun e => by cases e), fun _ => hC⟩
theorem QW_yes {C : Prop} {x : V} (hC : C) : QW C (.tuple [x, vBool true]) h := ⟨x, true, rfl, (fun _ => hC), fun e => by cases e⟩

/-- What was to be done last is done already. -/
theorem WI.seen {t : Tg} (I : WI fs is ts lets n kept locals stack cs i c h H (wl ++ [t]) k) (hs : H t.1.toNat = some t.2) : WI fs is ts lets n kept locals stack cs i c h H wl k where
  w := I.w
  il := I.il
  cl := I.cl
  had := I.had
  dom := I.dom
  cnt := I.cnt
  wok x hx := I.wok x (by simp [hx])
  clo j s hj o a b hg := by
    obtain ⟨h1, h2⟩ := I.clo j s hj o a b hg
    refine ⟨h1, fun x hx => ?_⟩
    obtain ⟨h3, h4⟩ := h2 x hx
    refine ⟨h3, ?_⟩
    rcases h4 with h4 | h4
    · rcases List.mem_append.1 h4 with h4 | h4
      · exact .inl h4
      · simp at h4; subst h4; exact .inr hs
    · exact .inr h4
  st := by
    rcases I.st with h4 | h4
    · rcases List.mem_append.1 h4 with h4 | h4
      · exact .inl h4
      · simp at h4; subst h4; exact .inr hs
    · exact .inr h4
  agr G hG := ⟨(I.agr G hG).1, fun x hx => (I.agr G hG).2 x (by simp [hx])⟩

/-- It is new. -/
theorem WI.more {t : Tg} {lr : List V} (I : WI fs is ts lets n kept locals stack cs i c h H (wl ++ [t]) k) (hl : hpAt h c 0 = some (.varr 0 0 lr)) (hn : H t.1.toNat = none) (ht : t.1.toNat < cs.length) (hd : t.2.1 ≤ stack) (hst : stack ≤ 60)
    {o a b : Int} (hg : cs[t.1.toNat]? = some (.agg [dI o, dI a, dI b])) (ha : 0 ≤ a) (hb : 0 ≤ b) (hb2 : b ≤ 65535) (hok : (nx fs is ts lets n kept locals o a b t.1 t.2).2 = true) :
    WI fs is ts lets n kept locals stack cs i c (((h.push (.var (.agg [vI 0, .nilS]))).put h.n (some (.var (stV t.2)))).put c (some (.varr 0 0 (lr.set t.1.toNat (.ptr (.he h.n 0) 0 2 0)))))
      (fun q => if q = t.1.toNat then some t.2 else H q) (wl ++ (nx fs is ts lets n kept locals o a b t.1 t.2).1) (k + 1) := by
  have hci : c ≠ i := hpAt_ne hl I.w (by intro e; cases e)
  have hcn : h.n ≠ c := by have := I.cl; omega
  have hin : h.n ≠ i := by have := I.il; omega
  have hold : ∀ q g, q < h.n → q ≠ c → hpAt (((h.push (.var (.agg [vI 0, .nilS]))).put h.n (some (.var (stV t.2)))).put c (some (.varr 0 0 (lr.set t.1.toNat (.ptr (.he h.n 0) 0 2 0))))) q g = hpAt h q g := by
    intro q g hq hqc
    rw [hpAt_put_ne (Ne.symm hqc), hpAt_put_ne (by omega), hpAt_push_old hq]
  have hnew : hpAt (((h.push (.var (.agg [vI 0, .nilS]))).put h.n (some (.var (stV t.2)))).put c (some (.varr 0 0 (lr.set t.1.toNat (.ptr (.he h.n 0) 0 2 0))))) h.n 0 = some (.var (stV t.2)) := by
    rw [hpAt_put_ne (Ne.symm hcn)]
    exact hpAt_put_same rfl
  obtain ⟨ht0, hts⟩ := I.wok t (by simp)
  have hup : ∀ {k} {s : St'}, OkS k s → OkS (k + 1) s := fun h => ⟨h.1, h.2.1, by have := h.2.2.1; omega, h.2.2.2⟩
  have hnx : ∀ x ∈ (nx fs is ts lets n kept locals o a b t.1 t.2).1, 0 ≤ x.1 ∧ OkS (k + 1) x.2 := next_ok ha hb hb2 ht0 hts.1 (by omega) hts.2.2.1 hts.2.2.2
  refine ⟨?_, ?_, ?_, ?_, ?_, ?_, ?_, ?_, ?_, ?_⟩
  · rw [hold _ _ I.il (Ne.symm hci)]; exact I.w
  · have := I.il; simp; omega
  · have := I.cl; simp; omega
  · obtain ⟨lr2, g1, g2, g3⟩ := I.had
    rw [hl] at g1
    have e : lr = lr2 := by injection g1 with g1; injection g1
    subst e
    refine ⟨_, hpAt_put_same rfl, by simpa using g2, fun j hj => ?_⟩
    by_cases e : j = t.1.toNat
    · subst e
      refine .inr ⟨h.n, t.2, by simp, ?_, by simp, hnew⟩
      rw [List.getElem?_set_self (by omega)]
    · rcases g3 j hj with ⟨g4, g5⟩ | ⟨q, s, g4, g5, g6, g7⟩
      · exact .inl ⟨by simp [e, g4], by rw [List.getElem?_set_ne (Ne.symm e)]; exact g5⟩
      · refine .inr ⟨q, s, by simp [e, g4], by rw [List.getElem?_set_ne (Ne.symm e)]; exact g5, by simp; omega, ?_⟩
        rw [hold q 0 g6 (hpAt_ne g7 hl (by intro e; cases e))]; exact g7
  · intro j s hj
    by_cases e : j = t.1.toNat
    · subst e
      simp at hj; subst hj
      exact ⟨ht, hup hts, hd⟩
    · simp [e] at hj
      obtain ⟨h1, h2, h3⟩ := I.dom j s hj
      exact ⟨h1, hup h2, h3⟩
  · rw [count_set hn, I.cnt, if_pos ht]
  · intro x hx
    rcases List.mem_append.1 hx with hx | hx
    · obtain ⟨h1, h2⟩ := I.wok x (by simp [hx]); exact ⟨h1, hup h2⟩
    · exact hnx x hx
  · intro j s hj o' a' b' hg'
    by_cases e : j = t.1.toNat
    · subst e
      simp at hj; subst hj
      rw [hg] at hg'
      simp at hg'
      obtain ⟨rfl, rfl, rfl⟩ := hg'
      have ej : ((t.1.toNat : Nat) : Int) = t.1 := by omega
      rw [ej]
      exact ⟨hok, fun x hx => ⟨(hnx x hx).1, .inl (by simp [hx])⟩⟩
    · simp [e] at hj
      obtain ⟨h1, h2⟩ := I.clo j s hj o' a' b' hg'
      refine ⟨h1, fun x hx => ?_⟩
      obtain ⟨h3, h4⟩ := h2 x hx
      refine ⟨h3, ?_⟩
      rcases h4 with h4 | h4
      · rcases List.mem_append.1 h4 with h4 | h4
        · exact .inl (by simp [h4])
        · simp at h4; subst h4; exact .inr (by simp)
      · by_cases e2 : x.1.toNat = t.1.toNat
        · rw [e2, hn] at h4; cases h4
        · exact .inr (by simp [e2, h4])
  · rcases I.st with h4 | h4
    · rcases List.mem_append.1 h4 with h4 | h4
      · exact .inl (by simp [h4])
      · simp at h4; subst h4; exact .inr (by simp)
    · by_cases e2 : 0 = t.1.toNat
      · rw [e2, hn] at h4; cases h4
      · exact .inr (by simp [e2, h4])
  · intro G hG
    obtain ⟨a1, a2⟩ := I.agr G hG
    have hGt := a2 t (by simp)
    refine ⟨fun j s hj => ?_, fun x hx => ?_⟩
    · by_cases e : j = t.1.toNat
      · subst e; simp at hj; subst hj; exact hGt
      · simp [e] at hj; exact a1 j s hj
    · rcases List.mem_append.1 hx with hx | hx
      · exact a2 x (by simp [hx])
      · have := ((hG.2 _ _ hGt).2.2.2 o a b hg).2 x (by rw [show ((t.1.toNat : Nat) : Int) = t.1 by omega]; exact hx)
        exact this.2
end
end Am

/- GenRaw: the program's walk through a function: the loop. -/
namespace Am
open Go
set_option maxRecDepth 10000

theorem next_len {e : Bool × Int × Int} {o a b i d : Int} {ms : List Mk} : (nextM e o a b i d ms).1.length ≤ 2 := by
  unfold nextM goesM
  repeat' first
    | exact ite_P (P := fun r : List Tg × Bool => r.1.length ≤ 2) (by simp) (by simp)
    | refine ite_P (P := fun r : List Tg × Bool => r.1.length ≤ 2) (by simp) ?_

section
variable {fs is ts : List D} {lets n kept locals stack : Int} {cs : List D}
variable {i c : Nat} {h : Heap} {H : Nat → Option St'} {wl : List Tg} {k : Nat} {C : Prop}
variable (hI : ∀ x ∈ cs, IsI' x) (hf : ∀ x ∈ fs, IsB x) (hst : stack ≤ 60) (hcs : cs.length ≤ 400)

theorem WI.kle (I : WI fs is ts lets n kept locals stack cs i c h H wl k) : k ≤ cs.length := by
  rw [← I.cnt]; exact count_le _ _

include hI hf hst hcs in
theorem pop (hC : C → Cert fs is ts lets n kept locals stack cs) {t : Tg} (I : WI fs is ts lets n kept locals stack cs i c h H (wl ++ [t]) k) (hwl : (wl ++ [t]).length ≤ 2 * k + 1) {m : Nat} {l : List D} (hm : m ≤ l.length) (hlm : l.take m = wl.map tD)
    (c2 : WI fs is ts lets n kept locals stack cs i c h H wl k → Wl PP AA F27 f27_K2 (f27_S2 i c m l h) (QW C))
    (c1 : ∀ h' H' wl', WI fs is ts lets n kept locals stack cs i c h' H' wl' (k + 1) → wl'.length ≤ 2 * (k + 1) + 1 → Wl PP AA F27 f27_K1 (f27_S1 i c (wl'.map tD) h') (QW C)) :
    (∃ (lr14 : List V), hpAt h c 0 = some (.varr 0 0 lr14) ∧ ((t.1 < ((lr14.length : Nat) : Int) → (∃ (lr15 : List D) (lr16 : List D) (lr17 : List D) (nr18 : Int) (nr19 : Int) (nr110 : Int) (nr111 : Int) (nr112 : Int) (lr113 : List D), hpAt h i 0 = some (.var (.s 9 (.agg [.slice 4 lr15, .slice 0 lr16, .slice 0 lr17, dI nr18, dI nr19, dI nr110, dI nr111, dI nr112, .slice 3 lr113]))) ∧ ((nr112 < t.2.1 → QW C (.tuple [.d (.slice 0 ([])), vBool false]) h) ∧ (t.2.1 ≤ nr112 → ((0 : Int) ≤ t.1 ∧ ((Int.toNat t.1) < lr14.length ∧ ((∃ (ir114 : Nat), lr14[(Int.toNat t.1)]? = some (.ptr (.he ir114 0) 0 2 0) ∧ (∃ (nr115 : Int) (lr116 : List D), hpAt h ir114 0 = some (.var (.s 2 (.agg [dI nr115, .slice 2 lr116]))) ∧ (Wa PP AA F50 [.s 2 (.agg [dI nr115, .slice 2 lr116]), .s 2 (.agg [dI t.2.1, .slice 2 (t.2.2.map mD)])] fun v => ∃ (br117 : Bool), v = vBool br117 ∧ ((br117 = true → Wl PP AA F27 f27_K2 (f27_S2 i c m l h) (QW C)) ∧ (br117 = false → QW C (.tuple [.d (.slice 0 ([])), vBool false]) h))))) ∨ (lr14[(Int.toNat t.1)]? = some (.d (.v (.pointer none))) ∧ (hpAt (Heap.push h (.var (.agg [vI 0, .nilS]))) h.n 0 = some (.var (.agg [vI 0, .nilS])) ∧ (hpAt (Heap.put (Heap.push h (.var (.agg [vI 0, .nilS]))) h.n (some (.var (.s 2 (.agg [dI t.2.1, .slice 2 (t.2.2.map mD)]))))) c 0 = some (.varr 0 0 lr14) ∧ (hpAt (Heap.put (Heap.put (Heap.push h (.var (.agg [vI 0, .nilS]))) h.n (some (.var (.s 2 (.agg [dI t.2.1, .slice 2 (t.2.2.map mD)]))))) c (some (.varr 0 0 ((lr14.set ((Int.toNat t.1)) (.ptr (.he h.n 0) 0 2 0)))))) h.n 0 = some (.var (.s 2 (.agg [dI t.2.1, .slice 2 (t.2.2.map mD)]))) ∧ (Wc PP AA F49 [.ptr (.he i 0) 0 9 0, vI t.1, .s 2 (.agg [dI t.2.1, .slice 2 (t.2.2.map mD)])] (Heap.put (Heap.put (Heap.push h (.var (.agg [vI 0, .nilS]))) h.n (some (.var (.s 2 (.agg [dI t.2.1, .slice 2 (t.2.2.map mD)]))))) c (some (.varr 0 0 ((lr14.set ((Int.toNat t.1)) (.ptr (.he h.n 0) 0 2 0)))))) fun v Hr116 => ∃ (lr114 : List D) (br115 : Bool), v = .tuple [.d (.slice 3 lr114), vBool br115] ∧ ((br115 = true → (m ≤ l.length ∧ ((m + lr114.length) ≤ 274877906944 ∧ Wl PP AA F27 f27_K1 (f27_S1 i c (((l.take m) ++ lr114)) Hr116) (QW C)))) ∧ (br115 = false → QW C (.tuple [.d (.slice 0 ([])), vBool false]) Hr116)))))))))))))) ∧ (((lr14.length : Nat) : Int) ≤ t.1 → QW C (.tuple [.d (.slice 0 ([])), vBool false]) h))) := by
  obtain ⟨ht0, hts⟩ := I.wok t (by simp)
  obtain ⟨lr, g1, g2, g3⟩ := I.had
  have hk := I.kle
  have hmwl : m = wl.length := by
    have := congrArg List.length hlm
    simp at this; omega
  have hG : C → ∃ G, IsCert fs is ts lets n kept locals stack cs G ∧ (∀ j s, H j = some s → G j = some s) ∧ G t.1.toNat = some t.2 := fun hc => by
    obtain ⟨G, hG⟩ := hC hc
    exact ⟨G, hG, (I.agr G hG).1, (I.agr G hG).2 t (by simp)⟩
  refine ⟨lr, g1, fun hlt => ⟨_, _, _, _, _, _, _, _, _, I.w, fun hd => QW_no fun hc => ?_, fun hd => ⟨ht0, by omega, ?_⟩⟩, fun hge => QW_no fun hc => ?_⟩
  · obtain ⟨G, k1, k2, k3⟩ := hG hc
    have := (k1.2 _ _ k3).2.2.1
    omega
  rotate_left
  · obtain ⟨G, k1, k2, k3⟩ := hG hc
    have := (k1.2 _ _ k3).1
    omega
  have hj : t.1.toNat < cs.length := by omega
  rcases g3 _ hj with ⟨g4, g5⟩ | ⟨q, s, g4, g5, g6, g7⟩
  · refine .inr ⟨g5, hpAt_push_new rfl, ?_, ?_, ?_⟩
    · rw [hpAt_put_ne (by have := I.cl; omega), hpAt_push_old I.cl]; exact g1
    · rw [hpAt_put_ne (by have := I.cl; omega)]; exact hpAt_put_same rfl
    · obtain ⟨o, a, b, e, ha, ha2, hb, hb2⟩ := hI cs[t.1.toNat] (List.getElem_mem hj)
      have hg : cs[t.1.toNat]? = some (.agg [dI o, dI a, dI b]) := by rw [List.getElem?_eq_getElem hj, e]
      have hci : c ≠ i := hpAt_ne g1 I.w (by intro e; cases e)
      have hW : hpAt (Heap.put (Heap.put (Heap.push h (.var (.agg [vI 0, .nilS]))) h.n (some (.var (.s 2 (.agg [dI t.2.1, .slice 2 (t.2.2.map mD)]))))) c (some (.varr 0 0 ((lr.set ((Int.toNat t.1)) (.ptr (.he h.n 0) 0 2 0)))))) i 0 = some (.var (walkV fs is ts lets n kept locals stack cs)) := by
        rw [hpAt_put_ne hci, hpAt_put_ne (by have := I.il; omega), hpAt_push_old I.il]; exact I.w
      refine (s49 hW hf ht0 (by omega) hg hb hb2 hts.1 (by omega) (by have := hts.2.2.1; omega)).mono ?_
      rintro v h' ⟨rfl, rfl⟩
      refine ⟨_, _, rfl, fun hok => ⟨hm, ?_, ?_⟩, fun hok => QW_no fun hc => ?_⟩
      rotate_left 2
      · obtain ⟨G, k1, k2, k3⟩ := hG hc
        have := ((k1.2 _ _ k3).2.2.2 o a b hg).1
        rw [show ((t.1.toNat : Nat) : Int) = t.1 by omega] at this
        exact absurd (hok.symm.trans this) (by simp)
      · have := next_len (e := effM fs is ts lets n kept locals o a b) (o := o) (a := a) (b := b) (i := t.1) (d := t.2.1) (ms := t.2.2)
        simp only [List.length_append, List.length_cons, List.length_nil] at hwl
        simp only [List.length_map]
        omega
      · have I2 := I.more g1 g4 hj hd hst hg ha hb hb2 hok
        rw [hlm, ← List.map_append]
        refine c1 _ _ _ I2 ?_
        have := next_len (e := effM fs is ts lets n kept locals o a b) (o := o) (a := a) (b := b) (i := t.1) (d := t.2.1) (ms := t.2.2)
        simp only [List.length_append, List.length_cons, List.length_nil] at hwl ⊢
        omega
  · refine .inl ⟨q, g5, s.1, s.2.map mD, g7, ?_⟩
    have hs2 := (I.dom _ _ g4).2.1
    refine (s50 s.1 t.2.1 s.2 t.2.2 (by have := hs2.2.2.1; omega)).eq ⟨_, rfl, fun hb => c2 (I.seen ?_), fun hb => QW_no fun hc => ?_⟩
    rotate_left
    · obtain ⟨G, k1, k2, k3⟩ := hG hc
      have e := (k2 _ _ g4).symm.trans k3
      cases e
      simp at hb
    rw [g4]
    simp only [decide_eq_true_eq] at hb
    rw [← Prod.ext hb.1 hb.2]

/-- When nothing is left to do. -/
theorem WI.cert (I : WI fs is ts lets n kept locals stack cs i c h H [] k) (hcs : cs.length ≤ 400) : Cert fs is ts lets n kept locals stack cs := by
  refine ⟨H, by simpa using I.st, fun j s hj => ?_⟩
  obtain ⟨h1, h2, h3⟩ := I.dom j s hj
  have hk := I.kle
  refine ⟨h1, ⟨h2.1, h2.2.1, by have := h2.2.2.1; omega, h2.2.2.2⟩, h3, fun o a b hg => ?_⟩
  obtain ⟨h4, h5⟩ := I.clo j s hj o a b hg
  exact ⟨h4, fun t ht => ⟨(h5 t ht).1, by simpa using (h5 t ht).2⟩⟩

include hI hf hst hcs in
theorem s27_in {A : Nat} (hA : ∀ (k : Nat) (h : Heap) (H : Nat → Option St') (wl : List Tg), cs.length - k < A → WI fs is ts lets n kept locals stack cs i c h H wl k → wl.length ≤ 2 * k + 1 →
      Wl PP AA F27 f27_K1 (f27_S1 i c (wl.map tD) h) (QW (Cert fs is ts lets n kept locals stack cs))) :
    ∀ (L k : Nat) (h : Heap) (H : Nat → Option St') (wl : List Tg), cs.length - k ≤ A → wl.length ≤ L → WI fs is ts lets n kept locals stack cs i c h H wl k → wl.length ≤ 2 * k + 1 →
    Wl PP AA F27 f27_K1 (f27_S1 i c (wl.map tD) h) (QW (Cert fs is ts lets n kept locals stack cs)) ∧
    ∀ (m : Nat) (l : List D), m ≤ l.length → l.take m = wl.map tD → Wl PP AA F27 f27_K2 (f27_S2 i c m l h) (QW (Cert fs is ts lets n kept locals stack cs)) := by
  intro L
  induction L with
  | zero =>
    intro k h H wl hk hL I hwl
    have : wl = [] := List.length_eq_zero_iff.1 (by omega)
    subst this
    refine ⟨w27_1 ⟨fun h => absurd h (by simp), fun _ => QW_yes (I.cert hcs)⟩, fun m l hm hl => ?_⟩
    have : m = 0 := by
      have := congrArg List.length hl
      rw [List.length_take, Nat.min_eq_left hm] at this
      exact this
    subst this
    exact w27_2 ⟨by omega, fun h => absurd h (by simp), fun _ => QW_yes (I.cert hcs)⟩
  | succ L ih =>
    intro k h H wl hk hL I hwl
    rcases List.eq_nil_or_concat wl with rfl | ⟨wl', t, rfl⟩
    · exact ih k h H [] hk (by simp) I hwl
    · rw [List.concat_eq_append] at *
      have hk1 : ∀ h' H' wl'', WI fs is ts lets n kept locals stack cs i c h' H' wl'' (k + 1) → wl''.length ≤ 2 * (k + 1) + 1 → Wl PP AA F27 f27_K1 (f27_S1 i c (wl''.map tD) h') (QW (Cert fs is ts lets n kept locals stack cs)) := fun h' H' wl'' I' hl' =>
        hA _ _ _ _ (by have := I'.kle; omega) I' hl'
      have hlen : (wl' ++ [t]).length = wl'.length + 1 := by simp
      have kle := I.kle
      refine ⟨?_, fun m l hm hl => ?_⟩
      · have hll : ((wl' ++ [t]).map tD).length = wl'.length + 1 := by simp
        have e1 : W (((((wl' ++ [t]).map tD).length : Nat) : Int) - 1) = (wl'.length : Int) := by rw [hll, W_id (by omega) (by omega)]; omega
        refine w27_1 ⟨fun _ => ?_, fun h => absurd h (by rw [hll]; omega)⟩
        rw [e1]
        refine ⟨by omega, by rw [hll]; omega, t.1, t.2.1, t.2.2.map mD, ?_, by rw [hll]; omega, by omega, ?_⟩
        · simp [tD]
        · exact pop hI hf hst hcs (fun h => h) I (by omega) (by rw [hll]; omega) (by simp) (fun I' => (ih k h H wl' hk (by omega) I' (by omega)).2 _ _ (by rw [hll]; omega) (by simp)) hk1
      · have hm2 : m = wl'.length + 1 := by have := congrArg List.length hl; simp at this; omega
        subst hm2
        have e1 : W (((wl'.length + 1 : Nat) : Int) - 1) = (wl'.length : Int) := by rw [W_id (by omega) (by omega)]; omega
        have hget : l[wl'.length]? = some (tD t) := by
          have := congrArg (·[wl'.length]?) hl
          simpa using this
        have htake : l.take wl'.length = wl'.map tD := by
          have := congrArg (List.take wl'.length) hl
          simpa [List.take_take] using this
        refine w27_2 ⟨by omega, fun _ => ?_, fun h => absurd h (by omega)⟩
        rw [e1]
        refine ⟨by omega, by omega, t.1, t.2.1, t.2.2.map mD, ?_, by omega, by omega, ?_⟩
        · simpa [tD] using hget
        · exact pop hI hf hst hcs (fun h => h) I (by omega) (by simp <;> omega) (by simpa using htake) (fun I' => (ih k h H wl' hk (by omega) I' (by omega)).2 _ _ (by simp <;> omega) (by simpa using htake)) hk1

include hI hf hst hcs in
theorem s27_loop : ∀ (A L k : Nat) (h : Heap) (H : Nat → Option St') (wl : List Tg), cs.length - k ≤ A → wl.length ≤ L → WI fs is ts lets n kept locals stack cs i c h H wl k → wl.length ≤ 2 * k + 1 →
    Wl PP AA F27 f27_K1 (f27_S1 i c (wl.map tD) h) (QW (Cert fs is ts lets n kept locals stack cs)) ∧
    ∀ (m : Nat) (l : List D), m ≤ l.length → l.take m = wl.map tD → Wl PP AA F27 f27_K2 (f27_S2 i c m l h) (QW (Cert fs is ts lets n kept locals stack cs)) := by
  intro A
  induction A with
  | zero => exact s27_in hI hf hst hcs (fun k h H wl hA I => absurd I.kle (by omega))
  | succ A ihA =>
    refine s27_in hI hf hst hcs (fun k h H wl hA I hwl => (ihA wl.length k h H wl (by omega) (Nat.le_refl _) I hwl).1)
end
end Am

/- GenRaw: whether a code may be, by the document. -/
namespace Am
open Go
set_option maxRecDepth 10000

section
variable {fs is ts : List D} {n : Int} {r : Bool}

theorem s13_4 {i : Int} {a b s : Int} {cs : List D} (hl : cs.length ≤ 274877906944) (hc : ∀ y ∈ cs, IsI y) (hr : Wl PP AA F13 f13_K3 (f13_S3 fs is ts n (W (i + 1))) (QAl (· = vBool r))) :
    ∀ k : Nat, k ≤ cs.length → Wl PP AA F13 f13_K4 (f13_S4 fs is ts n i k a b s cs) (QAl (· = vBool ((cs.drop k).all instrD && r))) :=
  upto fun k hk ih => by
    refine w13_4 ⟨fun h => ?_, fun h => ?_⟩
    · have hk' : k < cs.length := by omega
      obtain ⟨o, x, y, e⟩ := hc cs[k] (List.getElem_mem hk')
      refine ⟨by omega, o, x, y, by rw [getI hk', e], (s28 o x y).eq ⟨_, rfl, fun h2 => ?_, fun h2 => ?_⟩⟩
      · rw [W_succ hk' hl]
        have := ih hk'
        rw [drop_cons hk', List.all_cons, e]
        simp only [instrD, h2, Bool.true_and]
        exact this
      · rw [drop_cons hk', List.all_cons, e]
        simp only [instrD, h2, Bool.false_and]
    · rw [List.drop_of_length_le (by omega)]
      simpa using hr

theorem s13_3 (hl : fs.length ≤ 274877906944) (hf : ∀ x ∈ fs, IsB x) : ∀ i : Nat, i ≤ fs.length → Wl PP AA F13 f13_K3 (f13_S3 fs is ts n i) (QAl (· = vBool ((fs.drop i).all bodyD))) :=
  upto fun i hi ih => by
    refine w13_3 ⟨fun h => ?_, fun h => ?_⟩
    · have hi' : i < fs.length := by omega
      obtain ⟨a, b, c, d, e, k1, k2⟩ := hf fs[i] (List.getElem_mem hi')
      refine ⟨by omega, a, b, c, d, by rw [getI hi', e], ?_⟩
      rw [drop_cons hi', List.all_cons, e]
      have hr := ih hi'
      rw [← W_succ hi' hl] at hr
      have h4 := s13_4 (a := a) (b := b) (s := c) k1 k2 hr 0 (by omega)
      rw [List.drop_zero] at h4
      have key : bodyD (.agg [dI a, dI b, dI c, .slice 3 d]) = (decide (0 ≤ a ∧ a ≤ 59 ∧ 0 ≤ b ∧ b ≤ 60 ∧ 1 ≤ c ∧ c ≤ 60 ∧ 1 ≤ d.length ∧ d.length ≤ 400) && d.all instrD) := rfl
      rw [key]
      refine ⟨fun g1 => ?_, fun g1 => ⟨fun g2 => ?_, fun g2 => ⟨fun g3 => ?_, fun g3 => ⟨fun g4 => ?_, fun g4 => ⟨fun g5 => ?_, fun g5 => ⟨fun g6 => ?_, fun g6 => ⟨fun g7 => ?_, fun g7 => ⟨fun g8 => ?_, fun g8 => ?_⟩⟩⟩⟩⟩⟩⟩⟩
      all_goals first
        | rw [decide_eq_false (by omega), Bool.false_and, Bool.false_and]
        | (rw [decide_eq_true (by omega), Bool.true_and]; exact h4)
    · rw [List.drop_of_length_le (by omega)]; rfl

theorem s13_2 (hl : fs.length ≤ 274877906944) (hf : ∀ x ∈ fs, IsB x) (hl2 : ts.length ≤ 274877906944) (ht : ∀ x ∈ ts, ∃ a, x = dS a) : ∀ i : Nat, i ≤ ts.length → Wl PP AA F13 f13_K2 (f13_S2 fs is ts n i) (QAl (· = vBool ((ts.drop i).all textD && fs.all bodyD))) :=
  upto fun i hi ih => by
    refine w13_2 ⟨fun h => ?_, fun h => ?_⟩
    · have hi' : i < ts.length := by omega
      obtain ⟨a, e⟩ := ht ts[i] (List.getElem_mem hi')
      refine ⟨by omega, a, by rw [getI hi', e], fun h2 => ?_, fun h2 => ?_⟩
      · rw [drop_cons hi', List.all_cons, e]
        simp only [textD]
        rw [decide_eq_false (by omega), Bool.false_and, Bool.false_and]
      · rw [W_succ hi' hl2]
        have := ih hi'
        rw [drop_cons hi', List.all_cons, e]
        simp only [textD]
        rw [decide_eq_true (by omega), Bool.true_and]
        exact this
    · rw [List.drop_of_length_le (by omega)]
      simpa using s13_3 hl hf 0 (by omega)

theorem s13_1 (hl : fs.length ≤ 274877906944) (hf : ∀ x ∈ fs, IsB x) (hl2 : ts.length ≤ 274877906944) (ht : ∀ x ∈ ts, ∃ a, x = dS a) (hl3 : is.length ≤ 274877906944) (hi : ∀ x ∈ is, ∃ a, x = dI a) :
    ∀ i : Nat, i ≤ is.length → Wl PP AA F13 f13_K1 (f13_S1 fs is ts n i) (QAl (· = vBool ((is.drop i).all intD && ts.all textD && fs.all bodyD))) :=
  upto fun i hi2 ih => by
    refine w13_1 ⟨fun h => ?_, fun h => ?_⟩
    · have hi' : i < is.length := by omega
      obtain ⟨a, e⟩ := hi is[i] (List.getElem_mem hi')
      refine ⟨by omega, a, by rw [getI hi', e], fun h2 => ?_, fun h2 => ⟨fun h3 => ?_, fun h3 => ?_⟩⟩
      · rw [drop_cons hi', List.all_cons, e]
        simp only [intD]
        rw [decide_eq_false (by omega), Bool.false_and, Bool.false_and, Bool.false_and]
      · rw [drop_cons hi', List.all_cons, e]
        simp only [intD]
        rw [decide_eq_false (by omega), Bool.false_and, Bool.false_and, Bool.false_and]
      · rw [W_succ hi' hl3]
        have := ih hi'
        rw [drop_cons hi', List.all_cons, e]
        simp only [intD]
        rw [decide_eq_true (by omega), Bool.true_and]
        exact this
    · rw [List.drop_of_length_le (by omega)]
      simpa using s13_2 hl hf hl2 ht 0 (by omega)

theorem s13 (h1 : fs.length ≤ 274877906944) (h2 : is.length ≤ 274877906944) (h3 : ts.length ≤ 274877906944) (hf : ∀ x ∈ fs, IsB x) (hi : ∀ x ∈ is, ∃ a, x = dI a) (ht : ∀ x ∈ ts, ∃ a, x = dS a) :
    Wa PP AA F13 [.s 4 (.agg [.slice 4 fs, .slice 0 is, .slice 0 ts, dI n])] (· = vBool (mayM fs is ts n)) := by
  refine w13 ⟨fun g1 => ?_, fun g1 => ⟨fun g2 => ?_, fun g2 => ⟨fun g3 => ?_, fun g3 => ⟨fun g4 => ?_, fun g4 => ⟨fun g5 => ?_, fun g5 => ⟨fun g6 => ?_, fun g6 => ?_⟩⟩⟩⟩⟩⟩
  all_goals
    unfold mayM
    first
    | rw [decide_eq_false (by omega), Bool.false_and, Bool.false_and, Bool.false_and]
    | (rw [decide_eq_true (by omega), Bool.true_and]; exact s13_1 h1 hf h3 ht h2 hi 0 (by omega))
end
end Am

/- GenRaw: the program's answer whether a code holds together. -/
namespace Am
open Go
set_option maxRecDepth 10000

theorem fits_nil (n : Nat) : ((List.replicate n (.d (.v (.pointer none)) : V)).all (·.fits 0)) = true := by
  rw [List.all_eq_true]
  intro x hx
  rw [List.eq_of_mem_replicate hx]
  rfl
theorem noLo_nil : ∀ n : Nat, V.noLoL (List.replicate n (.d (.v (.pointer none)) : V)) = true
  | 0 => rfl
  | n + 1 => by
    rw [List.replicate_succ]
    show (V.noLo (.d (.v (.pointer none))) && V.noLoL _) = true
    rw [noLo_nil n]; rfl

section
variable {fs is ts : List D} {lets n kept locals stack : Int} {cs : List D}
variable {i : Nat} {h : Heap}
variable (hI : ∀ x ∈ cs, IsI' x) (hf : ∀ x ∈ fs, IsB x) (hst : stack ≤ 60) (hcs : cs.length ≤ 400)

include hI hf hst hcs in
theorem s27 (hW : hpAt h i 0 = some (.var (walkV fs is ts lets n kept locals stack cs))) (hi : i < h.n) :
    Wc PP AA F27 [.ptr (.he i 0) 0 9 0] h (QW (Cert fs is ts lets n kept locals stack cs)) := by
  have I : WI fs is ts lets n kept locals stack cs i h.n (h.push (.varr 0 0 (List.replicate cs.length (.d (.v (.pointer none)) : V)))) (fun _ => none) [(0, 0, [])] 0 := by
    refine ⟨by rw [hpAt_push_old hi]; exact hW, by simp; omega, by simp, ⟨_, hpAt_push_new rfl, by simp, fun j hj => .inl ⟨rfl, by simp [hj]⟩⟩, fun j s hj => (by cases hj), ?_, ?_, fun j s hj => by (cases hj), .inl (by simp), fun G hG => ⟨fun j s hj => by (cases hj), fun t ht => by simp at ht; subst ht; exact hG.1⟩⟩
    · have : ∀ m, count (fun _ => none) m = 0 := fun m => by
        induction m with
        | zero => rfl
        | succ m ih => simp [count, ih]
      exact this _
    · intro t ht
      simp at ht; subst ht
      exact ⟨by simp, by simp, by simp, by simp, by simp⟩
  have e : Int.toNat ((cs.length : Nat) : Int) = cs.length := by simp
  refine w27 ⟨_, _, _, _, _, _, _, _, _, hW, by omega, ?_, ?_, ?_, ?_⟩
  · rw [e]; simp; omega
  · exact fits_nil _
  · exact noLo_nil _
  · rw [e]
    exact (s27_loop hI hf hst hcs cs.length 1 0 _ _ _ (by omega) (by simp) I (by simp)).1
end

/-- All of a code's functions hold together. -/
def CertC (fs is ts : List D) (lets : Int) : Prop := ∀ (j : Nat) (a b c : Int) (d : List D), fs[j]? = some (.agg [dI a, dI b, dI c, .slice 3 d]) → Cert fs is ts lets j a b c d

theorem instr_le {o a b : Int} (h : instrM o a b = true) : IsI' (.agg [dI o, dI a, dI b]) := by
  unfold instrM at h
  simp only [decide_eq_true_eq] at h
  exact ⟨o, a, b, rfl, h.2.1, h.2.2.1, h.2.2.2.1, h.2.2.2.2.1⟩

theorem body_le {a b c : Int} {d : List D} (hd : ∀ y ∈ d, IsI y) (h : bodyD (.agg [dI a, dI b, dI c, .slice 3 d]) = true) : (∀ x ∈ d, IsI' x) ∧ c ≤ 60 ∧ 1 ≤ c ∧ d.length ≤ 400 ∧ 1 ≤ d.length := by
  simp only [bodyD, Bool.and_eq_true, decide_eq_true_eq, List.all_eq_true] at h
  refine ⟨fun x hx => ?_, by omega, by omega, by omega, by omega⟩
  obtain ⟨o, p, q, rfl⟩ := hd x hx
  exact instr_le (h.2 _ hx)

section
variable {fs is ts : List D} {n : Int}

theorem s12_1 (hl : fs.length ≤ 274877906944) (hf : ∀ x ∈ fs, IsB x) (hb : fs.all bodyD = true) : ∀ j : Nat, j ≤ fs.length → ∀ h : Heap, (∀ (q : Nat) (a b c : Int) (d : List D), q < j → fs[q]? = some (.agg [dI a, dI b, dI c, .slice 3 d]) → Cert fs is ts n q a b c d) →
    Wl PP AA F12 f12_K1 (f12_S1 fs is ts n fs.length j h) (QAl fun v => (v = vI 0 ∧ CertC fs is ts n) ∨ (v = vI 30 ∧ ¬ CertC fs is ts n)) :=
  upto fun j hj ih h hc => by
    refine w12_1 ⟨fun h1 => ?_, fun h1 => ?_⟩
    · have hj' : j < fs.length := by omega
      obtain ⟨a, b, c, d, e, k1, k2⟩ := hf fs[j] (List.getElem_mem hj')
      have e2 : fs[j]? = some (.agg [dI a, dI b, dI c, .slice 3 d]) := by rw [List.getElem?_eq_getElem hj', e]
      have hbd := List.all_eq_true.1 hb _ (List.getElem_mem hj')
      rw [e] at hbd
      obtain ⟨m1, m2, _, m3, _⟩ := body_le k2 hbd
      refine ⟨by omega, a, b, c, d, by rw [getI hj', e], ?_⟩
      refine (s27 m1 hf m2 m3 (fs := fs) (is := is) (ts := ts) (lets := n) (n := j) (kept := a) (locals := b) (hpAt_push_new rfl) (by simp)).mono ?_
      rintro v h' ⟨x, r, rfl, hr, hrn⟩
      refine ⟨x, r, rfl, fun hr' => ?_, fun hr' => .inr ⟨rfl, fun hc => hrn hr' (hc _ _ _ _ _ e2)⟩⟩
      rw [W_succ hj' hl]
      refine ih hj' h' fun q a' b' c' d' hq hg => ?_
      by_cases eq : q = j
      · subst eq
        rw [e2] at hg
        simp at hg
        obtain ⟨rfl, rfl, rfl, rfl⟩ := hg
        exact hr hr'
      · exact hc q a' b' c' d' (by omega) hg
    · exact .inl ⟨rfl, fun q a b c d hg => hc q a b c d (by have := (List.getElem?_eq_some_iff.1 hg).1; omega) hg⟩

/-- The program's answer. -/
theorem s12 (h1 : fs.length ≤ 274877906944) (h2 : is.length ≤ 274877906944) (h3 : ts.length ≤ 274877906944) (hf : ∀ x ∈ fs, IsB x) (hi : ∀ x ∈ is, ∃ a, x = dI a) (ht : ∀ x ∈ ts, ∃ a, x = dS a) :
    Wa PP AA F12 [.s 4 (.agg [.slice 4 fs, .slice 0 is, .slice 0 ts, dI n])] fun v => (v = vI 0 ∧ mayM fs is ts n = true ∧ CertC fs is ts n) ∨ ((v = vI 1 ∨ v = vI 30) ∧ ¬ (mayM fs is ts n = true ∧ CertC fs is ts n)) := by
  refine w12 ((s26 n h1 h2 h3 hf hi ht).eq ⟨_, rfl, fun hm => ?_, fun hm => .inr ⟨.inl rfl, fun hc => absurd (hm.symm.trans hc.1) (by simp)⟩⟩)
  have hb : fs.all bodyD = true := by
    unfold mayM at hm
    simp only [Bool.and_eq_true] at hm
    exact hm.2
  refine (s12_1 h1 hf hb 0 (by omega) Heap.none fun q a b c d hq => absurd hq (by omega)).mono ?_
  rintro v _ ⟨g1, g2⟩
  refine ⟨g1, ?_⟩
  rcases g2 with ⟨rfl, g3⟩ | ⟨rfl, g3⟩
  · exact .inl ⟨rfl, hm, g3⟩
  · exact .inr ⟨.inr rfl, fun hc => g3 hc.2⟩
end
end Am

/- GenRaw: the document's walk: its parts. -/
namespace Am
open Go
set_option maxRecDepth 10000

section
variable {fs is ts : List D} {lets n kept locals stack : Int} {cs : List D} {o a b : Int}

theorem s52 (hf : ∀ x ∈ fs, IsB x) (hn : 0 ≤ n) (hg : fs[n.toNat]? = some (.agg [dI kept, dI locals, dI stack, .slice 3 cs])) :
    Wa PP AA F52 [.s 4 (.agg [.slice 4 fs, .slice 0 is, .slice 0 ts, dI lets]), vI n, .s 3 (.agg [dI o, dI a, dI b])]
      (· = .tuple [vBool (effM fs is ts lets n kept locals o a b).1, vI (effM fs is ts lets n kept locals o a b).2.1, vI (effM fs is ts lets n kept locals o a b).2.2]) := by
  refine w52 ⟨hn, _, _, _, _, hg, ?_⟩
  repeat' first
    | refine And.intro (fun (e : _ = _) => ?_) (fun (e : _ ≠ _) => ?_)
    | fail
  all_goals try subst e
  all_goals first
    | (simp only [effM, Int.reduceEq, reduceIte]; done)
    | (have he : effM fs is ts lets n kept locals o a b = (true, 0, 0) := by
         unfold effM
         repeat rw [if_neg (by assumption)]
       rw [he])
    | skip
  · simp only [effM, Int.reduceEq, reduceIte]
    refine congrArg (fun x => V.tuple [vBool x, vI 0, vI 1]) (Bool.eq_iff_iff.2 ?_)
    simp; omega
  · simp only [effM, Int.reduceEq, reduceIte]
    refine ⟨fun h => ?_, fun h => ⟨fun h2 => ?_, fun h2 => ?_⟩⟩
    · rw [decide_eq_false (by omega)]
    · rw [decide_eq_false (by omega)]
    · refine congrArg (fun x => V.tuple [vBool x, vI b, vI 1]) (Bool.eq_iff_iff.2 ?_)
      simp; omega
  · simp only [effM, Int.reduceEq, reduceIte]
    refine ⟨fun h => ?_, fun h => ⟨fun h2 => ?_, fun h2 => ?_⟩⟩
    · rw [decide_eq_false (by omega)]
    · have hi : a.toNat < fs.length := by omega
      obtain ⟨x, y, z, l, e, _, _⟩ := hf fs[a.toNat] (List.getElem_mem hi)
      have e2 : fs[a.toNat]? = some (.agg [dI x, dI y, dI z, .slice 3 l]) := by rw [List.getElem?_eq_getElem hi, e]
      refine ⟨x, y, z, l, e2, ?_⟩
      refine congrArg (fun x => V.tuple [vBool x, vI b, vI 1]) (Bool.eq_iff_iff.2 ?_)
      simp [keptAt, e2]; omega
    · rw [decide_eq_false (by omega)]
end

theorem s73_1 (p q : Bool) (d e : Int) (a b : List Mk) (hl : a.length = b.length) (hm : a.length ≤ 274877906944) : ∀ i : Nat, i ≤ a.length →
    Wl PP AA F73 f73_K1 (f73_S1 p d (a.map mD) q e (b.map mD) i) (QAl (· = vBool (decide (a.drop i = b.drop i)))) :=
  upto fun i hi ih => by
    refine w73_1 ⟨fun h => ?_, fun h => ?_⟩
    · rw [List.length_map] at h
      have hi' : i < a.length := by omega
      have hi2 : i < b.length := by omega
      refine ⟨by omega, a[i].1, a[i].2, ?_, b[i].1, b[i].2, ?_, fun h1 => ⟨fun h2 => ?_, fun h2 => ?_⟩, fun h1 => ?_⟩
      · rw [getI (by simpa using hi')]; simp [mD]
      · rw [getI (by simpa using hi2)]; simp [mD]
      · rw [W_succ hi' hm]
        have := ih hi'
        rw [drop_cons hi', drop_cons hi2]
        have e : a[i] = b[i] := Prod.ext h1 h2
        simpa only [List.cons.injEq, e, true_and] using this
      · rw [drop_cons hi', drop_cons hi2]
        rw [decide_eq_false]
        intro e; simp only [List.cons.injEq] at e; exact h2 (by rw [e.1])
      · rw [drop_cons hi', drop_cons hi2]
        rw [decide_eq_false]
        intro e; simp only [List.cons.injEq] at e; exact h1 (by rw [e.1])
    · rw [List.length_map] at h
      rw [List.drop_of_length_le (by omega), List.drop_of_length_le (by omega)]; rfl

theorem s73 (p q : Bool) (d e : Int) (a b : List Mk) (hm : a.length ≤ 274877906944) :
    Wa PP AA F73 [.s 3 (.agg [dB p, dI d, .slice 2 (a.map mD)]), .s 3 (.agg [dB q, dI e, .slice 2 (b.map mD)])] (· = vBool (decide (d = e ∧ a = b))) := by
  refine w73 ⟨fun h => ⟨fun h2 => ?_, fun h2 => ?_⟩, fun h => ?_⟩
  · have hl : a.length = b.length := by simp at h2; omega
    have := s73_1 p q d e a b hl hm 0 (by omega)
    simpa [h] using this
  · rw [decide_eq_false]
    rintro ⟨_, rfl⟩; exact h2 rfl
  · rw [decide_eq_false]
    rintro ⟨h1, _⟩; exact h h1

def ownH (h : Heap) (l : List D) : Heap := (h.push (.darr 0 2 [])).put h.n (some (.darr 1 2 ([] ++ l)))

theorem s53 {l : List D} {h : Heap} (hl : l.length ≤ 274877906944) : Wc PP AA F53 [.d (.slice 2 l)] h fun v h' => v = .sl (.he h.n 1) 2 none ∧ h' = ownH h l :=
  w53 ⟨hpAt_push_new rfl, by omega, rfl, rfl⟩

/-- What was there is there still, but for one place. -/
def Frm (c : Nat) (h h' : Heap) : Prop := h.n ≤ h'.n ∧ ∀ q g, q < h.n → q ≠ c → hpAt h' q g = hpAt h q g

def aD (x : Bool × St') : D := .agg [dB x.1, dI x.2.1, .slice 2 (x.2.2.map mD)]

theorem s54 {c g : Nat} {h : Heap} {A : List (Bool × St')} {j : Int} {b : Bool} {d stack : Int} {ms : List Mk} (hc : c < h.n) (ha : hpAt h c g = some (.darr g 3 (A.map aD))) (hj : 0 ≤ j) (hj2 : j.toNat < A.length) (hd : d ≤ stack)
    (hA : ∀ x ∈ A, x.2.2.length ≤ 1000) (hm : ms.length ≤ 274877906944) (hs : ∀ x, A[j.toNat]? = some x → x.1 = true → x.2 = (d, ms)) :
    Wc PP AA F54 [.sl (.he c g) 3 none, vI j, .s 3 (.agg [dB b, dI d, .slice 2 (ms.map mD)]), vI stack] h fun v h' =>
      v = vBool true ∧ Frm c h h' ∧ hpAt h' c g = some (.darr g 3 ((A.set j.toNat (true, d, ms)).map aD)) := by
  obtain ⟨⟨p, e, l⟩, hx⟩ : ∃ x, A[j.toNat]? = some x := ⟨_, List.getElem?_eq_getElem hj2⟩
  have hget : (A.map aD)[j.toNat]? = some (.agg [dB p, dI e, .slice 2 (l.map mD)]) := by rw [List.getElem?_map, hx]; rfl
  have hlen : l.length ≤ 1000 := hA _ (List.mem_of_getElem? hx)
  have hml : (ms.map mD).length ≤ 274877906944 := by simpa using hm
  refine w54 ⟨_, ha, fun _ => ⟨fun h => absurd h (by omega), fun _ => ⟨hj, by simpa using hj2, p, e, l.map mD, hget, (s73 p b e d l ms (by omega)).eq ⟨_, rfl, fun hp => ?_, fun hp => ?_⟩⟩⟩, fun h => absurd h (by simp; omega)⟩
  all_goals
    have fin : Wc PP AA F53 [.d (.slice 2 (ms.map mD))] h fun v H16 => ∃ (c14 : Nat) (g15 : Nat), v = .sl (.he c14 g15) 2 none ∧ (∃ (l17 : List D), hpAt H16 c14 g15 = some (.darr g15 2 l17) ∧ (∃ (l18 : List D), hpAt (Heap.put H16 c14 none) c g = some (.darr g 3 l18) ∧ ((Int.toNat j) < l18.length ∧ (∃ (b19 : Bool) (n20 : Int) (l21 : List D), l18[(Int.toNat j)]? = some (.agg [dB b19, dI n20, .slice 2 l21]) ∧
        (vBool true = vBool true ∧ Frm c h (Heap.put (Heap.put H16 c14 none) c (some (.darr g 3 ((l18.set ((Int.toNat j)) (.agg [dB true, dI d, .slice 2 l17])))))) ∧ hpAt (Heap.put (Heap.put H16 c14 none) c (some (.darr g 3 ((l18.set ((Int.toNat j)) (.agg [dB true, dI d, .slice 2 l17])))))) c g = some (.darr g 3 ((A.set j.toNat (true, d, ms)).map aD))))))) := by
      refine (s53 hml).mono ?_
      rintro v h' ⟨rfl, rfl⟩
      refine ⟨_, _, rfl, ms.map mD, ?_, A.map aD, ?_, by simpa using hj2, p, e, l.map mD, hget, rfl, ⟨?_, ?_⟩, ?_⟩
      · exact hpAt_put_same rfl
      · unfold ownH
        rw [hpAt_put_ne (by omega), hpAt_put_ne (by omega), hpAt_push_old hc]; exact ha
      · simp [ownH]
      · intro q g' hq hqc
        unfold ownH
        rw [hpAt_put_ne (Ne.symm hqc), hpAt_put_ne (by omega), hpAt_put_ne (by omega), hpAt_push_old hq]
      · rw [List.map_set]
        exact hpAt_put_same rfl
  · refine ⟨fun _ => fin, fun hb => ?_⟩
    have := hs _ hx hp
    simp only [Prod.mk.injEq] at this
    rw [decide_eq_false_iff_not] at hb
    exact absurd this hb
  · exact fin
end Am

/- GenRaw: the document's walk: a state is handed on. -/
namespace Am
open Go
set_option maxRecDepth 10000

/-- The states are among those of a certificate. -/
def AI (H : Nat → Option St') (m : Nat) (A : List (Bool × St')) : Prop := A.length = m ∧ ∀ (j : Nat) x, A[j]? = some x → x.2.2.length ≤ 1000 ∧ (x.1 = true → H j = some x.2)

/-- What a step leaves. -/
def QS (H : Nat → Option St') (m c g : Nat) (h : Heap) (v : V) (h' : Heap) : Prop := v = vBool true ∧ ∃ A, AI H m A ∧ Frm c h h' ∧ hpAt h' c g = some (.darr g 3 (A.map aD))

theorem Frm.refl (c : Nat) (h : Heap) : Frm c h h := ⟨Nat.le_refl _, fun _ _ _ _ => rfl⟩
theorem Frm.trans {c : Nat} {h h1 h2 : Heap} (a : Frm c h h1) (b : Frm c h1 h2) : Frm c h h2 :=
  ⟨Nat.le_trans a.1 b.1, fun q g hq hc => by rw [b.2 q g (Nat.lt_of_lt_of_le hq a.1) hc, a.2 q g hq hc]⟩
theorem Frm.own {c : Nat} {h : Heap} {l : List D} : Frm c h (ownH h l) := ⟨by simp [ownH], fun q g hq hc => by
  unfold ownH; rw [hpAt_put_ne (by omega), hpAt_push_old hq]⟩
theorem Frm.put {c q : Nat} {h h1 : Heap} {o : Option Obj} (a : Frm c h h1) (hq : h.n ≤ q) : Frm c h (h1.put q o) :=
  ⟨a.1, fun p g hp hc => by rw [hpAt_put_ne (by omega), a.2 p g hp hc]⟩

section
variable {H : Nat → Option St'} {m c g : Nat} {h h1 : Heap} {A : List (Bool × St')} {stack : Int}
  (hH : ∀ j s, H j = some s → j < m ∧ OkS 1000 s ∧ s.1 ≤ stack)

include hH in
theorem hand {j d : Int} {b : Bool} {ms : List Mk} {l : List D} (hF : Frm c h h1) (hc : c < h.n) (hA : AI H m A) (ha : hpAt h1 c g = some (.darr g 3 (A.map aD))) (hj : 0 ≤ j) (hs : H j.toNat = some (d, ms)) (hl : l = ms.map mD) :
    Wc PP AA F54 [.sl (.he c g) 3 none, vI j, .s 3 (.agg [dB b, dI d, .slice 2 l]), vI stack] h1 (QS H m c g h) := by
  subst hl
  obtain ⟨g1, g2, g3⟩ := hH _ _ hs
  have hlen := g2.2.2.1
  refine (s54 (Nat.lt_of_lt_of_le hc hF.1) ha hj (by rw [hA.1]; exact g1) g3 (fun x hx => ?_) (by dsimp only at hlen; omega) (fun x hx hx1 => ?_)).mono ?_
  · obtain ⟨i, hi⟩ := List.mem_iff_getElem?.1 hx
    exact (hA.2 i x hi).1
  · have := (hA.2 _ x hx).2 hx1
    rw [hs] at this
    exact (Option.some.inj this).symm
  · rintro v h' ⟨rfl, k1, k2⟩
    refine ⟨rfl, _, ⟨by simpa using hA.1, fun i x hx => ?_⟩, hF.trans ?_, k2⟩
    · by_cases e : i = j.toNat
      · subst e
        rw [List.getElem?_set_self (by rw [hA.1]; exact g1)] at hx
        cases hx
        exact ⟨hlen, fun _ => hs⟩
      · rw [List.getElem?_set_ne (Ne.symm e)] at hx
        exact hA.2 i x hx
    · exact k1

include hH in
/-- Once, and then done. -/
theorem hand1 {j d : Int} {b : Bool} {ms : List Mk} {l : List D} (hF : Frm c h h1) (hc : c < h.n) (hA : AI H m A) (ha : hpAt h1 c g = some (.darr g 3 (A.map aD))) (hj : 0 ≤ j) (hs : H j.toNat = some (d, ms)) (hl : l = ms.map mD) :
    Wc PP AA F54 [.sl (.he c g) 3 none, vI j, .s 3 (.agg [dB b, dI d, .slice 2 l]), vI stack] h1 fun v H31 => ∃ (b30 : Bool), v = vBool b30 ∧ QS H m c g h (vBool b30) H31 :=
  (hand hH hF hc hA ha hj hs hl).mono fun _ _ hq => ⟨true, hq.1, rfl, hq.2⟩
end
end Am
