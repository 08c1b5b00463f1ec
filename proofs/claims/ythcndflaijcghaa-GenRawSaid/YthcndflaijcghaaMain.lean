/- GenRaw: the law's function returns true for every input, and what came in reads as before; without conditions. This text: part 6 of 6 of the proof. -/
import Derived.Test.YthcndflaijcghaaX5
import Derived.KernelRfl
import Derived.Shelf.Strings.Search3
import Derived.Shelf.LaysM
import Derived.HandedShaped
import Derived.Test.YthcndflaijcghaaProg
import Derived.Test.YthcndflaijcghaaRows

/- GenRaw: the document's walk: all steps. -/
namespace Am
open Go
set_option maxRecDepth 10000

section
variable {fs is ts : List D} {lets n kept locals stack : Int} {cs : List D} {H : Nat → Option St'}
variable {c g : Nat} {h : Heap} {A : List (Bool × St')} {o a b d : Int} {j : Nat} {ms : List Mk}
variable (hf : ∀ x ∈ fs, IsB x) (hst : stack ≤ 60)
  (hH : ∀ j s, H j = some s → j < cs.length ∧ OkS 1000 s ∧ s.1 ≤ stack)
  (hc : c < h.n) (hA : AI H cs.length A) (ha : hpAt h c g = some (.darr g 3 (A.map aD)))

include hf hst hH hc hA ha in
theorem s29 (hn : 0 ≤ n) (hg : fs[n.toNat]? = some (.agg [dI kept, dI locals, dI stack, .slice 3 cs])) (hI : cs[j]? = some (.agg [dI o, dI a, dI b])) (ha0 : 0 ≤ a) (hb0 : 0 ≤ b) (hb1 : b ≤ 65535) (hcs : cs.length ≤ 400)
    (hx : A[j]? = some (true, (d, ms))) (hok : (nx fs is ts lets n kept locals o a b j (d, ms)).2 = true) (hT : ∀ t ∈ (nx fs is ts lets n kept locals o a b j (d, ms)).1, 0 ≤ t.1 ∧ H t.1.toNat = some t.2) :
    Wc PP AA 29 [.s 4 (.agg [.slice 4 fs, .slice 0 is, .slice 0 ts, dI lets]), vI n, vI j, .sl (.he c g) 3 none] h (QS H cs.length c g h) := by
  obtain ⟨e1, e2, e3⟩ := nx_go hok
  rw [e3] at hok hT
  clear e3
  have hHj := (hA.2 j _ hx).2 rfl
  obtain ⟨hj, ⟨hd0, _, hm, hm0⟩, hd⟩ := hH _ _ hHj
  dsimp only at hd0 hm hm0 hd
  have hb := base_ok hm0
  have hjl : j < A.length := (List.getElem?_eq_some_iff.1 hx).1
  have hget : (A.map aD)[j]? = some (.agg [dB true, dI d, .slice 2 (ms.map mD)]) := by rw [List.getElem?_map, hx]; rfl
  have hml : (ms.map mD).length = ms.length := by simp
  have hT0 := s52 (is := is) (ts := ts) (lets := lets) (o := o) (a := a) (b := b) hf hn hg
  have hTP := eff_ok (fs := fs) (is := is) (ts := ts) (lets := lets) (n := n) (kept := kept) (locals := locals) (o := o) (a := a) hb0 hb1
  generalize hE : effM fs is ts lets n kept locals o a b = E at *
  obtain ⟨r, T, P⟩ := E
  dsimp only at e1 e2 hok hT hT0 hTP
  subst e1
  have w1 : W (d - T) = d - T := W_id (by omega) (by omega)
  have w2 : W (d - T + P) = d + (P - T) := by rw [W_id (by omega) (by omega)]; omega
  have w3 : W ((j : Int) + 1) = (j : Int) + 1 := W_id (by omega) (by omega)
  have w4 : W (d + 1) = d + 1 := W_id (by omega) (by omega)
  have oF : Frm c h (ownH h (ms.map mD)) := Frm.own
  have oA : hpAt (ownH h (ms.map mD)) c g = some (.darr g 3 (A.map aD)) := by
    unfold ownH; rw [hpAt_put_ne (by omega), hpAt_push_old hc]; exact ha
  have oO : hpAt (ownH h (ms.map mD)) h.n 1 = some (.darr 1 2 (ms.map mD)) := hpAt_put_same rfl
  have pF : Frm c h ((ownH h (ms.map mD)).put h.n none) := oF.put (Nat.le_refl _)
  have pA : hpAt ((ownH h (ms.map mD)).put h.n none) c g = some (.darr g 3 (A.map aD)) := by rw [hpAt_put_ne (by omega)]; exact oA
  refine w29 ⟨hn, _, _, _, _, hg, by omega, o, a, b, by simpa using hI, A.map aD, ha, by simpa using hjl, true, d, ms.map mD, by simpa using hget, hT0.eq ⟨_, _, _, rfl, fun hpos => ?_, fun hpos => ?_⟩⟩
  · rw [hml] at hpos
    obtain ⟨m, h1, h2⟩ := last_get (ms := ms) (by omega)
    have hbm : baseM ms = m.2 := by simp [baseM, h1]
    rw [w1, w2, w3, W_last (by omega) (by omega)]
    refine ⟨by omega, m.1, m.2, by rw [hml]; simpa [mD] using h2, fun _ => ⟨fun hx => absurd hx (by omega), fun _ => ⟨fun hx => absurd hx (by omega), fun _ => (s53 (by omega)).mono ?_⟩⟩, fun hx => by cases hx⟩
    rintro v h' ⟨rfl, rfl⟩
    refine ⟨_, _, rfl, ?_⟩
    repeat' first
      | refine And.intro (fun (e : _ = _) => ?_) (fun (e : _ ≠ _) => ?_)
      | fail
    · -- 14
      subst e
      simp only [goesM, Int.reduceEq, or_false, or_true, false_or, true_or, reduceIte] at hok hT
      refine ⟨?_, A, hA, oF, oA⟩
      rw [emptyM, hok]
    · -- 15
      subst e
      simp only [goesM, Int.reduceEq, or_false, or_true, false_or, true_or, reduceIte] at hok hT
      refine ⟨?_, A, hA, oF, oA⟩
      rw [emptyM, hok]
    · exact ⟨rfl, A, hA, oF, oA⟩
    · exact ⟨rfl, A, hA, oF, oA⟩
    · -- 16
      subst e
      have hE' : (true, T, P) = (true, 0, 0) := hE.symm.trans (by simp only [effM, Int.reduceEq, reduceIte])
      cases hE'
      simp only [goesM, Int.reduceEq, or_false, or_true, false_or, true_or, reduceIte] at hok hT
      obtain ⟨t1, t2⟩ := hT _ (List.mem_singleton_self _)
      refine ⟨_, oO, hand1 hH pF hc hA pA t1 ?_ rfl⟩
      rw [t2]; simp
    · -- 17
      subst e
      simp only [goesM, Int.reduceEq, or_false, or_true, false_or, true_or, reduceIte] at hok hT
      obtain ⟨t1, t2⟩ := hT _ (List.mem_cons_self ..)
      obtain ⟨t3, t4⟩ := hT _ (List.mem_cons_of_mem _ (List.mem_singleton_self _))
      refine ⟨fun hx => absurd hx (by omega), fun _ => ⟨_, oO, (hand hH pF hc hA pA t3 t4 rfl).mono ?_⟩⟩
      rintro v h2 ⟨rfl, A2, hA2, hF2, hp2⟩
      exact ⟨true, rfl, fun _ => hand1 hH hF2 hc hA2 hp2 t1 t2 rfl, fun hx => by cases hx⟩
    · -- 18
      subst e
      simp only [goesM, Int.reduceEq, or_false, or_true, false_or, true_or, reduceIte] at hok hT
      obtain ⟨t1, t2⟩ := hT _ (List.mem_cons_self ..)
      obtain ⟨t3, t4⟩ := hT _ (List.mem_cons_of_mem _ (List.mem_singleton_self _))
      refine ⟨fun hx => absurd hx (by omega), fun _ => ⟨_, oO, (hand hH pF hc hA pA t3 t4 rfl).mono ?_⟩⟩
      rintro v h2 ⟨rfl, A2, hA2, hF2, hp2⟩
      exact ⟨true, rfl, fun _ => hand1 hH hF2 hc hA2 hp2 t1 t2 rfl, fun hx => by cases hx⟩
    · -- 21
      subst e
      have hE' : (true, T, P) = (true, 0, 0) := hE.symm.trans (by simp only [effM, Int.reduceEq, reduceIte])
      cases hE'
      simp only [goesM, Int.reduceEq, or_false, or_true, false_or, true_or, reduceIte] at hok hT
      obtain ⟨t1, t2⟩ := hT _ (List.mem_cons_self ..)
      obtain ⟨t3, t4⟩ := hT _ (List.mem_cons_of_mem _ (List.mem_singleton_self _))
      rw [w4]
      refine (hand hH (Frm.refl c _) (by simp [ownH]; omega) hA oA t3 t4 rfl).mono ?_
      rintro v h2 ⟨rfl, A2, hA2, hF2, hp2⟩
      have q1 : hpAt h2 h.n 1 = some (.darr 1 2 (ms.map mD)) := by rw [hF2.2 _ _ (by simp [ownH]) (by omega)]; exact oO
      have em : ms.map mD ++ [.agg [dI 21, dI d]] = (ms ++ [(21, d)]).map mD := by simp [mD]
      refine ⟨true, rfl, fun _ => ⟨_, q1, by rw [hml]; omega, hpAt_put_same rfl, ?_⟩, fun hx => by cases hx⟩
      rw [em]
      refine hand1 hH (((oF.trans hF2).put (Nat.le_refl _)).put (Nat.le_refl _)) hc hA2 ?_ t1 ?_ rfl
      · rw [hpAt_put_ne (by omega), hpAt_put_ne (by omega)]; exact hp2
      · rw [t2]; simp
    · -- 28
      subst e
      have hE' : (true, T, P) = (true, 0, 0) := hE.symm.trans (by simp only [effM, Int.reduceEq, reduceIte])
      cases hE'
      simp only [goesM, Int.reduceEq, or_false, or_true, false_or, true_or, reduceIte] at hok hT
      obtain ⟨t1, t2⟩ := hT _ (List.mem_cons_self ..)
      obtain ⟨t3, t4⟩ := hT _ (List.mem_cons_of_mem _ (List.mem_singleton_self _))
      refine (hand hH (Frm.refl c _) (by simp [ownH]; omega) hA oA t3 t4 rfl).mono ?_
      rintro v h2 ⟨rfl, A2, hA2, hF2, hp2⟩
      have q1 : hpAt h2 h.n 1 = some (.darr 1 2 (ms.map mD)) := by rw [hF2.2 _ _ (by simp [ownH]) (by omega)]; exact oO
      have em : ms.map mD ++ [.agg [dI 28, dI d]] = (ms ++ [(28, d)]).map mD := by simp [mD]
      refine ⟨true, rfl, fun _ => ⟨_, q1, by rw [hml]; omega, hpAt_put_same rfl, ?_⟩, fun hx => by cases hx⟩
      rw [em]
      refine hand1 hH (((oF.trans hF2).put (Nat.le_refl _)).put (Nat.le_refl _)) hc hA2 ?_ t1 ?_ rfl
      · rw [hpAt_put_ne (by omega), hpAt_put_ne (by omega)]; exact hp2
      · rw [t2]; simp
    · -- 26
      subst e
      have hE' : (true, T, P) = (true, 0, 0) := hE.symm.trans (by simp only [effM, Int.reduceEq, reduceIte])
      cases hE'
      simp only [goesM, Int.reduceEq, or_false, or_true, false_or, true_or, reduceIte] at hok hT
      obtain ⟨t1, t2⟩ := hT _ (List.mem_singleton_self _)
      refine s29_1 (h := ownH h (ms.map mD)) hm (by simpa using hok) oO ?_ 0 (by omega)
      refine hand1 hH ((oF.put (Nat.le_refl _)).put (Nat.le_refl _)) hc hA ?_ t1 ?_ rfl
      · rw [hpAt_put_ne (by omega), hpAt_put_ne (by omega)]; exact oA
      · rw [t2]; simp
    · -- 22
      exact absurd ‹_ = (0 : Int)› (by rw [hml]; omega)
    · rename_i e22 _
      have ek := e
      subst e22
      have hE' : (true, T, P) = (true, 0, 0) := hE.symm.trans (by simp only [effM, Int.reduceEq, reduceIte])
      cases hE'
      simp only [goesM, Int.reduceEq, or_false, or_true, false_or, true_or, reduceIte] at hok hT
      obtain ⟨t1, t2⟩ := hT _ (List.mem_singleton_self _)
      have w5 : W ((((ms.map mD).length : Nat) : Int) - 1) = ((ms.length - 1 : Nat) : Int) := by rw [W_last (by omega) (by omega), hml]
      refine ⟨_, oO, ?_⟩
      rw [w5]
      refine ⟨by omega, by rw [hml]; omega, by omega, by rw [hml]; omega, hand1 (ms := (offM 21 ms).1) hH pF hc hA pA t1 (by rw [t2]; simp) ?_⟩
      simp [offM, h1, ek, List.dropLast_eq_take, List.map_take]
    · rename_i e22 _
      have ek := e
      subst e22
      simp only [goesM, Int.reduceEq, or_false, or_true, false_or, true_or, reduceIte] at hok hT
      simp [offM, h1, ek] at hok
    · -- 27
      exact absurd ‹_ = (0 : Int)› (by rw [hml]; omega)
    · rename_i e22 _
      have ek := e
      subst e22
      have hE' : (true, T, P) = (true, 0, 0) := hE.symm.trans (by simp only [effM, Int.reduceEq, reduceIte])
      cases hE'
      simp only [goesM, Int.reduceEq, or_false, or_true, false_or, true_or, reduceIte] at hok hT
      obtain ⟨t1, t2⟩ := hT _ (List.mem_singleton_self _)
      have w5 : W ((((ms.map mD).length : Nat) : Int) - 1) = ((ms.length - 1 : Nat) : Int) := by rw [W_last (by omega) (by omega), hml]
      refine ⟨_, oO, ?_⟩
      rw [w5]
      refine ⟨by omega, by rw [hml]; omega, by omega, by rw [hml]; omega, hand1 (ms := (offM 26 ms).1) hH pF hc hA pA t1 (by rw [t2]; simp) ?_⟩
      simp [offM, h1, ek, List.dropLast_eq_take, List.map_take]
    · rename_i e22 _
      have ek := e
      subst e22
      simp only [goesM, Int.reduceEq, or_false, or_true, false_or, true_or, reduceIte] at hok hT
      simp [offM, h1, ek] at hok
    · -- 29
      exact absurd ‹_ = (0 : Int)› (by rw [hml]; omega)
    · rename_i e22 _
      have ek := e
      subst e22
      have hE' : (true, T, P) = (true, 0, 0) := hE.symm.trans (by simp only [effM, Int.reduceEq, reduceIte])
      cases hE'
      simp only [goesM, Int.reduceEq, or_false, or_true, false_or, true_or, reduceIte] at hok hT
      obtain ⟨t1, t2⟩ := hT _ (List.mem_singleton_self _)
      have w5 : W ((((ms.map mD).length : Nat) : Int) - 1) = ((ms.length - 1 : Nat) : Int) := by rw [W_last (by omega) (by omega), hml]
      refine ⟨_, oO, ?_⟩
      rw [w5]
      refine ⟨by omega, by rw [hml]; omega, by omega, by rw [hml]; omega, hand1 (ms := (offM 28 ms).1) hH pF hc hA pA t1 (by rw [t2]; simp) ?_⟩
      simp [offM, h1, ek, List.dropLast_eq_take, List.map_take]
    · rename_i e22 _
      have ek := e
      subst e22
      simp only [goesM, Int.reduceEq, or_false, or_true, false_or, true_or, reduceIte] at hok hT
      simp [offM, h1, ek] at hok
    · have hg : goesM o a b j d (d + (P - T)) ms = ([((j : Int) + 1, d + (P - T), ms)], true) := by
        unfold goesM
        rw [if_neg (by rintro (h | h) <;> contradiction), if_neg (by rintro (h | h) <;> contradiction)]
        repeat rw [if_neg (by assumption)]
      rw [hg] at hT
      obtain ⟨t1, t2⟩ := hT _ (List.mem_singleton_self _)
      exact ⟨_, oO, hand1 hH pF hc hA pA t1 t2 rfl⟩
  · rw [hml] at hpos
    have hms : ms = [] := List.length_eq_zero_iff.1 (by omega)
    have hb0' : baseM ms = 0 := by rw [hms]; rfl
    rw [hb0'] at e2
    rw [w1, w2, w3]
    refine ⟨fun _ => ⟨fun hx => absurd hx (by omega), fun _ => ⟨fun hx => absurd hx (by omega), fun _ => (s53 (by omega)).mono ?_⟩⟩, fun hx => by cases hx⟩
    rintro v h' ⟨rfl, rfl⟩
    refine ⟨_, _, rfl, ?_⟩
    repeat' first
      | refine And.intro (fun (e : _ = _) => ?_) (fun (e : _ ≠ _) => ?_)
      | fail
    · -- 14
      subst e
      simp only [goesM, Int.reduceEq, or_false, or_true, false_or, true_or, reduceIte] at hok hT
      refine ⟨?_, A, hA, oF, oA⟩
      rw [emptyM, hok]
    · -- 15
      subst e
      simp only [goesM, Int.reduceEq, or_false, or_true, false_or, true_or, reduceIte] at hok hT
      refine ⟨?_, A, hA, oF, oA⟩
      rw [emptyM, hok]
    · exact ⟨rfl, A, hA, oF, oA⟩
    · exact ⟨rfl, A, hA, oF, oA⟩
    · -- 16
      subst e
      have hE' : (true, T, P) = (true, 0, 0) := hE.symm.trans (by simp only [effM, Int.reduceEq, reduceIte])
      cases hE'
      simp only [goesM, Int.reduceEq, or_false, or_true, false_or, true_or, reduceIte] at hok hT
      obtain ⟨t1, t2⟩ := hT _ (List.mem_singleton_self _)
      refine ⟨_, oO, hand1 hH pF hc hA pA t1 ?_ rfl⟩
      rw [t2]; simp
    · -- 17
      subst e
      simp only [goesM, Int.reduceEq, or_false, or_true, false_or, true_or, reduceIte] at hok hT
      obtain ⟨t1, t2⟩ := hT _ (List.mem_cons_self ..)
      obtain ⟨t3, t4⟩ := hT _ (List.mem_cons_of_mem _ (List.mem_singleton_self _))
      refine ⟨fun hx => absurd hx (by omega), fun _ => ⟨_, oO, (hand hH pF hc hA pA t3 t4 rfl).mono ?_⟩⟩
      rintro v h2 ⟨rfl, A2, hA2, hF2, hp2⟩
      exact ⟨true, rfl, fun _ => hand1 hH hF2 hc hA2 hp2 t1 t2 rfl, fun hx => by cases hx⟩
    · -- 18
      subst e
      simp only [goesM, Int.reduceEq, or_false, or_true, false_or, true_or, reduceIte] at hok hT
      obtain ⟨t1, t2⟩ := hT _ (List.mem_cons_self ..)
      obtain ⟨t3, t4⟩ := hT _ (List.mem_cons_of_mem _ (List.mem_singleton_self _))
      refine ⟨fun hx => absurd hx (by omega), fun _ => ⟨_, oO, (hand hH pF hc hA pA t3 t4 rfl).mono ?_⟩⟩
      rintro v h2 ⟨rfl, A2, hA2, hF2, hp2⟩
      exact ⟨true, rfl, fun _ => hand1 hH hF2 hc hA2 hp2 t1 t2 rfl, fun hx => by cases hx⟩
    · -- 21
      subst e
      have hE' : (true, T, P) = (true, 0, 0) := hE.symm.trans (by simp only [effM, Int.reduceEq, reduceIte])
      cases hE'
      simp only [goesM, Int.reduceEq, or_false, or_true, false_or, true_or, reduceIte] at hok hT
      obtain ⟨t1, t2⟩ := hT _ (List.mem_cons_self ..)
      obtain ⟨t3, t4⟩ := hT _ (List.mem_cons_of_mem _ (List.mem_singleton_self _))
      rw [w4]
      refine (hand hH (Frm.refl c _) (by simp [ownH]; omega) hA oA t3 t4 rfl).mono ?_
      rintro v h2 ⟨rfl, A2, hA2, hF2, hp2⟩
      have q1 : hpAt h2 h.n 1 = some (.darr 1 2 (ms.map mD)) := by rw [hF2.2 _ _ (by simp [ownH]) (by omega)]; exact oO
      have em : ms.map mD ++ [.agg [dI 21, dI d]] = (ms ++ [(21, d)]).map mD := by simp [mD]
      refine ⟨true, rfl, fun _ => ⟨_, q1, by rw [hml]; omega, hpAt_put_same rfl, ?_⟩, fun hx => by cases hx⟩
      rw [em]
      refine hand1 hH (((oF.trans hF2).put (Nat.le_refl _)).put (Nat.le_refl _)) hc hA2 ?_ t1 ?_ rfl
      · rw [hpAt_put_ne (by omega), hpAt_put_ne (by omega)]; exact hp2
      · rw [t2]; simp
    · -- 28
      subst e
      have hE' : (true, T, P) = (true, 0, 0) := hE.symm.trans (by simp only [effM, Int.reduceEq, reduceIte])
      cases hE'
      simp only [goesM, Int.reduceEq, or_false, or_true, false_or, true_or, reduceIte] at hok hT
      obtain ⟨t1, t2⟩ := hT _ (List.mem_cons_self ..)
      obtain ⟨t3, t4⟩ := hT _ (List.mem_cons_of_mem _ (List.mem_singleton_self _))
      refine (hand hH (Frm.refl c _) (by simp [ownH]; omega) hA oA t3 t4 rfl).mono ?_
      rintro v h2 ⟨rfl, A2, hA2, hF2, hp2⟩
      have q1 : hpAt h2 h.n 1 = some (.darr 1 2 (ms.map mD)) := by rw [hF2.2 _ _ (by simp [ownH]) (by omega)]; exact oO
      have em : ms.map mD ++ [.agg [dI 28, dI d]] = (ms ++ [(28, d)]).map mD := by simp [mD]
      refine ⟨true, rfl, fun _ => ⟨_, q1, by rw [hml]; omega, hpAt_put_same rfl, ?_⟩, fun hx => by cases hx⟩
      rw [em]
      refine hand1 hH (((oF.trans hF2).put (Nat.le_refl _)).put (Nat.le_refl _)) hc hA2 ?_ t1 ?_ rfl
      · rw [hpAt_put_ne (by omega), hpAt_put_ne (by omega)]; exact hp2
      · rw [t2]; simp
    · -- 26
      subst e
      have hE' : (true, T, P) = (true, 0, 0) := hE.symm.trans (by simp only [effM, Int.reduceEq, reduceIte])
      cases hE'
      simp only [goesM, Int.reduceEq, or_false, or_true, false_or, true_or, reduceIte] at hok hT
      obtain ⟨t1, t2⟩ := hT _ (List.mem_singleton_self _)
      refine s29_1 (h := ownH h (ms.map mD)) hm (by simpa using hok) oO ?_ 0 (by omega)
      refine hand1 hH ((oF.put (Nat.le_refl _)).put (Nat.le_refl _)) hc hA ?_ t1 ?_ rfl
      · rw [hpAt_put_ne (by omega), hpAt_put_ne (by omega)]; exact oA
      · rw [t2]; simp
    · rename_i e22
      subst e22
      simp only [goesM, Int.reduceEq, or_false, or_true, false_or, true_or, reduceIte] at hok hT
      simp [offM, hms] at hok
    · exact absurd (show (((ms.map mD).length : Nat) : Int) = 0 by rw [hml]; omega) (by assumption)
    · rename_i e22
      subst e22
      simp only [goesM, Int.reduceEq, or_false, or_true, false_or, true_or, reduceIte] at hok hT
      simp [offM, hms] at hok
    · exact absurd (show (((ms.map mD).length : Nat) : Int) = 0 by rw [hml]; omega) (by assumption)
    · rename_i e22
      subst e22
      simp only [goesM, Int.reduceEq, or_false, or_true, false_or, true_or, reduceIte] at hok hT
      simp [offM, hms] at hok
    · exact absurd (show (((ms.map mD).length : Nat) : Int) = 0 by rw [hml]; omega) (by assumption)
    · have hg : goesM o a b j d (d + (P - T)) ms = ([((j : Int) + 1, d + (P - T), ms)], true) := by
        unfold goesM
        rw [if_neg (by rintro (h | h) <;> contradiction), if_neg (by rintro (h | h) <;> contradiction)]
        repeat rw [if_neg (by assumption)]
      rw [hg] at hT
      obtain ⟨t1, t2⟩ := hT _ (List.mem_singleton_self _)
      exact ⟨_, oO, hand1 hH pF hc hA pA t1 t2 rfl⟩
end
end Am

/- GenRaw: the document's answer whether a code holds together. -/
namespace Am
open Go
set_option maxRecDepth 10000

section
variable {fs is ts : List D} {lets n kept locals stack : Int} {cs : List D} {H : Nat → Option St'}
variable {c : Nat} {h : Heap} {A : List (Bool × St')}
variable (hf : ∀ x ∈ fs, IsB x) (hst : stack ≤ 60) (hcs : cs.length ≤ 400) (hI : ∀ x ∈ cs, IsI' x)
  (hn : 0 ≤ n) (hg : fs[n.toNat]? = some (.agg [dI kept, dI locals, dI stack, .slice 3 cs]))
  (hH : ∀ j s, H j = some s → j < cs.length ∧ OkS 1000 s ∧ s.1 ≤ stack ∧
    ∀ o a b, cs[j]? = some (.agg [dI o, dI a, dI b]) → (nx fs is ts lets n kept locals o a b j s).2 = true ∧ ∀ t ∈ (nx fs is ts lets n kept locals o a b j s).1, 0 ≤ t.1 ∧ H t.1.toNat = some t.2)

def QO (v : V) (_ : Heap) : Prop := ∃ x, v = .tuple [x, vBool true]

include hf hst hcs hI hn hg hH in
theorem s14_2 {B : List Bool} (hB : B.length = cs.length) (hc : c < h.n) (hA : AI H cs.length A) (ha : hpAt h c 0 = some (.darr 0 3 (A.map aD)))
    (next : ∀ (j : Nat) (h' : Heap) (A' : List (Bool × St')), B[j]? = some false → c < h'.n → AI H cs.length A' → hpAt h' c 0 = some (.darr 0 3 (A'.map aD)) →
      Wl PP AA 14 f14_K1 (f14_S1 n fs is ts lets c kept locals stack cs ((B.set j true).map fun b => dB b) h') QO) :
    ∀ i : Nat, i ≤ cs.length → Wl PP AA 14 f14_K2 (f14_S2 n fs is ts lets c i kept locals stack cs (B.map fun b => dB b) h) QO :=
  upto fun i hi ih => by
    refine w14_2 ⟨fun h1 => ?_, fun h1 => ?_⟩
    · have hi' : i < cs.length := by omega
      have hiB : i < B.length := by omega
      have hiA : i < A.length := by rw [hA.1]; exact hi'
      have hgB : (B.map fun b => dB b)[((i : Nat) : Int).toNat]? = some (dB B[i]) := by simp [hiB]
      have hgA : (A.map aD)[((i : Nat) : Int).toNat]? = some (.agg [dB A[i].1, dI A[i].2.1, .slice 2 (A[i].2.2.map mD)]) := by simp [hiA, aD]
      refine ⟨by omega, by simpa using hiB, B[i], hgB, fun h2 => ?_, fun h2 => ⟨_, ha, by simpa using hiA, A[i].1, A[i].2.1, A[i].2.2.map mD, hgA, fun h3 => ⟨fun h4 => absurd h4 (by omega), fun _ => ?_⟩, fun h3 => ?_⟩⟩
      · rw [W_succ hi' (by omega)]; exact ih hi'
      · have hx : A[i]? = some (true, (A[i].2.1, A[i].2.2)) := by rw [List.getElem?_eq_getElem hiA, ← h3]
        have hHi := (hA.2 i _ hx).2 rfl
        obtain ⟨_, _, _, hcl⟩ := hH _ _ hHi
        obtain ⟨o, a, b, e, q1, q2, q3, q4⟩ := hI cs[i] (List.getElem_mem hi')
        have hgI : cs[i]? = some (.agg [dI o, dI a, dI b]) := by rw [List.getElem?_eq_getElem hi', e]
        obtain ⟨k1, k2⟩ := hcl o a b hgI
        refine (s29 hf hst (fun j s hs => ⟨(hH j s hs).1, (hH j s hs).2.1, (hH j s hs).2.2.1⟩) hc hA ha hn hg hgI q1 q3 q4 hcs hx k1 k2).mono ?_
        rintro v h' ⟨rfl, A', hA', hF, hp⟩
        refine ⟨true, rfl, fun _ => ?_, fun hx => by cases hx⟩
        have := next i h' A' (by rw [List.getElem?_eq_getElem hiB, h2]) (Nat.lt_of_lt_of_le hc hF.1) hA' hp
        rw [List.map_set] at this
        simpa using this
      · rw [W_succ hi' (by omega)]; exact ih hi'
    · exact ⟨fun _ => ⟨_, rfl⟩, fun h2 => absurd (show (i : Int) = cs.length by omega) h2⟩

def falses : List Bool → Nat
  | [] => 0
  | b :: r => (if b then 0 else 1) + falses r

theorem falses_set : ∀ {B : List Bool} {j : Nat}, B[j]? = some false → falses (B.set j true) + 1 = falses B
  | [], _, h => by simp at h
  | b :: r, 0, h => by simp at h; subst h; simp [falses]; omega
  | b :: r, j + 1, h => by
    have := falses_set (B := r) (j := j) (by simpa using h)
    simp only [List.set_cons_succ, falses]; omega

include hf hst hcs hI hn hg hH in
theorem s14_1 : ∀ (F : Nat) (B : List Bool) (h : Heap) (A : List (Bool × St')), falses B ≤ F → B.length = cs.length → c < h.n → AI H cs.length A → hpAt h c 0 = some (.darr 0 3 (A.map aD)) →
    Wl PP AA 14 f14_K1 (f14_S1 n fs is ts lets c kept locals stack cs (B.map fun b => dB b) h) QO := by
  intro F
  induction F with
  | zero =>
    intro B h A hF hB hc hA ha
    exact w14_1 (s14_2 hf hst hcs hI hn hg hH hB hc hA ha (fun j h' A' hj _ _ _ => by have := falses_set hj; omega) 0 (by omega))
  | succ F ih =>
    intro B h A hF hB hc hA ha
    exact w14_1 (s14_2 hf hst hcs hI hn hg hH hB hc hA ha (fun j h' A' hj h1 h2 h3 => ih _ _ _ (by have := falses_set hj; omega) (by simpa using hB) h1 h2 h3) 0 (by omega))
end
end Am

/- GenRaw: what the program says holds together holds together, says the document. -/
namespace Am
open Go
set_option maxRecDepth 10000

section
variable {fs is ts : List D} {lets n kept locals stack : Int} {cs : List D} {h : Heap}

theorem s14 (hf : ∀ x ∈ fs, IsB x) (hst : stack ≤ 60) (hcs : cs.length ≤ 400) (hcs1 : 1 ≤ cs.length) (hI : ∀ x ∈ cs, IsI' x)
    (hn : 0 ≤ n) (hg : fs[n.toNat]? = some (.agg [dI kept, dI locals, dI stack, .slice 3 cs])) (hC : Cert fs is ts lets n kept locals stack cs) :
    Wc PP AA 14 [.s 4 (.agg [.slice 4 fs, .slice 0 is, .slice 0 ts, dI lets]), vI n] h QO := by
  obtain ⟨H, h0, hH⟩ := hC
  have e : Int.toNat ((cs.length : Nat) : Int) = cs.length := by simp
  refine w14 ⟨hn, _, _, _, _, hg, ?_⟩
  rw [e]
  have hl : ∀ x : D, (List.replicate cs.length x).length = cs.length := fun x => by simp
  refine ⟨by omega, by rw [hl]; omega, hpAt_push_new rfl, by rw [hl]; omega, false, 0, [], ?_, by rw [hl]; omega, ?_⟩
  · rw [List.getElem?_replicate, if_pos (by omega)]
  · have hA : (List.replicate cs.length (.agg [dB false, dI 0, .slice 2 ([])] : D)).set 0 (.agg [dB true, dI 0, .slice 2 ([])]) = ((List.replicate cs.length (false, ((0 : Int), ([] : List Mk)))).set 0 (true, (0, []))).map aD := by
      rw [List.map_set, List.map_replicate]; rfl
    have hB : List.replicate cs.length (dB false : D) = (List.replicate cs.length false).map fun b => dB b := by rw [List.map_replicate]
    rw [hA, hB]
    refine s14_1 hf hst hcs hI hn hg hH _ _ _ _ (Nat.le_refl _) (by simp) (by simp) ⟨by simp, fun j x hx => ?_⟩ (hpAt_put_same rfl)
    by_cases ej : j = 0
    · subst ej
      rw [List.getElem?_set_self (by simp; omega)] at hx
      cases hx
      exact ⟨by simp, fun _ => h0⟩
    · rw [List.getElem?_set_ne (Ne.symm ej), List.getElem?_replicate] at hx
      split at hx
      · cases hx; exact ⟨by simp, fun hx => by cases hx⟩
      · cases hx

theorem s7_1 (hl : fs.length ≤ 274877906944) (hf : ∀ x ∈ fs, IsB x) (hb : fs.all bodyD = true) (hC : CertC fs is ts n) : ∀ j : Nat, j ≤ fs.length → ∀ h : Heap,
    Wl PP AA 7 f7_K1 (f7_S1 fs is ts n j h) (QAl (· = vI 0)) :=
  upto fun j hj ih h => by
    refine w7_1 ⟨fun h1 => ?_, fun h1 => rfl⟩
    have hj' : j < fs.length := by omega
    obtain ⟨a, b, c, d, e, k1, k2⟩ := hf fs[j] (List.getElem_mem hj')
    have e2 : fs[j]? = some (.agg [dI a, dI b, dI c, .slice 3 d]) := by rw [List.getElem?_eq_getElem hj', e]
    have hbd := List.all_eq_true.1 hb _ (List.getElem_mem hj')
    rw [e] at hbd
    obtain ⟨m1, m2, _, m3, m4⟩ := body_le k2 hbd
    refine (s14 (n := j) hf m2 m3 m4 m1 (by omega) (by simpa using e2) (hC j a b c d e2)).mono ?_
    rintro v h' ⟨x, rfl⟩
    refine ⟨x, true, rfl, fun _ => ?_, fun hx => by cases hx⟩
    rw [W_succ hj' hl]
    exact ih hj' h'

/-- The document's answer. -/
theorem s7 (h1 : fs.length ≤ 274877906944) (h2 : is.length ≤ 274877906944) (h3 : ts.length ≤ 274877906944) (hf : ∀ x ∈ fs, IsB x) (hi : ∀ x ∈ is, ∃ a, x = dI a) (ht : ∀ x ∈ ts, ∃ a, x = dS a)
    (hm : mayM fs is ts n = true) (hC : CertC fs is ts n) : Wa PP AA 7 [.s 4 (.agg [.slice 4 fs, .slice 0 is, .slice 0 ts, dI n])] (· = vI 0) := by
  refine w7 ((s13 h1 h2 h3 hf hi ht).eq ⟨_, rfl, fun _ => ?_, fun hx => absurd (hm.symm.trans hx) (by simp)⟩)
  have hb : fs.all bodyD = true := by
    unfold mayM at hm
    simp only [Bool.and_eq_true] at hm
    exact hm.2
  exact s7_1 h1 hf hb hC 0 (by omega) Heap.none
end
end Am

/- GenRaw: what a function's writer keeps. -/
namespace Am
open Go
set_option maxRecDepth 10000

/-- A writer at i, the pool at p, their arrays. -/
structure GW (i p c ci ct : Nat) (h : Heap) (code ints texts : List D) : Prop where
  w : ∃ g, hpAt h i 0 = some (.var (.agg [.ptr (.he p 0) 0 3 0, .sl (.he c g) 3 none])) ∧ hpAt h c g = some (.darr g 3 code)
  pp : ∃ gi gt, hpAt h p 0 = some (.var (.agg [.d (.slice 5 []), .sl (.he ci gi) 0 none, .sl (.he ct gt) 0 none])) ∧ hpAt h ci gi = some (.darr gi 0 ints) ∧ hpAt h ct gt = some (.darr gt 0 texts)
  ne : ci ≠ ct
  il : i < h.n
  pl : p < h.n
  cl : c < h.n
  cil : ci < h.n
  ctl : ct < h.n
  hc : ∀ x ∈ code, IsI x
  hl : code.length ≤ 401
  hi : ∀ x ∈ ints, ∃ a, x = dI a
  ht : ∀ x ∈ texts, ∃ a, x = dS a

/-- All else is as it was. -/
def GF (i p c ci ct : Nat) (h h' : Heap) : Prop := h.n ≤ h'.n ∧ ∀ q g, q < h.n → q ≠ i → q ≠ p → q ≠ c → q ≠ ci → q ≠ ct → hpAt h' q g = hpAt h q g

variable {i p c ci ct : Nat} {h h' h2 : Heap} {code ints texts : List D}

theorem GF.refl : GF i p c ci ct h h := ⟨Nat.le_refl _, fun _ _ _ _ _ _ _ _ => rfl⟩
theorem GF.trans (a : GF i p c ci ct h h') (b : GF i p c ci ct h' h2) : GF i p c ci ct h h2 :=
  ⟨Nat.le_trans a.1 b.1, fun q g h1 h2 h3 h4 h5 h6 => by rw [b.2 q g (Nat.lt_of_lt_of_le h1 a.1) h2 h3 h4 h5 h6, a.2 q g h1 h2 h3 h4 h5 h6]⟩

theorem GW.d (I : GW i p c ci ct h code ints texts) : i ≠ p ∧ i ≠ c ∧ i ≠ ci ∧ i ≠ ct ∧ p ≠ c ∧ p ≠ ci ∧ p ≠ ct ∧ c ≠ ci ∧ c ≠ ct := by
  obtain ⟨g, w1, w2⟩ := I.w
  obtain ⟨gi, gt, p1, p2, p3⟩ := I.pp
  refine ⟨hpAt_ne w1 p1 ?_, hpAt_ne w1 w2 ?_, hpAt_ne w1 p2 ?_, hpAt_ne w1 p3 ?_, hpAt_ne p1 w2 ?_, hpAt_ne p1 p2 ?_, hpAt_ne p1 p3 ?_, hpAt_ne w2 p2 ?_, hpAt_ne w2 p3 ?_⟩ <;> intro e <;> cases e

/-- What is left by a part of gen. -/
def GP (i p c ci ct : Nat) (h : Heap) (code ints texts : List D) (h' : Heap) : Prop :=
  ∃ code' ints' texts', GW i p c ci ct h' code' ints' texts' ∧ code.length ≤ code'.length ∧ ints'.length + texts'.length + code.length ≤ ints.length + texts.length + code'.length ∧ GF i p c ci ct h h'

theorem GP.refl (I : GW i p c ci ct h code ints texts) : GP i p c ci ct h code ints texts h := ⟨_, _, _, I, Nat.le_refl _, Nat.le_refl _, .refl⟩

/-- Code, extended by one. -/
theorem GW.add (I : GW i p c ci ct h code ints texts) {g : Nat} (w1 : hpAt h i 0 = some (.var (.agg [.ptr (.he p 0) 0 3 0, .sl (.he c g) 3 none]))) {x : D} (hx : IsI x) (hl : code.length ≤ 400) :
    GW i p c ci ct ((h.put c (some (.darr (g + 1) 3 (code ++ [x])))).put i (some (.var (.agg [.ptr (.he p 0) 0 3 0, .sl (.he c (g + 1)) 3 none])))) (code ++ [x]) ints texts ∧
    GF i p c ci ct h ((h.put c (some (.darr (g + 1) 3 (code ++ [x])))).put i (some (.var (.agg [.ptr (.he p 0) 0 3 0, .sl (.he c (g + 1)) 3 none])))) := by
  obtain ⟨d1, d2, d3, d4, d5, d6, d7, d8, d9⟩ := I.d
  obtain ⟨gi, gt, p1, p2, p3⟩ := I.pp
  refine ⟨⟨⟨g + 1, hpAt_put_same rfl, ?_⟩, ⟨gi, gt, ?_, ?_, ?_⟩, I.ne, I.il, I.pl, I.cl, I.cil, I.ctl, ?_, by simp; omega, I.hi, I.ht⟩, Nat.le_refl _, fun q g' h1 h2 h3 h4 h5 h6 => ?_⟩
  · rw [hpAt_put_ne d2]; exact hpAt_put_same rfl
  · rw [hpAt_put_ne d1, hpAt_put_ne (Ne.symm d5)]; exact p1
  · rw [hpAt_put_ne d3, hpAt_put_ne d8]; exact p2
  · rw [hpAt_put_ne d4, hpAt_put_ne d9]; exact p3
  · intro y hy
    rcases List.mem_append.1 hy with hy | hy
    · exact I.hc y hy
    · simp at hy; subst hy; exact hx
  · rw [hpAt_put_ne (Ne.symm h2), hpAt_put_ne (Ne.symm h4)]

/-- put. -/
theorem s16 (I : GW i p c ci ct h code ints texts) (o : Int) {l : List D} (hl : ∀ x ∈ l, ∃ a, x = dI a) :
    Wc PP AA 16 [.ptr (.he i 0) 0 2 0, vI o, .d (.slice 0 l)] h fun v h' => ∃ (k : Nat) (code' : List D), v = vI k ∧ GW i p c ci ct h' code' ints texts ∧ GF i p c ci ct h h' ∧ code'.length = k + 1 ∧ code.length ≤ code'.length ∧
      (code.length ≤ 400 → code'.length = code.length + 1) := by
  obtain ⟨d1, d2, d3, d4, d5, d6, d7, d8, d9⟩ := I.d
  obtain ⟨g, w1, w2⟩ := I.w
  have hcl := I.hl
  have wl : ∀ n : Nat, 1 ≤ n → n ≤ 402 → W ((n : Int) - 1) = ((n - 1 : Nat) : Int) := fun n h1 h2 => by rw [W_id (by omega) (by omega)]; omega
  have full : (400 : Int) < ((code.length : Nat) : Int) → ∃ (k : Nat) (code' : List D), vI (W (((code.length : Nat) : Int) - 1)) = vI k ∧ GW i p c ci ct h code' ints texts ∧ GF i p c ci ct h h ∧ code'.length = k + 1 ∧ code.length ≤ code'.length ∧
      (code.length ≤ 400 → code'.length = code.length + 1) := fun hf => ⟨code.length - 1, code, by rw [wl _ (by omega) (by omega)], I, .refl, by omega, Nat.le_refl _, fun h => absurd h (by omega)⟩
  have fin : ∀ x : D, IsI x → ((code.length : Nat) : Int) ≤ 400 → ∃ (k : Nat) (code' : List D), vI (W ((((code ++ [x] : List D).length : Nat) : Int) - 1)) = vI k ∧ GW i p c ci ct ((h.put c (some (.darr (g + 1) 3 (code ++ [x])))).put i (some (.var (.agg [.ptr (.he p 0) 0 3 0, .sl (.he c (g + 1)) 3 none])))) code' ints texts ∧
      GF i p c ci ct h ((h.put c (some (.darr (g + 1) 3 (code ++ [x])))).put i (some (.var (.agg [.ptr (.he p 0) 0 3 0, .sl (.he c (g + 1)) 3 none])))) ∧ code'.length = k + 1 ∧ code.length ≤ code'.length ∧ (code.length ≤ 400 → code'.length = code.length + 1) := fun x hx hle => by
    obtain ⟨g1, g2⟩ := I.add w1 hx (by omega)
    have e : (code ++ [x]).length = code.length + 1 := by simp
    exact ⟨code.length, code ++ [x], by rw [e, wl _ (by omega) (by omega)]; rfl, g1, g2, e, by omega, fun _ => e⟩
  have q1 : ∀ x : D, hpAt (h.put c (some (.darr (g + 1) 3 (code ++ [x])))) i 0 = some (.var (.agg [.ptr (.he p 0) 0 3 0, .sl (.he c g) 3 none])) := fun x => by rw [hpAt_put_ne (Ne.symm d2)]; exact w1
  have q3 : ∀ x : D, hpAt ((h.put c (some (.darr (g + 1) 3 (code ++ [x])))).put i (some (.var (.agg [.ptr (.he p 0) 0 3 0, .sl (.he c (g + 1)) 3 none])))) c (g + 1) = some (.darr (g + 1) 3 (code ++ [x])) := fun x => by
    rw [hpAt_put_ne d2]; exact hpAt_put_same rfl
  refine w16 ⟨fun h1 => ?_, fun h1 => ?_⟩
  · obtain ⟨a, ha⟩ := hl l[0] (List.getElem_mem (by omega))
    refine ⟨a, by rw [List.getElem?_eq_getElem (by omega), ha], fun h2 => ?_, fun h2 => ?_⟩
    · obtain ⟨b, hb⟩ := hl l[1] (List.getElem_mem (by omega))
      exact ⟨b, by rw [List.getElem?_eq_getElem (by omega), hb], _, _, _, w1, _, w2, full, fun h3 => ⟨by omega, q1 _, hpAt_put_same rfl, q3 _, fin _ ⟨_, _, _, rfl⟩ h3⟩⟩
    · exact ⟨_, _, _, w1, _, w2, full, fun h3 => ⟨by omega, q1 _, hpAt_put_same rfl, q3 _, fin _ ⟨_, _, _, rfl⟩ h3⟩⟩
  · exact ⟨_, _, _, w1, _, w2, full, fun h3 => ⟨by omega, q1 _, hpAt_put_same rfl, q3 _, fin _ ⟨_, _, _, rfl⟩ h3⟩⟩
end Am

/- GenRaw: parts of gen: the pool, jumps, the Kids. -/
namespace Am
open Go
set_option maxRecDepth 10000

variable {i p c ci ct : Nat} {h h' h0 h1 h2 : Heap} {code ints texts code0 ints0 texts0 : List D} {m : Nat}

/-- What is left, with at least m instructions. -/
def GM (i p c ci ct : Nat) (h0 : Heap) (code0 ints0 texts0 : List D) (m : Nat) (h' : Heap) : Prop :=
  ∃ code' ints' texts', GW i p c ci ct h' code' ints' texts' ∧ code0.length ≤ code'.length ∧ ints'.length + texts'.length + code0.length ≤ ints0.length + texts0.length + code'.length ∧ GF i p c ci ct h0 h' ∧ m ≤ code'.length

theorem GM.refl (I : GW i p c ci ct h code ints texts) : GM i p c ci ct h code ints texts 0 h := ⟨_, _, _, I, Nat.le_refl _, Nat.le_refl _, .refl, Nat.zero_le _⟩

theorem GM.put (G : GM i p c ci ct h0 code0 ints0 texts0 m h1) (o : Int) {l : List D} (hl : ∀ x ∈ l, ∃ a, x = dI a) :
    Wc PP AA 16 [.ptr (.he i 0) 0 2 0, vI o, .d (.slice 0 l)] h1 fun v h2 => ∃ k : Nat, v = vI k ∧ m ≤ k + 1 ∧ GM i p c ci ct h0 code0 ints0 texts0 (k + 1) h2 := by
  obtain ⟨code', ints', texts', I, g1, g2, g3, g4⟩ := G
  refine (s16 I o hl).mono ?_
  rintro v h2 ⟨k, code2, rfl, I2, f2, e1, e2, _⟩
  exact ⟨k, rfl, by omega, code2, ints', texts', I2, by omega, by omega, g3.trans f2, by omega⟩

/-- here. -/
theorem s37_1 {l : List D} (hl : l.length ≤ 274877906944) (hk : ∀ x ∈ l, ∃ k : Nat, x = dI k ∧ k < m) : ∀ j : Nat, j ≤ l.length → ∀ h1, GM i p c ci ct h0 code0 ints0 texts0 m h1 →
    Wl PP AA 37 f37_K1 (f37_S1 i l l.length j h1) fun v h2 => v = .tuple [] ∧ GM i p c ci ct h0 code0 ints0 texts0 m h2 :=
  upto fun j hj ih h1 G => by
    refine w37_1 ⟨fun h => ?_, fun h => ⟨rfl, G⟩⟩
    have hj' : j < l.length := by omega
    obtain ⟨k, e, hk'⟩ := hk l[j] (List.getElem_mem hj')
    obtain ⟨code', ints', texts', I, g1, g2, g3, g4⟩ := G
    obtain ⟨d1, d2, d3, d4, d5, d6, d7, d8, d9⟩ := I.d
    obtain ⟨g, w1, w2⟩ := I.w
    obtain ⟨gi, gt, p1, p2, p3⟩ := I.pp
    have hkc : k < code'.length := by omega
    obtain ⟨o, a, b, ei⟩ := I.hc code'[k] (List.getElem_mem hkc)
    have next : ∀ x : D, IsI x → Wl PP AA 37 f37_K1 (f37_S1 i l l.length (W ((j : Int) + 1)) (h1.put c (some (.darr g 3 (code'.set (Int.toNat (k : Int)) x))))) fun v h2 => v = .tuple [] ∧ GM i p c ci ct h0 code0 ints0 texts0 m h2 := fun x hx => by
      rw [W_succ hj' hl]
      refine ih hj' _ ⟨code'.set (Int.toNat (k : Int)) x, ints', texts', ⟨⟨g, ?_, hpAt_put_same rfl⟩, ⟨gi, gt, ?_, ?_, ?_⟩, I.ne, I.il, I.pl, I.cl, I.cil, I.ctl, ?_, by rw [List.length_set]; exact I.hl, I.hi, I.ht⟩, by rw [List.length_set]; exact g1, by rw [List.length_set]; exact g2, g3.trans ⟨Nat.le_refl _, fun q g' h1 h2 h3 h4 h5 h6 => ?_⟩, by rw [List.length_set]; exact g4⟩
      · rw [hpAt_put_ne (Ne.symm d2)]; exact w1
      · rw [hpAt_put_ne (Ne.symm d5)]; exact p1
      · rw [hpAt_put_ne d8]; exact p2
      · rw [hpAt_put_ne d9]; exact p3
      · intro y hy
        rcases List.mem_or_eq_of_mem_set hy with hy | hy
        · exact I.hc y hy
        · subst hy; exact hx
      · rw [hpAt_put_ne (Ne.symm h4)]
    refine ⟨by omega, k, by rw [getI hj', e], _, _, _, w1, by omega, _, w2, by simpa using hkc, o, a, b, by simp [hkc, ei], fun _ => next _ ⟨_, _, _, rfl⟩, fun _ => next _ ⟨_, _, _, rfl⟩⟩

theorem GM.here {l : List D} (G : GM i p c ci ct h0 code0 ints0 texts0 m h1) (hl : l.length ≤ 274877906944) (hk : ∀ x ∈ l, ∃ k : Nat, x = dI k ∧ k < m) :
    Wc PP AA 37 [.ptr (.he i 0) 0 2 0, .d (.slice 0 l)] h1 fun v h2 => v = .tuple [] ∧ GM i p c ci ct h0 code0 ints0 texts0 m h2 :=
  w37 (s37_1 hl hk 0 (by omega) h1 G)

/-- slices.Index. -/
theorem s35h_1 {l : List D} {n : Int} {q g : Nat} (hl : l.length ≤ 274877906944) (ha : hpAt h q g = some (.darr g 0 l)) (hi : ∀ x ∈ l, ∃ a, x = dI a) : ∀ j : Nat, j ≤ l.length →
    Wl PP AA 35 f35h_K1 (f35h_S1 q g n l.length j h) fun v h' => (∃ k : Int, v = vI k) ∧ h' = h :=
  upto fun j hj ih => by
    refine w35h_1 ⟨fun h1 => ?_, fun h1 => ⟨⟨-1, rfl⟩, rfl⟩⟩
    have hj' : j < l.length := by omega
    obtain ⟨a, e⟩ := hi l[j] (List.getElem_mem hj')
    refine ⟨by omega, _, ha, by simpa using hj', a, by rw [getI hj', e], fun _ => ⟨⟨_, rfl⟩, rfl⟩, fun _ => ?_⟩
    rw [W_succ hj' hl]; exact ih hj'
theorem s35h {l : List D} {n : Int} {q g : Nat} (hl : l.length ≤ 274877906944) (ha : hpAt h q g = some (.darr g 0 l)) (hi : ∀ x ∈ l, ∃ a, x = dI a) :
    Wn PP AA 35 [.sl (.he q g) 0 none, vI n] h fun v => ∃ k : Int, v = vI k := by
  obtain ⟨v, h', a, b, rfl⟩ := w35h ⟨l, ha, s35h_1 (n := n) hl ha hi 0 (by omega)⟩
  exact ⟨v, a, b⟩
theorem s36_1 {l : List D} {s : ByteArray} {q g : Nat} (hl : l.length ≤ 274877906944) (ha : hpAt h q g = some (.darr g 0 l)) (hi : ∀ x ∈ l, ∃ a, x = dS a) : ∀ j : Nat, j ≤ l.length →
    Wl PP AA 36 f36_K1 (f36_S1 q g s l.length j h) fun v h' => (∃ k : Int, v = vI k) ∧ h' = h :=
  upto fun j hj ih => by
    refine w36_1 ⟨fun h1 => ?_, fun h1 => ⟨⟨-1, rfl⟩, rfl⟩⟩
    have hj' : j < l.length := by omega
    obtain ⟨a, e⟩ := hi l[j] (List.getElem_mem hj')
    refine ⟨by omega, _, ha, by simpa using hj', a, by rw [getI hj', e], fun _ => ⟨⟨_, rfl⟩, rfl⟩, fun _ => ?_⟩
    rw [W_succ hj' hl]; exact ih hj'
theorem s36 {l : List D} {s : ByteArray} {q g : Nat} (hl : l.length ≤ 274877906944) (ha : hpAt h q g = some (.darr g 0 l)) (hi : ∀ x ∈ l, ∃ a, x = dS a) :
    Wn PP AA 36 [.sl (.he q g) 0 none, .d (dS s)] h fun v => ∃ k : Int, v = vI k := by
  obtain ⟨v, h', a, b, rfl⟩ := w36 ⟨l, ha, s36_1 (s := s) hl ha hi 0 (by omega)⟩
  exact ⟨v, a, b⟩

/-- place: the pool has at most one more. -/
theorem s17 (I : GW i p c ci ct h code ints texts) (hb : ints.length ≤ 100000) (n : Int) :
    Wc PP AA 17 [.ptr (.he p 0) 0 3 1, vI n] h fun v h' => ∃ (k : Int) (ints' : List D), v = vI k ∧ GW i p c ci ct h' code ints' texts ∧ GF i p c ci ct h h' ∧ ints'.length ≤ ints.length + 1 := by
  obtain ⟨d1, d2, d3, d4, d5, d6, d7, d8, d9⟩ := I.d
  obtain ⟨g, w1, w2⟩ := I.w
  obtain ⟨gi, gt, p1, p2, p3⟩ := I.pp
  refine w17 ⟨_, _, _, _, _, p1, (s35h (by omega) p2 I.hi).mono ?_⟩
  rintro v ⟨k, rfl⟩
  refine ⟨k, rfl, fun _ => ⟨_, p2, by omega, ?_, _, ints ++ [dI n], rfl, ⟨⟨g, ?_, ?_⟩, ⟨gi + 1, gt, hpAt_put_same rfl, ?_, ?_⟩, I.ne, I.il, I.pl, I.cl, I.cil, I.ctl, I.hc, I.hl, ?_, I.ht⟩, ⟨Nat.le_refl _, fun q g' h1 h2 h3 h4 h5 h6 => ?_⟩, by simp⟩, fun _ => ⟨k, ints, rfl, I, .refl, by omega⟩⟩
  · rw [hpAt_put_ne (Ne.symm d6)]; exact p1
  · rw [hpAt_put_ne (Ne.symm d1), hpAt_put_ne (Ne.symm d3)]; exact w1
  · rw [hpAt_put_ne d5, hpAt_put_ne (Ne.symm d8)]; exact w2
  · rw [hpAt_put_ne d6]; exact hpAt_put_same rfl
  · rw [hpAt_put_ne d7, hpAt_put_ne I.ne]; exact p3
  · intro y hy
    rcases List.mem_append.1 hy with hy | hy
    · exact I.hi y hy
    · simp at hy; exact ⟨n, hy⟩
  · rw [hpAt_put_ne (Ne.symm h3), hpAt_put_ne (Ne.symm h5)]

theorem s18 (I : GW i p c ci ct h code ints texts) (hb : texts.length ≤ 100000) (s : ByteArray) :
    Wc PP AA 18 [.ptr (.he p 0) 0 3 2, .d (dS s)] h fun v h' => ∃ (k : Int) (texts' : List D), v = vI k ∧ GW i p c ci ct h' code ints texts' ∧ GF i p c ci ct h h' ∧ texts'.length ≤ texts.length + 1 := by
  obtain ⟨d1, d2, d3, d4, d5, d6, d7, d8, d9⟩ := I.d
  obtain ⟨g, w1, w2⟩ := I.w
  obtain ⟨gi, gt, p1, p2, p3⟩ := I.pp
  refine w18 ⟨_, _, _, _, _, p1, (s36 (by omega) p3 I.ht).mono ?_⟩
  rintro v ⟨k, rfl⟩
  refine ⟨k, rfl, fun _ => ⟨_, p3, by omega, ?_, _, texts ++ [dS s], rfl, ⟨⟨g, ?_, ?_⟩, ⟨gi, gt + 1, hpAt_put_same rfl, ?_, ?_⟩, I.ne, I.il, I.pl, I.cl, I.cil, I.ctl, I.hc, I.hl, I.hi, ?_⟩, ⟨Nat.le_refl _, fun q g' h1 h2 h3 h4 h5 h6 => ?_⟩, by simp⟩, fun _ => ⟨k, texts, rfl, I, .refl, by omega⟩⟩
  · rw [hpAt_put_ne (Ne.symm d7)]; exact p1
  · rw [hpAt_put_ne (Ne.symm d1), hpAt_put_ne (Ne.symm d4)]; exact w1
  · rw [hpAt_put_ne d5, hpAt_put_ne (Ne.symm d9)]; exact w2
  · rw [hpAt_put_ne d6, hpAt_put_ne (Ne.symm I.ne)]; exact p2
  · rw [hpAt_put_ne d7]; exact hpAt_put_same rfl
  · intro y hy
    rcases List.mem_append.1 hy with hy | hy
    · exact I.ht y hy
    · simp at hy; exact ⟨s, hy⟩
  · rw [hpAt_put_ne (Ne.symm h3), hpAt_put_ne (Ne.symm h6)]
end Am

/- GenRaw: gen goes through a core. -/
namespace Am
open Go
set_option maxRecDepth 10000

abbrev coreD (k n : Int) (s : ByteArray) (l : List D) (r : Int) (p c t b : List D) : D := .agg [dI k, dI n, dS s, .slice 9 l, dI r, .slice 0 p, .slice 6 c, .slice 4 t, .slice 0 b]
abbrev zeroC : D := coreD 0 0 (mkStr []) [] 0 [] [] [] []

variable {i p c ci ct : Nat} {h h' h0 h1 h2 : Heap} {code ints texts code0 ints0 texts0 : List D} {m m' : Nat}

/-- The pool's bound. -/
def PB (code0 ints0 texts0 : List D) : Prop := ints0.length + texts0.length ≤ 10000 + code0.length

theorem GM.mono (G : GM i p c ci ct h0 code0 ints0 texts0 m h1) (hm : m' ≤ m) : GM i p c ci ct h0 code0 ints0 texts0 m' h1 := by
  obtain ⟨a, b, d, e, f, g, j, k⟩ := G
  exact ⟨a, b, d, e, f, g, j, by omega⟩

theorem putC (G : GM i p c ci ct h0 code0 ints0 texts0 m h1) {o : Int} {l : List D} {Q : Int → Heap → Prop} (q : ∀ (k : Nat) h2, m ≤ k + 1 → GM i p c ci ct h0 code0 ints0 texts0 (k + 1) h2 → Q k h2) (hl : ∀ x ∈ l, ∃ a, x = dI a) :
    Wc PP AA 16 [.ptr (.he i 0) 0 2 0, vI o, .d (.slice 0 l)] h1 fun v h2 => ∃ n, v = vI n ∧ Q n h2 :=
  (G.put o hl).mono fun _ _ ⟨k, e, hk, G2⟩ => ⟨k, e, q k _ hk G2⟩

/-- The code is not changed but by GM; nothing is known of the rest. -/
theorem hereC (G : GM i p c ci ct h0 code0 ints0 texts0 m h1) {l : List D} {Q : Heap → Prop} (q : ∀ h2, GM i p c ci ct h0 code0 ints0 texts0 m h2 → Q h2) (hl : l.length ≤ 274877906944) (hk : ∀ x ∈ l, ∃ k : Nat, x = dI k ∧ k < m) :
    Wc PP AA 37 [.ptr (.he i 0) 0 2 0, .d (.slice 0 l)] h1 fun v h2 => v = .tuple [] ∧ Q h2 :=
  (G.here hl hk).mono fun _ _ ⟨e, G2⟩ => ⟨e, q _ G2⟩

/-- A core's shape. -/
def IsC (x : D) : Prop := ∃ k n s l r p c t b, x = coreD k n s l r p c t b

/-- exp keeps the writer. -/
def E (i p c ci ct : Nat) (x : D) : Prop := ∀ (h0 : Heap) (code0 ints0 texts0 : List D) (m : Nat) (h1 : Heap) (b : Bool), PB code0 ints0 texts0 → GM i p c ci ct h0 code0 ints0 texts0 m h1 →
  Wc PP AA 8 [.ptr (.he i 0) 0 2 0, .s 9 x, vBool b] h1 fun v h2 => v = .tuple [] ∧ GM i p c ci ct h0 code0 ints0 texts0 m h2

/-- Binds of a core. -/
def IsBinds (l : List D) : Prop := l.length ≤ 3 ∧ ∀ b ∈ l, ∃ r, b = .slice 2 r ∧ r.length ≤ 3 ∧ ∀ y ∈ r, ∃ n q, y = .agg [dI n, .slice 0 q] ∧ q.length ≤ 3 ∧ ∀ z ∈ q, ∃ a, z = dI a

/-- Each Kid can be gone through. -/
def KE (i p c ci ct : Nat) (l : List D) : Prop := l.length ≤ 4 ∧ ∀ x ∈ l, IsC x ∧ E i p c ci ct x

section
variable {k n r : Int} {s : ByteArray} {l pa ca tr bi : List D}

theorem s20 (hl : KE i p c ci ct l) (hz : E i p c ci ct zeroC) (j : Int) (hj : 0 ≤ j) :
    Wa PP AA 20 [.s 9 (coreD k n s l r pa ca tr bi), vI j] fun v => ∃ n1 n2 s3 l4 n5 l6 l7 l8 l9, v = .s 9 (coreD n1 n2 s3 l4 n5 l6 l7 l8 l9) ∧ E i p c ci ct (coreD n1 n2 s3 l4 n5 l6 l7 l8 l9) := by
  refine w20 ⟨fun h => ⟨hj, ?_⟩, fun _ => ⟨_, _, _, _, _, _, _, _, _, rfl, hz⟩⟩
  have hj' : j.toNat < l.length := by omega
  obtain ⟨⟨n1, n2, s3, l4, n5, l6, l7, l8, l9, e⟩, w⟩ := hl.2 l[j.toNat] (List.getElem_mem hj')
  rw [e] at w
  exact ⟨n1, n2, s3, l4, n5, l6, l7, l8, l9, by rw [List.getElem?_eq_getElem hj', e], _, _, _, _, _, _, _, _, _, rfl, w⟩

theorem kidC (hl : KE i p c ci ct l) (hz : E i p c ci ct zeroC) (hb : PB code0 ints0 texts0) (G : GM i p c ci ct h0 code0 ints0 texts0 m h1) {j : Int} (hj : 0 ≤ j) {b : Bool} {Q : Heap → Prop} (q : ∀ h2, GM i p c ci ct h0 code0 ints0 texts0 m h2 → Q h2) :
    Wa PP AA 20 [.s 9 (coreD k n s l r pa ca tr bi), vI j] fun v => ∃ n1 n2 s3 l4 n5 l6 l7 l8 l9, v = .s 9 (coreD n1 n2 s3 l4 n5 l6 l7 l8 l9) ∧
      Wc PP AA 8 [.ptr (.he i 0) 0 2 0, .s 9 (coreD n1 n2 s3 l4 n5 l6 l7 l8 l9), vBool b] h1 fun v h2 => v = .tuple [] ∧ Q h2 :=
  (s20 hl hz j hj).mono fun _ ⟨_, _, _, _, _, _, _, _, _, e, w⟩ => ⟨_, _, _, _, _, _, _, _, _, e, (w _ _ _ _ _ _ _ hb G).mono fun _ _ ⟨e2, G2⟩ => ⟨e2, q _ G2⟩⟩

theorem i0 : ∀ x ∈ ([] : List D), ∃ a, x = dI a := by simp
theorem i1 (n : Int) : ∀ x ∈ [dI n], ∃ a, x = dI a := by simp
theorem i2 (n q : Int) : ∀ x ∈ [dI n, dI q], ∃ a, x = dI a := by simp
theorem j1 {k m : Nat} (h : k < m) : ∀ x ∈ [dI (k : Int)], ∃ q : Nat, x = dI q ∧ q < m := by
  intro x hx; simp at hx; exact ⟨k, hx, h⟩

/-- exp's Kids. -/
theorem s21 (hl : KE i p c ci ct l) (hb : PB code0 ints0 texts0) (G : GM i p c ci ct h0 code0 ints0 texts0 m h1) :
    Wc PP AA 21 [.ptr (.he i 0) 0 2 0, .s 9 (coreD k n s l r pa ca tr bi)] h1 fun v h2 => v = .tuple [] ∧ GM i p c ci ct h0 code0 ints0 texts0 m h2 := by
  have lp : ∀ j : Nat, j ≤ l.length → ∀ h1, GM i p c ci ct h0 code0 ints0 texts0 m h1 →
      Wl PP AA 21 f21_K1 (f21_S1 i l l.length j h1) fun v h2 => v = .tuple [] ∧ GM i p c ci ct h0 code0 ints0 texts0 m h2 :=
    upto fun j hj ih h1 G => by
      refine w21_1 ⟨fun h => ⟨by omega, ?_⟩, fun h => ⟨rfl, G⟩⟩
      have hj' : j < l.length := by omega
      obtain ⟨⟨n1, n2, s3, l4, n5, l6, l7, l8, l9, e⟩, w⟩ := hl.2 l[j] (List.getElem_mem hj')
      rw [e] at w
      refine ⟨n1, n2, s3, l4, n5, l6, l7, l8, l9, by rw [getI hj', e], (w _ _ _ _ _ _ _ hb G).mono ?_⟩
      rintro v h2 ⟨rfl, G2⟩
      refine ⟨rfl, ?_⟩
      rw [W_succ hj' (by have := hl.1; omega)]
      exact ih hj' _ G2
  exact w21 (lp 0 (by omega) _ G)

theorem kidsC (hl : KE i p c ci ct l) (hb : PB code0 ints0 texts0) (G : GM i p c ci ct h0 code0 ints0 texts0 m h1) {Q : Heap → Prop} (q : ∀ h2, GM i p c ci ct h0 code0 ints0 texts0 m h2 → Q h2) :
    Wc PP AA 21 [.ptr (.he i 0) 0 2 0, .s 9 (coreD k n s l r pa ca tr bi)] h1 fun v h2 => v = .tuple [] ∧ Q h2 :=
  (s21 hl hb G).mono fun _ _ ⟨e, G2⟩ => ⟨e, q _ G2⟩

variable (hl : KE i p c ci ct l) (hz : E i p c ci ct zeroC) (hb : PB code0 ints0 texts0) (G : GM i p c ci ct h0 code0 ints0 texts0 m h1)

include hl hb G in
theorem s23 : Wc PP AA 23 [.ptr (.he i 0) 0 2 0, .s 9 (coreD k n s l r pa ca tr bi)] h1 fun v h2 => v = .tuple [] ∧ GM i p c ci ct h0 code0 ints0 texts0 m h2 := by
  refine w23 (kidsC hl hb G fun h2 G2 => ?_)
  have fin : ∀ (k : Nat) h2, m ≤ k + 1 → GM i p c ci ct h0 code0 ints0 texts0 (k + 1) h2 → (V.tuple [] = .tuple [] ∧ GM i p c ci ct h0 code0 ints0 texts0 m h2) := fun k h2 hk G2 => ⟨rfl, G2.mono hk⟩
  have ss : ∀ {a b : Int}, a ≠ b → sameKey (.int .i64 a) (.int .i64 b) = some false := fun {a b} h => by simp [sameKey, h]
  refine ⟨fun _ => putC G2 fin i0, fun a1 => ⟨fun _ => putC G2 fin i0, fun a2 => ⟨fun _ => putC G2 fin i0, fun a3 => ⟨fun _ => putC G2 fin i0, fun a4 => ⟨fun _ => putC G2 fin i0, fun a5 => ⟨fun _ => putC G2 fin i0, fun a6 => ⟨fun _ => putC G2 fin i0, fun a7 => ⟨fun _ => putC G2 fin i0, fun a8 => ⟨?_, fun _ => putC G2 fin (i1 _), fun b1 => ⟨fun _ => putC G2 fin (i1 _), fun b2 => ⟨fun _ => putC G2 fin (i1 _), fun b3 => ⟨fun _ => putC G2 fin (i1 _), fun b4 => ⟨?_, fun _ => putC G2 fin (i2 _ _), fun c1 => ⟨fun _ => putC G2 fin (i2 _ _), fun c2 => ⟨?_, putC G2 fin (i2 _ _)⟩⟩⟩⟩⟩⟩⟩⟩⟩⟩⟩⟩⟩⟩⟩
  · simp [cK39, cL39, findKey, ss a1, ss a2, ss a3, ss a4, ss a5, ss a6, ss a7, ss a8]
  · simp [cK40, cL40, findKey, ss b1, ss b2, ss b3, ss b4]
  · simp [cK41, findKey, ss c1, ss c2]

include hl hz hb G in
theorem s30 {b : Bool} : Wc PP AA 30 [.ptr (.he i 0) 0 2 0, .s 9 (coreD k n s l r pa ca tr bi), vBool b] h1 fun v h2 => v = .tuple [] ∧ GM i p c ci ct h0 code0 ints0 texts0 m h2 :=
  w30 (kidC hl hz hb G (by omega) fun h2 G2 => putC G2 (fun k h3 hk G3 => kidC hl hz hb G3 (by omega) fun h4 G4 => ⟨rfl, G4.mono hk⟩) (i1 _))

include hl hz hb G in
theorem s31 {b : Bool} : Wc PP AA 31 [.ptr (.he i 0) 0 2 0, .s 9 (coreD k n s l r pa ca tr bi), vBool b] h1 fun v h2 => v = .tuple [] ∧ GM i p c ci ct h0 code0 ints0 texts0 m h2 :=
  w31 (kidC hl hz hb G (by omega) fun h2 G2 => (s20 hl hz 0 (by omega)).mono fun _ ⟨_, _, _, _, _, _, _, _, _, e, w⟩ => ⟨_, _, _, _, _, _, _, _, _, e,
    fun _ => kidC hl hz hb G2 (by omega) fun h4 G4 => ⟨rfl, G4⟩, fun _ => putC G2 (fun k h3 hk G3 => kidC hl hz hb G3 (by omega) fun h4 G4 => ⟨rfl, G4.mono hk⟩) i0⟩)

include hl hz hb G in
theorem s32 {b : Bool} : Wc PP AA 32 [.ptr (.he i 0) 0 2 0, .s 9 (coreD k n s l r pa ca tr bi), vBool b] h1 fun v h2 => v = .tuple [] ∧ GM i p c ci ct h0 code0 ints0 texts0 m h2 :=
  w32 (kidC hl hz hb G (by omega) fun h2 G2 => putC G2 (fun k h3 hk G3 => kidC hl hz hb G3 (by omega) fun h4 G4 =>
    ⟨fun _ => hereC G4 (fun h5 G5 => kidC hl hz hb G5 (by omega) fun h6 G6 => hereC G6 (fun h7 G7 => ⟨rfl, G7.mono hk⟩) (by simp) (by simp)) (by simp) (j1 (by omega)),
     fun _ => putC G4 (fun k2 h5 hk2 G5 => hereC G5 (fun h6 G6 => kidC hl hz hb G6 (by omega) fun h7 G7 => hereC G7 (fun h8 G8 => ⟨rfl, G8.mono (by omega)⟩) (by simp) (j1 (by omega))) (by simp) (j1 (by omega))) i0⟩) i0)

include hl hb G in
theorem s34 {b : Bool} : Wc PP AA 34 [.ptr (.he i 0) 0 2 0, .s 9 (coreD k n s l r pa ca tr bi), vBool b] h1 fun v h2 => v = .tuple [] ∧ GM i p c ci ct h0 code0 ints0 texts0 m h2 :=
  w34 (kidsC hl hb G fun h2 G2 => ⟨fun _ => putC G2 (fun k h3 hk G3 => ⟨rfl, G3.mono hk⟩) i0, fun _ => putC G2 (fun k h3 hk G3 => ⟨rfl, G3.mono hk⟩) i0⟩)

include hl hz hb G in
theorem s19 {o1 o2 : Int} {b : Bool} : Wc PP AA 19 [.ptr (.he i 0) 0 2 0, .s 9 (coreD k n s l r pa ca tr bi), vI o1, vI o2, vBool b] h1 fun v h2 => v = .tuple [] ∧ GM i p c ci ct h0 code0 ints0 texts0 m h2 :=
  w19 (putC G (fun k1 h2 hk1 G2 => kidC hl hz hb G2 (by omega) fun h3 G3 => putC G3 (fun k2 h4 hk2 G4 => putC G4 (fun k3 h5 hk3 G5 => hereC G5 (fun h6 G6 =>
    ⟨fun _ => putC G6 (fun k4 h7 hk4 G7 => kidC hl hz hb G7 (by omega) fun h8 G8 => hereC G8 (fun h9 G9 => ⟨rfl, G9.mono (by omega)⟩) (by simp) (j1 (by omega))) (i1 _),
     fun _ => kidC hl hz hb G6 (by omega) fun h8 G8 => hereC G8 (fun h9 G9 => ⟨rfl, G9.mono (by omega)⟩) (by simp) (j1 (by omega))⟩) (by simp) (j1 (by omega))) i0) i0) i0)

include G in
theorem s56 {o : Int} {l : List D} (hl : l.length ≤ 3) (hi : ∀ z ∈ l, ∃ a, z = dI a) : Wc PP AA 56 [.ptr (.he i 0) 0 2 0, vI o, .d (.slice 0 l)] h1 fun v h2 => v = .tuple [] ∧ GM i p c ci ct h0 code0 ints0 texts0 m h2 := by
  have lp : ∀ j : Nat, j ≤ l.length → ∀ h1, GM i p c ci ct h0 code0 ints0 texts0 m h1 →
      Wl PP AA 56 f56_K1 (f56_S1 i l l.length j h1) fun v h2 => v = .tuple [] ∧ GM i p c ci ct h0 code0 ints0 texts0 m h2 :=
    upto fun j hj ih h1 G => by
      refine w56_1 ⟨fun h => ⟨by omega, ?_⟩, fun h => ⟨rfl, G⟩⟩
      have hj' : j < l.length := by omega
      obtain ⟨a, e⟩ := hi l[j] (List.getElem_mem hj')
      refine ⟨a, by rw [getI hj', e], putC G (fun k h2 hk G2 => ?_) (i1 _)⟩
      rw [W_succ hj' (by omega)]
      exact ih hj' _ (G2.mono hk)
  exact w56 (putC G (fun k h2 hk G2 => lp 0 (by omega) _ (G2.mono hk)) (i1 _))
end
end Am

/- GenRaw: gen goes through a match, and any core. -/
namespace Am
open Go
set_option maxRecDepth 10000

variable {i p c ci ct : Nat} {h h' h0 h1 h2 : Heap} {code ints texts code0 ints0 texts0 : List D} {m m' : Nat}

/-- A place that is none of the writer's. -/
structure Off (i p c ci ct q : Nat) (h : Heap) : Prop where
  a : q < h.n
  b : q ≠ i
  d : q ≠ p
  e : q ≠ c
  f : q ≠ ci
  g : q ≠ ct

theorem Off.keep {q g : Nat} (o : Off i p c ci ct q h) (F : GF i p c ci ct h h') : hpAt h' q g = hpAt h q g := F.2 q g o.a o.b o.d o.e o.f o.g
theorem Off.mv {q : Nat} (o : Off i p c ci ct q h) (F : GF i p c ci ct h h') : Off i p c ci ct q h' := ⟨Nat.lt_of_lt_of_le o.a F.1, o.b, o.d, o.e, o.f, o.g⟩

/-- Jumps that are in code. -/
def Js (l : List D) (m : Nat) : Prop := l.length ≤ 1000 ∧ ∀ x ∈ l, ∃ k : Nat, x = dI k ∧ k < m
theorem Js.mono {l : List D} (j : Js l m) (h : m ≤ m') : Js l m' := ⟨j.1, fun x hx => by obtain ⟨k, e, hk⟩ := j.2 x hx; exact ⟨k, e, by omega⟩⟩

/-- Rows: where one goes to each. -/
def RW (i p c ci ct mm : Nat) (h : Heap) (m : Nat) : Prop := Off i p c ci ct mm h ∧ ∃ ks vs, hpAt h mm 0 = some (.map ks vs) ∧ ∀ j : Int, findKey (.int .i64 j) ks vs = some none ∨
  ∃ q g l, findKey (.int .i64 j) ks vs = some (some (.sl (.he q g) 0 none)) ∧ Off i p c ci ct q h ∧ hpAt h q g = some (.darr g 0 l) ∧ Js l m

theorem RW.mv {mm : Nat} (R : RW i p c ci ct mm h m) (F : GF i p c ci ct h h') (hm : m ≤ m') : RW i p c ci ct mm h' m' := by
  obtain ⟨o, ks, vs, e, r⟩ := R
  refine ⟨o.mv F, ks, vs, by rw [o.keep F]; exact e, fun j => ?_⟩
  rcases r j with r | ⟨q, g, l, r1, r2, r3, r4⟩
  · exact .inl r
  · exact .inr ⟨q, g, l, r1, r2.mv F, by rw [r2.keep F]; exact r3, r4.mono hm⟩

/-- here, of a row. -/
theorem s37h {l : List D} {q g : Nat} (o : Off i p c ci ct q h0) (ha : hpAt h0 q g = some (.darr g 0 l)) (hj : Js l m) (G : GM i p c ci ct h0 code0 ints0 texts0 m h1) :
    Wc PP AA 37 [.ptr (.he i 0) 0 2 0, .sl (.he q g) 0 none] h1 fun v h2 => v = .tuple [] ∧ GM i p c ci ct h0 code0 ints0 texts0 m h2 := by
  have lp : ∀ j : Nat, j ≤ l.length → ∀ h1, GM i p c ci ct h0 code0 ints0 texts0 m h1 →
      Wl PP AA 37 f37h_K1 (f37h_S1 i q g l.length j h1) fun v h2 => v = .tuple [] ∧ GM i p c ci ct h0 code0 ints0 texts0 m h2 :=
    upto fun j hj' ih h1 G => by
      refine w37h_1 ⟨fun h => ?_, fun h => ⟨rfl, G⟩⟩
      have hj2 : j < l.length := by omega
      obtain ⟨k, e, hk'⟩ := hj.2 l[j] (List.getElem_mem hj2)
      obtain ⟨code', ints', texts', I, g1, g2, g3, g4⟩ := G
      obtain ⟨d1, d2, d3, d4, d5, d6, d7, d8, d9⟩ := I.d
      obtain ⟨gw, w1, w2⟩ := I.w
      obtain ⟨gi, gt, p1, p2, p3⟩ := I.pp
      have hkc : k < code'.length := by omega
      obtain ⟨op, a, b, ei⟩ := I.hc code'[k] (List.getElem_mem hkc)
      have next : ∀ x : D, IsI x → Wl PP AA 37 f37h_K1 (f37h_S1 i q g l.length (W ((j : Int) + 1)) (h1.put c (some (.darr gw 3 (code'.set (Int.toNat (k : Int)) x))))) fun v h2 => v = .tuple [] ∧ GM i p c ci ct h0 code0 ints0 texts0 m h2 := fun x hx => by
        rw [W_succ hj2 (by have := hj.1; omega)]
        refine ih hj2 _ ⟨code'.set (Int.toNat (k : Int)) x, ints', texts', ⟨⟨gw, ?_, hpAt_put_same rfl⟩, ⟨gi, gt, ?_, ?_, ?_⟩, I.ne, I.il, I.pl, I.cl, I.cil, I.ctl, ?_, by rw [List.length_set]; exact I.hl, I.hi, I.ht⟩, by rw [List.length_set]; exact g1, by rw [List.length_set]; exact g2, g3.trans ⟨Nat.le_refl _, fun q g' h1 h2 h3 h4 h5 h6 => ?_⟩, by rw [List.length_set]; exact g4⟩
        · rw [hpAt_put_ne (Ne.symm d2)]; exact w1
        · rw [hpAt_put_ne (Ne.symm d5)]; exact p1
        · rw [hpAt_put_ne d8]; exact p2
        · rw [hpAt_put_ne d9]; exact p3
        · intro y hy
          rcases List.mem_or_eq_of_mem_set hy with hy | hy
          · exact I.hc y hy
          · subst hy; exact hx
        · rw [hpAt_put_ne (Ne.symm h4)]
      exact ⟨by omega, l, by rw [o.keep g3]; exact ha, by simpa using hj2, k, by rw [getI hj2, e], _, _, _, w1, by omega, _, w2, by simpa using hkc, op, a, b, by simp [hkc, ei], fun _ => next _ ⟨_, _, _, rfl⟩, fun _ => next _ ⟨_, _, _, rfl⟩⟩
  exact w37h ⟨l, by rw [o.keep (by obtain ⟨_, _, _, _, _, _, g3, _⟩ := G; exact g3)]; exact ha, lp 0 (by omega) _ G⟩

theorem sK {a b : Int} (h : a ≠ b) : sameKey (.int .i64 a) (.int .i64 b) = some false := by simp [sameKey, h]
theorem sKr {a : Int} : sameKey (.int .i64 a) (.int .i64 a) = some true := by simp [sameKey]

/-- From one base to another. -/
theorem GM.from (G : GM i p c ci ct h0 code0 ints0 texts0 m h1) : ∃ code1 ints1 texts1, GW i p c ci ct h1 code1 ints1 texts1 ∧ GM i p c ci ct h1 code1 ints1 texts1 m h1 ∧ (PB code0 ints0 texts0 → PB code1 ints1 texts1) ∧
    ∀ m2 h2, GM i p c ci ct h1 code1 ints1 texts1 m2 h2 → GM i p c ci ct h0 code0 ints0 texts0 m2 h2 := by
  obtain ⟨code1, ints1, texts1, I, g1, g2, g3, g4⟩ := G
  refine ⟨code1, ints1, texts1, I, ⟨_, _, _, I, Nat.le_refl _, Nat.le_refl _, .refl, g4⟩, fun hb => ?_, fun m2 h2 ⟨c2, i2, t2, I2, f1, f2, f3, f4⟩ => ⟨c2, i2, t2, I2, by omega, by omega, g3.trans f3, f4⟩⟩
  unfold PB at *; omega

theorem GM.gw (G : GM i p c ci ct h0 code0 ints0 texts0 m h1) : GF i p c ci ct h0 h1 := by
  obtain ⟨_, _, _, _, _, _, g3, _⟩ := G; exact g3

/-- A new object. -/
theorem GW.push (I : GW i p c ci ct h code ints texts) (o : Obj) : GW i p c ci ct (h.push o) code ints texts := by
  obtain ⟨g, w1, w2⟩ := I.w
  obtain ⟨gi, gt, p1, p2, p3⟩ := I.pp
  have hil := I.il; have hpl := I.pl; have hcl := I.cl; have h4 := I.cil; have h5 := I.ctl
  exact ⟨⟨g, by rw [hpAt_push_old hil]; exact w1, by rw [hpAt_push_old hcl]; exact w2⟩, ⟨gi, gt, by rw [hpAt_push_old hpl]; exact p1, by rw [hpAt_push_old h4]; exact p2, by rw [hpAt_push_old h5]; exact p3⟩, I.ne,
    by simp; omega, by simp; omega, by simp; omega, by simp; omega, by simp; omega, I.hc, I.hl, I.hi, I.ht⟩
theorem GF.push (o : Obj) : GF i p c ci ct h (h.push o) := ⟨by simp, fun q g hq _ _ _ _ _ => hpAt_push_old hq⟩
theorem GM.push (G : GM i p c ci ct h0 code0 ints0 texts0 m h1) (o : Obj) : GM i p c ci ct h0 code0 ints0 texts0 m (h1.push o) := by
  obtain ⟨c1, i1, t1, I, g1, g2, g3, g4⟩ := G
  exact ⟨c1, i1, t1, I.push o, g1, g2, g3.trans (.push o), g4⟩
theorem GW.new (I : GW i p c ci ct h code ints texts) (o : Obj) : Off i p c ci ct h.n (h.push o) := by
  have hil := I.il; have hpl := I.pl; have hcl := I.cl; have h4 := I.cil; have h5 := I.ctl
  exact ⟨by simp, by omega, by omega, by omega, by omega, by omega⟩
/-- What is written to a place that is none of the writer's, and new. -/
theorem GM.other (G : GM i p c ci ct h0 code0 ints0 texts0 m h1) {q : Nat} (hq : Off i p c ci ct q h1) (hn : h0.n ≤ q) (o : Option Obj) : GM i p c ci ct h0 code0 ints0 texts0 m (h1.put q o) := by
  obtain ⟨c1, i1, t1, I, g1, g2, g3, g4⟩ := G
  obtain ⟨g, w1, w2⟩ := I.w
  obtain ⟨gi, gt, p1, p2, p3⟩ := I.pp
  refine ⟨c1, i1, t1, ⟨⟨g, by rw [hpAt_put_ne hq.b]; exact w1, by rw [hpAt_put_ne hq.e]; exact w2⟩, ⟨gi, gt, by rw [hpAt_put_ne hq.d]; exact p1, by rw [hpAt_put_ne hq.f]; exact p2, by rw [hpAt_put_ne hq.g]; exact p3⟩, I.ne, I.il, I.pl, I.cl, I.cil, I.ctl, I.hc, I.hl, I.hi, I.ht⟩,
    g1, g2, ⟨g3.1, fun q' g' a b d e f j => ?_⟩, g4⟩
  rw [hpAt_put_ne (by omega)]; exact g3.2 q' g' a b d e f j

/-- A tree without cases. -/
theorem s55 (G : GM i p c ci ct h0 code0 ints0 texts0 m h1) {o : Int} {mm : Nat} (ho : Off i p c ci ct mm h1) (hn : h0.n ≤ mm) (hm : hpAt h1 mm 0 = some (.map [] [])) :
    Wc PP AA 55 [.ptr (.he i 0) 0 2 0, .s 4 (.agg [dI 0, .slice 0 [], .slice 6 [], .slice 4 []]), vI o, .map (.he mm 0), vI 1073741824] h1 fun v h2 => v = .tuple [] ∧ ∃ m2, m ≤ m2 ∧ GM i p c ci ct h0 code0 ints0 texts0 m2 h2 ∧ RW i p c ci ct mm h2 m2 := by
  have G' := G
  obtain ⟨code1, ints1, texts1, I, g1, g2, g3, g4⟩ := G
  obtain ⟨g, w1, w2⟩ := I.w
  refine w55 ⟨fun h => by omega, fun _ => ⟨_, _, _, w1, _, w2, fun _ => ⟨rfl, m, Nat.le_refl _, G', ho, [], [], hm, fun j => .inl rfl⟩, fun _ => ⟨fun _ => ⟨fun _ => ⟨[], [], hm, .inr ⟨rfl, ?_⟩⟩, fun h => absurd rfl h⟩, fun h => absurd rfl h⟩⟩⟩
  obtain ⟨code2, ints2, texts2, J, G2, _, tr⟩ := G'.from
  refine putC G2 (fun k h2 hk G3 => ?_) i0
  have hk2 : hpAt h2 mm 0 = some (.map [] []) := by rw [ho.keep G3.gw]; exact hm
  have hlt : mm < h2.n := Nat.lt_of_lt_of_le ho.a G3.gw.1
  obtain ⟨_, _, _, K, _⟩ := G3.from
  have ho2 : Off i p c ci ct mm h2 := ho.mv G3.gw
  have ho3 : Off i p c ci ct mm (h2.push (.darr 0 0 [dI k])) := ho2.mv (.push _)
  refine ⟨[], [], by rw [hpAt_push_old hlt]; exact hk2, _, _, rfl, by rw [hm, hk2], rfl, k + 1, hk, (((tr _ _ G3).push _).other ho3 hn _), ?_⟩
  have hq := K.new (.darr 0 0 [dI k])
  refine ⟨⟨ho3.a, ho3.b, ho3.d, ho3.e, ho3.f, ho3.g⟩, [.int .i64 0], [.sl (.he h2.n 0) 0 none], hpAt_put_same rfl, fun j => ?_⟩
  by_cases hj : j = 0
  · subst hj
    refine .inr ⟨h2.n, 0, [dI k], rfl, ⟨hq.a, hq.b, hq.d, hq.e, hq.f, hq.g⟩, ?_, by simp, j1 (by omega)⟩
    rw [hpAt_put_ne (by omega)]; exact hpAt_push_new rfl
  · left; simp [findKey, sK hj]

section
variable {k n r : Int} {s : ByteArray} {l bi : List D}

theorem s33 (hl : KE i p c ci ct l) (hz : E i p c ci ct zeroC) (hb : PB code0 ints0 texts0) (hbi : IsBinds bi) (G : GM i p c ci ct h0 code0 ints0 texts0 m h1) {b : Bool} :
    Wc PP AA 33 [.ptr (.he i 0) 0 2 0, .s 9 (coreD k n s l 0 [] [] [] bi), vBool b] h1 fun v h2 => v = .tuple [] ∧ GM i p c ci ct h0 code0 ints0 texts0 m h2 := by
  refine w33 (kidC hl hz hb G (by omega) fun h2 G2 => putC G2 (fun k1 h3 hk1 G3 => ?_) (i1 _))
  obtain ⟨code1, ints1, texts1, I, G4, _, tr⟩ := (G3.push (.map [] [])).from
  obtain ⟨_, _, _, I3, _⟩ := G3.from
  have hoff := I3.new (.map [] [])
  refine (s55 (G3.push (.map [] [])) hoff (by have := G3.gw.1; omega) (hpAt_push_new rfl)).mono ?_
  rintro v h5 ⟨rfl, m2, hm2, G5, R5⟩
  refine ⟨rfl, ?_⟩
  clear G4 tr I
  have hbl := hbi.1
  -- the outer loop
  have lp : ∀ j : Nat, j ≤ bi.length → ∀ (ends : List D) (m3 : Nat) (h6 : Heap), ends.length ≤ j → m ≤ m3 → GM i p c ci ct h0 code0 ints0 texts0 m3 h6 → RW i p c ci ct h3.n h6 m3 → Js ends m3 →
      Wl PP AA 33 f33_K1 (f33_S1 i b k n s l 0 [] [] [] bi h3.n bi.length j ends h6) fun v h2 => v = .tuple [] ∧ GM i p c ci ct h0 code0 ints0 texts0 m h2 :=
    upto fun j hj ih ends m3 h6 he hm3 G6 R6 J6 => by
      refine w33_1 ⟨fun h => ?_, fun h => hereC G6 (fun h7 G7 => ⟨rfl, G7.mono hm3⟩) (by have := J6.1; omega) J6.2⟩
      have hj' : j < bi.length := by omega
      obtain ⟨rs, e1, e2, e3⟩ := hbi.2 bi[j] (List.getElem_mem hj')
      obtain ⟨code1, ints1, texts1, I6, G6b, hb6, tr⟩ := G6.from
      -- the inner loop, from a heap behind here
      have inner : ∀ a : Nat, a ≤ rs.length → ∀ (m4 : Nat) (h7 : Heap), m3 ≤ m4 → GM i p c ci ct h6 code1 ints1 texts1 m4 h7 → Wl PP AA 33 f33_K2 (f33_S2 i b k n s l 0 [] [] [] bi h3.n bi.length j rs rs.length a ends h7) fun v h2 => v = .tuple [] ∧ GM i p c ci ct h0 code0 ints0 texts0 m h2 :=
        upto fun a ha iha m4 h7 hm4 G7 => by
          refine w33_2 ⟨fun h => ⟨by omega, ?_⟩, fun h => ?_⟩
          · have ha' : a < rs.length := by omega
            obtain ⟨nn, q, f1, f2, f3⟩ := e3 rs[a] (List.getElem_mem ha')
            refine ⟨nn, q, by rw [getI ha', f1], (s56 G7 f2 f3).mono ?_⟩
            rintro v h8 ⟨rfl, G8⟩
            refine ⟨rfl, putC G8 (fun k2 h9 hk2 G9 => ?_) (i1 _)⟩
            rw [W_succ ha' (by omega)]
            exact iha ha' (k2 + 1) h9 (by omega) G9
          · rw [W_succ hj' (by omega)]
            refine kidC hl hz (hb6 hb) G7 (by omega) fun h8 G8 => ⟨fun hb1 => ?_, fun hb1 => ⟨fun _ => putC G8 (fun k2 h9 hk2 G9 => ⟨by omega, ?_⟩) i0, fun _ => ?_⟩⟩
            · subst hb1
              exact ih hj' ends m4 h8 (by omega) (by omega) (tr _ _ G8) (R6.mv G8.gw hm4) (J6.mono hm4)
            · subst hb1
              refine ih hj' _ (k2 + 1) h9 (by simp; omega) (by omega) (tr _ _ G9) (R6.mv G9.gw (by omega)) ⟨by simp; omega, fun x hx => ?_⟩
              rcases List.mem_append.1 hx with hx | hx
              · exact (J6.mono (by omega)).2 x hx
              · exact j1 (by omega) x hx
            · subst hb1
              exact ih hj' ends m4 h8 (by omega) (by omega) (tr _ _ G8) (R6.mv G8.gw hm4) (J6.mono hm4)
      obtain ⟨o6, ks, vs, e, rr⟩ := R6
      refine ⟨ks, vs, e, ?_⟩
      rcases rr j with rr | ⟨q, g, l', r1, r2, r3, r4⟩
      · exact .inr ⟨rr, hereC G6b (fun h7 G7 => ⟨by omega, rs, by rw [getI hj', e1], inner 0 (by omega) _ _ (Nat.le_refl _) G7⟩) (by simp) (by simp)⟩
      · refine .inl ⟨q, g, r1, (s37h r2 r3 r4 G6b).mono ?_⟩
        rintro v h7 ⟨rfl, G7⟩
        exact ⟨rfl, by omega, rs, by rw [getI hj', e1], inner 0 (by omega) _ _ (Nat.le_refl _) G7⟩
  exact lp 0 (by omega) [] m2 h5 (by simp) (by omega) G5 R5 ⟨by simp, by simp⟩
end
end Am

/- GenRaw: gen goes through any core. -/
namespace Am
open Go
set_option maxRecDepth 10000

variable {i p c ci ct : Nat} {h h' h0 h1 h2 : Heap} {code ints texts code0 ints0 texts0 : List D} {m m' : Nat}

theorem lastC (G : GM i p c ci ct h0 code0 ints0 texts0 m h1) {b : Bool} (hm : m' ≤ m) :
    (b = true → Wc PP AA 16 [.ptr (.he i 0) 0 2 0, vI 15, .d (.slice 0 [])] h1 fun v h2 => ∃ n, v = vI n ∧ V.tuple [] = .tuple [] ∧ GM i p c ci ct h0 code0 ints0 texts0 m' h2) ∧
    (b = false → V.tuple [] = .tuple [] ∧ GM i p c ci ct h0 code0 ints0 texts0 m' h1) :=
  ⟨fun _ => putC G (fun _ _ hk G2 => ⟨rfl, G2.mono (by omega)⟩) i0, fun _ => ⟨rfl, G.mono hm⟩⟩

/-- strings.Index, told. -/
theorem p22 (b : ByteArray) : Wa PP AA 22 [.d (dS (mkStr [43, 45, 42, 47, 37, 61, 60])), .d (dS b)] fun v => ∃ n, v = vI n := by
  refine ⟨_, fun h => .prim (f := 22) rfl rfl, _, rfl⟩

section
variable {k n r : Int} {s : ByteArray} {l bi : List D}

theorem s8 (hl : KE i p c ci ct l) (hz : k = 0 ∨ E i p c ci ct zeroC) (hbi : IsBinds bi) : E i p c ci ct (coreD k n s l 0 [] [] [] bi) := by
  intro h0 code0 ints0 texts0 m h1 b hb G
  have G' := G
  obtain ⟨code1, ints1, texts1, I, g1, g2, g3, g4⟩ := G
  obtain ⟨g, w1, w2⟩ := I.w
  refine w8 ⟨_, _, _, w1, _, w2, fun _ => ⟨rfl, G'⟩, fun hc => ⟨?_, fun a1 => ⟨?_, fun a2 => ⟨?_, fun a3 => ⟨?_, fun a4 => ⟨?_, fun a5 => ⟨?_, ?_, fun b1 => ⟨?_, fun b2 => ⟨?_, fun b3 => ⟨?_, fun b4 => ⟨?_, fun b5 => ⟨?_, fun b6 => ?_⟩⟩⟩⟩⟩⟩⟩⟩⟩⟩⟩⟩
  · rintro rfl; exact (s30 hl (by simpa using hz) hb G').mono fun _ _ ⟨e, G2⟩ => ⟨e, rfl, G2⟩
  · rintro rfl; exact (s31 hl (by simpa using hz) hb G').mono fun _ _ ⟨e, G2⟩ => ⟨e, rfl, G2⟩
  · rintro rfl; exact (s32 hl (by simpa using hz) hb G').mono fun _ _ ⟨e, G2⟩ => ⟨e, rfl, G2⟩
  · rintro rfl; exact (s33 hl (by simpa using hz) hb hbi G').mono fun _ _ ⟨e, G2⟩ => ⟨e, rfl, G2⟩
  · rintro rfl; exact (s34 hl hb G').mono fun _ _ ⟨e, G2⟩ => ⟨e, rfl, G2⟩
  · simp [cK15, cL15, findKey, sK a1, sK a2, sK a3, sK a4, sK a5]
  · rintro rfl
    have hb' : ints1.length ≤ 100000 := by have := I.hl; unfold PB at hb; omega
    refine (s17 I hb' n).mono ?_
    rintro v h2 ⟨q, ints2, rfl, I2, F2, e2⟩
    refine ⟨q, rfl, (s16 I2 1 (i1 q)).mono ?_⟩
    rintro v h3 ⟨k2, code3, rfl, I3, F3, e3, e4, e5⟩
    exact ⟨k2, rfl, lastC (m := m) (⟨code3, ints2, texts1, I3, by omega, by have := e5 (by omega); omega, (g3.trans F2).trans F3, by omega⟩) (Nat.le_refl _)⟩
  · rintro rfl
    have hb' : texts1.length ≤ 100000 := by have := I.hl; unfold PB at hb; omega
    refine (s18 I hb' s).mono ?_
    rintro v h2 ⟨q, texts2, rfl, I2, F2, e2⟩
    refine ⟨q, rfl, (s16 I2 2 (i1 q)).mono ?_⟩
    rintro v h3 ⟨k2, code3, rfl, I3, F3, e3, e4, e5⟩
    exact ⟨k2, rfl, lastC (m := m) (⟨code3, ints1, texts2, I3, by omega, by have := e5 (by omega); omega, (g3.trans F2).trans F3, by omega⟩) (Nat.le_refl _)⟩
  · rintro rfl; exact (s19 hl (by simpa using hz) hb G').mono fun _ _ ⟨e, G2⟩ => ⟨e, lastC G2 (Nat.le_refl _)⟩
  · rintro rfl; exact (s19 hl (by simpa using hz) hb G').mono fun _ _ ⟨e, G2⟩ => ⟨e, lastC G2 (Nat.le_refl _)⟩
  · rintro rfl
    exact putC G' (fun k2 h2 hk2 G2 => kidC hl (by simpa using hz) hb G2 (by omega) fun h3 G3 => putC G3 (fun k3 h4 hk3 G4 => lastC G4 (by omega)) i0) i0
  · rintro rfl
    exact kidsC hl hb G' fun h2 G2 => ⟨fun _ => putC G2 (fun k3 h4 hk3 G4 => lastC G4 (by omega)) i0, fun _ => (p22 _).mono fun v ⟨q, e⟩ => ⟨q, e, putC G2 (fun k3 h4 hk3 G4 => lastC G4 (by omega)) (i1 _)⟩⟩
  · exact (s23 hl hb G').mono fun _ _ ⟨e, G2⟩ => ⟨e, lastC G2 (Nat.le_refl _)⟩

theorem KE.nil : KE i p c ci ct [] := ⟨by simp, by simp⟩
theorem zeroE : E i p c ci ct zeroC := s8 .nil (.inl rfl) ⟨by simp, by simp⟩

end

/-- A core as cut leaves it, so deep. -/
def IsCore : Nat → D → Prop
  | 0, x => ∃ k n s bi, x = coreD k n s [] 0 [] [] [] bi ∧ IsBinds bi
  | d + 1, x => ∃ k n s l bi, x = coreD k n s l 0 [] [] [] bi ∧ IsBinds bi ∧ l.length ≤ 4 ∧ ∀ y ∈ l, IsCore d y

theorem IsCore.isC : ∀ {d x}, IsCore d x → IsC x
  | 0, _, ⟨_, _, _, _, e, _⟩ => ⟨_, _, _, _, _, _, _, _, _, e⟩
  | _ + 1, _, ⟨_, _, _, _, _, e, _⟩ => ⟨_, _, _, _, _, _, _, _, _, e⟩

/-- gen goes through it. -/
theorem coreE : ∀ {d x}, IsCore d x → E i p c ci ct x
  | 0, _, ⟨_, _, _, _, e, hb⟩ => e ▸ s8 .nil (.inr zeroE) hb
  | _ + 1, _, ⟨_, _, _, _, _, e, hb, hl, hk⟩ => e ▸ s8 ⟨hl, fun y hy => ⟨(hk y hy).isC, coreE (hk y hy)⟩⟩ (.inr zeroE) hb

def isN (a : Int) : D → Bool
  | .v (.int _ b) => decide (a = b)
  | _ => false

/-- slices.Index. -/
theorem s35 {l : List D} (hl : l.length ≤ 274877906944) (hi : ∀ x ∈ l, ∃ a, x = dI a) (a : Int) : Wa PP AA 35 [.d (.slice 0 l), vI a] (· = vI (idxF (isN a) l 0)) := by
  refine .ofC fun h => w35 ?_
  have lp : ∀ j : Nat, j ≤ l.length → Wl PP AA 35 f35_K1 (f35_S1 l a l.length j h) fun v h' => v = vI (idxF (isN a) (l.drop j) j) ∧ h' = h :=
    upto fun j hj ih => by
      refine w35_1 ⟨fun h1 => ⟨by omega, ?_⟩, fun h1 => by rw [List.drop_of_length_le (by omega)]; exact ⟨rfl, rfl⟩⟩
      have hj' : j < l.length := by omega
      obtain ⟨q, e⟩ := hi l[j] (List.getElem_mem hj')
      refine ⟨q, by rw [getI hj', e], fun h2 => ?_, fun h2 => ?_⟩
      · rw [drop_cons hj', idxF, e]; simp [isN, h2]
      · rw [W_succ hj' hl]
        have := ih hj'
        rw [drop_cons hj', idxF, e]
        simpa [isN, h2] using this
  exact lp 0 (by omega)

/-- needs ends. -/
theorem s9 : ∀ {d x}, IsCore d x → Wa PP AA 9 [.s 9 x] fun v => ∃ n, v = vI n := by
  have gen : ∀ {k n : Int} {s : ByteArray} {l bi : List D}, l.length ≤ 4 → (∀ y ∈ l, IsC y ∧ Wa PP AA 9 [.s 9 y] fun v => ∃ n, v = vI n) → Wa PP AA 9 [.s 9 (coreD k n s l 0 [] [] [] bi)] fun v => ∃ n, v = vI n := by
    intro k n s l bi hl hk
    have lp : ∀ j : Nat, j ≤ l.length → ∀ (b : Bool) (a : Int), Wl PP AA 9 f9_K1 (f9_S1 b a l l.length j) (QAl fun v => ∃ n, v = vI n) :=
      upto fun j hj ih b a => by
        refine w9_1 ⟨fun h => ⟨by omega, ?_⟩, fun h => ⟨_, rfl⟩⟩
        have hj' : j < l.length := by omega
        obtain ⟨⟨n1, n2, s3, l4, n5, l6, l7, l8, l9, e⟩, w⟩ := hk l[j] (List.getElem_mem hj')
        rw [e] at w
        refine ⟨n1, n2, s3, l4, n5, l6, l7, l8, l9, by rw [getI hj', e], fun hb => w.mono ?_, fun hb => w.mono ?_⟩
        all_goals
          rintro v ⟨q, rfl⟩
          refine ⟨q, rfl, ?_⟩
          rw [W_succ hj' (by omega)]
          exact ih hj' _ _
    refine w9 (w24 ?_)
    exact (s35 (by simp) (by simp) k).eq ⟨_, rfl, _, rfl, lp 0 (by omega) _ _⟩
  intro d
  induction d with
  | zero => rintro x ⟨_, _, _, _, rfl, hb⟩; exact gen (by simp) (by simp)
  | succ d ih => rintro x ⟨_, _, _, _, _, rfl, hb, hl, hk⟩; exact gen hl fun y hy => ⟨(hk y hy).isC, ih (hk y hy)⟩
end Am

/- GenRaw: what comes in, and what cut makes of it. -/
namespace Am
open Go
set_option maxRecDepth 10000

/-- A bind that comes in. -/
def IsBd (x : D) : Prop := ∃ n q, x = .agg [dI n, .slice 0 q] ∧ q.length ≤ 9223372036854775807 ∧ ∀ z ∈ q, ∃ a, z = dI a
def IsBl (x : D) : Prop := ∃ r, x = .slice 2 r ∧ r.length ≤ 9223372036854775807 ∧ ∀ y ∈ r, IsBd y
/-- A core that comes in (nothing is asked of the Kids of its Kids below the depth). -/
def InCore : Nat → D → Prop
  | 0, x => ∃ k n s l r p c t bi, x = coreD k n s l r p c t bi ∧ l.length ≤ 9223372036854775807 ∧ bi.length ≤ 9223372036854775807 ∧ ∀ y ∈ bi, IsBl y
  | d + 1, x => ∃ k n s l r p c t bi, x = coreD k n s l r p c t bi ∧ l.length ≤ 9223372036854775807 ∧ (bi.length ≤ 9223372036854775807 ∧ ∀ y ∈ bi, IsBl y) ∧ ∀ y ∈ l, InCore d y

theorem InCore.isC : ∀ {d x}, InCore d x → IsC x
  | 0, _, ⟨_, _, _, _, _, _, _, _, _, e, _⟩ => ⟨_, _, _, _, _, _, _, _, _, e⟩
  | _ + 1, _, ⟨_, _, _, _, _, _, _, _, _, e, _⟩ => ⟨_, _, _, _, _, _, _, _, _, e⟩

def IsRow (b : D) : Prop := ∃ r, b = .slice 2 r ∧ r.length ≤ 3 ∧ ∀ y ∈ r, ∃ n q, y = .agg [dI n, .slice 0 q] ∧ q.length ≤ 3 ∧ ∀ z ∈ q, ∃ a, z = dI a

section
variable {k n r : Int} {s : ByteArray} {l p c t bi kids : List D}

/-- Behind the Kids: the Binds. -/
theorem s4_2 (hb : ∀ y ∈ bi, IsBl y) (hbl : bi.length ≤ 9223372036854775807) (s2 : ByteArray) (gk : Nat) {d : Nat} (hkl : kids.length ≤ 4) (hd : (d = 0 → kids = []) ∧ ∀ d', d = d' + 1 → ∀ y ∈ kids, IsCore d' y) : ∀ j : Nat, j ≤ bi.length → ∀ (h : Heap) (g : Nat) (out : List D), 2 ≤ h.n → hpAt h 0 gk = some (.darr gk 9 kids) → hpAt h 1 g = some (.darr g 0 out) → out.length = j → j ≤ 3 → (∀ b ∈ out, IsRow b) →
    Wl PP AA 4 f4_K2 (f4_S2 k n s l r p c t bi j s2 gk g h) (QAl fun v => ∃ x, v = .s 9 x ∧ IsCore d x) :=
  upto fun j hj ih h g out hn h0 h1 hol hj3 hout => by
    have fin : ∃ (lr21 : List D), hpAt h 0 gk = some (.darr gk 9 lr21) ∧ (∃ (lr22 : List D), hpAt h 1 g = some (.darr g 0 lr22) ∧ (hpAt (Heap.put h 0 none) 1 g = some (.darr g 0 lr22) ∧ ∃ x, V.s 9 (.agg [dI k, dI n, dS s2, .slice 9 lr21, dI 0, .slice 0 ([]), .slice 6 ([]), .slice 4 ([]), .slice 0 lr22]) = V.s 9 x ∧ IsCore d x)) := by
      refine ⟨kids, h0, out, h1, by rw [hpAt_put_ne (by omega)]; exact h1, _, rfl, ?_⟩
      have hbb : IsBinds out := ⟨by omega, hout⟩
      cases d with
      | zero => rw [hd.1 rfl]; exact ⟨_, _, _, _, rfl, hbb⟩
      | succ d => exact ⟨_, _, _, _, _, rfl, hbb, hkl, hd.2 d rfl⟩
    refine w4_2 ⟨fun a1 => ⟨fun a2 => ?_, fun _ => fin⟩, fun _ => fin⟩
    have hj' : j < bi.length := by omega
    obtain ⟨rs, e1, e2, e3⟩ := hb bi[j] (List.getElem_mem hj')
    have e1' : bi[Int.toNat (j : Int)]? = some (.slice 2 rs) := by rw [getI hj', e1]
    have lp3 : ∀ a : Nat, a ≤ rs.length → ∀ (h : Heap) (o3 : List D), 2 ≤ h.n → hpAt h 0 gk = some (.darr gk 9 kids) → hpAt h 1 g = some (.darr g 0 out) → o3.length = a → a ≤ 3 → (∀ y ∈ o3, ∃ n q, y = .agg [dI n, .slice 0 q] ∧ q.length ≤ 3 ∧ ∀ z ∈ q, ∃ a, z = dI a) →
        Wl PP AA 4 f4_K3 (f4_S3 k n s l r p c t bi j a s2 gk g o3 h) (QAl fun v => ∃ x, v = .s 9 x ∧ IsCore d x) :=
      upto fun a ha iha h o3 hn h0 h1 ho3 ha3 hy => by
        have fin3 : ∃ (lr32 : List D), hpAt h 1 g = some (.darr g 0 lr32) ∧ ((lr32.length + 1) ≤ 274877906944 ∧ Wl PP AA 4 f4_K2 (f4_S2 k n s l r p c t bi (W ((j : Int) + 1)) s2 gk (g + 1) (Heap.put h 1 (some (.darr (g + 1) 0 (lr32 ++ [.slice 2 o3]))))) (QAl fun v => ∃ x, v = .s 9 x ∧ IsCore d x)) := by
          refine ⟨out, h1, by omega, ?_⟩
          rw [W_succ2 hj' hbl]
          refine ih hj' _ (g + 1) (out ++ [.slice 2 o3]) (by simpa using hn) (by rw [hpAt_put_ne (by omega)]; exact h0) (hpAt_put_same rfl) (by simp; omega) (by omega) fun b hb => ?_
          rcases List.mem_append.1 hb with hb | hb
          · exact hout b hb
          · simp at hb; subst hb; exact ⟨o3, rfl, by omega, hy⟩
        refine w4_3 ⟨by omega, rs, e1', fun b1 => ⟨fun b2 => ?_, fun _ => fin3⟩, fun _ => fin3⟩
        have ha' : a < rs.length := by omega
        obtain ⟨n4, q, f1, f2, f3⟩ := e3 rs[a] (List.getElem_mem ha')
        have f1' : rs[Int.toNat (a : Int)]? = some (.agg [dI n4, .slice 0 q]) := by rw [getI ha', f1]
        refine ⟨by omega, n4, q, f1', ?_⟩
        have lp4 : ∀ m : Nat, m ≤ q.length → ∀ (h' : Heap) (g4 : Nat) (o4 : List D), hpAt h' 0 gk = some (.darr gk 9 kids) → hpAt h' 1 g = some (.darr g 0 out) → 2 ≤ h'.n → hpAt h' h.n g4 = some (.darr g4 0 o4) → o4.length = m → m ≤ 3 → (∀ z ∈ o4, ∃ a, z = dI a) →
            Wl PP AA 4 f4_K4 (f4_S4 k n s l r p c t bi j a m s2 gk g o3 n4 h.n g4 h') (QAl fun v => ∃ x, v = .s 9 x ∧ IsCore d x) :=
          upto fun m hm ihm h' g4 o4 k0 k1 kn k4 ho4 hm3 hz => by
            have fin4 : ∃ (lr44 : List D), hpAt h' h.n g4 = some (.darr g4 0 lr44) ∧ ((o3.length + 1) ≤ 274877906944 ∧ Wl PP AA 4 f4_K3 (f4_S3 k n s l r p c t bi j (W ((a : Int) + 1)) s2 gk g (o3 ++ [.agg [dI n4, .slice 0 lr44]]) (Heap.put h' h.n none)) (QAl fun v => ∃ x, v = .s 9 x ∧ IsCore d x)) := by
              refine ⟨o4, k4, by omega, ?_⟩
              rw [W_succ2 ha' e2]
              refine iha ha' _ _ (by simpa using kn) (by rw [hpAt_put_ne (by omega)]; exact k0) (by rw [hpAt_put_ne (by omega)]; exact k1) (by simp; omega) (by omega) fun y hy' => ?_
              rcases List.mem_append.1 hy' with hy' | hy'
              · exact hy y hy'
              · simp at hy'; subst hy'; exact ⟨n4, o4, rfl, by omega, hz⟩
            refine w4_4 ⟨by omega, rs, e1', by omega, n4, q, f1', fun c1 => ⟨fun c2 => ?_, fun _ => fin4⟩, fun _ => fin4⟩
            have hm' : m < q.length := by omega
            obtain ⟨z, ez⟩ := f3 q[m] (List.getElem_mem hm')
            refine ⟨by omega, z, by rw [getI hm', ez], o4, k4, by omega, ?_⟩
            rw [W_succ2 hm' f2]
            refine ihm hm' _ _ _ (by rw [hpAt_put_ne (by omega)]; exact k0) (by rw [hpAt_put_ne (by omega)]; exact k1) (by simpa using kn) (hpAt_put_same rfl) (by simp; omega) (by omega) fun y hy' => ?_
            rcases List.mem_append.1 hy' with hy' | hy'
            · exact hz y hy'
            · simp at hy'; exact ⟨z, hy'⟩
        exact lp4 0 (by omega) (h.push (.darr 0 0 [])) 0 [] (by rw [hpAt_push_old (by omega)]; exact h0) (by rw [hpAt_push_old (by omega)]; exact h1) (by simp; omega) (hpAt_push_new rfl) rfl (by omega) (by simp)
    exact lp3 0 (by omega) h [] hn h0 h1 rfl (by omega) (by simp)

/-- cut, of what depth d is left. -/
theorem s4 : ∀ {d : Nat}, d ≤ 5 → ∀ {x : D}, InCore d x → Wa PP AA 4 [.s 9 x, vI d] fun v => ∃ y, v = .s 9 y ∧ IsCore d y := by
  intro d
  induction d with
  | zero =>
    rintro - x ⟨k, n, s, l, r, p, c, t, bi, rfl, hl, hbl, hb⟩
    have st : ∀ s2 : ByteArray, Wl PP AA 4 f4_K1 (f4_S1 (0 : Nat) k n s l r p c t bi 0 s2 0 ((Heap.push (Heap.push Heap.none (.darr 0 9 ([]))) (.darr 0 0 ([]))))) (QAl fun v => ∃ y, v = .s 9 y ∧ IsCore 0 y) := fun s2 => by
      have fin := s4_2 (k := k) (n := n) (r := r) (s := s) (l := l) (p := p) (c := c) (t := t) (kids := []) hb hbl s2 0 (d := 0) (by simp) ⟨fun _ => rfl, by simp⟩ 0 (by omega) (Heap.push (Heap.push Heap.none (.darr 0 9 ([]))) (.darr 0 0 ([]))) 0 [] (by decide) rfl rfl rfl (by omega) (by simp)
      exact w4_1 ⟨fun _ => ⟨fun _ => ⟨fun h => absurd h (by omega), fun _ => fin⟩, fun _ => fin⟩, fun _ => fin⟩
    exact w4 ⟨fun h => ⟨by omega, st _⟩, fun _ => st _⟩
  | succ d ih =>
    rintro h5 x ⟨k, n, s, l, r, p, c, t, bi, rfl, hl, ⟨hbl, hb⟩, hk⟩
    have lp : ∀ s2 : ByteArray, ∀ j : Nat, j ≤ l.length → ∀ (h : Heap) (g : Nat) (kids : List D), 2 ≤ h.n → hpAt h 0 g = some (.darr g 9 kids) → hpAt h 1 0 = some (.darr 0 0 []) → kids.length = j → j ≤ 4 → (∀ y ∈ kids, IsCore d y) →
        Wl PP AA 4 f4_K1 (f4_S1 ((d + 1 : Nat) : Int) k n s l r p c t bi j s2 g h) (QAl fun v => ∃ y, v = .s 9 y ∧ IsCore (d + 1) y) := fun s2 =>
      upto fun j hj ihj h g kids hn h0 h1 hkl hj4 hy => by
        have fin := s4_2 (k := k) (n := n) (r := r) (s := s) (l := l) (p := p) (c := c) (t := t) (kids := kids) hb hbl s2 g (d := d + 1) (by omega) ⟨fun h => absurd h (by omega), fun d' hd => (by rw [show d' = d by omega]; exact hy)⟩ 0 (by omega) h 0 [] hn h0 h1 rfl (by omega) (by simp)
        refine w4_1 ⟨fun a1 => ⟨fun a2 => ⟨fun _ => ⟨by omega, ?_⟩, fun h => absurd h (by omega)⟩, fun _ => fin⟩, fun _ => fin⟩
        have hj' : j < l.length := by omega
        have hc := hk l[j] (List.getElem_mem hj')
        obtain ⟨n1, n2, s3, l4, n5, l6, l7, l8, l9, e⟩ := hc.isC
        have w := ih (by omega) hc
        rw [e] at w
        have eW : W (((d + 1 : Nat) : Int) - 1) = (d : Int) := by rw [W_id (by omega) (by omega)]; omega
        refine ⟨n1, n2, s3, l4, n5, l6, l7, l8, l9, by rw [getI hj', e], ?_⟩
        rw [eW]
        refine w.mono ?_
        rintro v ⟨y, rfl, hcy⟩
        obtain ⟨m1, m2, m3, m4, m5, m6, m7, m8, m9, e2⟩ := hcy.isC
        subst e2
        refine ⟨m1, m2, m3, m4, m5, m6, m7, m8, m9, rfl, kids, h0, by omega, ?_⟩
        rw [W_succ2 hj' hl]
        refine ihj hj' _ _ _ (by simpa using hn) (hpAt_put_same rfl) (by rw [hpAt_put_ne (by omega)]; exact h1) (by simp; omega) (by omega) fun y hy' => ?_
        rcases List.mem_append.1 hy' with hy' | hy'
        · exact hy y hy'
        · simp at hy'; subst hy'; exact hcy
    have st : ∀ s2 : ByteArray, _ := fun s2 => lp s2 0 (by omega) (Heap.push (Heap.push Heap.none (.darr 0 9 ([]))) (.darr 0 0 ([]))) 0 [] (by decide) rfl rfl rfl (by omega) (by simp)
    exact w4 ⟨fun h => ⟨by omega, st _⟩, fun _ => st _⟩
end
end Am

/- GenRaw: gen.Code. -/
namespace Am
open Go
set_option maxRecDepth 10000

/-- Is it a case of a too great tag? -/
def greatM : D → Bool
  | .agg [.v (.int _ o), .v (.int _ a), _] => decide (o = 18) && decide (a > 65535)
  | _ => false
theorem s11 (o a b : Int) : Wa PP AA 11 [.s 3 (.agg [dI o, dI a, dI b])] (· = vBool (greatM (.agg [dI o, dI a, dI b]))) :=
  w11 ⟨fun h => by simp [greatM, h], fun h => by simp [greatM, h]⟩

/-- A function that comes in, cut. -/
def IsFun (x : D) : Prop := ∃ a b k n s l r p c t bi, x = .agg [dI a, dI b, dI k, dI n, dS s, .slice 9 l, dI r, .slice 0 p, .slice 6 c, .slice 4 t, .slice 0 bi] ∧ IsCore 5 (coreD k n s l r p c t bi)

/-- At the loop's head. -/
def FI (h : Heap) (g : Nat) (fs : List D) : Prop := 4 ≤ h.n ∧ ∃ gi gt ints texts, hpAt h 2 0 = some (.var (.agg [.d (.slice 5 []), .sl (.he 0 gi) 0 none, .sl (.he 1 gt) 0 none])) ∧
  hpAt h 0 gi = some (.darr gi 0 ints) ∧ hpAt h 1 gt = some (.darr gt 0 texts) ∧ hpAt h 3 g = some (.darr g 4 fs) ∧ (∀ x ∈ ints, ∃ a, x = dI a) ∧ (∀ x ∈ texts, ∃ a, x = dS a) ∧
  (∀ x ∈ fs, IsB x) ∧ ints.length + texts.length ≤ 500 * fs.length

/-- What gen.Code answers. -/
def QC (m : Nat) (lets : Int) (v : V) : Prop :=
  (∃ n : Int, v = .tuple [.s 4 (.agg [.slice 4 [], .slice 0 [], .slice 0 [], dI 0]), vI n, vI 16]) ∨
  v = .tuple [.s 4 (.agg [.slice 4 [], .slice 0 [], .slice 0 [], dI 0]), vI 0, vI 1] ∨
  ∃ fs is ts, v = .tuple [.s 4 (.agg [.slice 4 fs, .slice 0 is, .slice 0 ts, dI lets]), vI 0, vI 0] ∧ fs.length = m ∧ Wa PP AA 7 [.s 4 (.agg [.slice 4 fs, .slice 0 is, .slice 0 ts, dI lets])] (· = vI 0)

theorem s5_1 {l : List D} {lets : Int} (hl : l.length ≤ 3) (hf : ∀ x ∈ l, IsFun x) : ∀ j : Nat, j ≤ l.length → ∀ (h : Heap) (g : Nat) (fs : List D), FI h g fs → fs.length = j →
    Wl PP AA 5 f5_K1 (f5_S1 l l.length j g lets h) (QAl (QC l.length lets)) :=
  upto fun j hj ih h g fs F hfl => by
    obtain ⟨hn, gi, gt, ints, texts, e2, e0, e1, e3, hi, ht, hB, hb⟩ := F
    refine w5_1 ⟨fun h1 => ⟨by omega, ?_⟩, fun h1 => ?_⟩
    · have hj' : j < l.length := by omega
      obtain ⟨a, b, k, n, s, kids, r, p, c, t, bi, ex, hc⟩ := hf l[j] (List.getElem_mem hj')
      refine ⟨a, b, k, n, s, kids, r, p, c, t, bi, by rw [getI hj', ex], ?_⟩
      have hh : ∀ (q gq : Nat), q < h.n → hpAt (Heap.push (Heap.push h (.darr 0 3 ([]))) (.var (.agg [.ptr (.he 2 0) 0 3 0, .sl (.he h.n 0) 3 none]))) q gq = hpAt h q gq := fun q gq hq => by
        rw [hpAt_push_old (by simp; omega), hpAt_push_old hq]
      have I : GW (h.n + 1) 2 h.n 0 1 (Heap.push (Heap.push h (.darr 0 3 ([]))) (.var (.agg [.ptr (.he 2 0) 0 3 0, .sl (.he h.n 0) 3 none]))) [] ints texts :=
        ⟨⟨0, hpAt_push_new rfl, by rw [hpAt_push_old (by simp)]; exact hpAt_push_new rfl⟩, ⟨gi, gt, by rw [hh _ _ (by omega)]; exact e2, by rw [hh _ _ (by omega)]; exact e0, by rw [hh _ _ (by omega)]; exact e1⟩, by omega,
          by simp only [Heap.push_n]; omega, by simp only [Heap.push_n]; omega, by simp only [Heap.push_n]; omega, by simp only [Heap.push_n]; omega, by simp only [Heap.push_n]; omega, by simp, by simp, hi, ht⟩
      refine ((coreE hc : E (h.n + 1) 2 h.n 0 1 _) _ [] ints texts 0 _ true (by unfold PB; simp; omega) (GM.refl I)).mono ?_
      rintro v h2 ⟨rfl, code, ints2, texts2, I2, g1, g2, g3, _⟩
      have e3' : hpAt h2 3 g = some (.darr g 4 fs) := by rw [g3.2 3 g (by simp; omega) (by omega) (by omega) (by omega) (by omega) (by omega), hh _ _ (by omega)]; exact e3
      have hn2 : h.n + 2 ≤ h2.n := by have := g3.1; simpa using this
      obtain ⟨gw, w1, w2⟩ := I2.w
      obtain ⟨gi2, gt2, p1, p2, p3⟩ := I2.pp
      refine ⟨rfl, (s9 hc).mono ?_⟩
      rintro v ⟨need, rfl⟩
      have many : QC l.length lets (.tuple [.s 4 (.agg [.slice 4 [], .slice 0 [], .slice 0 [], dI 0]), vI j, vI 16]) := .inl ⟨_, rfl⟩
      refine ⟨need, rfl, 2, h.n, gw, w1, (s10h (p := greatM) (by have := I2.hl; omega) w2 fun x hx => ?_).eq ⟨_, rfl, fun _ => many, fun _ => ⟨code, w2, fun _ => many, fun _ => ⟨_, _, _, _, _, p1, _, p2, fun _ => many, fun _ => ⟨_, p3, fun _ => many, fun _ => ⟨fun _ => many, fun _ => ⟨?_, fs, ?_, by omega, ?_⟩⟩⟩⟩⟩⟩⟩
      · obtain ⟨o, q, u, rfl⟩ := I2.hc x hx
        exact ⟨⟨_, _, _, rfl⟩, s11 o q u⟩
      · rw [hpAt_put_ne (by omega)]; exact w1
      · rw [hpAt_put_ne (by omega), hpAt_put_ne (by omega)]; exact e3'
      · rw [W_succ hj' (by omega)]
        refine ih hj' _ _ _ ⟨by simp; omega, gi2, gt2, ints2, texts2, ?_, ?_, ?_, hpAt_put_same rfl, I2.hi, I2.ht, ?_, ?_⟩ (by simp; omega)
        · rw [hpAt_put_ne (by omega), hpAt_put_ne (by omega), hpAt_put_ne (by omega)]; exact p1
        · rw [hpAt_put_ne (by omega), hpAt_put_ne (by omega), hpAt_put_ne (by omega)]; exact p2
        · rw [hpAt_put_ne (by omega), hpAt_put_ne (by omega), hpAt_put_ne (by omega)]; exact p3
        · intro y hy
          rcases List.mem_append.1 hy with hy | hy
          · exact hB y hy
          · simp at hy; subst hy; exact ⟨_, _, _, _, rfl, by have := I2.hl; omega, I2.hc⟩
        · have := I2.hl
          simp at g2 ⊢; omega
    · have hjl : l.length = fs.length := by omega
      refine ⟨_, _, _, _, _, e2, fs, e3, ints, e0, texts, e1, by rw [hpAt_put_ne (by omega)]; exact e0, by rw [hpAt_put_ne (by omega), hpAt_put_ne (by omega)]; exact e1, (s12 (n := lets) (by omega) (by omega) (by omega) hB hi ht).mono ?_⟩
      rintro v (⟨rfl, q1, q2⟩ | rfl | rfl)
      · exact ⟨0, rfl, fun _ => .inr (.inr ⟨fs, ints, texts, rfl, hjl.symm, s7 (by omega) (by omega) (by omega) hB hi ht q1 q2⟩), fun h => absurd rfl h⟩
      · exact ⟨1, rfl, fun h => by omega, fun _ => .inr (.inl rfl)⟩
      · exact ⟨30, rfl, fun h => by omega, fun _ => .inr (.inl rfl)⟩

theorem s5 {l : List D} {lets : Int} (hl : l.length ≤ 3) (hf : ∀ x ∈ l, IsFun x) : Wa PP AA 5 [.d (.slice 11 l), .d (.slice 5 []), vI lets] (QC l.length lets) :=
  w5 (s5_1 hl hf 0 (by omega) _ 0 [] ⟨by decide, 0, 0, [], [], rfl, rfl, rfl, rfl, by simp, by simp, by simp, by simp⟩ rfl)
end Am

/- AM: more fuel does no harm. -/
namespace Am
open Go

/-- Less is told. -/
def CallLe (c c' : CallF) : Prop := ∀ f a h r, c f a h = some r → c' f a h = some r

variable {P : Program} {c c' : CallF} {k k' : Nat}

theorem act1_le (hc : CallLe c c') {st : St} {o : OpA} {r} (h : act1 c st o = some r) : act1 c' st o = some r := by
  cases o with
  | call f a =>
    simp only [act1, Option.map_eq_some_iff] at h ⊢
    obtain ⟨x, h1, h2⟩ := h
    exact ⟨x, hc _ _ _ _ h1, h2⟩
  | _ => exact h

theorem doA_le (hc : CallLe c c') {st : St} {d : Option Tmp} {o : OpA} {r} (h : doA c st d o = some r) : doA c' st d o = some r := by
  unfold doA at h ⊢
  cases ha : act1 c st o with
  | none => rw [ha] at h; cases h
  | some x => rw [ha] at h; rw [act1_le hc ha]; exact h

theorem stepOp_le (hc : CallLe c c') {ops : Array Oper} {ra : RA} {i : Nat} {st : St} {r} (h : stepOp P c ops ra i st = some r) : stepOp P c' ops ra i st = some r := by
  unfold stepOp at h ⊢
  split at h
  · cases h
  · rename_i o ho
    split at h
    · cases h
    · exact h
    · split at h
      · cases h
      · exact doA_le hc h

theorem runOps_le (hc : CallLe c c') {ops : Array Oper} {ra : RA} : ∀ {l : List Nat} {st : St} {r}, runOps P c ops ra l st = some r → runOps P c' ops ra l st = some r
  | [], _, _, h => h
  | i :: l, st, r, h => by
    unfold runOps at h ⊢
    cases hs : stepOp P c ops ra i st with
    | none => rw [hs] at h; cases h
    | some x =>
      rw [hs] at h
      rw [stepOp_le hc hs]
      simp only at h ⊢
      cases hr : runOps P c ops ra l x.1 with
      | none => rw [hr] at h; cases h
      | some y => rw [hr] at h; rw [runOps_le hc hr]; exact h

theorem region_le (hc : CallLe c c') {ra : RA} {ops : Array Oper} {draw : Bool} {st : St} {r} (h : region P c ra ops draw st = some r) : region P c' ra ops draw st = some r := by
  unfold region at h ⊢
  cases hs : runOps P c ops ra (List.range ops.size) st with
  | none => rw [hs] at h; cases h
  | some x => rw [hs] at h; rw [runOps_le hc hs]; exact h

theorem iter_le {f g : St → Option (Ex × St)} (hf : ∀ st r, f st = some r → g st = some r) : ∀ {k k' : Nat} {st : St} {r}, k ≤ k' → iter f k st = some r → iter g k' st = some r
  | 0, _, _, _, _, h => by simp [iter] at h
  | k + 1, 0, _, _, hk, _ => by omega
  | k + 1, k' + 1, st, r, hk, h => by
    unfold iter at h ⊢
    cases hs : f st with
    | none => rw [hs] at h; cases h
    | some x =>
      rw [hs] at h; rw [hf _ _ hs]
      obtain ⟨e, st'⟩ := x
      cases e with
      | normal => exact iter_le hf (by omega) h
      | exit _ => exact h
      | ret => exact h

theorem exec_le (hc : CallLe c c') {an : Nat → RA} (hk : k ≤ k') : ∀ {cd : Code} {st : St} {r}, exec P c an k cd st = some r → exec P c' an k' cd st = some r := by
  intro cd
  induction cd with
  | skip => intro st r h; simpa only [exec] using h
  | label => intro st r h; simpa only [exec] using h
  | region id ops draw =>
    intro st r h
    simp only [exec] at h ⊢
    cases hs : region P c (an id) ops draw st with
    | none => rw [hs] at h; cases h
    | some x => rw [hs] at h; rw [region_le hc hs]; exact h
  | seq a b iha ihb =>
    intro st r h
    simp only [exec] at h ⊢
    cases hs : exec P c an k a st with
    | none => rw [hs] at h; cases h
    | some x =>
      rw [hs] at h; rw [iha hs]
      obtain ⟨e, st'⟩ := x
      cases e with
      | normal => exact ihb h
      | exit _ => exact h
      | ret => exact h
  | cond o a b iha ihb =>
    intro st r h
    simp only [exec] at h ⊢
    split at h
    · rename_i t ht
      cases t with
      | true => exact iha h
      | false => exact ihb h
    · cases h
  | block id b ih =>
    intro st r h
    simp only [exec] at h ⊢
    cases hs : exec P c an k b st with
    | none => rw [hs] at h; cases h
    | some x => rw [hs] at h; rw [ih hs]; exact h
  | loop b ih =>
    intro st r h
    simp only [exec] at h ⊢
    refine iter_le (fun st r h => ?_) hk h
    unfold roundOf at h ⊢
    cases hs : exec P c an k b st with
    | none => rw [hs] at h; cases h
    | some x => rw [hs] at h; rw [ih hs]; exact h
  | exit id => intro st r h; simpa only [exec] using h
  | ret => intro st r h; simpa only [exec] using h
  | _ => intro st r h; simp [exec] at h

theorem amBody_le (hc : CallLe c c') {ra : Nat → RA} (hk : k ≤ k') {f : FuncId} {args : List V} {h : Heap} {r} (hb : body P c ra k f args h = some r) : body P c' ra k' f args h = some r := by
  unfold body at hb ⊢
  split at hb
  · cases hb
  · rename_i fn hf
    split at hb
    · cases hb
    · rename_i cd hcd
      cases hs : exec P c ra k cd { nt := max args.length fn.ntmps, tm := enterTm 0 args, lo := [], hp := h } with
      | none => rw [hs] at hb; cases hb
      | some x => rw [hs] at hb; rw [exec_le hc hk hs]; exact hb

theorem run_succ {an : An} : ∀ {k : Nat}, CallLe (run P an k) (run P an (k + 1))
  | 0 => fun f a h r hr => by simp [run] at hr
  | k + 1 => fun f a h r hr => by
    have ih := run_succ (an := an) (k := k)
    rw [run] at hr ⊢
    split at hr
    · exact hr
    · cases ha : an.alone f with
      | true =>
        rw [ha] at hr
        simp only [cond_true] at hr ⊢
        cases hn : V.noHeL a with
        | false => rw [hn] at hr; cases hr
        | true =>
          rw [hn] at hr
          simp only [cond_true] at hr ⊢
          cases hb : body P (run P an k) (an.ra f) k f a Heap.none with
          | none => rw [hb] at hr; cases hr
          | some x => rw [hb] at hr; rw [amBody_le ih (Nat.le_succ k) hb]; exact hr
      | false =>
        rw [ha] at hr
        simp only [cond_false] at hr ⊢
        exact amBody_le ih (Nat.le_succ k) hr

theorem run_le {an : An} {k k' : Nat} (h : k ≤ k') : CallLe (run P an k) (run P an k') := by
  obtain ⟨d, rfl⟩ : ∃ d, k' = k + d := ⟨k' - k, by omega⟩
  clear h
  induction d with
  | zero => exact fun _ _ _ _ h => h
  | succ d ih => exact fun f a h r hr => run_succ f a h r (ih f a h r hr)

theorem RC.ofRun {an : An} {f : FuncId} {args : List V} {h h' : Heap} {v : V} (hr : run P an k f args h = some (v, h')) : RC P an f args h v h' :=
  ⟨k, fun _ hk => run_le hk _ _ _ _ hr⟩
end Am

/- GenRaw: the document's example, run. -/
namespace Am
open Go
theorem run6 : (match run PP AA 100 6 [] Heap.none with
  | some (.d (.v (.bool b)), h) => b && Nat.beq h.n 0 && (match h.t with
    | .e => true
    | _ => false)
  | _ => false) = true := by kernel_rfl
theorem s6 : Wa PP AA 6 [] (· = vBool true) := by
  have h := run6
  split at h
  · rename_i b h' e
    simp only [Bool.and_eq_true] at h
    obtain ⟨⟨rfl, h2⟩, h3⟩ := h
    obtain ⟨k0, hr⟩ := RC.ofRun e
    -- alone: a function of no heap
    refine ⟨_, fun hh => ⟨max k0 1, fun k hk => ?_⟩, rfl⟩
    have := hr k (by omega)
    obtain ⟨m, rfl⟩ : ∃ m, k = m + 1 := ⟨k - 1, by omega⟩
    rw [run] at this ⊢
    have ha : AA.alone 6 = true := rfl
    have hp : AA.prim 6 = none := rfl
    rw [hp, ha] at this ⊢
    simp only [V.noHeL, cond_true] at this ⊢
    cases hb : body PP (run PP AA m) (AA.ra 6) m 6 [] Heap.none with
    | none => rw [hb] at this; cases this
    | some x =>
      rw [hb] at this
      simp only [Option.bind_some] at this ⊢
      cases hv : x.1.noHe with
      | false => rw [hv] at this; cases this
      | true =>
        rw [hv] at this
        simp only [cond_true, Option.some.injEq, Prod.mk.injEq] at this ⊢
        exact ⟨this.1, trivial⟩
  · cases h
end Am

/- GenRaw: the law's function answers true. -/
namespace Am
open Go
set_option maxRecDepth 10000

/-- A function that comes in. -/
def InFun (x : D) : Prop := ∃ a b k n s l r p c t bi, x = .agg [dI a, dI b, dI k, dI n, dS s, .slice 9 l, dI r, .slice 0 p, .slice 6 c, .slice 4 t, .slice 0 bi] ∧ InCore 5 (coreD k n s l r p c t bi)

/-- The end of the law's function. -/
theorem s3_end {fs : List D} {lets : Int} (hl : fs.length ≤ 3) (hf : ∀ x ∈ fs, IsFun x) {Q : V → Prop} (q : Q (vBool true)) :
    Wa PP AA 5 [.d (.slice 11 fs), .d (.slice 5 ([])), vI lets] fun v => ∃ (lr22 : List D) (lr23 : List D) (lr24 : List D) (nr25 : Int) (nr26 : Int) (nr27 : Int), v = .tuple [.s 4 (.agg [.slice 4 lr22, .slice 0 lr23, .slice 0 lr24, dI nr25]), vI nr26, vI nr27] ∧ ((nr27 = 0 → (Wa PP AA 7 [.s 4 (.agg [.slice 4 lr22, .slice 0 lr23, .slice 0 lr24, dI nr25])] fun v => ∃ (nr28 : Int), v = vI nr28 ∧ ((nr28 = 0 → ((((lr22.length : Nat) : Int) = ((fs.length : Nat) : Int) → (Wa PP AA 6 [] fun v => ∃ (br29 : Bool), v = vBool br29 ∧ Q (vBool br29))) ∧ (((lr22.length : Nat) : Int) ≠ ((fs.length : Nat) : Int) → Q (vBool false)))) ∧ (nr28 ≠ 0 → Q (vBool false))))) ∧ (nr27 ≠ 0 → ((((lr22.length : Nat) : Int) = 0 → ((nr27 = 16 → (Wa PP AA 6 [] fun v => ∃ (br28 : Bool), v = vBool br28 ∧ Q (vBool br28))) ∧ (nr27 ≠ 16 → ((nr27 = 1 → ((nr26 = 0 → (Wa PP AA 6 [] fun v => ∃ (br28 : Bool), v = vBool br28 ∧ Q (vBool br28))) ∧ (nr26 ≠ 0 → Q (vBool false)))) ∧ (nr27 ≠ 1 → Q (vBool false)))))) ∧ (((lr22.length : Nat) : Int) ≠ 0 → Q (vBool false))))) := by
  have lives : Wa PP AA 6 [] fun v => ∃ b, v = vBool b ∧ Q (vBool b) := s6.eq ⟨_, rfl, q⟩
  refine (s5 hl hf).mono ?_
  rintro v (⟨n, rfl⟩ | rfl | ⟨gs, is, ts, rfl, e, w⟩)
  · exact ⟨_, _, _, _, _, _, rfl, fun h => by omega, fun _ => ⟨fun _ => ⟨fun _ => lives, fun h => absurd rfl h⟩, fun h => absurd rfl h⟩⟩
  · exact ⟨_, _, _, _, _, _, rfl, fun h => by omega, fun _ => ⟨fun _ => ⟨fun h => by omega, fun _ => ⟨fun _ => ⟨fun _ => lives, fun h => absurd rfl h⟩, fun h => absurd rfl h⟩⟩, fun h => absurd rfl h⟩⟩
  · exact ⟨_, _, _, _, _, _, rfl, fun _ => w.eq ⟨_, rfl, fun _ => ⟨fun _ => lives, fun h => absurd (by rw [e]) h⟩, fun h => absurd rfl h⟩, fun h => absurd rfl h⟩

theorem s3_2 {l : List D} {lets : Int} (hl : l.length ≤ 9223372036854775807) (hf : ∀ x ∈ l, InFun x) : ∀ j : Nat, j ≤ l.length → ∀ (h : Heap) (g : Nat) (fs : List D), hpAt h 0 g = some (.darr g 11 fs) → fs.length = j → j ≤ 3 → (∀ x ∈ fs, IsFun x) →
    Wl PP AA 3 f3_K2 (f3_S2 l lets g j h) (QAl (· = vBool true)) :=
  upto fun j hj ih h g fs h0 hfl hj3 hfs => by
    refine w3_2 ⟨fun h1 => ⟨fun h2 => ⟨by omega, ?_⟩, fun _ => ⟨fs, h0, s3_end (Q := (· = vBool true)) (by omega) hfs rfl⟩⟩, fun _ => ⟨fs, h0, s3_end (Q := (· = vBool true)) (by omega) hfs rfl⟩⟩
    have hj' : j < l.length := by omega
    obtain ⟨a, b, k, n, s, kids, r, p, c, t, bi, ex, hc⟩ := hf l[j] (List.getElem_mem hj')
    refine ⟨a, b, k, n, s, kids, r, p, c, t, bi, by rw [getI hj', ex], (s4 (by omega) hc).mono ?_⟩
    rintro v ⟨y, rfl, hcy⟩
    obtain ⟨m1, m2, m3, m4, m5, m6, m7, m8, m9, e2⟩ := hcy.isC
    subst e2
    refine ⟨m1, m2, m3, m4, m5, m6, m7, m8, m9, rfl, fs, h0, by omega, ?_⟩
    rw [W_succ2 hj' hl]
    refine ih hj' _ _ _ (hpAt_put_same rfl) (by simp; omega) (by omega) fun x hx => ?_
    rcases List.mem_append.1 hx with hx | hx
    · exact hfs x hx
    · simp at hx; subst hx; exact ⟨_, _, _, _, _, _, _, _, _, _, _, rfl, hcy⟩

theorem s3 {l : List D} {lets : Int} (hl : l.length ≤ 9223372036854775807) (hf : ∀ x ∈ l, InFun x) : Wa PP AA 3 [.d (.slice 11 l), vI lets] (· = vBool true) := by
  refine w3 (w3_1 ⟨fun h1 => ?_, fun h1 => s3_end (fs := []) (Q := (· = vBool true)) (by simp) (by simp) rfl⟩)
  have hj' : 0 < l.length := by omega
  obtain ⟨a, b, k, n, s, kids, r, p, c, t, bi, ex, hc⟩ := hf l[0] (List.getElem_mem hj')
  refine ⟨a, b, k, n, s, kids, r, p, c, t, bi, by rw [List.getElem?_eq_getElem hj', ex], (s4 (by omega) hc).mono ?_⟩
  rintro v ⟨y, rfl, hcy⟩
  obtain ⟨m1, m2, m3, m4, m5, m6, m7, m8, m9, e2⟩ := hcy.isC
  subst e2
  refine ⟨m1, m2, m3, m4, m5, m6, m7, m8, m9, rfl, s3_2 hl hf 1 (by omega) _ 0 _ (hpAt_push_new rfl) rfl (by omega) fun x hx => ?_⟩
  simp at hx; subst hx; exact ⟨_, _, _, _, _, _, _, _, _, _, _, rfl, hcy⟩
end Am

/- GenRaw: strings.Index, laid at this program (printed by the kit's lay-plain). -/
namespace Go.Proofs
open Go.Shelf
def Try.lays143_ren : Go.Shelf.Ren := ⟨fun | 143 => 22 | 219 => 38 | 217 => 57 | 225 => 58 | 224 => 59 | 267 => 60 | 266 => 75 | 314 => 76 | n => n, fun | 9 => 9 | 3 => 3 | 4 => 4 | 5 => 5 | 46 => 126 | 146 => 148 | 51 => 147 | n => n, fun | 1 => 0 | n => n⟩
theorem Try.lays143 : Go.Proofs.Lays.n143 Try.prog Try.lays143_ren := {
  mixed := by kernel_rfl
  f143 := Try.func22.trans (congrArg some (by kernel_rfl))
  f217 := Try.func57.trans (congrArg some (by kernel_rfl))
  f219 := Try.func38.trans (congrArg some (by kernel_rfl))
  f224 := Try.func59.trans (congrArg some (by kernel_rfl))
  f225 := Try.func58.trans (congrArg some (by kernel_rfl))
  f266 := Try.func75.trans (congrArg some (by kernel_rfl))
  f267 := Try.func60.trans (congrArg some (by kernel_rfl))
  f314 := Try.func76.trans (congrArg some (by kernel_rfl))
  t3 := Try.underlying3
  a3 := Try.isAgg3
  z3 := Try.sizeOf3
  v3 := Try.zeroValue3
  t4 := Try.underlying4
  a4 := Try.isAgg4
  z4 := Try.sizeOf4
  v4 := Try.zeroValue4
  t5 := Try.underlying5
  a5 := Try.isAgg5
  z5 := Try.sizeOf5
  v5 := Try.zeroValue5
  t9 := Try.underlying9
  a9 := Try.isAgg9
  z9 := Try.sizeOf9
  v9 := Try.zeroValue9
  t46 := Try.underlying126
  a46 := Try.isAgg126
  z46 := Try.sizeOf126
  v46 := Try.zeroValue126
  t51 := Try.underlying147
  a51 := Try.isAgg147
  z51 := Try.sizeOf147
  v51 := Try.zeroValue147
  t146 := Try.underlying148
  a146 := Try.isAgg148
  z146 := Try.sizeOf148
  v146 := Try.zeroValue148
  g1 := by kernel_rfl }
/-- The library's own variable holds an integer. -/
theorem Try.maxLen (w : World) (h : w.ShapedOpen Try.prog) : ∃ m, w.cell? ⟨0, 0, none⟩ = some (.int .i64 m) :=
  Go.Proofs.cell_of_shapedOpen_int (zero := #[.int .i64 0]) (t := 3) h (of_decide_eq_true (by kernel_rfl)) (by kernel_rfl) rfl (by kernel_rfl) (by kernel_rfl) Try.underlying3
end Go.Proofs

/- GenRaw: what comes in is functions; strings.Index; the law's row. -/
namespace Am
open Go Go.Proofs
set_option maxRecDepth 100000

section
variable {P : Program}
theorem DT.inv_int {t : TypeId} {ds : List D} {k : IntKind} (h : DT P t ds) (hu : P.underlying t = some (.int k)) : ∃ n, ds = [.v (.int k n)] := by
  cases h <;> simp_all
theorem DT.inv_str {t : TypeId} {ds : List D} (h : DT P t ds) (hu : P.underlying t = some .string) : ∃ s, ds = [.v (.string s)] ∧ s.size ≤ maxLen := by
  cases h <;> simp_all
theorem DT.inv_slice {t e : TypeId} {ds : List D} (h : DT P t ds) (hu : P.underlying t = some (.slice e)) {sz : Nat} (hs : shp P e = some sz) : ∃ xs, ds = [.slice sz xs] ∧ xs.length ≤ maxLen ∧ ∀ x ∈ xs, okShape sz x ∧ DT P e x.cells := by
  cases h with
  | slice _ e' sz' xs h1 h2 hl hx hd =>
    have : e' = e := by have := h1.symm.trans hu; simpa using this
    subst this
    have : sz' = sz := by have := h2.symm.trans hs; simpa using this
    subst this
    exact ⟨xs, rfl, hl, fun x hx' => ⟨hx x hx', hd x hx'⟩⟩
  | _ => simp_all
theorem DT.inv_struct {t : TypeId} {ds : List D} {fs : Array Field} (h : DT P t ds) (hu : P.underlying t = some (.struct fs)) : ds.length = P.cellsOf t ∧ ∀ f ∈ fs.toList, DT P f.type ((ds.drop f.offset).take (P.cellsOf f.type)) := by
  cases h with
  | struct _ fs' ds h1 hl hf =>
    have : fs' = fs := by have := h1.symm.trans hu; simpa using this
    subst this
    exact ⟨hl, hf⟩
  | _ => simp_all
theorem okShape_agg {sz : Nat} {x : D} (h : okShape sz x) (hs : sz ≠ 0) : ∃ ds, x = .agg ds ∧ ds.length = sz := by
  simp only [okShape, hs, if_false] at h
  cases x with
  | agg ds => exact ⟨ds, rfl, h.2⟩
  | v x => simp [D.isAgg] at h
  | slice a b => simp [D.isAgg] at h
theorem okShape_one {x : D} (h : okShape 0 x) : x.cells = [x] := by
  simp only [okShape, if_true] at h
  cases x <;> simp_all [D.isAgg, D.cells]
end

/-- A list of known length. -/
theorem len1 {ds : List D} (h : ds.length = 1) : ∃ a, ds = [a] := by
  match ds, h with
  | [a], _ => exact ⟨a, rfl⟩

theorem u3 : PP.underlying 3 = some (.int .i64) := Try.underlying3
theorem u9 : PP.underlying 9 = some .string := Try.underlying9
theorem c3 : PP.cellsOf 3 = 1 := by kernel_rfl
theorem c9 : PP.cellsOf 9 = 1 := by kernel_rfl
theorem c23 : PP.cellsOf 23 = 1 := by kernel_rfl
theorem c24 : PP.cellsOf 24 = 1 := by kernel_rfl
theorem c25 : PP.cellsOf 25 = 1 := by kernel_rfl
theorem c26 : PP.cellsOf 26 = 1 := by kernel_rfl
theorem c28 : PP.cellsOf 28 = 4 := by kernel_rfl
theorem c29 : PP.cellsOf 29 = 1 := by kernel_rfl
theorem c31 : PP.cellsOf 31 = 9 := by kernel_rfl
theorem c33 : PP.cellsOf 33 = 11 := by kernel_rfl
theorem c47 : PP.cellsOf 47 = 2 := by kernel_rfl
theorem h3 : shp PP 3 = some 0 := by kernel_rfl
theorem h28 : shp PP 28 = some 4 := by kernel_rfl
theorem h31 : shp PP 31 = some 9 := by kernel_rfl
theorem h33 : shp PP 33 = some 11 := by kernel_rfl
theorem h45 : shp PP 45 = some 0 := by kernel_rfl
theorem h47 : shp PP 47 = some 2 := by kernel_rfl
theorem h145 : shp PP 145 = some 6 := by kernel_rfl
theorem u22 : PP.underlying 22 = some (.slice 33) := Try.underlying22
theorem u23 : PP.underlying 23 = some (.slice 31) := Try.underlying23
theorem u24 : PP.underlying 24 = some (.slice 3) := Try.underlying24
theorem u25 : PP.underlying 25 = some (.slice 145) := Try.underlying25
theorem u26 : PP.underlying 26 = some (.slice 28) := Try.underlying26
theorem u29 : PP.underlying 29 = some (.slice 45) := Try.underlying29
theorem u45 : PP.underlying 45 = some (.slice 47) := Try.underlying45
theorem u28 : ∃ fs : Array Field, PP.underlying 28 = some (.struct fs) ∧ fs.toList.map (fun f => (f.type, f.offset)) = [(3, 0), (24, 1), (25, 2), (26, 3)] := ⟨_, Try.underlying28, rfl⟩
theorem u31 : ∃ fs : Array Field, PP.underlying 31 = some (.struct fs) ∧ fs.toList.map (fun f => (f.type, f.offset)) = [(3, 0), (3, 1), (9, 2), (23, 3), (28, 4), (29, 8)] := ⟨_, Try.underlying31, rfl⟩
theorem u33 : ∃ fs : Array Field, PP.underlying 33 = some (.struct fs) ∧ fs.toList.map (fun f => (f.type, f.offset)) = [(3, 0), (3, 1), (31, 2)] := ⟨_, Try.underlying33, rfl⟩
theorem u47 : ∃ fs : Array Field, PP.underlying 47 = some (.struct fs) ∧ fs.toList.map (fun f => (f.type, f.offset)) = [(3, 0), (24, 1)] := ⟨_, Try.underlying47, rfl⟩

theorem DT.fld {t : TypeId} {ds : List D} {l : List (TypeId × Nat)} (h : DT PP t ds) (hu : ∃ fs : Array Field, PP.underlying t = some (.struct fs) ∧ fs.toList.map (fun f => (f.type, f.offset)) = l) : ds.length = PP.cellsOf t ∧ ∀ p ∈ l, DT PP p.1 ((ds.drop p.2).take (PP.cellsOf p.1)) := by
  obtain ⟨fs, hu, rfl⟩ := hu
  obtain ⟨h1, h2⟩ := h.inv_struct hu
  refine ⟨h1, fun p hp => ?_⟩
  obtain ⟨f, hf, rfl⟩ := List.mem_map.1 hp
  exact h2 f hf

theorem maxLen_le {n : Nat} (h : n ≤ maxLen) : n ≤ 9223372036854775807 := h

theorem ints_of {ds : List D} (h : DT PP 24 ds) : ∃ q, ds = [.slice 0 q] ∧ q.length ≤ 9223372036854775807 ∧ ∀ z ∈ q, ∃ a, z = dI a := by
  obtain ⟨q, rfl, hl, hx⟩ := h.inv_slice u24 h3
  refine ⟨q, rfl, maxLen_le hl, fun z hz => ?_⟩
  obtain ⟨e1, e2⟩ := hx z hz
  rw [okShape_one e1] at e2
  obtain ⟨n, e⟩ := e2.inv_int u3
  exact ⟨n, by simpa using e⟩

theorem bind_of {ds : List D} (h : DT PP 47 ds) : IsBd (.agg ds) := by
  obtain ⟨hl, hf⟩ := h.fld u47
  rw [c47] at hl
  match ds, hl with
  | [a, b], _ =>
    have e1 := hf (3, 0) (by simp); have e2 := hf (24, 1) (by simp)
    simp only [c3, c24, List.drop_zero, List.drop_succ_cons, List.take_succ_cons, List.take_zero] at e1 e2
    obtain ⟨n, en⟩ := e1.inv_int u3
    obtain ⟨q, eq, hq1, hq2⟩ := ints_of e2
    simp at en eq
    subst en; subst eq
    exact ⟨n, q, rfl, hq1, hq2⟩

theorem binds_of {ds : List D} (h : DT PP 29 ds) : ∃ bi, ds = [.slice 0 bi] ∧ bi.length ≤ 9223372036854775807 ∧ ∀ y ∈ bi, IsBl y := by
  obtain ⟨bi, rfl, hl, hx⟩ := h.inv_slice u29 h45
  refine ⟨bi, rfl, maxLen_le hl, fun y hy => ?_⟩
  obtain ⟨e1, e2⟩ := hx y hy
  rw [okShape_one e1] at e2
  obtain ⟨r, e, hl2, hx2⟩ := e2.inv_slice u45 h47
  simp at e; subst e
  refine ⟨r, rfl, maxLen_le hl2, fun z hz => ?_⟩
  obtain ⟨f1, f2⟩ := hx2 z hz
  obtain ⟨cs, rfl, _⟩ := okShape_agg f1 (by simp)
  exact bind_of f2

theorem tree_of {a b c d : D} (h : DT PP 28 [a, b, c, d]) : ∃ r p q t, a = dI r ∧ b = .slice 0 p ∧ c = .slice 6 q ∧ d = .slice 4 t := by
  obtain ⟨_, hf⟩ := h.fld u28
  have e1 := hf (3, 0) (by simp); have e2 := hf (24, 1) (by simp); have e3 := hf (25, 2) (by simp); have e4 := hf (26, 3) (by simp)
  simp only [c3, c24, c25, c26, List.drop_zero, List.drop_succ_cons, List.take_succ_cons, List.take_zero] at e1 e2 e3 e4
  obtain ⟨n, en⟩ := e1.inv_int u3
  obtain ⟨q, eq, _⟩ := ints_of e2
  obtain ⟨cs, ec, _⟩ := e3.inv_slice u25 h145
  obtain ⟨rs, er, _⟩ := e4.inv_slice u26 h28
  simp at en eq ec er
  exact ⟨n, q, cs, rs, en, eq, ec, er⟩

theorem core_of : ∀ {d : Nat} {ds : List D}, DT PP 31 ds → InCore d (.agg ds) := by
  have one : ∀ {ds : List D}, DT PP 31 ds → ∃ k n s l r p c t bi, D.agg ds = coreD k n s l r p c t bi ∧ l.length ≤ 9223372036854775807 ∧ (bi.length ≤ 9223372036854775807 ∧ ∀ y ∈ bi, IsBl y) ∧ ∀ y ∈ l, ∃ cs, y = .agg cs ∧ DT PP 31 cs := by
    intro ds h
    obtain ⟨hl, hf⟩ := h.fld u31
    rw [c31] at hl
    match ds, hl with
    | [a0, a1, a2, a3, a4, a5, a6, a7, a8], _ =>
      have e1 := hf (3, 0) (by simp); have e2 := hf (3, 1) (by simp); have e3 := hf (9, 2) (by simp); have e4 := hf (23, 3) (by simp); have e5 := hf (28, 4) (by simp); have e6 := hf (29, 8) (by simp)
      simp only [c3, c9, c23, c28, c29, List.drop_zero, List.drop_succ_cons, List.take_succ_cons, List.take_zero] at e1 e2 e3 e4 e5 e6
      obtain ⟨k, ek⟩ := e1.inv_int u3
      obtain ⟨n, en⟩ := e2.inv_int u3
      obtain ⟨s, es, _⟩ := e3.inv_str u9
      obtain ⟨l, el, hl1, hl2⟩ := e4.inv_slice u23 h31
      obtain ⟨r, p, c, t, er, ep, ec, et⟩ := tree_of e5
      obtain ⟨bi, eb, hb1, hb2⟩ := binds_of e6
      simp at ek en es el eb
      subst ek; subst en; subst es; subst el; subst er; subst ep; subst ec; subst et; subst eb
      refine ⟨k, n, s, l, r, p, c, t, bi, rfl, maxLen_le hl1, ⟨hb1, hb2⟩, fun y hy => ?_⟩
      obtain ⟨f1, f2⟩ := hl2 y hy
      obtain ⟨cs, rfl, _⟩ := okShape_agg f1 (by simp)
      exact ⟨cs, rfl, f2⟩
  intro d
  induction d with
  | zero =>
    intro ds h
    obtain ⟨k, n, s, l, r, p, c, t, bi, e, h1, h2, h3⟩ := one h
    exact ⟨k, n, s, l, r, p, c, t, bi, e, h1, h2.1, h2.2⟩
  | succ d ih =>
    intro ds h
    obtain ⟨k, n, s, l, r, p, c, t, bi, e, h1, h2, h3⟩ := one h
    refine ⟨k, n, s, l, r, p, c, t, bi, e, h1, h2, fun y hy => ?_⟩
    obtain ⟨cs, rfl, hc⟩ := h3 y hy
    exact ih hc

theorem fun_of {ds : List D} (h : DT PP 33 ds) : InFun (.agg ds) := by
  obtain ⟨hl, hf⟩ := h.fld u33
  rw [c33] at hl
  match ds, hl with
  | [b0, b1, a0, a1, a2, a3, a4, a5, a6, a7, a8], _ =>
    have e1 := hf (3, 0) (by simp); have e2 := hf (3, 1) (by simp); have e3 := hf (31, 2) (by simp)
    simp only [c3, c31, List.drop_zero, List.drop_succ_cons, List.take_succ_cons, List.take_zero] at e1 e2 e3
    obtain ⟨k, ek⟩ := e1.inv_int u3
    obtain ⟨n, en⟩ := e2.inv_int u3
    simp at ek en
    subst ek; subst en
    have hc := core_of (d := 5) e3
    obtain ⟨k', n', s, l, r, p, c, t, bi, e⟩ := hc.isC
    simp only [coreD, D.agg.injEq, List.cons.injEq, and_true] at e
    obtain ⟨rfl, rfl, rfl, rfl, rfl, rfl, rfl, rfl, rfl⟩ := e
    exact ⟨k, n, k', n', s, l, r, p, c, t, bi, rfl, hc⟩

/-- What comes in. -/
theorem args_of {xs : List V} (h : ArgsT PP [22, 3] xs) : ∃ l n, xs = [.d (.slice 11 l), vI n] ∧ l.length ≤ 9223372036854775807 ∧ ∀ x ∈ l, InFun x := by
  match xs, h with
  | [x, y], ⟨h1, h2, _⟩ =>
    have s22 : isStruct PP 22 = false := by kernel_rfl
    have s3 : isStruct PP 3 = false := by kernel_rfl
    rcases h1 with ⟨_, d, rfl, _, hd⟩ | ⟨hs, _⟩
    · rcases h2 with ⟨_, d2, rfl, _, hd2⟩ | ⟨hs, _⟩
      · obtain ⟨l, el, hl, hx⟩ := hd.inv_slice u22 h33
        obtain ⟨n, en⟩ := hd2.inv_int u3
        simp at el en
        subst el; subst en
        refine ⟨l, n, rfl, maxLen_le hl, fun x hx' => ?_⟩
        obtain ⟨f1, f2⟩ := hx x hx'
        obtain ⟨cs, rfl, _⟩ := okShape_agg f1 (by simp)
        exact fun_of f2
      · rw [s3] at hs; cases hs
    · rw [s22] at hs; cases hs

theorem follows : PP.follows .mixedOrders = true := by kernel_rfl
theorem noNG : NoNG PP := by
  have h : PP.funcs.all (fun fn => !(fn.name == "runtime.NumGoroutine")) = true := by kernel_rfl
  intro f fn hf
  have := Array.all_eq_true_iff_forall_mem.1 h fn (Array.mem_of_getElem? hf)
  simpa using this

theorem primOk {W : World} (h : W.ShapedOpen PP) : PrimOk PP AA W := by
  obtain ⟨m, hm⟩ := Try.maxLen W h
  intro f p hp args v hv w G hh cargs hB hrel hargs _
  have hf : f = 22 ∧ p = AnCur.pIndex := by
    simp only [AnCur.an] at hp
    split at hp
    · rename_i e; exact ⟨e, by simpa using hp.symm⟩
    · cases hp
  obtain ⟨rfl, rfl⟩ := hf
  match args, hv with
  | [a, b], hv =>
    simp only [AnCur.pIndex] at hv
    obtain ⟨x, hx, hv⟩ := Option.bind_eq_some_iff.1 hv
    obtain ⟨y, hy, hv⟩ := Option.bind_eq_some_iff.1 hv
    cases hs : Nat.blt x.size 4294967281 with
    | false => rw [hs] at hv; cases hv
    | true =>
      rw [hs] at hv
      simp only [cond_true, Option.some.injEq] at hv
      subst hv
      match cargs, hargs with
      | [ca, cb], ⟨ha, hb, _⟩ =>
        have e1 := str_VR hx ha
        have e2 := str_VR hy hb
        subst e1; subst e2
        have hlt : x.size < 4294967281 := Nat.le_of_ble_eq_true hs
        have hc : w.cell? ⟨0, 0, none⟩ = some (.int .i64 m) := by
          have hlt0 : 0 < W.heap.size := by
            rcases Nat.lt_or_ge 0 W.heap.size with h | h
            · exact h
            · simp [World.cell?, Array.getElem?_eq_none h] at hm
          have := (hB.2 0 hlt0).1
          simp only [World.cell?] at hm ⊢
          rw [this]; exact hm
        refine ⟨⟨Try.f22, Try.func22, by kernel_rfl, by kernel_rfl⟩, ((Any.strings_Index Try.lays143 x y m w hlt hc : Calls PP 22 #[.string x, .string y] w _).mono ?_)⟩
        rintro e w' ⟨rfl, rfl⟩
        exact ⟨G.noLo, hrel, .d _ _ (.v _ rfl) rfl, rfl⟩
  | [], hv => cases hv
  | [_], hv => cases hv
  | _ :: _ :: _ :: _, hv => cases hv

/-- The law's function answers true, whatever comes in. -/
theorem run3 {xs : List V} (h : ArgsT PP [22, 3] xs) : ∃ k h', run PP AA k 3 xs Heap.none = some (vBool true, h') := by
  obtain ⟨l, n, rfl, hl, hx⟩ := args_of h
  obtain ⟨v, hr, rfl⟩ := s3 (lets := n) hl hx
  obtain ⟨k, hk⟩ := hr Heap.none
  exact ⟨k, _, hk k (Nat.le_refl _)⟩
end Am

namespace Go.Proofs.Ythcndflaijcghaa
open Go.ChangeShapes Go.WideShapes Go.ChangeAt Go.RowKit Am

set_option maxRecDepth 1000000 in
theorem lifted (os : Os) (started : os.Started) (H : Type) (enc : TypeId × Value → H) :
    ReturnsInHanded {} Try.checked os 3 .any (Rows.genRawSpec.pre6 enc Try.prog Try.f3 Rows.genRawRow.domain false) (Rows.genRawSpec.post enc Try.prog Try.f3 false true false false) := by
  refine returnsInHanded_of_change_shaped (C := Try.checked) (by kernel_rfl) started (by kernel_rfl) Try.func3
    (ChangeSpec.witness6 (enc := enc) (C := Try.checked) false ⟨#[], #[.slice none 0 0, .int .i64 0], []⟩ 8 (by kernel_rfl) (by kernel_rfl) (by kernel_rfl) (by kernel_rfl)) ?_
  intro W base args ds gs before hval hW hcnd _ hsh _
  exact law_contract (P := Try.prog) follows noNG (primOk hsh) (by kernel_rfl) (ts := [22, 33, 3, 31, 9, 23, 28, 24, 25, 145, 26, 29, 45, 47]) (tb := 4) (by kernel_rfl) (by kernel_rfl) (by kernel_rfl) Try.underlying4 rfl
    (fun ds hd => by
      match ds, hd with
      | [d1, d2], _ => exact ⟨rfl, rfl, rfl⟩)
    (fun xs h => run3 (by rw [show Try.f3.params.toList = [22, 3] by rw [Try.params3]] at h; exact h)) hval hW

theorem genRaw_holds : Rows.GenRawSaid :=
  OpenClaim.holds_of_wide 3 Try.f3 rfl rfl rfl rfl rfl rfl rfl ⟨rfl, rfl, rfl, rfl, rfl⟩ rfl rfl rfl rfl rfl (by kernel_rfl) Try.func3 (by kernel_rfl)
    (of_decide_eq_true (by kernel_rfl)) (by unfold Func.isWrapper; first | (rw [if_pos (by decide +kernel)]; kernel_rfl) | (rw [if_neg (by decide +kernel)]; exact ⟨rfl, rfl⟩))
    (fun os started H enc _ => lifted os started H enc)

end Go.Proofs.Ythcndflaijcghaa
