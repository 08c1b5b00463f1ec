/- GenMany: the law's function returns true for every input, and what came in reads as before; without conditions. This text: part 6 of 6 of the proof. -/
import Derived.Test.YthcndflaijcghaaGreatX5
import Derived.KernelRfl
import Derived.Shelf.Strings.Search3
import Derived.Shelf.LaysM
import Derived.HandedShaped
import Derived.Test.YthcndflaijcghaaGreatProg
import Derived.Test.YthcndflaijcghaaGreatRows

/- GenRaw: the document's walk: a step. -/
namespace Am
open Go
set_option maxRecDepth 10000

section
variable {fs is ts : List D} {lets n kept locals stack : Int} {cs : List D} {H : Nat → Option St'}
variable {c g : Nat} {h : Heap} {A : List (Bool × St')} {o a b d : Int} {j : Nat} {ms : List Mk}

/-- What is told of a step that may be. -/
theorem nx_go (hok : (nx fs is ts lets n kept locals o a b j (d, ms)).2 = true) :
    (effM fs is ts lets n kept locals o a b).1 = true ∧ baseM ms ≤ d - (effM fs is ts lets n kept locals o a b).2.1 ∧
    nx fs is ts lets n kept locals o a b j (d, ms) = goesM o a b j d (d + ((effM fs is ts lets n kept locals o a b).2.2 - (effM fs is ts lets n kept locals o a b).2.1)) ms := by
  unfold nx nextM at *
  dsimp only at *
  cases he : (effM fs is ts lets n kept locals o a b).1 with
  | false => simp [he] at hok
  | true =>
    simp only [he, Bool.true_eq_false, if_false] at hok ⊢
    by_cases h : d - (effM fs is ts lets n kept locals o a b).2.1 < baseM ms
    · simp [h] at hok
    · simp only [h, if_false]
      exact ⟨trivial, by omega, trivial⟩

variable (hf : ∀ x ∈ fs, IsB x) (hst : stack ≤ 60)
  (hH : ∀ j s, H j = some s → j < cs.length ∧ OkS 1000 s ∧ s.1 ≤ stack)
  (hc : c < h.n) (hA : AI H cs.length A) (ha : hpAt h c g = some (.darr g 3 (A.map aD)))

/-- The loop over marks: no transaction in another one. -/
theorem s29_1 {t : Int} {k1 k2 k3 : Int} {is' : Bool} {a' b' : Int} {h0 : Heap} {l : List D} {q u : Nat} (hm : ms.length ≤ 1000) (hno : ms.any (·.1 == 26) = false)
    (hq : hpAt h q u = some (.darr u 2 (ms.map mD)))
    (fin : Wc PP AA F54 [.sl (.he c g) 3 none, vI (j + 1), .s 3 (.agg [dB false, dI t, .slice 2 ((ms ++ [(26, d)]).map mD)]), vI k3] (Heap.put (Heap.put h q (some (.darr (u + 1) 2 ((ms ++ [(26, d)]).map mD)))) q none) fun v H31 => ∃ (b30 : Bool), v = vBool b30 ∧ QS H cs.length c g h0 (vBool b30) H31) :
    ∀ i : Nat, i ≤ ms.length → Wl PP AA F29 f29_K1 (f29_S1 c g (j + 1) i k1 k2 k3 l a' b' is' d (ms.map mD) t q u h) (QS H cs.length c g h0) :=
  upto fun i hi ih => by
    have hl : (ms.map mD).length = ms.length := by simp
    refine w29_1 ⟨fun h1 => ?_, fun h1 => ?_⟩
    · rw [hl] at h1
      have hi' : i < ms.length := by omega
      refine ⟨by omega, ms[i].1, ms[i].2, ?_, fun h2 => ?_, fun h2 => ?_⟩
      · rw [getI (by simpa using hi')]; simp [mD]
      · have : ms.any (·.1 == 26) = true := List.any_eq_true.2 ⟨ms[i], List.getElem_mem hi', by simpa using h2⟩
        rw [this] at hno; cases hno
      · rw [W_succ hi' (by omega)]
        exact ih hi'
    · have e : ms.map mD ++ [.agg [dI 26, dI d]] = (ms ++ [(26, d)]).map mD := by simp [mD]
      refine ⟨_, hq, by rw [hl]; omega, hpAt_put_same rfl, ?_⟩
      rw [e]
      exact fin
end
end Am

/- GenRaw: the document's walk: all steps. -/
namespace Am
open Go
set_option maxRecDepth 10000

section
variable {fs is ts : List D} {lets n kept locals stack : Int} {cs : List D} {H : Nat → Option St'}
variable {c g : Nat} {h : Heap} {A : List (Bool × St')} {o a b d : Int} {j : Nat} {ms : List Mk}
variable (hf : ∀ x ∈ fs, IsB x) (hst : stack ≤ 60)
  (hH : ∀ j s, H j = some s → j < cs.length ∧ OkS 1000 s ∧ s.1 ≤ stack)
  (hc : c < h.n) (hA : AI H cs.length A) (ha : hpAt h c g = some (.darr g 3 (A.map aD)))

include hf hst hH hc hA ha in
theorem s29 (hn : 0 ≤ n) (hg : fs[n.toNat]? = some (.agg [dI kept, dI locals, dI stack, .slice 3 cs])) (hI : cs[j]? = some (.agg [dI o, dI a, dI b])) (ha0 : 0 ≤ a) (hb0 : 0 ≤ b) (hb1 : b ≤ 65535) (hcs : cs.length ≤ 400)
    (hx : A[j]? = some (true, (d, ms))) (hok : (nx fs is ts lets n kept locals o a b j (d, ms)).2 = true) (hT : ∀ t ∈ (nx fs is ts lets n kept locals o a b j (d, ms)).1, 0 ≤ t.1 ∧ H t.1.toNat = some t.2) :
    Wc PP AA F29 [.s 4 (.agg [.slice 4 fs, .slice 0 is, .slice 0 ts, dI lets]), vI n, vI j, .sl (.he c g) 3 none] h (QS H cs.length c g h) := by
  obtain ⟨e1, e2, e3⟩ := nx_go hok
  rw [e3] at hok hT
  clear e3
  have hHj := (hA.2 j _ hx).2 rfl
  obtain ⟨hj, ⟨hd0, _, hm, hm0⟩, hd⟩ := hH _ _ hHj
  dsimp only at hd0 hm hm0 hd
  have hb := base_ok hm0
  have hjl : j < A.length := (List.getElem?_eq_some_iff.1 hx).1
  have hget : (A.map aD)[j]? = some (.agg [dB true, dI d, .slice 2 (ms.map mD)]) := by rw [List.getElem?_map, hx]; rfl
  have hml : (ms.map mD).length = ms.length := by simp
  have hT0 := s52 (is := is) (ts := ts) (lets := lets) (o := o) (a := a) (b := b) hf hn hg
  have hTP := eff_ok (fs := fs) (is := is) (ts := ts) (lets := lets) (n := n) (kept := kept) (locals := locals) (o := o) (a := a) hb0 hb1
  generalize hE : effM fs is ts lets n kept locals o a b = E at *
  obtain ⟨r, T, P⟩ := E
  dsimp only at e1 e2 hok hT hT0 hTP
  subst e1
  have w1 : W (d - T) = d - T := W_id (by omega) (by omega)
  have w2 : W (d - T + P) = d + (P - T) := by rw [W_id (by omega) (by omega)]; omega
  have w3 : W ((j : Int) + 1) = (j : Int) + 1 := W_id (by omega) (by omega)
  have w4 : W (d + 1) = d + 1 := W_id (by omega) (by omega)
  have oF : Frm c h (ownH h (ms.map mD)) := Frm.own
  have oA : hpAt (ownH h (ms.map mD)) c g = some (.darr g 3 (A.map aD)) := by
    unfold ownH; rw [hpAt_put_ne (by omega), hpAt_push_old hc]; exact ha
  have oO : hpAt (ownH h (ms.map mD)) h.n 1 = some (.darr 1 2 (ms.map mD)) := hpAt_put_same rfl
  have pF : Frm c h ((ownH h (ms.map mD)).put h.n none) := oF.put (Nat.le_refl _)
  have pA : hpAt ((ownH h (ms.map mD)).put h.n none) c g = some (.darr g 3 (A.map aD)) := by rw [hpAt_put_ne (by omega)]; exact oA
  refine w29 ⟨hn, _, _, _, _, hg, by omega, o, a, b, by simpa using hI, A.map aD, ha, by simpa using hjl, true, d, ms.map mD, by simpa using hget, hT0.eq ⟨_, _, _, rfl, fun hpos => ?_, fun hpos => ?_⟩⟩
  · rw [hml] at hpos
    obtain ⟨m, h1, h2⟩ := last_get (ms := ms) (by omega)
    have hbm : baseM ms = m.2 := by simp [baseM, h1]
    rw [w1, w2, w3, W_last (by omega) (by omega)]
    refine ⟨by omega, m.1, m.2, by rw [hml]; simpa [mD] using h2, fun _ => ⟨fun hx => absurd hx (by omega), fun _ => ⟨fun hx => absurd hx (by omega), fun _ => (s53 (by omega)).mono ?_⟩⟩, fun hx => by cases hx⟩
    rintro v h' ⟨rfl, rfl⟩
    refine ⟨_, _, rfl, ?_⟩
    repeat' first
      | refine And.intro (fun (e : _ = _) => ?_) (fun (e : _ ≠ _) => ?_)
      | fail
    · -- 14
      subst e
      simp only [goesM, Int.reduceEq, or_false, or_true, false_or, true_or, reduceIte] at hok hT
      refine ⟨?_, A, hA, oF, oA⟩
      rw [emptyM, hok]
    · -- 15
      subst e
      simp only [goesM, Int.reduceEq, or_false, or_true, false_or, true_or, reduceIte] at hok hT
      refine ⟨?_, A, hA, oF, oA⟩
      rw [emptyM, hok]
    · exact ⟨rfl, A, hA, oF, oA⟩
    · exact ⟨rfl, A, hA, oF, oA⟩
    · -- 16
      subst e
      have hE' : (true, T, P) = (true, 0, 0) := hE.symm.trans (by simp only [effM, Int.reduceEq, reduceIte])
      cases hE'
      simp only [goesM, Int.reduceEq, or_false, or_true, false_or, true_or, reduceIte] at hok hT
      obtain ⟨t1, t2⟩ := hT _ (List.mem_singleton_self _)
      refine ⟨_, oO, hand1 hH pF hc hA pA t1 ?_ rfl⟩
      rw [t2]; simp
    · -- 17
      subst e
      simp only [goesM, Int.reduceEq, or_false, or_true, false_or, true_or, reduceIte] at hok hT
      obtain ⟨t1, t2⟩ := hT _ (List.mem_cons_self ..)
      obtain ⟨t3, t4⟩ := hT _ (List.mem_cons_of_mem _ (List.mem_singleton_self _))
      refine ⟨fun hx => absurd hx (by omega), fun _ => ⟨_, oO, (hand hH pF hc hA pA t3 t4 rfl).mono ?_⟩⟩
      rintro v h2 ⟨rfl, A2, hA2, hF2, hp2⟩
      exact ⟨true, rfl, fun _ => hand1 hH hF2 hc hA2 hp2 t1 t2 rfl, fun hx => by cases hx⟩
    · -- 18
      subst e
      simp only [goesM, Int.reduceEq, or_false, or_true, false_or, true_or, reduceIte] at hok hT
      obtain ⟨t1, t2⟩ := hT _ (List.mem_cons_self ..)
      obtain ⟨t3, t4⟩ := hT _ (List.mem_cons_of_mem _ (List.mem_singleton_self _))
      refine ⟨fun hx => absurd hx (by omega), fun _ => ⟨_, oO, (hand hH pF hc hA pA t3 t4 rfl).mono ?_⟩⟩
      rintro v h2 ⟨rfl, A2, hA2, hF2, hp2⟩
      exact ⟨true, rfl, fun _ => hand1 hH hF2 hc hA2 hp2 t1 t2 rfl, fun hx => by cases hx⟩
    · -- 21
      subst e
      have hE' : (true, T, P) = (true, 0, 0) := hE.symm.trans (by simp only [effM, Int.reduceEq, reduceIte])
      cases hE'
      simp only [goesM, Int.reduceEq, or_false, or_true, false_or, true_or, reduceIte] at hok hT
      obtain ⟨t1, t2⟩ := hT _ (List.mem_cons_self ..)
      obtain ⟨t3, t4⟩ := hT _ (List.mem_cons_of_mem _ (List.mem_singleton_self _))
      rw [w4]
      refine (hand hH (Frm.refl c _) (by simp [ownH]; omega) hA oA t3 t4 rfl).mono ?_
      rintro v h2 ⟨rfl, A2, hA2, hF2, hp2⟩
      have q1 : hpAt h2 h.n 1 = some (.darr 1 2 (ms.map mD)) := by rw [hF2.2 _ _ (by simp [ownH]) (by omega)]; exact oO
      have em : ms.map mD ++ [.agg [dI 21, dI d]] = (ms ++ [(21, d)]).map mD := by simp [mD]
      refine ⟨true, rfl, fun _ => ⟨_, q1, by rw [hml]; omega, hpAt_put_same rfl, ?_⟩, fun hx => by cases hx⟩
      rw [em]
      refine hand1 hH (((oF.trans hF2).put (Nat.le_refl _)).put (Nat.le_refl _)) hc hA2 ?_ t1 ?_ rfl
      · rw [hpAt_put_ne (by omega), hpAt_put_ne (by omega)]; exact hp2
      · rw [t2]; simp
    · -- 28
      subst e
      have hE' : (true, T, P) = (true, 0, 0) := hE.symm.trans (by simp only [effM, Int.reduceEq, reduceIte])
      cases hE'
      simp only [goesM, Int.reduceEq, or_false, or_true, false_or, true_or, reduceIte] at hok hT
      obtain ⟨t1, t2⟩ := hT _ (List.mem_cons_self ..)
      obtain ⟨t3, t4⟩ := hT _ (List.mem_cons_of_mem _ (List.mem_singleton_self _))
      refine (hand hH (Frm.refl c _) (by simp [ownH]; omega) hA oA t3 t4 rfl).mono ?_
      rintro v h2 ⟨rfl, A2, hA2, hF2, hp2⟩
      have q1 : hpAt h2 h.n 1 = some (.darr 1 2 (ms.map mD)) := by rw [hF2.2 _ _ (by simp [ownH]) (by omega)]; exact oO
      have em : ms.map mD ++ [.agg [dI 28, dI d]] = (ms ++ [(28, d)]).map mD := by simp [mD]
      refine ⟨true, rfl, fun _ => ⟨_, q1, by rw [hml]; omega, hpAt_put_same rfl, ?_⟩, fun hx => by cases hx⟩
      rw [em]
      refine hand1 hH (((oF.trans hF2).put (Nat.le_refl _)).put (Nat.le_refl _)) hc hA2 ?_ t1 ?_ rfl
      · rw [hpAt_put_ne (by omega), hpAt_put_ne (by omega)]; exact hp2
      · rw [t2]; simp
    · -- 26
      subst e
      have hE' : (true, T, P) = (true, 0, 0) := hE.symm.trans (by simp only [effM, Int.reduceEq, reduceIte])
      cases hE'
      simp only [goesM, Int.reduceEq, or_false, or_true, false_or, true_or, reduceIte] at hok hT
      obtain ⟨t1, t2⟩ := hT _ (List.mem_singleton_self _)
      refine s29_1 (h := ownH h (ms.map mD)) hm (by simpa using hok) oO ?_ 0 (by omega)
      refine hand1 hH ((oF.put (Nat.le_refl _)).put (Nat.le_refl _)) hc hA ?_ t1 ?_ rfl
      · rw [hpAt_put_ne (by omega), hpAt_put_ne (by omega)]; exact oA
      · rw [t2]; simp
    · -- 22
      exact absurd ‹_ = (0 : Int)› (by rw [hml]; omega)
    · rename_i e22 _
      have ek := e
      subst e22
      have hE' : (true, T, P) = (true, 0, 0) := hE.symm.trans (by simp only [effM, Int.reduceEq, reduceIte])
      cases hE'
      simp only [goesM, Int.reduceEq, or_false, or_true, false_or, true_or, reduceIte] at hok hT
      obtain ⟨t1, t2⟩ := hT _ (List.mem_singleton_self _)
      have w5 : W ((((ms.map mD).length : Nat) : Int) - 1) = ((ms.length - 1 : Nat) : Int) := by rw [W_last (by omega) (by omega), hml]
      refine ⟨_, oO, ?_⟩
      rw [w5]
      refine ⟨by omega, by rw [hml]; omega, by omega, by rw [hml]; omega, hand1 (ms := (offM 21 ms).1) hH pF hc hA pA t1 (by rw [t2]; simp) ?_⟩
      simp [offM, h1, ek, List.dropLast_eq_take, List.map_take]
    · rename_i e22 _
      have ek := e
      subst e22
      simp only [goesM, Int.reduceEq, or_false, or_true, false_or, true_or, reduceIte] at hok hT
      simp [offM, h1, ek] at hok
    · -- 27
      exact absurd ‹_ = (0 : Int)› (by rw [hml]; omega)
    · rename_i e22 _
      have ek := e
      subst e22
      have hE' : (true, T, P) = (true, 0, 0) := hE.symm.trans (by simp only [effM, Int.reduceEq, reduceIte])
      cases hE'
      simp only [goesM, Int.reduceEq, or_false, or_true, false_or, true_or, reduceIte] at hok hT
      obtain ⟨t1, t2⟩ := hT _ (List.mem_singleton_self _)
      have w5 : W ((((ms.map mD).length : Nat) : Int) - 1) = ((ms.length - 1 : Nat) : Int) := by rw [W_last (by omega) (by omega), hml]
      refine ⟨_, oO, ?_⟩
      rw [w5]
      refine ⟨by omega, by rw [hml]; omega, by omega, by rw [hml]; omega, hand1 (ms := (offM 26 ms).1) hH pF hc hA pA t1 (by rw [t2]; simp) ?_⟩
      simp [offM, h1, ek, List.dropLast_eq_take, List.map_take]
    · rename_i e22 _
      have ek := e
      subst e22
      simp only [goesM, Int.reduceEq, or_false, or_true, false_or, true_or, reduceIte] at hok hT
      simp [offM, h1, ek] at hok
    · -- 29
      exact absurd ‹_ = (0 : Int)› (by rw [hml]; omega)
    · rename_i e22 _
      have ek := e
      subst e22
      have hE' : (true, T, P) = (true, 0, 0) := hE.symm.trans (by simp only [effM, Int.reduceEq, reduceIte])
      cases hE'
      simp only [goesM, Int.reduceEq, or_false, or_true, false_or, true_or, reduceIte] at hok hT
      obtain ⟨t1, t2⟩ := hT _ (List.mem_singleton_self _)
      have w5 : W ((((ms.map mD).length : Nat) : Int) - 1) = ((ms.length - 1 : Nat) : Int) := by rw [W_last (by omega) (by omega), hml]
      refine ⟨_, oO, ?_⟩
      rw [w5]
      refine ⟨by omega, by rw [hml]; omega, by omega, by rw [hml]; omega, hand1 (ms := (offM 28 ms).1) hH pF hc hA pA t1 (by rw [t2]; simp) ?_⟩
      simp [offM, h1, ek, List.dropLast_eq_take, List.map_take]
    · rename_i e22 _
      have ek := e
      subst e22
      simp only [goesM, Int.reduceEq, or_false, or_true, false_or, true_or, reduceIte] at hok hT
      simp [offM, h1, ek] at hok
    · have hg : goesM o a b j d (d + (P - T)) ms = ([((j : Int) + 1, d + (P - T), ms)], true) := by
        unfold goesM
        rw [if_neg (by rintro (h | h) <;> contradiction), if_neg (by rintro (h | h) <;> contradiction)]
        repeat rw [if_neg (by assumption)]
      rw [hg] at hT
      obtain ⟨t1, t2⟩ := hT _ (List.mem_singleton_self _)
      exact ⟨_, oO, hand1 hH pF hc hA pA t1 t2 rfl⟩
  · rw [hml] at hpos
    have hms : ms = [] := List.length_eq_zero_iff.1 (by omega)
    have hb0' : baseM ms = 0 := by rw [hms]; rfl
    rw [hb0'] at e2
    rw [w1, w2, w3]
    refine ⟨fun _ => ⟨fun hx => absurd hx (by omega), fun _ => ⟨fun hx => absurd hx (by omega), fun _ => (s53 (by omega)).mono ?_⟩⟩, fun hx => by cases hx⟩
    rintro v h' ⟨rfl, rfl⟩
    refine ⟨_, _, rfl, ?_⟩
    repeat' first
      | refine And.intro (fun (e : _ = _) => ?_) (fun (e : _ ≠ _) => ?_)
      | fail
    · -- 14
      subst e
      simp only [goesM, Int.reduceEq, or_false, or_true, false_or, true_or, reduceIte] at hok hT
      refine ⟨?_, A, hA, oF, oA⟩
      rw [emptyM, hok]
    · -- 15
      subst e
      simp only [goesM, Int.reduceEq, or_false, or_true, false_or, true_or, reduceIte] at hok hT
      refine ⟨?_, A, hA, oF, oA⟩
      rw [emptyM, hok]
    · exact ⟨rfl, A, hA, oF, oA⟩
    · exact ⟨rfl, A, hA, oF, oA⟩
    · -- 16
      subst e
      have hE' : (true, T, P) = (true, 0, 0) := hE.symm.trans (by simp only [effM, Int.reduceEq, reduceIte])
      cases hE'
      simp only [goesM, Int.reduceEq, or_false, or_true, false_or, true_or, reduceIte] at hok hT
      obtain ⟨t1, t2⟩ := hT _ (List.mem_singleton_self _)
      refine ⟨_, oO, hand1 hH pF hc hA pA t1 ?_ rfl⟩
      rw [t2]; simp
    · -- 17
      subst e
      simp only [goesM, Int.reduceEq, or_false, or_true, false_or, true_or, reduceIte] at hok hT
      obtain ⟨t1, t2⟩ := hT _ (List.mem_cons_self ..)
      obtain ⟨t3, t4⟩ := hT _ (List.mem_cons_of_mem _ (List.mem_singleton_self _))
      refine ⟨fun hx => absurd hx (by omega), fun _ => ⟨_, oO, (hand hH pF hc hA pA t3 t4 rfl).mono ?_⟩⟩
      rintro v h2 ⟨rfl, A2, hA2, hF2, hp2⟩
      exact ⟨true, rfl, fun _ => hand1 hH hF2 hc hA2 hp2 t1 t2 rfl, fun hx => by cases hx⟩
    · -- 18
      subst e
      simp only [goesM, Int.reduceEq, or_false, or_true, false_or, true_or, reduceIte] at hok hT
      obtain ⟨t1, t2⟩ := hT _ (List.mem_cons_self ..)
      obtain ⟨t3, t4⟩ := hT _ (List.mem_cons_of_mem _ (List.mem_singleton_self _))
      refine ⟨fun hx => absurd hx (by omega), fun _ => ⟨_, oO, (hand hH pF hc hA pA t3 t4 rfl).mono ?_⟩⟩
      rintro v h2 ⟨rfl, A2, hA2, hF2, hp2⟩
      exact ⟨true, rfl, fun _ => hand1 hH hF2 hc hA2 hp2 t1 t2 rfl, fun hx => by cases hx⟩
    · -- 21
      subst e
      have hE' : (true, T, P) = (true, 0, 0) := hE.symm.trans (by simp only [effM, Int.reduceEq, reduceIte])
      cases hE'
      simp only [goesM, Int.reduceEq, or_false, or_true, false_or, true_or, reduceIte] at hok hT
      obtain ⟨t1, t2⟩ := hT _ (List.mem_cons_self ..)
      obtain ⟨t3, t4⟩ := hT _ (List.mem_cons_of_mem _ (List.mem_singleton_self _))
      rw [w4]
      refine (hand hH (Frm.refl c _) (by simp [ownH]; omega) hA oA t3 t4 rfl).mono ?_
      rintro v h2 ⟨rfl, A2, hA2, hF2, hp2⟩
      have q1 : hpAt h2 h.n 1 = some (.darr 1 2 (ms.map mD)) := by rw [hF2.2 _ _ (by simp [ownH]) (by omega)]; exact oO
      have em : ms.map mD ++ [.agg [dI 21, dI d]] = (ms ++ [(21, d)]).map mD := by simp [mD]
      refine ⟨true, rfl, fun _ => ⟨_, q1, by rw [hml]; omega, hpAt_put_same rfl, ?_⟩, fun hx => by cases hx⟩
      rw [em]
      refine hand1 hH (((oF.trans hF2).put (Nat.le_refl _)).put (Nat.le_refl _)) hc hA2 ?_ t1 ?_ rfl
      · rw [hpAt_put_ne (by omega), hpAt_put_ne (by omega)]; exact hp2
      · rw [t2]; simp
    · -- 28
      subst e
      have hE' : (true, T, P) = (true, 0, 0) := hE.symm.trans (by simp only [effM, Int.reduceEq, reduceIte])
      cases hE'
      simp only [goesM, Int.reduceEq, or_false, or_true, false_or, true_or, reduceIte] at hok hT
      obtain ⟨t1, t2⟩ := hT _ (List.mem_cons_self ..)
      obtain ⟨t3, t4⟩ := hT _ (List.mem_cons_of_mem _ (List.mem_singleton_self _))
      refine (hand hH (Frm.refl c _) (by simp [ownH]; omega) hA oA t3 t4 rfl).mono ?_
      rintro v h2 ⟨rfl, A2, hA2, hF2, hp2⟩
      have q1 : hpAt h2 h.n 1 = some (.darr 1 2 (ms.map mD)) := by rw [hF2.2 _ _ (by simp [ownH]) (by omega)]; exact oO
      have em : ms.map mD ++ [.agg [dI 28, dI d]] = (ms ++ [(28, d)]).map mD := by simp [mD]
      refine ⟨true, rfl, fun _ => ⟨_, q1, by rw [hml]; omega, hpAt_put_same rfl, ?_⟩, fun hx => by cases hx⟩
      rw [em]
      refine hand1 hH (((oF.trans hF2).put (Nat.le_refl _)).put (Nat.le_refl _)) hc hA2 ?_ t1 ?_ rfl
      · rw [hpAt_put_ne (by omega), hpAt_put_ne (by omega)]; exact hp2
      · rw [t2]; simp
    · -- 26
      subst e
      have hE' : (true, T, P) = (true, 0, 0) := hE.symm.trans (by simp only [effM, Int.reduceEq, reduceIte])
      cases hE'
      simp only [goesM, Int.reduceEq, or_false, or_true, false_or, true_or, reduceIte] at hok hT
      obtain ⟨t1, t2⟩ := hT _ (List.mem_singleton_self _)
      refine s29_1 (h := ownH h (ms.map mD)) hm (by simpa using hok) oO ?_ 0 (by omega)
      refine hand1 hH ((oF.put (Nat.le_refl _)).put (Nat.le_refl _)) hc hA ?_ t1 ?_ rfl
      · rw [hpAt_put_ne (by omega), hpAt_put_ne (by omega)]; exact oA
      · rw [t2]; simp
    · rename_i e22
      subst e22
      simp only [goesM, Int.reduceEq, or_false, or_true, false_or, true_or, reduceIte] at hok hT
      simp [offM, hms] at hok
    · exact absurd (show (((ms.map mD).length : Nat) : Int) = 0 by rw [hml]; omega) (by assumption)
    · rename_i e22
      subst e22
      simp only [goesM, Int.reduceEq, or_false, or_true, false_or, true_or, reduceIte] at hok hT
      simp [offM, hms] at hok
    · exact absurd (show (((ms.map mD).length : Nat) : Int) = 0 by rw [hml]; omega) (by assumption)
    · rename_i e22
      subst e22
      simp only [goesM, Int.reduceEq, or_false, or_true, false_or, true_or, reduceIte] at hok hT
      simp [offM, hms] at hok
    · exact absurd (show (((ms.map mD).length : Nat) : Int) = 0 by rw [hml]; omega) (by assumption)
    · have hg : goesM o a b j d (d + (P - T)) ms = ([((j : Int) + 1, d + (P - T), ms)], true) := by
        unfold goesM
        rw [if_neg (by rintro (h | h) <;> contradiction), if_neg (by rintro (h | h) <;> contradiction)]
        repeat rw [if_neg (by assumption)]
      rw [hg] at hT
      obtain ⟨t1, t2⟩ := hT _ (List.mem_singleton_self _)
      exact ⟨_, oO, hand1 hH pF hc hA pA t1 t2 rfl⟩
end
end Am

/- GenRaw: the document's answer whether a code holds together. -/
namespace Am
open Go
set_option maxRecDepth 10000

section
variable {fs is ts : List D} {lets n kept locals stack : Int} {cs : List D} {H : Nat → Option St'}
variable {c : Nat} {h : Heap} {A : List (Bool × St')}
variable (hf : ∀ x ∈ fs, IsB x) (hst : stack ≤ 60) (hcs : cs.length ≤ 400) (hI : ∀ x ∈ cs, IsI' x)
  (hn : 0 ≤ n) (hg : fs[n.toNat]? = some (.agg [dI kept, dI locals, dI stack, .slice 3 cs]))
  (hH : ∀ j s, H j = some s → j < cs.length ∧ OkS 1000 s ∧ s.1 ≤ stack ∧
    ∀ o a b, cs[j]? = some (.agg [dI o, dI a, dI b]) → (nx fs is ts lets n kept locals o a b j s).2 = true ∧ ∀ t ∈ (nx fs is ts lets n kept locals o a b j s).1, 0 ≤ t.1 ∧ H t.1.toNat = some t.2)

def QO (v : V) (_ : Heap) : Prop := ∃ x, v = .tuple [x, vBool true]

include hf hst hcs hI hn hg hH in
theorem s14_2 {B : List Bool} (hB : B.length = cs.length) (hc : c < h.n) (hA : AI H cs.length A) (ha : hpAt h c 0 = some (.darr 0 3 (A.map aD)))
    (next : ∀ (j : Nat) (h' : Heap) (A' : List (Bool × St')), B[j]? = some false → c < h'.n → AI H cs.length A' → hpAt h' c 0 = some (.darr 0 3 (A'.map aD)) →
      Wl PP AA F14 f14_K1 (f14_S1 n fs is ts lets c kept locals stack cs ((B.set j true).map fun b => dB b) h') QO) :
    ∀ i : Nat, i ≤ cs.length → Wl PP AA F14 f14_K2 (f14_S2 n fs is ts lets c i kept locals stack cs (B.map fun b => dB b) h) QO :=
  upto fun i hi ih => by
    refine w14_2 ⟨fun h1 => ?_, fun h1 => ?_⟩
    · have hi' : i < cs.length := by omega
      have hiB : i < B.length := by omega
      have hiA : i < A.length := by rw [hA.1]; exact hi'
      have hgB : (B.map fun b => dB b)[((i : Nat) : Int).toNat]? = some (dB B[i]) := by simp [hiB]
      have hgA : (A.map aD)[((i : Nat) : Int).toNat]? = some (.agg [dB A[i].1, dI A[i].2.1, .slice 2 (A[i].2.2.map mD)]) := by simp [hiA, aD]
      refine ⟨by omega, by simpa using hiB, B[i], hgB, fun h2 => ?_, fun h2 => ⟨_, ha, by simpa using hiA, A[i].1, A[i].2.1, A[i].2.2.map mD, hgA, fun h3 => ⟨fun h4 => absurd h4 (by omega), fun _ => ?_⟩, fun h3 => ?_⟩⟩
      · rw [W_succ hi' (by omega)]; exact ih hi'
      · have hx : A[i]? = some (true, (A[i].2.1, A[i].2.2)) := by rw [List.getElem?_eq_getElem hiA, ← h3]
        have hHi := (hA.2 i _ hx).2 rfl
        obtain ⟨_, _, _, hcl⟩ := hH _ _ hHi
        obtain ⟨o, a, b, e, q1, q2, q3, q4⟩ := hI cs[i] (List.getElem_mem hi')
        have hgI : cs[i]? = some (.agg [dI o, dI a, dI b]) := by rw [List.getElem?_eq_getElem hi', e]
        obtain ⟨k1, k2⟩ := hcl o a b hgI
        refine (s29 hf hst (fun j s hs => ⟨(hH j s hs).1, (hH j s hs).2.1, (hH j s hs).2.2.1⟩) hc hA ha hn hg hgI q1 q3 q4 hcs hx k1 k2).mono ?_
        rintro v h' ⟨rfl, A', hA', hF, hp⟩
        refine ⟨true, rfl, fun _ => ?_, fun hx => by cases hx⟩
        have := next i h' A' (by rw [List.getElem?_eq_getElem hiB, h2]) (Nat.lt_of_lt_of_le hc hF.1) hA' hp
        rw [List.map_set] at this
        simpa using this
      · rw [W_succ hi' (by omega)]; exact ih hi'
    · exact ⟨fun _ => ⟨_, rfl⟩, fun h2 => absurd (show (i : Int) = cs.length by omega) h2⟩

def falses : List Bool → Nat
  | [] => 0
  | b :: r => (if b then 0 else 1) + falses r

theorem falses_set : ∀ {B : List Bool} {j : Nat}, B[j]? = some false → falses (B.set j true) + 1 = falses B
  | [], _, h => by simp at h
  | b :: r, 0, h => by simp at h; subst h; simp [falses]; omega
  | b :: r, j + 1, h => by
    have := falses_set (B := r) (j := j) (by simpa using h)
    simp only [List.set_cons_succ, falses]; omega

include hf hst hcs hI hn hg hH in
theorem s14_1 : ∀ (F : Nat) (B : List Bool) (h : Heap) (A : List (Bool × St')), falses B ≤ F → B.length = cs.length → c < h.n → AI H cs.length A → hpAt h c 0 = some (.darr 0 3 (A.map aD)) →
    Wl PP AA F14 f14_K1 (f14_S1 n fs is ts lets c kept locals stack cs (B.map fun b => dB b) h) QO := by
  intro F
  induction F with
  | zero =>
    intro B h A hF hB hc hA ha
    exact w14_1 (s14_2 hf hst hcs hI hn hg hH hB hc hA ha (fun j h' A' hj _ _ _ => by have := falses_set hj; omega) 0 (by omega))
  | succ F ih =>
    intro B h A hF hB hc hA ha
    exact w14_1 (s14_2 hf hst hcs hI hn hg hH hB hc hA ha (fun j h' A' hj h1 h2 h3 => ih _ _ _ (by have := falses_set hj; omega) (by simpa using hB) h1 h2 h3) 0 (by omega))
end
end Am

/- GenRaw: what the program says holds together holds together, says the document. -/
namespace Am
open Go
set_option maxRecDepth 10000

section
variable {fs is ts : List D} {lets n kept locals stack : Int} {cs : List D} {h : Heap}

theorem s14 (hf : ∀ x ∈ fs, IsB x) (hst : stack ≤ 60) (hcs : cs.length ≤ 400) (hcs1 : 1 ≤ cs.length) (hI : ∀ x ∈ cs, IsI' x)
    (hn : 0 ≤ n) (hg : fs[n.toNat]? = some (.agg [dI kept, dI locals, dI stack, .slice 3 cs])) (hC : Cert fs is ts lets n kept locals stack cs) :
    Wc PP AA F14 [.s 4 (.agg [.slice 4 fs, .slice 0 is, .slice 0 ts, dI lets]), vI n] h QO := by
  obtain ⟨H, h0, hH⟩ := hC
  have e : Int.toNat ((cs.length : Nat) : Int) = cs.length := by simp
  refine w14 ⟨hn, _, _, _, _, hg, ?_⟩
  rw [e]
  have hl : ∀ x : D, (List.replicate cs.length x).length = cs.length := fun x => by simp
  refine ⟨by omega, by rw [hl]; omega, hpAt_push_new rfl, by rw [hl]; omega, false, 0, [], ?_, by rw [hl]; omega, ?_⟩
  · rw [List.getElem?_replicate, if_pos (by omega)]
  · have hA : (List.replicate cs.length (.agg [dB false, dI 0, .slice 2 ([])] : D)).set 0 (.agg [dB true, dI 0, .slice 2 ([])]) = ((List.replicate cs.length (false, ((0 : Int), ([] : List Mk)))).set 0 (true, (0, []))).map aD := by
      rw [List.map_set, List.map_replicate]; rfl
    have hB : List.replicate cs.length (dB false : D) = (List.replicate cs.length false).map fun b => dB b := by rw [List.map_replicate]
    rw [hA, hB]
    refine s14_1 hf hst hcs hI hn hg hH _ _ _ _ (Nat.le_refl _) (by simp) (by simp) ⟨by simp, fun j x hx => ?_⟩ (hpAt_put_same rfl)
    by_cases ej : j = 0
    · subst ej
      rw [List.getElem?_set_self (by simp; omega)] at hx
      cases hx
      exact ⟨by simp, fun _ => h0⟩
    · rw [List.getElem?_set_ne (Ne.symm ej), List.getElem?_replicate] at hx
      split at hx
      · cases hx; exact ⟨by simp, fun hx => by cases hx⟩
      · cases hx

theorem s7_1 (hl : fs.length ≤ 274877906944) (hf : ∀ x ∈ fs, IsB x) (hb : fs.all bodyD = true) (hC : CertC fs is ts n) : ∀ j : Nat, j ≤ fs.length → ∀ h : Heap,
    Wl PP AA F7 f7_K1 (f7_S1 fs is ts n j h) (QAl (· = vI 0)) :=
  upto fun j hj ih h => by
    refine w7_1 ⟨fun h1 => ?_, fun h1 => rfl⟩
    have hj' : j < fs.length := by omega
    obtain ⟨a, b, c, d, e, k1, k2⟩ := hf fs[j] (List.getElem_mem hj')
    have e2 : fs[j]? = some (.agg [dI a, dI b, dI c, .slice 3 d]) := by rw [List.getElem?_eq_getElem hj', e]
    have hbd := List.all_eq_true.1 hb _ (List.getElem_mem hj')
    rw [e] at hbd
    obtain ⟨m1, m2, _, m3, m4⟩ := body_le k2 hbd
    refine (s14 (n := j) hf m2 m3 m4 m1 (by omega) (by simpa using e2) (hC j a b c d e2)).mono ?_
    rintro v h' ⟨x, rfl⟩
    refine ⟨x, true, rfl, fun _ => ?_, fun hx => by cases hx⟩
    rw [W_succ hj' hl]
    exact ih hj' h'

/-- The document's answer. -/
theorem s7 (h1 : fs.length ≤ 274877906944) (h2 : is.length ≤ 274877906944) (h3 : ts.length ≤ 274877906944) (hf : ∀ x ∈ fs, IsB x) (hi : ∀ x ∈ is, ∃ a, x = dI a) (ht : ∀ x ∈ ts, ∃ a, x = dS a)
    (hm : mayM fs is ts n = true) (hC : CertC fs is ts n) : Wa PP AA F7 [.s 4 (.agg [.slice 4 fs, .slice 0 is, .slice 0 ts, dI n])] (· = vI 0) := by
  refine w7 ((s13 h1 h2 h3 hf hi ht).eq ⟨_, rfl, fun _ => ?_, fun hx => absurd (hm.symm.trans hx) (by simp)⟩)
  have hb : fs.all bodyD = true := by
    unfold mayM at hm
    simp only [Bool.and_eq_true] at hm
    exact hm.2
  exact s7_1 h1 hf hb hC 0 (by omega) Heap.none
end
end Am

/- GenRaw: what a function's writer keeps. -/
namespace Am
open Go
set_option maxRecDepth 10000

/-- A writer at i, the pool at p, their arrays. -/
structure GW (i p c ci ct : Nat) (h : Heap) (code ints texts : List D) : Prop where
  w : ∃ g, hpAt h i 0 = some (.var (.agg [.ptr (.he p 0) 0 3 0, .sl (.he c g) 3 none])) ∧ hpAt h c g = some (.darr g 3 code)
  pp : ∃ gi gt, hpAt h p 0 = some (.var (.agg [.d (.slice 5 []), .sl (.he ci gi) 0 none, .sl (.he ct gt) 0 none])) ∧ hpAt h ci gi = some (.darr gi 0 ints) ∧ hpAt h ct gt = some (.darr gt 0 texts)
  ne : ci ≠ ct
  il : i < h.n
  pl : p < h.n
  cl : c < h.n
  cil : ci < h.n
  ctl : ct < h.n
  hc : ∀ x ∈ code, IsI x
  hl : code.length ≤ 401
  hi : ∀ x ∈ ints, ∃ a, x = dI a
  ht : ∀ x ∈ texts, ∃ a, x = dS a

/-- All else is as it was. -/
def GF (i p c ci ct : Nat) (h h' : Heap) : Prop := h.n ≤ h'.n ∧ ∀ q g, q < h.n → q ≠ i → q ≠ p → q ≠ c → q ≠ ci → q ≠ ct → hpAt h' q g = hpAt h q g

variable {i p c ci ct : Nat} {h h' h2 : Heap} {code ints texts : List D}

theorem GF.refl : GF i p c ci ct h h := ⟨Nat.le_refl _, fun _ _ _ _ _ _ _ _ => rfl⟩
theorem GF.trans (a : GF i p c ci ct h h') (b : GF i p c ci ct h' h2) : GF i p c ci ct h h2 :=
  ⟨Nat.le_trans a.1 b.1, fun q g h1 h2 h3 h4 h5 h6 => by rw [b.2 q g (Nat.lt_of_lt_of_le h1 a.1) h2 h3 h4 h5 h6, a.2 q g h1 h2 h3 h4 h5 h6]⟩

theorem GW.d (I : GW i p c ci ct h code ints texts) : i ≠ p ∧ i ≠ c ∧ i ≠ ci ∧ i ≠ ct ∧ p ≠ c ∧ p ≠ ci ∧ p ≠ ct ∧ c ≠ ci ∧ c ≠ ct := by
  obtain ⟨g, w1, w2⟩ := I.w
  obtain ⟨gi, gt, p1, p2, p3⟩ := I.pp
  refine ⟨hpAt_ne w1 p1 ?_, hpAt_ne w1 w2 ?_, hpAt_ne w1 p2 ?_, hpAt_ne w1 p3 ?_, hpAt_ne p1 w2 ?_, hpAt_ne p1 p2 ?_, hpAt_ne p1 p3 ?_, hpAt_ne w2 p2 ?_, hpAt_ne w2 p3 ?_⟩ <;> intro e <;> cases e

/-- What is left by a part of gen. -/
def GP (i p c ci ct : Nat) (h : Heap) (code ints texts : List D) (h' : Heap) : Prop :=
  ∃ code' ints' texts', GW i p c ci ct h' code' ints' texts' ∧ code.length ≤ code'.length ∧ ints'.length + texts'.length + code.length ≤ ints.length + texts.length + code'.length ∧ GF i p c ci ct h h'

theorem GP.refl (I : GW i p c ci ct h code ints texts) : GP i p c ci ct h code ints texts h := ⟨_, _, _, I, Nat.le_refl _, Nat.le_refl _, .refl⟩

/-- Code, extended by one. -/
theorem GW.add (I : GW i p c ci ct h code ints texts) {g : Nat} (w1 : hpAt h i 0 = some (.var (.agg [.ptr (.he p 0) 0 3 0, .sl (.he c g) 3 none]))) {x : D} (hx : IsI x) (hl : code.length ≤ 400) :
    GW i p c ci ct ((h.put c (some (.darr (g + 1) 3 (code ++ [x])))).put i (some (.var (.agg [.ptr (.he p 0) 0 3 0, .sl (.he c (g + 1)) 3 none])))) (code ++ [x]) ints texts ∧
    GF i p c ci ct h ((h.put c (some (.darr (g + 1) 3 (code ++ [x])))).put i (some (.var (.agg [.ptr (.he p 0) 0 3 0, .sl (.he c (g + 1)) 3 none])))) := by
  obtain ⟨d1, d2, d3, d4, d5, d6, d7, d8, d9⟩ := I.d
  obtain ⟨gi, gt, p1, p2, p3⟩ := I.pp
  refine ⟨⟨⟨g + 1, hpAt_put_same rfl, ?_⟩, ⟨gi, gt, ?_, ?_, ?_⟩, I.ne, I.il, I.pl, I.cl, I.cil, I.ctl, ?_, by simp; omega, I.hi, I.ht⟩, Nat.le_refl _, fun q g' h1 h2 h3 h4 h5 h6 => ?_⟩
  · rw [hpAt_put_ne d2]; exact hpAt_put_same rfl
  · rw [hpAt_put_ne d1, hpAt_put_ne (Ne.symm d5)]; exact p1
  · rw [hpAt_put_ne d3, hpAt_put_ne d8]; exact p2
  · rw [hpAt_put_ne d4, hpAt_put_ne d9]; exact p3
  · intro y hy
    rcases List.mem_append.1 hy with hy | hy
    · exact I.hc y hy
    · simp at hy; subst hy; exact hx
  · rw [hpAt_put_ne (Ne.symm h2), hpAt_put_ne (Ne.symm h4)]

/-- put. -/
theorem s16 (I : GW i p c ci ct h code ints texts) (o : Int) {l : List D} (hl : ∀ x ∈ l, ∃ a, x = dI a) :
    Wc PP AA F16 [.ptr (.he i 0) 0 2 0, vI o, .d (.slice 0 l)] h fun v h' => ∃ (k : Nat) (code' : List D), v = vI k ∧ GW i p c ci ct h' code' ints texts ∧ GF i p c ci ct h h' ∧ code'.length = k + 1 ∧ code.length ≤ code'.length ∧
      (code.length ≤ 400 → code'.length = code.length + 1) := by
  obtain ⟨d1, d2, d3, d4, d5, d6, d7, d8, d9⟩ := I.d
  obtain ⟨g, w1, w2⟩ := I.w
  have hcl := I.hl
  have wl : ∀ n : Nat, 1 ≤ n → n ≤ 402 → W ((n : Int) - 1) = ((n - 1 : Nat) : Int) := fun n h1 h2 => by rw [W_id (by omega) (by omega)]; omega
  have full : (400 : Int) < ((code.length : Nat) : Int) → ∃ (k : Nat) (code' : List D), vI (W (((code.length : Nat) : Int) - 1)) = vI k ∧ GW i p c ci ct h code' ints texts ∧ GF i p c ci ct h h ∧ code'.length = k + 1 ∧ code.length ≤ code'.length ∧
      (code.length ≤ 400 → code'.length = code.length + 1) := fun hf => ⟨code.length - 1, code, by rw [wl _ (by omega) (by omega)], I, .refl, by omega, Nat.le_refl _, fun h => absurd h (by omega)⟩
  have fin : ∀ x : D, IsI x → ((code.length : Nat) : Int) ≤ 400 → ∃ (k : Nat) (code' : List D), vI (W ((((code ++ [x] : List D).length : Nat) : Int) - 1)) = vI k ∧ GW i p c ci ct ((h.put c (some (.darr (g + 1) 3 (code ++ [x])))).put i (some (.var (.agg [.ptr (.he p 0) 0 3 0, .sl (.he c (g + 1)) 3 none])))) code' ints texts ∧
      GF i p c ci ct h ((h.put c (some (.darr (g + 1) 3 (code ++ [x])))).put i (some (.var (.agg [.ptr (.he p 0) 0 3 0, .sl (.he c (g + 1)) 3 none])))) ∧ code'.length = k + 1 ∧ code.length ≤ code'.length ∧ (code.length ≤ 400 → code'.length = code.length + 1) := fun x hx hle => by
    obtain ⟨g1, g2⟩ := I.add w1 hx (by omega)
    have e : (code ++ [x]).length = code.length + 1 := by simp
    exact ⟨code.length, code ++ [x], by rw [e, wl _ (by omega) (by omega)]; rfl, g1, g2, e, by omega, fun _ => e⟩
  have q1 : ∀ x : D, hpAt (h.put c (some (.darr (g + 1) 3 (code ++ [x])))) i 0 = some (.var (.agg [.ptr (.he p 0) 0 3 0, .sl (.he c g) 3 none])) := fun x => by rw [hpAt_put_ne (Ne.symm d2)]; exact w1
  have q3 : ∀ x : D, hpAt ((h.put c (some (.darr (g + 1) 3 (code ++ [x])))).put i (some (.var (.agg [.ptr (.he p 0) 0 3 0, .sl (.he c (g + 1)) 3 none])))) c (g + 1) = some (.darr (g + 1) 3 (code ++ [x])) := fun x => by
    rw [hpAt_put_ne d2]; exact hpAt_put_same rfl
  refine w16 ⟨fun h1 => ?_, fun h1 => ?_⟩
  · obtain ⟨a, ha⟩ := hl l[0] (List.getElem_mem (by omega))
    refine ⟨a, by rw [List.getElem?_eq_getElem (by omega), ha], fun h2 => ?_, fun h2 => ?_⟩
    · obtain ⟨b, hb⟩ := hl l[1] (List.getElem_mem (by omega))
      exact ⟨b, by rw [List.getElem?_eq_getElem (by omega), hb], _, _, _, w1, _, w2, full, fun h3 => ⟨by omega, q1 _, hpAt_put_same rfl, q3 _, fin _ ⟨_, _, _, rfl⟩ h3⟩⟩
    · exact ⟨_, _, _, w1, _, w2, full, fun h3 => ⟨by omega, q1 _, hpAt_put_same rfl, q3 _, fin _ ⟨_, _, _, rfl⟩ h3⟩⟩
  · exact ⟨_, _, _, w1, _, w2, full, fun h3 => ⟨by omega, q1 _, hpAt_put_same rfl, q3 _, fin _ ⟨_, _, _, rfl⟩ h3⟩⟩
end Am

/- GenRaw: parts of gen: the pool, jumps, the Kids. -/
namespace Am
open Go
set_option maxRecDepth 10000

variable {i p c ci ct : Nat} {h h' h0 h1 h2 : Heap} {code ints texts code0 ints0 texts0 : List D} {m : Nat}

/-- What is left, with at least m instructions. -/
def GM (i p c ci ct : Nat) (h0 : Heap) (code0 ints0 texts0 : List D) (m : Nat) (h' : Heap) : Prop :=
  ∃ code' ints' texts', GW i p c ci ct h' code' ints' texts' ∧ code0.length ≤ code'.length ∧ ints'.length + texts'.length + code0.length ≤ ints0.length + texts0.length + code'.length ∧ GF i p c ci ct h0 h' ∧ m ≤ code'.length

theorem GM.refl (I : GW i p c ci ct h code ints texts) : GM i p c ci ct h code ints texts 0 h := ⟨_, _, _, I, Nat.le_refl _, Nat.le_refl _, .refl, Nat.zero_le _⟩

theorem GM.put (G : GM i p c ci ct h0 code0 ints0 texts0 m h1) (o : Int) {l : List D} (hl : ∀ x ∈ l, ∃ a, x = dI a) :
    Wc PP AA F16 [.ptr (.he i 0) 0 2 0, vI o, .d (.slice 0 l)] h1 fun v h2 => ∃ k : Nat, v = vI k ∧ m ≤ k + 1 ∧ GM i p c ci ct h0 code0 ints0 texts0 (k + 1) h2 := by
  obtain ⟨code', ints', texts', I, g1, g2, g3, g4⟩ := G
  refine (s16 I o hl).mono ?_
  rintro v h2 ⟨k, code2, rfl, I2, f2, e1, e2, _⟩
  exact ⟨k, rfl, by omega, code2, ints', texts', I2, by omega, by omega, g3.trans f2, by omega⟩

/-- here. -/
theorem s37_1 {l : List D} (hl : l.length ≤ 274877906944) (hk : ∀ x ∈ l, ∃ k : Nat, x = dI k ∧ k < m) : ∀ j : Nat, j ≤ l.length → ∀ h1, GM i p c ci ct h0 code0 ints0 texts0 m h1 →
    Wl PP AA F37 f37_K1 (f37_S1 i l l.length j h1) fun v h2 => v = .tuple [] ∧ GM i p c ci ct h0 code0 ints0 texts0 m h2 :=
  upto fun j hj ih h1 G => by
    refine w37_1 ⟨fun h => ?_, fun h => ⟨rfl, G⟩⟩
    have hj' : j < l.length := by omega
    obtain ⟨k, e, hk'⟩ := hk l[j] (List.getElem_mem hj')
    obtain ⟨code', ints', texts', I, g1, g2, g3, g4⟩ := G
    obtain ⟨d1, d2, d3, d4, d5, d6, d7, d8, d9⟩ := I.d
    obtain ⟨g, w1, w2⟩ := I.w
    obtain ⟨gi, gt, p1, p2, p3⟩ := I.pp
    have hkc : k < code'.length := by omega
    obtain ⟨o, a, b, ei⟩ := I.hc code'[k] (List.getElem_mem hkc)
    have next : ∀ x : D, IsI x → Wl PP AA F37 f37_K1 (f37_S1 i l l.length (W ((j : Int) + 1)) (h1.put c (some (.darr g 3 (code'.set (Int.toNat (k : Int)) x))))) fun v h2 => v = .tuple [] ∧ GM i p c ci ct h0 code0 ints0 texts0 m h2 := fun x hx => by
      rw [W_succ hj' hl]
      refine ih hj' _ ⟨code'.set (Int.toNat (k : Int)) x, ints', texts', ⟨⟨g, ?_, hpAt_put_same rfl⟩, ⟨gi, gt, ?_, ?_, ?_⟩, I.ne, I.il, I.pl, I.cl, I.cil, I.ctl, ?_, by rw [List.length_set]; exact I.hl, I.hi, I.ht⟩, by rw [List.length_set]; exact g1, by rw [List.length_set]; exact g2, g3.trans ⟨Nat.le_refl _, fun q g' h1 h2 h3 h4 h5 h6 => ?_⟩, by rw [List.length_set]; exact g4⟩
      · rw [hpAt_put_ne (Ne.symm d2)]; exact w1
      · rw [hpAt_put_ne (Ne.symm d5)]; exact p1
      · rw [hpAt_put_ne d8]; exact p2
      · rw [hpAt_put_ne d9]; exact p3
      · intro y hy
        rcases List.mem_or_eq_of_mem_set hy with hy | hy
        · exact I.hc y hy
        · subst hy; exact hx
      · rw [hpAt_put_ne (Ne.symm h4)]
    refine ⟨by omega, k, by rw [getI hj', e], _, _, _, w1, by omega, _, w2, by simpa using hkc, o, a, b, by simp [hkc, ei], fun _ => next _ ⟨_, _, _, rfl⟩, fun _ => next _ ⟨_, _, _, rfl⟩⟩

theorem GM.here {l : List D} (G : GM i p c ci ct h0 code0 ints0 texts0 m h1) (hl : l.length ≤ 274877906944) (hk : ∀ x ∈ l, ∃ k : Nat, x = dI k ∧ k < m) :
    Wc PP AA F37 [.ptr (.he i 0) 0 2 0, .d (.slice 0 l)] h1 fun v h2 => v = .tuple [] ∧ GM i p c ci ct h0 code0 ints0 texts0 m h2 :=
  w37 (s37_1 hl hk 0 (by omega) h1 G)

/-- slices.Index. -/
theorem s35h_1 {l : List D} {n : Int} {q g : Nat} (hl : l.length ≤ 274877906944) (ha : hpAt h q g = some (.darr g 0 l)) (hi : ∀ x ∈ l, ∃ a, x = dI a) : ∀ j : Nat, j ≤ l.length →
    Wl PP AA F35 f35h_K1 (f35h_S1 q g n l.length j h) fun v h' => (∃ k : Int, v = vI k) ∧ h' = h :=
  upto fun j hj ih => by
    refine w35h_1 ⟨fun h1 => ?_, fun h1 => ⟨⟨-1, rfl⟩, rfl⟩⟩
    have hj' : j < l.length := by omega
    obtain ⟨a, e⟩ := hi l[j] (List.getElem_mem hj')
    refine ⟨by omega, _, ha, by simpa using hj', a, by rw [getI hj', e], fun _ => ⟨⟨_, rfl⟩, rfl⟩, fun _ => ?_⟩
    rw [W_succ hj' hl]; exact ih hj'
theorem s35h {l : List D} {n : Int} {q g : Nat} (hl : l.length ≤ 274877906944) (ha : hpAt h q g = some (.darr g 0 l)) (hi : ∀ x ∈ l, ∃ a, x = dI a) :
    Wn PP AA F35 [.sl (.he q g) 0 none, vI n] h fun v => ∃ k : Int, v = vI k := by
  obtain ⟨v, h', a, b, rfl⟩ := w35h ⟨l, ha, s35h_1 (n := n) hl ha hi 0 (by omega)⟩
  exact ⟨v, a, b⟩
theorem s36_1 {l : List D} {s : ByteArray} {q g : Nat} (hl : l.length ≤ 274877906944) (ha : hpAt h q g = some (.darr g 0 l)) (hi : ∀ x ∈ l, ∃ a, x = dS a) : ∀ j : Nat, j ≤ l.length →
    Wl PP AA F36 f36_K1 (f36_S1 q g s l.length j h) fun v h' => (∃ k : Int, v = vI k) ∧ h' = h :=
  upto fun j hj ih => by
    refine w36_1 ⟨fun h1 => ?_, fun h1 => ⟨⟨-1, rfl⟩, rfl⟩⟩
    have hj' : j < l.length := by omega
    obtain ⟨a, e⟩ := hi l[j] (List.getElem_mem hj')
    refine ⟨by omega, _, ha, by simpa using hj', a, by rw [getI hj', e], fun _ => ⟨⟨_, rfl⟩, rfl⟩, fun _ => ?_⟩
    rw [W_succ hj' hl]; exact ih hj'
theorem s36 {l : List D} {s : ByteArray} {q g : Nat} (hl : l.length ≤ 274877906944) (ha : hpAt h q g = some (.darr g 0 l)) (hi : ∀ x ∈ l, ∃ a, x = dS a) :
    Wn PP AA F36 [.sl (.he q g) 0 none, .d (dS s)] h fun v => ∃ k : Int, v = vI k := by
  obtain ⟨v, h', a, b, rfl⟩ := w36 ⟨l, ha, s36_1 (s := s) hl ha hi 0 (by omega)⟩
  exact ⟨v, a, b⟩

/-- place: the pool has at most one more. -/
theorem s17 (I : GW i p c ci ct h code ints texts) (hb : ints.length ≤ 100000) (n : Int) :
    Wc PP AA F17 [.ptr (.he p 0) 0 3 1, vI n] h fun v h' => ∃ (k : Int) (ints' : List D), v = vI k ∧ GW i p c ci ct h' code ints' texts ∧ GF i p c ci ct h h' ∧ ints'.length ≤ ints.length + 1 := by
  obtain ⟨d1, d2, d3, d4, d5, d6, d7, d8, d9⟩ := I.d
  obtain ⟨g, w1, w2⟩ := I.w
  obtain ⟨gi, gt, p1, p2, p3⟩ := I.pp
  refine w17 ⟨_, _, _, _, _, p1, (s35h (by omega) p2 I.hi).mono ?_⟩
  rintro v ⟨k, rfl⟩
  refine ⟨k, rfl, fun _ => ⟨_, p2, by omega, ?_, _, ints ++ [dI n], rfl, ⟨⟨g, ?_, ?_⟩, ⟨gi + 1, gt, hpAt_put_same rfl, ?_, ?_⟩, I.ne, I.il, I.pl, I.cl, I.cil, I.ctl, I.hc, I.hl, ?_, I.ht⟩, ⟨Nat.le_refl _, fun q g' h1 h2 h3 h4 h5 h6 => ?_⟩, by simp⟩, fun _ => ⟨k, ints, rfl, I, .refl, by omega⟩⟩
  · rw [hpAt_put_ne (Ne.symm d6)]; exact p1
  · rw [hpAt_put_ne (Ne.symm d1), hpAt_put_ne (Ne.symm d3)]; exact w1
  · rw [hpAt_put_ne d5, hpAt_put_ne (Ne.symm d8)]; exact w2
  · rw [hpAt_put_ne d6]; exact hpAt_put_same rfl
  · rw [hpAt_put_ne d7, hpAt_put_ne I.ne]; exact p3
  · intro y hy
    rcases List.mem_append.1 hy with hy | hy
    · exact I.hi y hy
    · simp at hy; exact ⟨n, hy⟩
  · rw [hpAt_put_ne (Ne.symm h3), hpAt_put_ne (Ne.symm h5)]

theorem s18 (I : GW i p c ci ct h code ints texts) (hb : texts.length ≤ 100000) (s : ByteArray) :
    Wc PP AA F18 [.ptr (.he p 0) 0 3 2, .d (dS s)] h fun v h' => ∃ (k : Int) (texts' : List D), v = vI k ∧ GW i p c ci ct h' code ints texts' ∧ GF i p c ci ct h h' ∧ texts'.length ≤ texts.length + 1 := by
  obtain ⟨d1, d2, d3, d4, d5, d6, d7, d8, d9⟩ := I.d
  obtain ⟨g, w1, w2⟩ := I.w
  obtain ⟨gi, gt, p1, p2, p3⟩ := I.pp
  refine w18 ⟨_, _, _, _, _, p1, (s36 (by omega) p3 I.ht).mono ?_⟩
  rintro v ⟨k, rfl⟩
  refine ⟨k, rfl, fun _ => ⟨_, p3, by omega, ?_, _, texts ++ [dS s], rfl, ⟨⟨g, ?_, ?_⟩, ⟨gi, gt + 1, hpAt_put_same rfl, ?_, ?_⟩, I.ne, I.il, I.pl, I.cl, I.cil, I.ctl, I.hc, I.hl, I.hi, ?_⟩, ⟨Nat.le_refl _, fun q g' h1 h2 h3 h4 h5 h6 => ?_⟩, by simp⟩, fun _ => ⟨k, texts, rfl, I, .refl, by omega⟩⟩
  · rw [hpAt_put_ne (Ne.symm d7)]; exact p1
  · rw [hpAt_put_ne (Ne.symm d1), hpAt_put_ne (Ne.symm d4)]; exact w1
  · rw [hpAt_put_ne d5, hpAt_put_ne (Ne.symm d9)]; exact w2
  · rw [hpAt_put_ne d6, hpAt_put_ne (Ne.symm I.ne)]; exact p2
  · rw [hpAt_put_ne d7]; exact hpAt_put_same rfl
  · intro y hy
    rcases List.mem_append.1 hy with hy | hy
    · exact I.ht y hy
    · simp at hy; exact ⟨s, hy⟩
  · rw [hpAt_put_ne (Ne.symm h3), hpAt_put_ne (Ne.symm h6)]
end Am

/- GenRaw: gen goes through a core. -/
namespace Am
open Go
set_option maxRecDepth 10000

abbrev coreD (k n : Int) (s : ByteArray) (l : List D) (r : Int) (p c t b : List D) : D := .agg [dI k, dI n, dS s, .slice 9 l, dI r, .slice 0 p, .slice 6 c, .slice 4 t, .slice 0 b]
abbrev zeroC : D := coreD 0 0 (mkStr []) [] 0 [] [] [] []

variable {i p c ci ct : Nat} {h h' h0 h1 h2 : Heap} {code ints texts code0 ints0 texts0 : List D} {m m' : Nat}

/-- The pool's bound. -/
def PB (code0 ints0 texts0 : List D) : Prop := ints0.length + texts0.length ≤ 10000 + code0.length

theorem GM.mono (G : GM i p c ci ct h0 code0 ints0 texts0 m h1) (hm : m' ≤ m) : GM i p c ci ct h0 code0 ints0 texts0 m' h1 := by
  obtain ⟨a, b, d, e, f, g, j, k⟩ := G
  exact ⟨a, b, d, e, f, g, j, by omega⟩

theorem putC (G : GM i p c ci ct h0 code0 ints0 texts0 m h1) {o : Int} {l : List D} {Q : Int → Heap → Prop} (q : ∀ (k : Nat) h2, m ≤ k + 1 → GM i p c ci ct h0 code0 ints0 texts0 (k + 1) h2 → Q k h2) (hl : ∀ x ∈ l, ∃ a, x = dI a) :
    Wc PP AA F16 [.ptr (.he i 0) 0 2 0, vI o, .d (.slice 0 l)] h1 fun v h2 => ∃ n, v = vI n ∧ Q n h2 :=
  (G.put o hl).mono fun _ _ ⟨k, e, hk, G2⟩ => ⟨k, e, q k _ hk G2⟩

/-- The code is not changed but by GM; nothing is known of the rest. -/
theorem hereC (G : GM i p c ci ct h0 code0 ints0 texts0 m h1) {l : List D} {Q : Heap → Prop} (q : ∀ h2, GM i p c ci ct h0 code0 ints0 texts0 m h2 → Q h2) (hl : l.length ≤ 274877906944) (hk : ∀ x ∈ l, ∃ k : Nat, x = dI k ∧ k < m) :
    Wc PP AA F37 [.ptr (.he i 0) 0 2 0, .d (.slice 0 l)] h1 fun v h2 => v = .tuple [] ∧ Q h2 :=
  (G.here hl hk).mono fun _ _ ⟨e, G2⟩ => ⟨e, q _ G2⟩

/-- A core's shape. -/
def IsC (x : D) : Prop := ∃ k n s l r p c t b, x = coreD k n s l r p c t b

/-- exp keeps the writer. -/
def E (i p c ci ct : Nat) (x : D) : Prop := ∀ (h0 : Heap) (code0 ints0 texts0 : List D) (m : Nat) (h1 : Heap) (b : Bool), PB code0 ints0 texts0 → GM i p c ci ct h0 code0 ints0 texts0 m h1 →
  Wc PP AA F8 [.ptr (.he i 0) 0 2 0, .s 9 x, vBool b] h1 fun v h2 => v = .tuple [] ∧ GM i p c ci ct h0 code0 ints0 texts0 m h2

/-- Binds of a core. -/
def IsBinds (l : List D) : Prop := l.length ≤ 3 ∧ ∀ b ∈ l, ∃ r, b = .slice 2 r ∧ r.length ≤ 3 ∧ ∀ y ∈ r, ∃ n q, y = .agg [dI n, .slice 0 q] ∧ q.length ≤ 3 ∧ ∀ z ∈ q, ∃ a, z = dI a

/-- Each Kid can be gone through. -/
def KE (i p c ci ct : Nat) (l : List D) : Prop := l.length ≤ 4 ∧ ∀ x ∈ l, IsC x ∧ E i p c ci ct x

section
variable {k n r : Int} {s : ByteArray} {l pa ca tr bi : List D}

theorem s20 (hl : KE i p c ci ct l) (hz : E i p c ci ct zeroC) (j : Int) (hj : 0 ≤ j) :
    Wa PP AA F20 [.s 9 (coreD k n s l r pa ca tr bi), vI j] fun v => ∃ n1 n2 s3 l4 n5 l6 l7 l8 l9, v = .s 9 (coreD n1 n2 s3 l4 n5 l6 l7 l8 l9) ∧ E i p c ci ct (coreD n1 n2 s3 l4 n5 l6 l7 l8 l9) := by
  refine w20 ⟨fun h => ⟨hj, ?_⟩, fun _ => ⟨_, _, _, _, _, _, _, _, _, rfl, hz⟩⟩
  have hj' : j.toNat < l.length := by omega
  obtain ⟨⟨n1, n2, s3, l4, n5, l6, l7, l8, l9, e⟩, w⟩ := hl.2 l[j.toNat] (List.getElem_mem hj')
  rw [e] at w
  exact ⟨n1, n2, s3, l4, n5, l6, l7, l8, l9, by rw [List.getElem?_eq_getElem hj', e], _, _, _, _, _, _, _, _, _, rfl, w⟩

theorem kidC (hl : KE i p c ci ct l) (hz : E i p c ci ct zeroC) (hb : PB code0 ints0 texts0) (G : GM i p c ci ct h0 code0 ints0 texts0 m h1) {j : Int} (hj : 0 ≤ j) {b : Bool} {Q : Heap → Prop} (q : ∀ h2, GM i p c ci ct h0 code0 ints0 texts0 m h2 → Q h2) :
    Wa PP AA F20 [.s 9 (coreD k n s l r pa ca tr bi), vI j] fun v => ∃ n1 n2 s3 l4 n5 l6 l7 l8 l9, v = .s 9 (coreD n1 n2 s3 l4 n5 l6 l7 l8 l9) ∧
      Wc PP AA F8 [.ptr (.he i 0) 0 2 0, .s 9 (coreD n1 n2 s3 l4 n5 l6 l7 l8 l9), vBool b] h1 fun v h2 => v = .tuple [] ∧ Q h2 :=
  (s20 hl hz j hj).mono fun _ ⟨_, _, _, _, _, _, _, _, _, e, w⟩ => ⟨_, _, _, _, _, _, _, _, _, e, (w _ _ _ _ _ _ _ hb G).mono fun _ _ ⟨e2, G2⟩ => ⟨e2, q _ G2⟩⟩

theorem i0 : ∀ x ∈ ([] : List D), ∃ a, x = dI a := by simp
theorem i1 (n : Int) : ∀ x ∈ [dI n], ∃ a, x = dI a := by simp
theorem i2 (n q : Int) : ∀ x ∈ [dI n, dI q], ∃ a, x = dI a := by simp
theorem j1 {k m : Nat} (h : k < m) : ∀ x ∈ [dI (k : Int)], ∃ q : Nat, x = dI q ∧ q < m := by
  intro x hx; simp at hx; exact ⟨k, hx, h⟩

/-- exp's Kids. -/
theorem s21 (hl : KE i p c ci ct l) (hb : PB code0 ints0 texts0) (G : GM i p c ci ct h0 code0 ints0 texts0 m h1) :
    Wc PP AA F21 [.ptr (.he i 0) 0 2 0, .s 9 (coreD k n s l r pa ca tr bi)] h1 fun v h2 => v = .tuple [] ∧ GM i p c ci ct h0 code0 ints0 texts0 m h2 := by
  have lp : ∀ j : Nat, j ≤ l.length → ∀ h1, GM i p c ci ct h0 code0 ints0 texts0 m h1 →
      Wl PP AA F21 f21_K1 (f21_S1 i l l.length j h1) fun v h2 => v = .tuple [] ∧ GM i p c ci ct h0 code0 ints0 texts0 m h2 :=
    upto fun j hj ih h1 G => by
      refine w21_1 ⟨fun h => ⟨by omega, ?_⟩, fun h => ⟨rfl, G⟩⟩
      have hj' : j < l.length := by omega
      obtain ⟨⟨n1, n2, s3, l4, n5, l6, l7, l8, l9, e⟩, w⟩ := hl.2 l[j] (List.getElem_mem hj')
      rw [e] at w
      refine ⟨n1, n2, s3, l4, n5, l6, l7, l8, l9, by rw [getI hj', e], (w _ _ _ _ _ _ _ hb G).mono ?_⟩
      rintro v h2 ⟨rfl, G2⟩
      refine ⟨rfl, ?_⟩
      rw [W_succ hj' (by have := hl.1; omega)]
      exact ih hj' _ G2
  exact w21 (lp 0 (by omega) _ G)

theorem kidsC (hl : KE i p c ci ct l) (hb : PB code0 ints0 texts0) (G : GM i p c ci ct h0 code0 ints0 texts0 m h1) {Q : Heap → Prop} (q : ∀ h2, GM i p c ci ct h0 code0 ints0 texts0 m h2 → Q h2) :
    Wc PP AA F21 [.ptr (.he i 0) 0 2 0, .s 9 (coreD k n s l r pa ca tr bi)] h1 fun v h2 => v = .tuple [] ∧ Q h2 :=
  (s21 hl hb G).mono fun _ _ ⟨e, G2⟩ => ⟨e, q _ G2⟩

variable (hl : KE i p c ci ct l) (hz : E i p c ci ct zeroC) (hb : PB code0 ints0 texts0) (G : GM i p c ci ct h0 code0 ints0 texts0 m h1)

include hl hb G in
theorem s23 : Wc PP AA F23 [.ptr (.he i 0) 0 2 0, .s 9 (coreD k n s l r pa ca tr bi)] h1 fun v h2 => v = .tuple [] ∧ GM i p c ci ct h0 code0 ints0 texts0 m h2 := by
  refine w23 (kidsC hl hb G fun h2 G2 => ?_)
  have fin : ∀ (k : Nat) h2, m ≤ k + 1 → GM i p c ci ct h0 code0 ints0 texts0 (k + 1) h2 → (V.tuple [] = .tuple [] ∧ GM i p c ci ct h0 code0 ints0 texts0 m h2) := fun k h2 hk G2 => ⟨rfl, G2.mono hk⟩
  have ss : ∀ {a b : Int}, a ≠ b → sameKey (.int .i64 a) (.int .i64 b) = some false := fun {a b} h => by simp [sameKey, h]
  refine ⟨fun _ => putC G2 fin i0, fun a1 => ⟨fun _ => putC G2 fin i0, fun a2 => ⟨fun _ => putC G2 fin i0, fun a3 => ⟨fun _ => putC G2 fin i0, fun a4 => ⟨fun _ => putC G2 fin i0, fun a5 => ⟨fun _ => putC G2 fin i0, fun a6 => ⟨fun _ => putC G2 fin i0, fun a7 => ⟨fun _ => putC G2 fin i0, fun a8 => ⟨?_, fun _ => putC G2 fin (i1 _), fun b1 => ⟨fun _ => putC G2 fin (i1 _), fun b2 => ⟨fun _ => putC G2 fin (i1 _), fun b3 => ⟨fun _ => putC G2 fin (i1 _), fun b4 => ⟨?_, fun _ => putC G2 fin (i2 _ _), fun c1 => ⟨fun _ => putC G2 fin (i2 _ _), fun c2 => ⟨?_, putC G2 fin (i2 _ _)⟩⟩⟩⟩⟩⟩⟩⟩⟩⟩⟩⟩⟩⟩⟩
  · simp [cK39, cL39, findKey, ss a1, ss a2, ss a3, ss a4, ss a5, ss a6, ss a7, ss a8]
  · simp [cK40, cL40, findKey, ss b1, ss b2, ss b3, ss b4]
  · simp [cK41, findKey, ss c1, ss c2]

include hl hz hb G in
theorem s30 {b : Bool} : Wc PP AA F30 [.ptr (.he i 0) 0 2 0, .s 9 (coreD k n s l r pa ca tr bi), vBool b] h1 fun v h2 => v = .tuple [] ∧ GM i p c ci ct h0 code0 ints0 texts0 m h2 :=
  w30 (kidC hl hz hb G (by omega) fun h2 G2 => putC G2 (fun k h3 hk G3 => kidC hl hz hb G3 (by omega) fun h4 G4 => ⟨rfl, G4.mono hk⟩) (i1 _))

include hl hz hb G in
theorem s31 {b : Bool} : Wc PP AA F31 [.ptr (.he i 0) 0 2 0, .s 9 (coreD k n s l r pa ca tr bi), vBool b] h1 fun v h2 => v = .tuple [] ∧ GM i p c ci ct h0 code0 ints0 texts0 m h2 :=
  w31 (kidC hl hz hb G (by omega) fun h2 G2 => (s20 hl hz 0 (by omega)).mono fun _ ⟨_, _, _, _, _, _, _, _, _, e, w⟩ => ⟨_, _, _, _, _, _, _, _, _, e,
    fun _ => kidC hl hz hb G2 (by omega) fun h4 G4 => ⟨rfl, G4⟩, fun _ => putC G2 (fun k h3 hk G3 => kidC hl hz hb G3 (by omega) fun h4 G4 => ⟨rfl, G4.mono hk⟩) i0⟩)

include hl hz hb G in
theorem s32 {b : Bool} : Wc PP AA F32 [.ptr (.he i 0) 0 2 0, .s 9 (coreD k n s l r pa ca tr bi), vBool b] h1 fun v h2 => v = .tuple [] ∧ GM i p c ci ct h0 code0 ints0 texts0 m h2 :=
  w32 (kidC hl hz hb G (by omega) fun h2 G2 => putC G2 (fun k h3 hk G3 => kidC hl hz hb G3 (by omega) fun h4 G4 =>
    ⟨fun _ => hereC G4 (fun h5 G5 => kidC hl hz hb G5 (by omega) fun h6 G6 => hereC G6 (fun h7 G7 => ⟨rfl, G7.mono hk⟩) (by simp) (by simp)) (by simp) (j1 (by omega)),
     fun _ => putC G4 (fun k2 h5 hk2 G5 => hereC G5 (fun h6 G6 => kidC hl hz hb G6 (by omega) fun h7 G7 => hereC G7 (fun h8 G8 => ⟨rfl, G8.mono (by omega)⟩) (by simp) (j1 (by omega))) (by simp) (j1 (by omega))) i0⟩) i0)

include hl hb G in
theorem s34 {b : Bool} : Wc PP AA F34 [.ptr (.he i 0) 0 2 0, .s 9 (coreD k n s l r pa ca tr bi), vBool b] h1 fun v h2 => v = .tuple [] ∧ GM i p c ci ct h0 code0 ints0 texts0 m h2 :=
  w34 (kidsC hl hb G fun h2 G2 => ⟨fun _ => putC G2 (fun k h3 hk G3 => ⟨rfl, G3.mono hk⟩) i0, fun _ => putC G2 (fun k h3 hk G3 => ⟨rfl, G3.mono hk⟩) i0⟩)

include hl hz hb G in
theorem s19 {o1 o2 : Int} {b : Bool} : Wc PP AA F19 [.ptr (.he i 0) 0 2 0, .s 9 (coreD k n s l r pa ca tr bi), vI o1, vI o2, vBool b] h1 fun v h2 => v = .tuple [] ∧ GM i p c ci ct h0 code0 ints0 texts0 m h2 :=
  w19 (putC G (fun k1 h2 hk1 G2 => kidC hl hz hb G2 (by omega) fun h3 G3 => putC G3 (fun k2 h4 hk2 G4 => putC G4 (fun k3 h5 hk3 G5 => hereC G5 (fun h6 G6 =>
    ⟨fun _ => putC G6 (fun k4 h7 hk4 G7 => kidC hl hz hb G7 (by omega) fun h8 G8 => hereC G8 (fun h9 G9 => ⟨rfl, G9.mono (by omega)⟩) (by simp) (j1 (by omega))) (i1 _),
     fun _ => kidC hl hz hb G6 (by omega) fun h8 G8 => hereC G8 (fun h9 G9 => ⟨rfl, G9.mono (by omega)⟩) (by simp) (j1 (by omega))⟩) (by simp) (j1 (by omega))) i0) i0) i0)

include G in
theorem s56 {o : Int} {l : List D} (hl : l.length ≤ 3) (hi : ∀ z ∈ l, ∃ a, z = dI a) : Wc PP AA F56 [.ptr (.he i 0) 0 2 0, vI o, .d (.slice 0 l)] h1 fun v h2 => v = .tuple [] ∧ GM i p c ci ct h0 code0 ints0 texts0 m h2 := by
  have lp : ∀ j : Nat, j ≤ l.length → ∀ h1, GM i p c ci ct h0 code0 ints0 texts0 m h1 →
      Wl PP AA F56 f56_K1 (f56_S1 i l l.length j h1) fun v h2 => v = .tuple [] ∧ GM i p c ci ct h0 code0 ints0 texts0 m h2 :=
    upto fun j hj ih h1 G => by
      refine w56_1 ⟨fun h => ⟨by omega, ?_⟩, fun h => ⟨rfl, G⟩⟩
      have hj' : j < l.length := by omega
      obtain ⟨a, e⟩ := hi l[j] (List.getElem_mem hj')
      refine ⟨a, by rw [getI hj', e], putC G (fun k h2 hk G2 => ?_) (i1 _)⟩
      rw [W_succ hj' (by omega)]
      exact ih hj' _ (G2.mono hk)
  exact w56 (putC G (fun k h2 hk G2 => lp 0 (by omega) _ (G2.mono hk)) (i1 _))
end
end Am

/- GenRaw: gen goes through a match, and any core. -/
namespace Am
open Go
set_option maxRecDepth 10000

variable {i p c ci ct : Nat} {h h' h0 h1 h2 : Heap} {code ints texts code0 ints0 texts0 : List D} {m m' : Nat}

/-- A place that is none of the writer's. -/
structure Off (i p c ci ct q : Nat) (h : Heap) : Prop where
  a : q < h.n
  b : q ≠ i
  d : q ≠ p
  e : q ≠ c
  f : q ≠ ci
  g : q ≠ ct

theorem Off.keep {q g : Nat} (o : Off i p c ci ct q h) (F : GF i p c ci ct h h') : hpAt h' q g = hpAt h q g := F.2 q g o.a o.b o.d o.e o.f o.g
theorem Off.mv {q : Nat} (o : Off i p c ci ct q h) (F : GF i p c ci ct h h') : Off i p c ci ct q h' := ⟨Nat.lt_of_lt_of_le o.a F.1, o.b, o.d, o.e, o.f, o.g⟩

/-- Jumps that are in code. -/
def Js (l : List D) (m : Nat) : Prop := l.length ≤ 1000 ∧ ∀ x ∈ l, ∃ k : Nat, x = dI k ∧ k < m
theorem Js.mono {l : List D} (j : Js l m) (h : m ≤ m') : Js l m' := ⟨j.1, fun x hx => by obtain ⟨k, e, hk⟩ := j.2 x hx; exact ⟨k, e, by omega⟩⟩

/-- Rows: where one goes to each. -/
def RW (i p c ci ct mm : Nat) (h : Heap) (m : Nat) : Prop := Off i p c ci ct mm h ∧ ∃ ks vs, hpAt h mm 0 = some (.map ks vs) ∧ ∀ j : Int, findKey (.int .i64 j) ks vs = some none ∨
  ∃ q g l, findKey (.int .i64 j) ks vs = some (some (.sl (.he q g) 0 none)) ∧ Off i p c ci ct q h ∧ hpAt h q g = some (.darr g 0 l) ∧ Js l m

theorem RW.mv {mm : Nat} (R : RW i p c ci ct mm h m) (F : GF i p c ci ct h h') (hm : m ≤ m') : RW i p c ci ct mm h' m' := by
  obtain ⟨o, ks, vs, e, r⟩ := R
  refine ⟨o.mv F, ks, vs, by rw [o.keep F]; exact e, fun j => ?_⟩
  rcases r j with r | ⟨q, g, l, r1, r2, r3, r4⟩
  · exact .inl r
  · exact .inr ⟨q, g, l, r1, r2.mv F, by rw [r2.keep F]; exact r3, r4.mono hm⟩

/-- here, of a row. -/
theorem s37h {l : List D} {q g : Nat} (o : Off i p c ci ct q h0) (ha : hpAt h0 q g = some (.darr g 0 l)) (hj : Js l m) (G : GM i p c ci ct h0 code0 ints0 texts0 m h1) :
    Wc PP AA F37 [.ptr (.he i 0) 0 2 0, .sl (.he q g) 0 none] h1 fun v h2 => v = .tuple [] ∧ GM i p c ci ct h0 code0 ints0 texts0 m h2 := by
  have lp : ∀ j : Nat, j ≤ l.length → ∀ h1, GM i p c ci ct h0 code0 ints0 texts0 m h1 →
      Wl PP AA F37 f37h_K1 (f37h_S1 i q g l.length j h1) fun v h2 => v = .tuple [] ∧ GM i p c ci ct h0 code0 ints0 texts0 m h2 :=
    upto fun j hj' ih h1 G => by
      refine w37h_1 ⟨fun h => ?_, fun h => ⟨rfl, G⟩⟩
      have hj2 : j < l.length := by omega
      obtain ⟨k, e, hk'⟩ := hj.2 l[j] (List.getElem_mem hj2)
      obtain ⟨code', ints', texts', I, g1, g2, g3, g4⟩ := G
      obtain ⟨d1, d2, d3, d4, d5, d6, d7, d8, d9⟩ := I.d
      obtain ⟨gw, w1, w2⟩ := I.w
      obtain ⟨gi, gt, p1, p2, p3⟩ := I.pp
      have hkc : k < code'.length := by omega
      obtain ⟨op, a, b, ei⟩ := I.hc code'[k] (List.getElem_mem hkc)
      have next : ∀ x : D, IsI x → Wl PP AA F37 f37h_K1 (f37h_S1 i q g l.length (W ((j : Int) + 1)) (h1.put c (some (.darr gw 3 (code'.set (Int.toNat (k : Int)) x))))) fun v h2 => v = .tuple [] ∧ GM i p c ci ct h0 code0 ints0 texts0 m h2 := fun x hx => by
        rw [W_succ hj2 (by have := hj.1; omega)]
        refine ih hj2 _ ⟨code'.set (Int.toNat (k : Int)) x, ints', texts', ⟨⟨gw, ?_, hpAt_put_same rfl⟩, ⟨gi, gt, ?_, ?_, ?_⟩, I.ne, I.il, I.pl, I.cl, I.cil, I.ctl, ?_, by rw [List.length_set]; exact I.hl, I.hi, I.ht⟩, by rw [List.length_set]; exact g1, by rw [List.length_set]; exact g2, g3.trans ⟨Nat.le_refl _, fun q g' h1 h2 h3 h4 h5 h6 => ?_⟩, by rw [List.length_set]; exact g4⟩
        · rw [hpAt_put_ne (Ne.symm d2)]; exact w1
        · rw [hpAt_put_ne (Ne.symm d5)]; exact p1
        · rw [hpAt_put_ne d8]; exact p2
        · rw [hpAt_put_ne d9]; exact p3
        · intro y hy
          rcases List.mem_or_eq_of_mem_set hy with hy | hy
          · exact I.hc y hy
          · subst hy; exact hx
        · rw [hpAt_put_ne (Ne.symm h4)]
      exact ⟨by omega, l, by rw [o.keep g3]; exact ha, by simpa using hj2, k, by rw [getI hj2, e], _, _, _, w1, by omega, _, w2, by simpa using hkc, op, a, b, by simp [hkc, ei], fun _ => next _ ⟨_, _, _, rfl⟩, fun _ => next _ ⟨_, _, _, rfl⟩⟩
  exact w37h ⟨l, by rw [o.keep (by obtain ⟨_, _, _, _, _, _, g3, _⟩ := G; exact g3)]; exact ha, lp 0 (by omega) _ G⟩

theorem sK {a b : Int} (h : a ≠ b) : sameKey (.int .i64 a) (.int .i64 b) = some false := by simp [sameKey, h]
theorem sKr {a : Int} : sameKey (.int .i64 a) (.int .i64 a) = some true := by simp [sameKey]

/-- From one base to another. -/
theorem GM.from (G : GM i p c ci ct h0 code0 ints0 texts0 m h1) : ∃ code1 ints1 texts1, GW i p c ci ct h1 code1 ints1 texts1 ∧ GM i p c ci ct h1 code1 ints1 texts1 m h1 ∧ (PB code0 ints0 texts0 → PB code1 ints1 texts1) ∧
    ∀ m2 h2, GM i p c ci ct h1 code1 ints1 texts1 m2 h2 → GM i p c ci ct h0 code0 ints0 texts0 m2 h2 := by
  obtain ⟨code1, ints1, texts1, I, g1, g2, g3, g4⟩ := G
  refine ⟨code1, ints1, texts1, I, ⟨_, _, _, I, Nat.le_refl _, Nat.le_refl _, .refl, g4⟩, fun hb => ?_, fun m2 h2 ⟨c2, i2, t2, I2, f1, f2, f3, f4⟩ => ⟨c2, i2, t2, I2, by omega, by omega, g3.trans f3, f4⟩⟩
  unfold PB at *; omega

theorem GM.gw (G : GM i p c ci ct h0 code0 ints0 texts0 m h1) : GF i p c ci ct h0 h1 := by
  obtain ⟨_, _, _, _, _, _, g3, _⟩ := G; exact g3

/-- A new object. -/
theorem GW.push (I : GW i p c ci ct h code ints texts) (o : Obj) : GW i p c ci ct (h.push o) code ints texts := by
  obtain ⟨g, w1, w2⟩ := I.w
  obtain ⟨gi, gt, p1, p2, p3⟩ := I.pp
  have hil := I.il; have hpl := I.pl; have hcl := I.cl; have h4 := I.cil; have h5 := I.ctl
  exact ⟨⟨g, by rw [hpAt_push_old hil]; exact w1, by rw [hpAt_push_old hcl]; exact w2⟩, ⟨gi, gt, by rw [hpAt_push_old hpl]; exact p1, by rw [hpAt_push_old h4]; exact p2, by rw [hpAt_push_old h5]; exact p3⟩, I.ne,
    by simp; omega, by simp; omega, by simp; omega, by simp; omega, by simp; omega, I.hc, I.hl, I.hi, I.ht⟩
theorem GF.push (o : Obj) : GF i p c ci ct h (h.push o) := ⟨by simp, fun q g hq _ _ _ _ _ => hpAt_push_old hq⟩
theorem GM.push (G : GM i p c ci ct h0 code0 ints0 texts0 m h1) (o : Obj) : GM i p c ci ct h0 code0 ints0 texts0 m (h1.push o) := by
  obtain ⟨c1, i1, t1, I, g1, g2, g3, g4⟩ := G
  exact ⟨c1, i1, t1, I.push o, g1, g2, g3.trans (.push o), g4⟩
theorem GW.new (I : GW i p c ci ct h code ints texts) (o : Obj) : Off i p c ci ct h.n (h.push o) := by
  have hil := I.il; have hpl := I.pl; have hcl := I.cl; have h4 := I.cil; have h5 := I.ctl
  exact ⟨by simp, by omega, by omega, by omega, by omega, by omega⟩
/-- What is written to a place that is none of the writer's, and new. -/
theorem GM.other (G : GM i p c ci ct h0 code0 ints0 texts0 m h1) {q : Nat} (hq : Off i p c ci ct q h1) (hn : h0.n ≤ q) (o : Option Obj) : GM i p c ci ct h0 code0 ints0 texts0 m (h1.put q o) := by
  obtain ⟨c1, i1, t1, I, g1, g2, g3, g4⟩ := G
  obtain ⟨g, w1, w2⟩ := I.w
  obtain ⟨gi, gt, p1, p2, p3⟩ := I.pp
  refine ⟨c1, i1, t1, ⟨⟨g, by rw [hpAt_put_ne hq.b]; exact w1, by rw [hpAt_put_ne hq.e]; exact w2⟩, ⟨gi, gt, by rw [hpAt_put_ne hq.d]; exact p1, by rw [hpAt_put_ne hq.f]; exact p2, by rw [hpAt_put_ne hq.g]; exact p3⟩, I.ne, I.il, I.pl, I.cl, I.cil, I.ctl, I.hc, I.hl, I.hi, I.ht⟩,
    g1, g2, ⟨g3.1, fun q' g' a b d e f j => ?_⟩, g4⟩
  rw [hpAt_put_ne (by omega)]; exact g3.2 q' g' a b d e f j

/-- A tree without cases. -/
theorem s55 (G : GM i p c ci ct h0 code0 ints0 texts0 m h1) {o : Int} {mm : Nat} (ho : Off i p c ci ct mm h1) (hn : h0.n ≤ mm) (hm : hpAt h1 mm 0 = some (.map [] [])) :
    Wc PP AA F55 [.ptr (.he i 0) 0 2 0, .s 4 (.agg [dI 0, .slice 0 [], .slice 6 [], .slice 4 []]), vI o, .map (.he mm 0), vI 1073741824] h1 fun v h2 => v = .tuple [] ∧ ∃ m2, m ≤ m2 ∧ GM i p c ci ct h0 code0 ints0 texts0 m2 h2 ∧ RW i p c ci ct mm h2 m2 := by
  have G' := G
  obtain ⟨code1, ints1, texts1, I, g1, g2, g3, g4⟩ := G
  obtain ⟨g, w1, w2⟩ := I.w
  refine w55 ⟨fun h => by omega, fun _ => ⟨_, _, _, w1, _, w2, fun _ => ⟨rfl, m, Nat.le_refl _, G', ho, [], [], hm, fun j => .inl rfl⟩, fun _ => ⟨fun _ => ⟨fun _ => ⟨[], [], hm, .inr ⟨rfl, ?_⟩⟩, fun h => absurd rfl h⟩, fun h => absurd rfl h⟩⟩⟩
  obtain ⟨code2, ints2, texts2, J, G2, _, tr⟩ := G'.from
  refine putC G2 (fun k h2 hk G3 => ?_) i0
  have hk2 : hpAt h2 mm 0 = some (.map [] []) := by rw [ho.keep G3.gw]; exact hm
  have hlt : mm < h2.n := Nat.lt_of_lt_of_le ho.a G3.gw.1
  obtain ⟨_, _, _, K, _⟩ := G3.from
  have ho2 : Off i p c ci ct mm h2 := ho.mv G3.gw
  have ho3 : Off i p c ci ct mm (h2.push (.darr 0 0 [dI k])) := ho2.mv (.push _)
  refine ⟨[], [], by rw [hpAt_push_old hlt]; exact hk2, _, _, rfl, by rw [hm, hk2], rfl, k + 1, hk, (((tr _ _ G3).push _).other ho3 hn _), ?_⟩
  have hq := K.new (.darr 0 0 [dI k])
  refine ⟨⟨ho3.a, ho3.b, ho3.d, ho3.e, ho3.f, ho3.g⟩, [.int .i64 0], [.sl (.he h2.n 0) 0 none], hpAt_put_same rfl, fun j => ?_⟩
  by_cases hj : j = 0
  · subst hj
    refine .inr ⟨h2.n, 0, [dI k], rfl, ⟨hq.a, hq.b, hq.d, hq.e, hq.f, hq.g⟩, ?_, by simp, j1 (by omega)⟩
    rw [hpAt_put_ne (by omega)]; exact hpAt_push_new rfl
  · left; simp [findKey, sK hj]

section
variable {k n r : Int} {s : ByteArray} {l bi : List D}

theorem s33 (hl : KE i p c ci ct l) (hz : E i p c ci ct zeroC) (hb : PB code0 ints0 texts0) (hbi : IsBinds bi) (G : GM i p c ci ct h0 code0 ints0 texts0 m h1) {b : Bool} :
    Wc PP AA F33 [.ptr (.he i 0) 0 2 0, .s 9 (coreD k n s l 0 [] [] [] bi), vBool b] h1 fun v h2 => v = .tuple [] ∧ GM i p c ci ct h0 code0 ints0 texts0 m h2 := by
  refine w33 (kidC hl hz hb G (by omega) fun h2 G2 => putC G2 (fun k1 h3 hk1 G3 => ?_) (i1 _))
  obtain ⟨code1, ints1, texts1, I, G4, _, tr⟩ := (G3.push (.map [] [])).from
  obtain ⟨_, _, _, I3, _⟩ := G3.from
  have hoff := I3.new (.map [] [])
  refine (s55 (G3.push (.map [] [])) hoff (by have := G3.gw.1; omega) (hpAt_push_new rfl)).mono ?_
  rintro v h5 ⟨rfl, m2, hm2, G5, R5⟩
  refine ⟨rfl, ?_⟩
  clear G4 tr I
  have hbl := hbi.1
  -- the outer loop
  have lp : ∀ j : Nat, j ≤ bi.length → ∀ (ends : List D) (m3 : Nat) (h6 : Heap), ends.length ≤ j → m ≤ m3 → GM i p c ci ct h0 code0 ints0 texts0 m3 h6 → RW i p c ci ct h3.n h6 m3 → Js ends m3 →
      Wl PP AA F33 f33_K1 (f33_S1 i b k n s l 0 [] [] [] bi h3.n bi.length j ends h6) fun v h2 => v = .tuple [] ∧ GM i p c ci ct h0 code0 ints0 texts0 m h2 :=
    upto fun j hj ih ends m3 h6 he hm3 G6 R6 J6 => by
      refine w33_1 ⟨fun h => ?_, fun h => hereC G6 (fun h7 G7 => ⟨rfl, G7.mono hm3⟩) (by have := J6.1; omega) J6.2⟩
      have hj' : j < bi.length := by omega
      obtain ⟨rs, e1, e2, e3⟩ := hbi.2 bi[j] (List.getElem_mem hj')
      obtain ⟨code1, ints1, texts1, I6, G6b, hb6, tr⟩ := G6.from
      -- the inner loop, from a heap behind here
      have inner : ∀ a : Nat, a ≤ rs.length → ∀ (m4 : Nat) (h7 : Heap), m3 ≤ m4 → GM i p c ci ct h6 code1 ints1 texts1 m4 h7 → Wl PP AA F33 f33_K2 (f33_S2 i b k n s l 0 [] [] [] bi h3.n bi.length j rs rs.length a ends h7) fun v h2 => v = .tuple [] ∧ GM i p c ci ct h0 code0 ints0 texts0 m h2 :=
        upto fun a ha iha m4 h7 hm4 G7 => by
          refine w33_2 ⟨fun h => ⟨by omega, ?_⟩, fun h => ?_⟩
          · have ha' : a < rs.length := by omega
            obtain ⟨nn, q, f1, f2, f3⟩ := e3 rs[a] (List.getElem_mem ha')
            refine ⟨nn, q, by rw [getI ha', f1], (s56 G7 f2 f3).mono ?_⟩
            rintro v h8 ⟨rfl, G8⟩
            refine ⟨rfl, putC G8 (fun k2 h9 hk2 G9 => ?_) (i1 _)⟩
            rw [W_succ ha' (by omega)]
            exact iha ha' (k2 + 1) h9 (by omega) G9
          · rw [W_succ hj' (by omega)]
            refine kidC hl hz (hb6 hb) G7 (by omega) fun h8 G8 => ⟨fun hb1 => ?_, fun hb1 => ⟨fun _ => putC G8 (fun k2 h9 hk2 G9 => ⟨by omega, ?_⟩) i0, fun _ => ?_⟩⟩
            · subst hb1
              exact ih hj' ends m4 h8 (by omega) (by omega) (tr _ _ G8) (R6.mv G8.gw hm4) (J6.mono hm4)
            · subst hb1
              refine ih hj' _ (k2 + 1) h9 (by simp; omega) (by omega) (tr _ _ G9) (R6.mv G9.gw (by omega)) ⟨by simp; omega, fun x hx => ?_⟩
              rcases List.mem_append.1 hx with hx | hx
              · exact (J6.mono (by omega)).2 x hx
              · exact j1 (by omega) x hx
            · subst hb1
              exact ih hj' ends m4 h8 (by omega) (by omega) (tr _ _ G8) (R6.mv G8.gw hm4) (J6.mono hm4)
      obtain ⟨o6, ks, vs, e, rr⟩ := R6
      refine ⟨ks, vs, e, ?_⟩
      rcases rr j with rr | ⟨q, g, l', r1, r2, r3, r4⟩
      · exact .inr ⟨rr, hereC G6b (fun h7 G7 => ⟨by omega, rs, by rw [getI hj', e1], inner 0 (by omega) _ _ (Nat.le_refl _) G7⟩) (by simp) (by simp)⟩
      · refine .inl ⟨q, g, r1, (s37h r2 r3 r4 G6b).mono ?_⟩
        rintro v h7 ⟨rfl, G7⟩
        exact ⟨rfl, by omega, rs, by rw [getI hj', e1], inner 0 (by omega) _ _ (Nat.le_refl _) G7⟩
  exact lp 0 (by omega) [] m2 h5 (by simp) (by omega) G5 R5 ⟨by simp, by simp⟩
end
end Am

/- GenRaw: gen goes through any core. -/
namespace Am
open Go
set_option maxRecDepth 10000

variable {i p c ci ct : Nat} {h h' h0 h1 h2 : Heap} {code ints texts code0 ints0 texts0 : List D} {m m' : Nat}

theorem lastC (G : GM i p c ci ct h0 code0 ints0 texts0 m h1) {b : Bool} (hm : m' ≤ m) :
    (b = true → Wc PP AA F16 [.ptr (.he i 0) 0 2 0, vI 15, .d (.slice 0 [])] h1 fun v h2 => ∃ n, v = vI n ∧ V.tuple [] = .tuple [] ∧ GM i p c ci ct h0 code0 ints0 texts0 m' h2) ∧
    (b = false → V.tuple [] = .tuple [] ∧ GM i p c ci ct h0 code0 ints0 texts0 m' h1) :=
  ⟨fun _ => putC G (fun _ _ hk G2 => ⟨rfl, G2.mono (by omega)⟩) i0, fun _ => ⟨rfl, G.mono hm⟩⟩

/-- strings.Index, told. -/
theorem p22 (b : ByteArray) : Wa PP AA F22 [.d (dS (mkStr [43, 45, 42, 47, 37, 61, 60])), .d (dS b)] fun v => ∃ n, v = vI n := by
  refine ⟨_, fun h => .prim (f := F22) rfl rfl, _, rfl⟩

section
variable {k n r : Int} {s : ByteArray} {l bi : List D}

theorem s8 (hl : KE i p c ci ct l) (hz : k = 0 ∨ E i p c ci ct zeroC) (hbi : IsBinds bi) : E i p c ci ct (coreD k n s l 0 [] [] [] bi) := by
  intro h0 code0 ints0 texts0 m h1 b hb G
  have G' := G
  obtain ⟨code1, ints1, texts1, I, g1, g2, g3, g4⟩ := G
  obtain ⟨g, w1, w2⟩ := I.w
  refine w8 ⟨_, _, _, w1, _, w2, fun _ => ⟨rfl, G'⟩, fun hc => ⟨?_, fun a1 => ⟨?_, fun a2 => ⟨?_, fun a3 => ⟨?_, fun a4 => ⟨?_, fun a5 => ⟨?_, ?_, fun b1 => ⟨?_, fun b2 => ⟨?_, fun b3 => ⟨?_, fun b4 => ⟨?_, fun b5 => ⟨?_, fun b6 => ?_⟩⟩⟩⟩⟩⟩⟩⟩⟩⟩⟩⟩
  · rintro rfl; exact (s30 hl (by simpa using hz) hb G').mono fun _ _ ⟨e, G2⟩ => ⟨e, rfl, G2⟩
  · rintro rfl; exact (s31 hl (by simpa using hz) hb G').mono fun _ _ ⟨e, G2⟩ => ⟨e, rfl, G2⟩
  · rintro rfl; exact (s32 hl (by simpa using hz) hb G').mono fun _ _ ⟨e, G2⟩ => ⟨e, rfl, G2⟩
  · rintro rfl; exact (s33 hl (by simpa using hz) hb hbi G').mono fun _ _ ⟨e, G2⟩ => ⟨e, rfl, G2⟩
  · rintro rfl; exact (s34 hl hb G').mono fun _ _ ⟨e, G2⟩ => ⟨e, rfl, G2⟩
  · simp [cK15, cL15, findKey, sK a1, sK a2, sK a3, sK a4, sK a5]
  · rintro rfl
    have hb' : ints1.length ≤ 100000 := by have := I.hl; unfold PB at hb; omega
    refine (s17 I hb' n).mono ?_
    rintro v h2 ⟨q, ints2, rfl, I2, F2, e2⟩
    refine ⟨q, rfl, (s16 I2 1 (i1 q)).mono ?_⟩
    rintro v h3 ⟨k2, code3, rfl, I3, F3, e3, e4, e5⟩
    exact ⟨k2, rfl, lastC (m := m) (⟨code3, ints2, texts1, I3, by omega, by have := e5 (by omega); omega, (g3.trans F2).trans F3, by omega⟩) (Nat.le_refl _)⟩
  · rintro rfl
    have hb' : texts1.length ≤ 100000 := by have := I.hl; unfold PB at hb; omega
    refine (s18 I hb' s).mono ?_
    rintro v h2 ⟨q, texts2, rfl, I2, F2, e2⟩
    refine ⟨q, rfl, (s16 I2 2 (i1 q)).mono ?_⟩
    rintro v h3 ⟨k2, code3, rfl, I3, F3, e3, e4, e5⟩
    exact ⟨k2, rfl, lastC (m := m) (⟨code3, ints1, texts2, I3, by omega, by have := e5 (by omega); omega, (g3.trans F2).trans F3, by omega⟩) (Nat.le_refl _)⟩
  · rintro rfl; exact (s19 hl (by simpa using hz) hb G').mono fun _ _ ⟨e, G2⟩ => ⟨e, lastC G2 (Nat.le_refl _)⟩
  · rintro rfl; exact (s19 hl (by simpa using hz) hb G').mono fun _ _ ⟨e, G2⟩ => ⟨e, lastC G2 (Nat.le_refl _)⟩
  · rintro rfl
    exact putC G' (fun k2 h2 hk2 G2 => kidC hl (by simpa using hz) hb G2 (by omega) fun h3 G3 => putC G3 (fun k3 h4 hk3 G4 => lastC G4 (by omega)) i0) i0
  · rintro rfl
    exact kidsC hl hb G' fun h2 G2 => ⟨fun _ => putC G2 (fun k3 h4 hk3 G4 => lastC G4 (by omega)) i0, fun _ => (p22 _).mono fun v ⟨q, e⟩ => ⟨q, e, putC G2 (fun k3 h4 hk3 G4 => lastC G4 (by omega)) (i1 _)⟩⟩
  · exact (s23 hl hb G').mono fun _ _ ⟨e, G2⟩ => ⟨e, lastC G2 (Nat.le_refl _)⟩

theorem KE.nil : KE i p c ci ct [] := ⟨by simp, by simp⟩
theorem zeroE : E i p c ci ct zeroC := s8 .nil (.inl rfl) ⟨by simp, by simp⟩

end

/-- A core as cut leaves it, so deep. -/
def IsCore : Nat → D → Prop
  | 0, x => ∃ k n s bi, x = coreD k n s [] 0 [] [] [] bi ∧ IsBinds bi
  | d + 1, x => ∃ k n s l bi, x = coreD k n s l 0 [] [] [] bi ∧ IsBinds bi ∧ l.length ≤ 4 ∧ ∀ y ∈ l, IsCore d y

theorem IsCore.isC : ∀ {d x}, IsCore d x → IsC x
  | 0, _, ⟨_, _, _, _, e, _⟩ => ⟨_, _, _, _, _, _, _, _, _, e⟩
  | _ + 1, _, ⟨_, _, _, _, _, e, _⟩ => ⟨_, _, _, _, _, _, _, _, _, e⟩

/-- gen goes through it. -/
theorem coreE : ∀ {d x}, IsCore d x → E i p c ci ct x
  | 0, _, ⟨_, _, _, _, e, hb⟩ => e ▸ s8 .nil (.inr zeroE) hb
  | _ + 1, _, ⟨_, _, _, _, _, e, hb, hl, hk⟩ => e ▸ s8 ⟨hl, fun y hy => ⟨(hk y hy).isC, coreE (hk y hy)⟩⟩ (.inr zeroE) hb

def isN (a : Int) : D → Bool
  | .v (.int _ b) => decide (a = b)
  | _ => false

/-- slices.Index. -/
theorem s35 {l : List D} (hl : l.length ≤ 274877906944) (hi : ∀ x ∈ l, ∃ a, x = dI a) (a : Int) : Wa PP AA F35 [.d (.slice 0 l), vI a] (· = vI (idxF (isN a) l 0)) := by
  refine .ofC fun h => w35 ?_
  have lp : ∀ j : Nat, j ≤ l.length → Wl PP AA F35 f35_K1 (f35_S1 l a l.length j h) fun v h' => v = vI (idxF (isN a) (l.drop j) j) ∧ h' = h :=
    upto fun j hj ih => by
      refine w35_1 ⟨fun h1 => ⟨by omega, ?_⟩, fun h1 => by rw [List.drop_of_length_le (by omega)]; exact ⟨rfl, rfl⟩⟩
      have hj' : j < l.length := by omega
      obtain ⟨q, e⟩ := hi l[j] (List.getElem_mem hj')
      refine ⟨q, by rw [getI hj', e], fun h2 => ?_, fun h2 => ?_⟩
      · rw [drop_cons hj', idxF, e]; simp [isN, h2]
      · rw [W_succ hj' hl]
        have := ih hj'
        rw [drop_cons hj', idxF, e]
        simpa [isN, h2] using this
  exact lp 0 (by omega)

/-- needs ends. -/
theorem s9 : ∀ {d x}, IsCore d x → Wa PP AA F9 [.s 9 x] fun v => ∃ n, v = vI n := by
  have gen : ∀ {k n : Int} {s : ByteArray} {l bi : List D}, l.length ≤ 4 → (∀ y ∈ l, IsC y ∧ Wa PP AA F9 [.s 9 y] fun v => ∃ n, v = vI n) → Wa PP AA F9 [.s 9 (coreD k n s l 0 [] [] [] bi)] fun v => ∃ n, v = vI n := by
    intro k n s l bi hl hk
    have lp : ∀ j : Nat, j ≤ l.length → ∀ (b : Bool) (a : Int), Wl PP AA F9 f9_K1 (f9_S1 b a l l.length j) (QAl fun v => ∃ n, v = vI n) :=
      upto fun j hj ih b a => by
        refine w9_1 ⟨fun h => ⟨by omega, ?_⟩, fun h => ⟨_, rfl⟩⟩
        have hj' : j < l.length := by omega
        obtain ⟨⟨n1, n2, s3, l4, n5, l6, l7, l8, l9, e⟩, w⟩ := hk l[j] (List.getElem_mem hj')
        rw [e] at w
        refine ⟨n1, n2, s3, l4, n5, l6, l7, l8, l9, by rw [getI hj', e], fun hb => w.mono ?_, fun hb => w.mono ?_⟩
        all_goals
          rintro v ⟨q, rfl⟩
          refine ⟨q, rfl, ?_⟩
          rw [W_succ hj' (by omega)]
          exact ih hj' _ _
    refine w9 (w24 ?_)
    exact (s35 (by simp) (by simp) k).eq ⟨_, rfl, _, rfl, lp 0 (by omega) _ _⟩
  intro d
  induction d with
  | zero => rintro x ⟨_, _, _, _, rfl, hb⟩; exact gen (by simp) (by simp)
  | succ d ih => rintro x ⟨_, _, _, _, _, rfl, hb, hl, hk⟩; exact gen hl fun y hy => ⟨(hk y hy).isC, ih (hk y hy)⟩
end Am

/- GenMany: chains of cores, and the code that they become, plainly. -/
namespace Am
open Go
set_option maxRecDepth 10000

inductive Ch where
  | int (n : Int)
  | seq (a : Int) (c : Ch)
  | op (a : Int) (c : Ch)

abbrev intC (n : Int) : D := coreD 1 n (mkStr []) [] 0 [] [] [] []
def Ch.d : Ch → D
  | .int n => intC n
  | .seq a c => coreD 15 0 (mkStr []) [intC a, c.d] 0 [] [] [] []
  | .op a c => coreD 14 0 (mkStr [43]) [intC a, c.d] 0 [] [] [] []

theorem Ch.isC : ∀ c : Ch, IsC c.d
  | .int _ => ⟨_, _, _, _, _, _, _, _, _, rfl⟩
  | .seq _ _ => ⟨_, _, _, _, _, _, _, _, _, rfl⟩
  | .op _ _ => ⟨_, _, _, _, _, _, _, _, _, rfl⟩

/-- Where a number is in a list, or its length. -/
def ix (n : Int) : List Int → Nat
  | [] => 0
  | x :: r => if n = x then 0 else ix n r + 1
def ext (n : Int) (is : List Int) : List Int := if ix n is < is.length then is else is ++ [n]

theorem ix_le (n : Int) : ∀ is : List Int, ix n is ≤ is.length
  | [] => Nat.le_refl _
  | x :: r => by have := ix_le n r; simp only [ix, List.length_cons]; split <;> omega

theorem ext_le (n : Int) (is : List Int) : (ext n is).length ≤ is.length + 1 := by unfold ext; split <;> simp
theorem ext_ge (n : Int) (is : List Int) : is.length ≤ (ext n is).length := by unfold ext; split <;> simp
theorem ix_lt (n : Int) (is : List Int) : ix n is < (ext n is).length := by
  have := ix_le n is
  unfold ext
  split
  · assumption
  · simp; omega

abbrev I3 := Int × Int × Int
def iD (x : I3) : D := .agg [dI x.1, dI x.2.1, dI x.2.2]
theorem iD_is (x : I3) : IsI (iD x) := ⟨_, _, _, rfl⟩
def retI (b : Bool) : List I3 := if b then [(15, 0, 0)] else []

/-- The code; the constants. -/
def Ch.gen : Ch → Bool → List Int → List I3 × List Int
  | .int n, b, is => ((1, (ix n is : Int), 0) :: retI b, ext n is)
  | .seq a c, b, is => ((1, (ix a is : Int), 0) :: (9, 0, 0) :: (c.gen b (ext a is)).1, (c.gen b (ext a is)).2)
  | .op a c, b, is => ((1, (ix a is : Int), 0) :: ((c.gen false (ext a is)).1 ++ (19, 0, 0) :: retI b), (c.gen false (ext a is)).2)

def Ch.len : Ch → Bool → Nat
  | .int _, b => 1 + (retI b).length
  | .seq _ c, b => 2 + c.len b
  | .op _ c, b => 2 + c.len false + (retI b).length

def Ch.size : Ch → Nat
  | .int _ => 1
  | .seq _ c => c.size + 1
  | .op _ c => c.size + 1

theorem gen_len : ∀ (c : Ch) (b : Bool) (is : List Int), (c.gen b is).1.length = c.len b
  | .int _, b, is => by simp [Ch.gen, Ch.len]; omega
  | .seq a c, b, is => by simp [Ch.gen, Ch.len, gen_len c]; omega
  | .op a c, b, is => by simp [Ch.gen, Ch.len, gen_len c]; omega

theorem gen_ints : ∀ (c : Ch) (b : Bool) (is : List Int), (c.gen b is).2.length ≤ is.length + c.size ∧ is.length ≤ (c.gen b is).2.length
  | .int n, b, is => by have := ext_le n is; have := ext_ge n is; simp only [Ch.gen, Ch.size]; omega
  | .seq a c, b, is => by have := gen_ints c b (ext a is); have := ext_le a is; have := ext_ge a is; simp only [Ch.gen, Ch.size]; omega
  | .op a c, b, is => by have := gen_ints c false (ext a is); have := ext_le a is; have := ext_ge a is; simp only [Ch.gen, Ch.size]; omega

/-- last is one instruction more, behind. -/
theorem gen_last : ∀ (c : Ch) (is : List Int), c.gen true is = ((c.gen false is).1 ++ [(15, 0, 0)], (c.gen false is).2)
  | .int n, is => by simp [Ch.gen, retI]
  | .seq a c, is => by simp [Ch.gen, gen_last c]
  | .op a c, is => by simp [Ch.gen, retI]

theorem len_last (c : Ch) : c.len true = c.len false + 1 := by
  have h1 := gen_len c true []
  have h2 := gen_len c false []
  rw [gen_last c] at h1
  simp at h1
  omega

/-- How deep a stack. -/
def Ch.need : Ch → Int
  | .int _ => 1
  | .seq _ c => c.need
  | .op _ c => c.need + 1
theorem need_pos : ∀ c : Ch, 1 ≤ c.need ∧ c.need ≤ c.size
  | .int _ => by simp [Ch.need, Ch.size]
  | .seq _ c => by have := need_pos c; simp only [Ch.need, Ch.size]; omega
  | .op _ c => by have := need_pos c; simp only [Ch.need, Ch.size]; omega

theorem idx_ix (n : Int) : ∀ (is : List Int) (j : Int), 0 ≤ j → idxF (isN n) (is.map dI) j = if ix n is < is.length then j + ix n is else -1
  | [], j, _ => by simp [idxF, ix]
  | x :: r, j, hj => by
    simp only [List.map_cons, idxF, ix, List.length_cons]
    by_cases h : n = x
    · subst h; simp [isN]
    · simp only [isN, h, decide_false, Bool.false_eq_true, if_false]
      rw [idx_ix n r (j + 1) (by omega)]
      by_cases h2 : ix n r < r.length
      · rw [if_pos h2, if_pos (by omega)]; push_cast; omega
      · rw [if_neg h2, if_neg (by omega)]
end Am

/- GenMany: the program's code of a chain. -/
namespace Am
open Go
set_option maxRecDepth 10000

variable {i p c ci ct : Nat} {h h' h0 h1 h2 : Heap} {code ints texts : List D} {is : List Int}

/-- The first 401. -/
abbrev cut1 (l : List D) : List D := l.take 401
theorem cut1_app (a b : List D) : cut1 (cut1 a ++ b) = cut1 (a ++ b) := by
  rcases Nat.lt_or_ge 401 a.length with h | h
  · have e1 : (cut1 a).length = 401 := by rw [cut1, List.length_take]; omega
    have f1 : cut1 (cut1 a ++ b) = cut1 (cut1 a) := List.take_append_of_le_length (by omega)
    have f2 : cut1 (a ++ b) = cut1 a := List.take_append_of_le_length (by omega)
    rw [f1, f2, cut1, cut1, List.take_take]; simp
  · rw [cut1, cut1, List.take_of_length_le h]
theorem cut1_app3 (x a b c : List D) : cut1 (cut1 (cut1 (cut1 x ++ a) ++ b) ++ c) = cut1 (x ++ (a ++ (b ++ c))) := by
  rw [cut1_app, List.append_assoc, cut1_app, List.append_assoc, cut1_app]
theorem cut1_len (l : List D) : (cut1 l).length ≤ l.length := by rw [cut1, List.length_take]; omega
theorem cut1_same {a : List D} (h : a.length ≤ 401) : cut1 a = a := List.take_of_length_le h

/-- put, just so. -/
theorem s16x (I : GW i p c ci ct h code ints texts) (o : Int) {l : List D} {a : Int} (hl : (l = [] ∧ a = 0) ∨ l = [dI a]) :
    Wc PP AA F16 [.ptr (.he i 0) 0 2 0, vI o, .d (.slice 0 l)] h fun v h' => ∃ k : Int, v = vI k ∧ GW i p c ci ct h' (cut1 (code ++ [iD (o, a, 0)])) ints texts ∧ GF i p c ci ct h h' := by
  obtain ⟨d1, d2, d3, d4, d5, d6, d7, d8, d9⟩ := I.d
  obtain ⟨g, w1, w2⟩ := I.w
  have hcl := I.hl
  have full : (400 : Int) < ((code.length : Nat) : Int) → ∃ k : Int, vI (W (((code.length : Nat) : Int) - 1)) = vI k ∧ GW i p c ci ct h (cut1 (code ++ [iD (o, a, 0)])) ints texts ∧ GF i p c ci ct h h := fun hf => by
    rw [cut1, List.take_append_of_le_length (by omega), List.take_of_length_le (by omega)]
    exact ⟨_, rfl, I, .refl⟩
  have fin : ((code.length : Nat) : Int) ≤ 400 → ∃ k : Int, vI (W ((((code ++ [iD (o, a, 0)] : List D).length : Nat) : Int) - 1)) = vI k ∧ GW i p c ci ct ((h.put c (some (.darr (g + 1) 3 (code ++ [iD (o, a, 0)])))).put i (some (.var (.agg [.ptr (.he p 0) 0 3 0, .sl (.he c (g + 1)) 3 none])))) (cut1 (code ++ [iD (o, a, 0)])) ints texts ∧
      GF i p c ci ct h ((h.put c (some (.darr (g + 1) 3 (code ++ [iD (o, a, 0)])))).put i (some (.var (.agg [.ptr (.he p 0) 0 3 0, .sl (.he c (g + 1)) 3 none])))) := fun hle => by
    obtain ⟨g1, g2⟩ := I.add w1 (iD_is (o, a, 0)) (by omega)
    rw [cut1_same (by simp; omega)]
    exact ⟨_, rfl, g1, g2⟩
  have q1 : hpAt (h.put c (some (.darr (g + 1) 3 (code ++ [iD (o, a, 0)])))) i 0 = some (.var (.agg [.ptr (.he p 0) 0 3 0, .sl (.he c g) 3 none])) := by rw [hpAt_put_ne (Ne.symm d2)]; exact w1
  have q3 : hpAt ((h.put c (some (.darr (g + 1) 3 (code ++ [iD (o, a, 0)])))).put i (some (.var (.agg [.ptr (.he p 0) 0 3 0, .sl (.he c (g + 1)) 3 none])))) c (g + 1) = some (.darr (g + 1) 3 (code ++ [iD (o, a, 0)])) := by
    rw [hpAt_put_ne d2]; exact hpAt_put_same rfl
  rcases hl with ⟨rfl, rfl⟩ | rfl
  · exact w16 ⟨fun h1 => absurd h1 (by simp), fun h1 => ⟨_, _, _, w1, _, w2, full, fun h3 => ⟨by omega, q1, hpAt_put_same rfl, q3, fin h3⟩⟩⟩
  · exact w16 ⟨fun h1 => ⟨a, rfl, fun h2 => absurd h2 (by simp), fun _ => ⟨_, _, _, w1, _, w2, full, fun h3 => ⟨by omega, q1, hpAt_put_same rfl, q3, fin h3⟩⟩⟩, fun h1 => absurd h1 (by simp)⟩

theorem s35hx {l : List D} {n : Int} {q g : Nat} (hl : l.length ≤ 274877906944) (ha : hpAt h q g = some (.darr g 0 l)) (hi : ∀ x ∈ l, ∃ a, x = dI a) :
    Wn PP AA F35 [.sl (.he q g) 0 none, vI n] h (· = vI (idxF (isN n) l 0)) := by
  have lp : ∀ j : Nat, j ≤ l.length → Wl PP AA F35 f35h_K1 (f35h_S1 q g n l.length j h) fun v h' => v = vI (idxF (isN n) (l.drop j) j) ∧ h' = h :=
    upto fun j hj ih => by
      refine w35h_1 ⟨fun h1 => ?_, fun h1 => by rw [List.drop_of_length_le (by omega)]; exact ⟨rfl, rfl⟩⟩
      have hj' : j < l.length := by omega
      obtain ⟨a, e⟩ := hi l[j] (List.getElem_mem hj')
      refine ⟨by omega, _, ha, by simpa using hj', a, by rw [getI hj', e], fun h2 => ?_, fun h2 => ?_⟩
      · rw [drop_cons hj', idxF, e]; simp [isN, h2]
      · rw [W_succ hj' hl]
        have := ih hj'
        rw [drop_cons hj', idxF, e]
        simpa [isN, h2] using this
  exact (w35h ⟨l, ha, lp 0 (by omega)⟩ : Wc PP AA F35 [.sl (.he q g) 0 none, vI n] h fun v h' => v = vI (idxF (isN n) l 0) ∧ h' = h).toN rfl

/-- place, just so. -/
theorem s17x (I : GW i p c ci ct h code (is.map dI) texts) (hb : is.length ≤ 100000) (n : Int) :
    Wc PP AA F17 [.ptr (.he p 0) 0 3 1, vI n] h fun v h' => v = vI (ix n is : Int) ∧ GW i p c ci ct h' code ((ext n is).map dI) texts ∧ GF i p c ci ct h h' := by
  obtain ⟨d1, d2, d3, d4, d5, d6, d7, d8, d9⟩ := I.d
  obtain ⟨g, w1, w2⟩ := I.w
  obtain ⟨gi, gt, p1, p2, p3⟩ := I.pp
  have hle := ix_le n is
  refine w17 ⟨_, _, _, _, _, p1, (s35hx (n := n) (by simp; omega) p2 I.hi).eq ⟨_, rfl, fun hk => ?_, fun hk => ?_⟩⟩
  · rw [idx_ix n is 0 (by omega)] at hk
    have hn : ¬ ix n is < is.length := fun h => by rw [if_pos h] at hk; omega
    have e1 : ext n is = is ++ [n] := by unfold ext; rw [if_neg hn]
    have e2 : ix n is = is.length := by omega
    rw [e1, e2]
    simp only [List.map_append, List.map_cons, List.map_nil]
    refine ⟨_, p2, by simp; omega, ?_, by simp, ⟨⟨g, ?_, ?_⟩, ⟨gi + 1, gt, hpAt_put_same rfl, ?_, ?_⟩, I.ne, I.il, I.pl, I.cl, I.cil, I.ctl, I.hc, I.hl, ?_, I.ht⟩, ⟨Nat.le_refl _, fun q g' h1 h2 h3 h4 h5 h6 => ?_⟩⟩
    · rw [hpAt_put_ne (Ne.symm d6)]; exact p1
    · rw [hpAt_put_ne (Ne.symm d1), hpAt_put_ne (Ne.symm d3)]; exact w1
    · rw [hpAt_put_ne d5, hpAt_put_ne (Ne.symm d8)]; exact w2
    · rw [hpAt_put_ne d6]; exact hpAt_put_same rfl
    · rw [hpAt_put_ne d7, hpAt_put_ne I.ne]; exact p3
    · intro y hy
      rcases List.mem_append.1 hy with hy | hy
      · exact I.hi y hy
      · simp at hy; exact ⟨n, hy⟩
    · rw [hpAt_put_ne (Ne.symm h3), hpAt_put_ne (Ne.symm h5)]
  · rw [idx_ix n is 0 (by omega)] at hk ⊢
    have hn : ix n is < is.length := by
      by_cases h : ix n is < is.length
      · exact h
      · rw [if_neg h] at hk; omega
    rw [if_pos hn]
    have e1 : ext n is = is := by unfold ext; rw [if_pos hn]
    rw [e1]
    exact ⟨by simp, I, .refl⟩

/-- What a chain becomes, from a code on. -/
def CX (i p c ci ct : Nat) (h : Heap) (code : List D) (is : List Int) (x : Ch) (b : Bool) (h' : Heap) : Prop :=
  ∃ is', GW i p c ci ct h' (cut1 (code ++ (x.gen b is).1.map iD)) (is'.map dI) [] ∧ GF i p c ci ct h h' ∧ is'.length ≤ is.length + x.size ∧ (code.length + x.len b ≤ 401 → is' = (x.gen b is).2)

theorem kid_x {k n r : Int} {s : ByteArray} {l pa ca tr bi : List D} {j : Int} {x : Ch} (hj : 0 ≤ j) (hx : l[j.toNat]? = some x.d) {Q : V → Prop}
    (q : ∀ n1 n2 s3 l4 n5 l6 l7 l8 l9, x.d = coreD n1 n2 s3 l4 n5 l6 l7 l8 l9 → Q (.s 9 (coreD n1 n2 s3 l4 n5 l6 l7 l8 l9))) :
    Wa PP AA F20 [.s 9 (coreD k n s l r pa ca tr bi), vI j] Q := by
  have hlt : j.toNat < l.length := (List.getElem?_eq_some_iff.1 hx).1
  obtain ⟨n1, n2, s3, l4, n5, l6, l7, l8, l9, e⟩ := x.isC
  exact w20 ⟨fun h => ⟨hj, n1, n2, s3, l4, n5, l6, l7, l8, l9, by rw [hx, e], q _ _ _ _ _ _ _ _ _ e⟩, fun h => absurd h (by omega)⟩

theorem exp_of {x : Ch} {n1 n2 : Int} {s3 : ByteArray} {l4 : List D} {n5 : Int} {l6 l7 l8 l9 : List D} (e : x.d = coreD n1 n2 s3 l4 n5 l6 l7 l8 l9) {b : Bool} {h : Heap} {Q : V → Heap → Prop}
    (w : Wc PP AA F8 [.ptr (.he i 0) 0 2 0, .s 9 x.d, vBool b] h Q) : Wc PP AA F8 [.ptr (.he i 0) 0 2 0, .s 9 (coreD n1 n2 s3 l4 n5 l6 l7 l8 l9), vBool b] h Q := e ▸ w

/-- The return behind. -/
theorem ret_x (I : GW i p c ci ct h code (is.map dI) []) {b : Bool} {Q : Heap → Prop} (q : ∀ h', GW i p c ci ct h' (cut1 (code ++ (retI b).map iD)) (is.map dI) [] → GF i p c ci ct h h' → Q h') :
    (b = true → Wc PP AA F16 [.ptr (.he i 0) 0 2 0, vI 15, .d (.slice 0 [])] h fun v h2 => ∃ n, v = vI n ∧ Q h2) ∧ (b = false → Q h) := by
  refine ⟨fun hb => (s16x I 15 (.inl ⟨rfl, rfl⟩)).mono ?_, fun hb => ?_⟩
  · subst hb
    rintro v h2 ⟨k, rfl, J, F⟩
    exact ⟨k, rfl, q _ J F⟩
  · subst hb
    refine q _ ?_ .refl
    rw [show (retI false).map iD = [] from rfl, List.append_nil, cut1_same I.hl]; exact I

theorem CX.full (I : GW i p c ci ct h code (is.map dI) []) (hc : 400 < code.length) (x : Ch) (b : Bool) : CX i p c ci ct h code is x b h := by
  refine ⟨is, ?_, .refl, by omega, fun h => ?_⟩
  · rw [cut1, List.take_append_of_le_length (by omega), List.take_of_length_le I.hl]; exact I
  · have : 1 ≤ x.len b := by cases x <;> simp only [Ch.len] <;> omega
    omega

/-- An int. -/
theorem x8_int (I : GW i p c ci ct h code (is.map dI) []) (hb : is.length ≤ 100000) (n : Int) (b : Bool) :
    Wc PP AA F8 [.ptr (.he i 0) 0 2 0, .s 9 (Ch.int n).d, vBool b] h fun v h' => v = .tuple [] ∧ CX i p c ci ct h code is (.int n) b h' := by
  obtain ⟨g, w1, w2⟩ := I.w
  refine w8 ⟨_, _, _, w1, _, w2, fun hf => ⟨rfl, .full I (by omega) _ _⟩, fun hc => ⟨fun a => absurd a (by decide), fun _ => ⟨fun a => absurd a (by decide), fun _ => ⟨fun a => absurd a (by decide), fun _ => ⟨fun a => absurd a (by decide), fun _ => ⟨fun a => absurd a (by decide), fun _ => ⟨rfl, fun _ => ?_, fun a => absurd rfl a⟩⟩⟩⟩⟩⟩⟩
  refine (s17x I hb n).mono ?_
  rintro v h2 ⟨rfl, I2, F2⟩
  refine ⟨_, rfl, (s16x I2 1 (.inr rfl)).mono ?_⟩
  rintro v h3 ⟨k, rfl, I3, F3⟩
  refine ⟨k, rfl, ret_x I3 fun h4 I4 F4 => ⟨rfl, ext n is, ?_, (F2.trans F3).trans F4, by have := ext_le n is; simp only [Ch.size]; omega, fun _ => rfl⟩⟩
  rw [cut1_app] at I4
  simpa [Ch.gen] using I4

/-- A seq. -/
theorem x8_seq {x : Ch} {b : Bool} (ih : ∀ {h : Heap} {code : List D} {is : List Int}, GW i p c ci ct h code (is.map dI) [] → is.length + x.size ≤ 100000 → Wc PP AA F8 [.ptr (.he i 0) 0 2 0, .s 9 x.d, vBool b] h fun v h' => v = .tuple [] ∧ CX i p c ci ct h code is x b h')
    (I : GW i p c ci ct h code (is.map dI) []) (hb : is.length + x.size + 1 ≤ 100000) (a : Int) :
    Wc PP AA F8 [.ptr (.he i 0) 0 2 0, .s 9 (Ch.seq a x).d, vBool b] h fun v h' => v = .tuple [] ∧ CX i p c ci ct h code is (.seq a x) b h' := by
  obtain ⟨g, w1, w2⟩ := I.w
  refine w8 ⟨_, _, _, w1, _, w2, fun hf => ⟨rfl, .full I (by omega) _ _⟩, fun hc => ⟨fun a => absurd a (by decide), fun _ => ⟨fun _ => ?_, fun a => absurd rfl a⟩⟩⟩
  refine w31 (kid_x (x := .int a) (by omega) rfl fun n1 n2 s3 l4 n5 l6 l7 l8 l9 e => ⟨_, _, _, _, _, _, _, _, _, rfl, ?_⟩)
  refine exp_of e ((x8_int I (by omega) a false).mono ?_)
  rintro v h2 ⟨rfl, is2, I2, F2, e2, e3⟩
  have e3 := e3 (by simp [Ch.len, retI]; omega)
  subst e3
  refine ⟨rfl, kid_x (x := .int a) (by omega) rfl fun n1 n2 s3 l4 n5 l6 l7 l8 l9 e => ⟨_, _, _, _, _, _, _, _, _, rfl, fun h25 => ?_, fun _ => ?_⟩⟩
  · simp only [Ch.d, intC, coreD, D.agg.injEq, List.cons.injEq, D.v.injEq, Value.int.injEq] at e
    omega
  refine (s16x I2 9 (.inl ⟨rfl, rfl⟩)).mono ?_
  rintro v h3 ⟨k, rfl, I3, F3⟩
  refine ⟨k, rfl, kid_x (x := x) (by omega) rfl fun n1 n2 s3 l4 n5 l6 l7 l8 l9 e => ⟨_, _, _, _, _, _, _, _, _, rfl, ?_⟩⟩
  have hle := ext_le a is
  refine exp_of e ((ih I3 (by simp only [Ch.gen]; omega)).mono ?_)
  rintro v h4 ⟨rfl, is4, I4, F4, e4, e5⟩
  refine ⟨rfl, rfl, rfl, is4, ?_, (F2.trans F3).trans F4, by simp only [Ch.gen] at e4; simp only [Ch.size]; omega, fun hl => ?_⟩
  · rw [cut1_app, List.append_assoc, cut1_app] at I4
    simpa [Ch.gen, retI] using I4
  · refine e5 ?_
    simp only [Ch.len] at hl
    have h1 := cut1_len (code ++ ((Ch.int a).gen false is).1.map iD)
    have h2 := cut1_len (cut1 (code ++ ((Ch.int a).gen false is).1.map iD) ++ [iD (9, 0, 0)])
    simp only [List.length_append, List.length_map, gen_len, Ch.len, retI, List.length_cons, List.length_nil, Bool.false_eq_true, if_false] at h1 h2
    omega

/-- strings.Index of a plus. -/
theorem p22x : Wa PP AA F22 [.d (dS (mkStr [43, 45, 42, 47, 37, 61, 60])), .d (dS (mkStr [43]))] (· = vI 0) := by
  refine ⟨_, fun h => .prim (f := F22) rfl rfl, by show _ = _; kernel_rfl⟩
theorem plus_not : ((mkStr [43]).toList == (mkStr [94]).toList) = false := by kernel_rfl

/-- An op. -/
theorem x8_op {x : Ch} {b : Bool} (ih : ∀ {h : Heap} {code : List D} {is : List Int}, GW i p c ci ct h code (is.map dI) [] → is.length + x.size ≤ 100000 → Wc PP AA F8 [.ptr (.he i 0) 0 2 0, .s 9 x.d, vBool false] h fun v h' => v = .tuple [] ∧ CX i p c ci ct h code is x false h')
    (I : GW i p c ci ct h code (is.map dI) []) (hb : is.length + x.size + 1 ≤ 100000) (a : Int) :
    Wc PP AA F8 [.ptr (.he i 0) 0 2 0, .s 9 (Ch.op a x).d, vBool b] h fun v h' => v = .tuple [] ∧ CX i p c ci ct h code is (.op a x) b h' := by
  obtain ⟨g, w1, w2⟩ := I.w
  refine w8 ⟨_, _, _, w1, _, w2, fun hf => ⟨rfl, .full I (by omega) _ _⟩, fun hc => ⟨fun a => absurd a (by decide), fun _ => ⟨fun a => absurd a (by decide), fun _ => ⟨fun a => absurd a (by decide), fun _ => ⟨fun a => absurd a (by decide), fun _ => ⟨fun a => absurd a (by decide), fun _ => ⟨rfl, fun a => absurd a (by decide), fun _ => ⟨fun a => absurd a (by decide), fun _ => ⟨fun a => absurd a (by decide), fun _ => ⟨fun a => absurd a (by decide), fun _ => ⟨fun a => absurd a (by decide), fun _ => ⟨fun _ => ?_, fun a => absurd rfl a⟩⟩⟩⟩⟩⟩⟩⟩⟩⟩⟩⟩
  have hle := ext_le a is
  refine w21 (w21_1 ⟨fun _ => ⟨by omega, 1, a, mkStr [], [], 0, [], [], [], [], rfl, (x8_int I (by omega) a false).mono ?_⟩, fun h => absurd h (by simp)⟩)
  rintro v h2 ⟨rfl, is2, I2, F2, e2, e3⟩
  have e3 := e3 (by simp [Ch.len, retI]; omega)
  subst e3
  refine ⟨rfl, ?_⟩
  rw [show W (0 + 1) = 1 from rfl]
  obtain ⟨n1, n2, s3, l4, n5, l6, l7, l8, l9, e⟩ := x.isC
  refine w21_1 ⟨fun _ => ⟨by omega, n1, n2, s3, l4, n5, l6, l7, l8, l9, by rw [show [intC a, x.d][Int.toNat 1]? = some x.d from rfl, e], exp_of e ((ih I2 (by simp only [Ch.gen]; omega)).mono ?_)⟩, fun h => absurd h (by simp)⟩
  rintro v h3 ⟨rfl, is3, I3, F3, e4, e5⟩
  refine ⟨rfl, ?_⟩
  rw [show W (1 + 1) = 2 from rfl]
  refine w21_1 ⟨fun h => absurd h (by simp), fun _ => ⟨rfl, fun h => absurd (h.symm.trans plus_not) (by simp), fun _ => p22x.eq ⟨0, rfl, (s16x I3 19 (.inr rfl)).mono ?_⟩⟩⟩
  rintro v h4 ⟨k, rfl, I4, F4⟩
  refine ⟨k, rfl, ret_x I4 fun h5 I5 F5 => ⟨rfl, is3, ?_, ((F2.trans F3).trans F4).trans F5, by simp only [Ch.gen] at e4; simp only [Ch.size]; omega, fun hl => ?_⟩⟩
  · rw [cut1_app3] at I5
    simpa [Ch.gen, retI] using I5
  · refine e5 ?_
    simp only [Ch.len] at hl
    have h1 := cut1_len (code ++ ((Ch.int a).gen false is).1.map iD)
    simp only [List.length_append, List.length_map, gen_len, Ch.len, retI, List.length_cons, List.length_nil, Bool.false_eq_true, if_false] at h1
    omega

/-- Any chain. -/
theorem x8 : ∀ (x : Ch) (b : Bool) {h : Heap} {code : List D} {is : List Int}, GW i p c ci ct h code (is.map dI) [] → is.length + x.size ≤ 100000 →
    Wc PP AA F8 [.ptr (.he i 0) 0 2 0, .s 9 x.d, vBool b] h fun v h' => v = .tuple [] ∧ CX i p c ci ct h code is x b h'
  | .int n, b, h, code, is, I, hb => x8_int I (by simp only [Ch.size] at hb; omega) n b
  | .seq a x, b, h, code, is, I, hb => x8_seq (fun I hb => x8 x b I hb) I (by simp only [Ch.size] at hb; omega) a
  | .op a x, b, h, code, is, I, hb => x8_op (fun I hb => x8 x false I hb) I (by simp only [Ch.size] at hb; omega) a
end Am

/- GenMany: the document's code of a chain. -/
namespace Am
open Go
set_option maxRecDepth 10000

/-- The document's writer at i, its constants. -/
structure RG (i ci ct : Nat) (h : Heap) (is : List Int) (m : Bool) : Prop where
  w : ∃ gi gt, hpAt h i 0 = some (.var (.agg [.d (.slice 5 []), .sl (.he ci gi) 0 none, .sl (.he ct gt) 0 none, vBool m])) ∧ hpAt h ci gi = some (.darr gi 0 (is.map dI)) ∧ hpAt h ct gt = some (.darr gt 0 [])
  ne : ci ≠ ct
  il : i < h.n
  cil : ci < h.n
  ctl : ct < h.n

def RF (i ci ct : Nat) (h h' : Heap) : Prop := h.n ≤ h'.n ∧ ∀ q g, q < h.n → q ≠ i → q ≠ ci → q ≠ ct → hpAt h' q g = hpAt h q g

variable {i ci ct : Nat} {h h' h1 h2 : Heap} {is : List Int} {m : Bool}

theorem RF.refl : RF i ci ct h h := ⟨Nat.le_refl _, fun _ _ _ _ _ _ => rfl⟩
theorem RF.trans (a : RF i ci ct h h1) (b : RF i ci ct h1 h2) : RF i ci ct h h2 :=
  ⟨Nat.le_trans a.1 b.1, fun q g h1 h2 h3 h4 => by rw [b.2 q g (Nat.lt_of_lt_of_le h1 a.1) h2 h3 h4, a.2 q g h1 h2 h3 h4]⟩
theorem RF.push (o : Obj) : RF i ci ct h (h.push o) := ⟨by simp, fun q g hq _ _ _ => hpAt_push_old hq⟩
theorem RF.put (a : RF i ci ct h h1) {q : Nat} (hq : h.n ≤ q ∨ q = i ∨ q = ci) (o : Option Obj) : RF i ci ct h (h1.put q o) :=
  ⟨a.1, fun q' g h1 h2 h3 h4 => by rw [hpAt_put_ne (by omega)]; exact a.2 q' g h1 h2 h3 h4⟩

theorem RG.d (R : RG i ci ct h is m) : i ≠ ci ∧ i ≠ ct := by
  obtain ⟨gi, gt, e1, e2, e3⟩ := R.w
  exact ⟨hpAt_ne e1 e2 (by intro e; cases e), hpAt_ne e1 e3 (by intro e; cases e)⟩

/-- Another place. -/
theorem RG.put (R : RG i ci ct h is m) {q : Nat} (a : q ≠ i) (b : q ≠ ci) (c : q ≠ ct) (o : Option Obj) : RG i ci ct (h.put q o) is m := by
  obtain ⟨gi, gt, e1, e2, e3⟩ := R.w
  exact ⟨⟨gi, gt, by rw [hpAt_put_ne a]; exact e1, by rw [hpAt_put_ne b]; exact e2, by rw [hpAt_put_ne c]; exact e3⟩, R.ne, R.il, R.cil, R.ctl⟩
theorem RG.push (R : RG i ci ct h is m) (o : Obj) : RG i ci ct (h.push o) is m := by
  obtain ⟨gi, gt, e1, e2, e3⟩ := R.w
  have h1 := R.il; have h2 := R.cil; have h3 := R.ctl
  exact ⟨⟨gi, gt, by rw [hpAt_push_old h1]; exact e1, by rw [hpAt_push_old h2]; exact e2, by rw [hpAt_push_old h3]; exact e3⟩, R.ne, by simp only [Heap.push_n]; omega, by simp only [Heap.push_n]; omega, by simp only [Heap.push_n]; omega⟩

/-- A number's place. -/
theorem x209 (R : RG i ci ct h is m) (hb : is.length ≤ 100000) (n : Int) :
    Wc PP AA F209 [.ptr (.he i 0) 0 4 0, vI n] h fun v h' => v = vI (ix n is : Int) ∧ RG i ci ct h' (ext n is) m ∧ RF i ci ct h h' ∧ h'.n = h.n := by
  obtain ⟨d1, d2⟩ := R.d
  obtain ⟨gi, gt, e1, e2, e3⟩ := R.w
  have lp : ∀ j : Nat, j ≤ is.length → (∀ k, k < j → is[k]? ≠ some n) → ix n is = j + ix n (is.drop j) →
      Wl PP AA F209 f209_K1 (f209_S1 i n j h) fun v h' => v = vI (ix n is : Int) ∧ RG i ci ct h' (ext n is) m ∧ RF i ci ct h h' ∧ h'.n = h.n := by
    have := upto (n := is.length) (S := fun j => (∀ k, k < j → is[k]? ≠ some n) → ix n is = j + ix n (is.drop j) →
      Wl PP AA F209 f209_K1 (f209_S1 i n j h) fun v h' => v = vI (ix n is : Int) ∧ RG i ci ct h' (ext n is) m ∧ RF i ci ct h h' ∧ h'.n = h.n) ?_
    · exact this
    intro j hj ih hno hix
    refine w209_1 ⟨_, _, _, _, _, _, e1, _, e2, fun h1 => ?_, fun h1 => ?_⟩
    · have hj' : j < is.length := by simp at h1; omega
      rw [drop_cons hj'] at hix
      refine ⟨by omega, by simpa using hj', is[j], by rw [getI (by simpa using hj')]; simp, fun h2 => ?_, fun h2 => ?_⟩
      · simp only [ix, h2, if_true] at hix
        have e : ext n is = is := by unfold ext; rw [if_pos (by omega)]
        rw [e, show ix n is = j by omega]
        exact ⟨rfl, R, .refl, rfl⟩
      · rw [W_succ hj' (by omega)]
        refine ih hj' (fun k hk => ?_) ?_
        · by_cases e : k = j
          · subst e; rw [List.getElem?_eq_getElem hj']; simpa using h2
          · exact hno k (by omega)
        · simp only [ix, Ne.symm h2, if_false] at hix; omega
    · have hjl : j = is.length := by simp at h1; omega
      subst hjl
      rw [List.drop_length] at hix
      simp only [ix] at hix
      have e : ext n is = is ++ [n] := by unfold ext; rw [if_neg (by omega)]
      rw [e]
      refine ⟨by simp; omega, ?_, ?_, ?_, ?_, ⟨⟨gi + 1, gt, hpAt_put_same rfl, ?_, ?_⟩, R.ne, R.il, R.cil, R.ctl⟩, (RF.refl.put (.inr (.inr rfl)) _).put (.inr (.inl rfl)) _, rfl⟩
      · rw [hpAt_put_ne (Ne.symm d1)]; exact e1
      · exact hpAt_put_same rfl
      · rw [hpAt_put_ne d1]; exact hpAt_put_same rfl
      · have : (((is.map dI ++ [dI n] : List D).length : Nat) : Int) - 1 = (is.length : Int) := by simp
        show vI (W ((((is.map dI ++ [dI n] : List D).length : Nat) : Int) - 1)) = _
        rw [this, W_id (by omega) (by omega), hix]; rfl
      · rw [hpAt_put_ne d1]
        rw [show (is ++ [n]).map dI = is.map dI ++ [dI n] by simp]; exact hpAt_put_same rfl
      · rw [hpAt_put_ne d2, hpAt_put_ne R.ne]; exact e3
  exact w209 (lp 0 (by omega) (fun k hk => absurd hk (by omega)) (by simp))

/-- What a chain becomes. -/
def RX (i ci ct : Nat) (h : Heap) (is : List Int) (m : Bool) (base : Int) (x : Ch) (b : Bool) (v : V) (h' : Heap) : Prop :=
  ∃ q g l is' m', v = .sl (.he q g) 3 none ∧ h.n ≤ q ∧ q < h'.n ∧ hpAt h' q g = some (.darr g 3 l) ∧ RG i ci ct h' is' m' ∧ RF i ci ct h h' ∧ is'.length ≤ is.length + x.size ∧ l.length ≤ x.len b ∧ (∀ z ∈ l, IsI z) ∧
    (m = true → m' = true) ∧ (m' = false → l = (x.gen b is).1.map iD ∧ is' = (x.gen b is).2) ∧ (m = false → base + x.len b ≤ 401 → m' = false)

theorem len_pos (x : Ch) (b : Bool) : 1 ≤ x.len b := by cases x <;> simp only [Ch.len] <;> omega
theorem len_le : ∀ (x : Ch) (b : Bool), x.len b ≤ 2 * x.size
  | .int _, b => by cases b <;> simp [Ch.len, Ch.size, retI]
  | .seq _ c, b => by have := len_le c b; simp only [Ch.len, Ch.size]; omega
  | .op _ c, b => by have := len_le c false; have := len_last c; have := len_le c true; cases b <;> simp [Ch.len, Ch.size, retI] <;> omega

/-- It was too much already, or is now. -/
theorem RX.many (R : RG i ci ct h is true) {h0 : Heap} (F : RF i ci ct h0 h) {m : Bool} {base : Int} {x : Ch} {b : Bool} {is0 : List Int} (h0n : h0.n ≤ h.n) (hi : is.length ≤ is0.length) (hm : m = false → 401 < base + x.len b) :
    RX i ci ct h0 is0 m base x b (.sl (.he h.n 0) 3 none) (h.push (.darr 0 3 [])) :=
  ⟨h.n, 0, [], is, true, rfl, h0n, by simp, hpAt_push_new rfl, R.push _, F.trans (.push _), by omega, by simp, by simp, fun _ => rfl, (fun h => by cases h), fun e hle => by have := hm e; omega⟩

theorem RG.toMany (R : RG i ci ct h is m) : ∀ gi gt, hpAt h i 0 = some (.var (.agg [.d (.slice 5 []), .sl (.he ci gi) 0 none, .sl (.he ct gt) 0 none, vBool m])) → hpAt h ci gi = some (.darr gi 0 (is.map dI)) → hpAt h ct gt = some (.darr gt 0 []) →
    RG i ci ct (h.put i (some (.var (.agg [.d (.slice 5 []), .sl (.he ci gi) 0 none, .sl (.he ct gt) 0 none, vBool true])))) is true := fun gi gt _ e2 e3 => by
  obtain ⟨d1, d2⟩ := R.d
  exact ⟨⟨gi, gt, hpAt_put_same rfl, by rw [hpAt_put_ne d1]; exact e2, by rw [hpAt_put_ne d2]; exact e3⟩, R.ne, R.il, R.cil, R.ctl⟩

theorem oneI (a b c : Int) : Wa PP AA F205 [vI a, vI b, vI c] (· = .s 3 (.agg [dI a, dI b, dI c])) := w205 rfl

/-- An int. -/
theorem x203_int (R : RG i ci ct h is m) (hb : is.length ≤ 100000) (n base : Int) (b : Bool) :
    Wc PP AA F203 [.ptr (.he i 0) 0 4 0, .s 9 (Ch.int n).d, vI base, vBool b] h (RX i ci ct h is m base (.int n) b) := by
  obtain ⟨gi, gt, e1, e2, e3⟩ := R.w
  have hl := len_pos (.int n) b
  refine w203i (n1 := 0) ⟨fun hf => ⟨_, _, _, _, _, _, e1, hpAt_put_same rfl, ?_⟩, fun hf => ⟨_, _, _, _, _, _, e1, fun hm => ?_, fun hm => ?_⟩⟩
  · exact RX.many (R.toMany gi gt e1 e2 e3) (RF.refl.put (.inr (.inl rfl)) _) (by simp) (Nat.le_refl _) fun _ => by omega
  · subst hm
    exact RX.many R .refl (Nat.le_refl _) (Nat.le_refl _) fun h => by cases h
  · subst hm
    refine (x209 (R.push (.darr 0 3 [])) hb n).mono ?_
    rintro v h2 ⟨rfl, R2, F2, n2⟩
    simp only [Heap.push_n] at n2
    have hil := R.il; have hcil := R.cil; have hctl := R.ctl
    have hat : hpAt h2 h.n 0 = some (.darr 0 3 []) := by rw [F2.2 h.n 0 (by simp) (by omega) (by omega) (by omega)]; exact hpAt_push_new rfl
    refine ⟨_, rfl, (oneI _ _ _).eq ⟨_, _, _, rfl, _, hat, by simp, fun hb => (oneI _ _ _).eq ⟨_, _, _, rfl, hpAt_put_same rfl, by simp, ?_⟩, fun hb => ?_⟩⟩
    · subst hb
      exact ⟨h.n, 2, _, ext n is, false, rfl, Nat.le_refl _, by simp; omega, hpAt_put_same rfl, (R2.put (by omega) (by omega) (by omega) _).put (by omega) (by omega) (by omega) _, (((RF.push _).trans F2).put (.inl (Nat.le_refl _)) _).put (.inl (Nat.le_refl _)) _,
        by have := ext_le n is; simp only [Ch.size]; omega, by simp [Ch.len, retI], (fun z hz => by simp at hz; first | exact ⟨_, _, _, hz⟩ | (rcases hz with hz | hz <;> exact ⟨_, _, _, hz⟩)), (fun h => by cases h), fun _ => ⟨by simp [Ch.gen, retI, iD], rfl⟩, fun _ _ => rfl⟩
    · subst hb
      exact ⟨h.n, 1, _, ext n is, false, rfl, Nat.le_refl _, by simp; omega, hpAt_put_same rfl, R2.put (by omega) (by omega) (by omega) _, ((RF.push _).trans F2).put (.inl (Nat.le_refl _)) _,
        by have := ext_le n is; simp only [Ch.size]; omega, by simp [Ch.len, retI], (fun z hz => by simp at hz; first | exact ⟨_, _, _, hz⟩ | (rcases hz with hz | hz <;> exact ⟨_, _, _, hz⟩)), (fun h => by cases h), fun _ => ⟨by simp [Ch.gen, retI, iD], rfl⟩, fun _ _ => rfl⟩
end Am

/- GenMany: the document's code of a seq, of an op. -/
namespace Am
open Go
set_option maxRecDepth 10000

variable {i ci ct : Nat} {h h' h1 h2 : Heap} {is : List Int} {m : Bool}

theorem expR_of {x : Ch} {n1 n2 : Int} {s3 : ByteArray} {l4 : List D} {n5 : Int} {l6 l7 l8 l9 : List D} (e : x.d = coreD n1 n2 s3 l4 n5 l6 l7 l8 l9) {b : Bool} {base : Int} {h : Heap} {Q : V → Heap → Prop}
    (w : Wc PP AA F203 [.ptr (.he i 0) 0 4 0, .s 9 x.d, vI base, vBool b] h Q) : Wc PP AA F203 [.ptr (.he i 0) 0 4 0, .s 9 (coreD n1 n2 s3 l4 n5 l6 l7 l8 l9), vI base, vBool b] h Q := e ▸ w

theorem snocI {l : List D} {y : D} (h : ∀ z ∈ l, IsI z) (hy : IsI y) : ∀ z ∈ l ++ [y], IsI z := fun z hz => by
  rcases List.mem_append.1 hz with hz | hz
  · exact h z hz
  · simp at hz; subst hz; exact hy

/-- What is known of a chain. -/
def XR (i ci ct : Nat) (x : Ch) (b : Bool) : Prop := ∀ (h : Heap) (is : List Int) (m : Bool) (base : Int), RG i ci ct h is m → is.length + x.size ≤ 1000 → 0 ≤ base → base ≤ 100000 →
  Wc PP AA F203 [.ptr (.he i 0) 0 4 0, .s 9 x.d, vI base, vBool b] h (RX i ci ct h is m base x b)

theorem x203_seq {x : Ch} {b : Bool} (ih : XR i ci ct x b) (a : Int) : XR i ci ct (.seq a x) b := by
  intro h is m base R hb hb0 hb1
  obtain ⟨gi, gt, e1, e2, e3⟩ := R.w
  have hl := len_pos x b
  have hl2 := len_le x b
  simp only [Ch.size] at hb
  refine w203s (n1 := 0) ⟨fun hf => ⟨_, _, _, _, _, _, e1, hpAt_put_same rfl, ?_⟩, fun hf => ⟨_, _, _, _, _, _, e1, fun hm => ?_, fun hm => ?_⟩⟩
  · exact RX.many (R.toMany gi gt e1 e2 e3) (RF.refl.put (.inr (.inl rfl)) _) (by simp) (Nat.le_refl _) fun _ => by simp only [Ch.len]; omega
  · subst hm
    exact RX.many R .refl (Nat.le_refl _) (Nat.le_refl _) (fun h => by cases h)
  · subst hm
    refine ⟨1, a, mkStr [], [], 0, [], [], [], [], rfl, (x203_int (R.push (.darr 0 3 [])) (by omega) a base false).mono ?_⟩
    rintro v h2 ⟨q, g, l, is2, m2, rfl, q1, q2, q3, R2, F2, e4, e5, e5s, _, e6, e7⟩
    simp only [Heap.push_n] at q1
    have hil := R.il; have hcil := R.cil; have hctl := R.ctl
    have hll : l.length ≤ 1 := by simpa [Ch.len, retI] using e5
    obtain ⟨n1, n2, s3, l4, n5, l6, l7, l8, l9, e⟩ := x.isC
    refine ⟨q, g, rfl, fun h => by omega, fun _ => (oneI _ _ _).eq ⟨_, _, _, rfl, l, q3, by omega, n1, n2, s3, l4, n5, l6, l7, l8, l9, by rw [show [intC a, x.d][1]? = some x.d from rfl, e], hpAt_put_same rfl, ?_⟩⟩
    have hW : W (base + iN (l ++ [.agg [dI 9, dI 0, dI 0]] : List D).length) = base + (l.length + 1 : Nat) := by
      show W (base + (((l ++ [.agg [dI 9, dI 0, dI 0]] : List D).length : Nat) : Int)) = _
      rw [List.length_append, W_id (by omega) (by simp; omega)]; rfl
    rw [hW]
    have hqi : q ≠ i := by omega
    have hqc : q ≠ ci := by omega
    have hqt : q ≠ ct := by omega
    refine expR_of e ((ih _ is2 m2 _ (R2.put hqi hqc hqt _) (by simp only [Ch.size] at e4; omega) (by omega) (by omega)).mono ?_)
    rintro v h3 ⟨q', g', l', is3, m3, rfl, p1, p2, p3, R3, F3, f4, f5, f5s, f8, f6, f7⟩
    simp only [Heap.put_n] at p1
    have hqq : q' ≠ q := by omega
    have hn3 : h2.n ≤ h3.n := by have := F3.1; simpa using this
    refine ⟨q', g', rfl, l', p3, l ++ [.agg [dI 9, dI 0, dI 0]], ?_, by simp; omega, ?_⟩
    · rw [hpAt_put_ne hqq, F3.2 q (g + 1) (by simpa using q2) hqi hqc hqt]; exact hpAt_put_same rfl
    · refine ⟨q, g + 1 + 1, _, is3, m3, rfl, by omega, by simp; omega, hpAt_put_same rfl, (R3.put (by omega) (by omega) (by omega) _).put hqi hqc hqt _, ((((RF.push _).trans F2).put (.inl (by omega)) _).trans F3 |>.put (.inl (by omega)) _).put (.inl (by omega)) _,
        by simp only [Ch.size] at e4 ⊢; omega, by simp [Ch.len]; omega, (fun z hz => by simp at hz; rcases hz with hz | hz | hz <;> first | exact e5s z hz | exact f5s z hz | exact ⟨_, _, _, hz⟩), (fun h => by cases h), fun hm3 => ?_, fun _ hle => ?_⟩
      · have hm2 : m2 = false := by cases m2 with
          | false => rfl
          | true => have := f8 rfl; rw [hm3] at this; cases this
        obtain ⟨k1, k2⟩ := e6 hm2
        obtain ⟨k3, k4⟩ := f6 hm3
        rw [k2] at k3 k4
        refine ⟨?_, k4⟩
        rw [k1, k3]
        simp [Ch.gen, retI, iD]
      · simp only [Ch.len] at hle
        have hm2 := e7 rfl (by simp [Ch.len, retI]; omega)
        obtain ⟨k1, _⟩ := e6 hm2
        exact f7 hm2 (by rw [k1]; simp [Ch.gen, retI]; omega)

/-- An op's Kids. -/
theorem x208 {x : Ch} (ih : XR i ci ct x false) (a : Int) (R : RG i ci ct h is m) (hb : is.length + x.size + 1 ≤ 1000) {base : Int} (hb0 : 0 ≤ base) (hb1 : base ≤ 400) :
    Wc PP AA F208 [.ptr (.he i 0) 0 4 0, .s 9 (Ch.op a x).d, vI base] h fun v h' => ∃ q g l is' m', v = .sl (.he q g) 3 none ∧ h.n ≤ q ∧ q < h'.n ∧ hpAt h' q g = some (.darr g 3 l) ∧ RG i ci ct h' is' m' ∧ RF i ci ct h h' ∧ is'.length ≤ is.length + x.size + 1 ∧ l.length ≤ 1 + x.len false ∧ (∀ z ∈ l, IsI z) ∧
      (m = true → m' = true) ∧ (m' = false → l = ((1, (ix a is : Int), 0) :: (x.gen false (ext a is)).1).map iD ∧ is' = (x.gen false (ext a is)).2) ∧ (m = false → base + x.len false ≤ 400 → m' = false) := by
  have hil := R.il; have hcil := R.cil; have hctl := R.ctl
  have hl2 := len_le x false
  have hl := len_pos x false
  refine w208 (w208_1 ⟨fun _ => ⟨by omega, 1, a, mkStr [], [], 0, [], [], [], [], rfl, [], hpAt_push_new rfl, ?_⟩, fun h => absurd h (by simp)⟩)
  rw [show W (base + iN ([] : List D).length) = base by show W (base + 0) = base; rw [W_id (by omega) (by omega)]; omega]
  refine (x203_int (R.push (.darr 0 3 [])) (by omega) a base false).mono ?_
  rintro v h2 ⟨q, g, l, is2, m2, rfl, q1, q2, q3, R2, F2, e4, e5, e5s, e8, e6, e7⟩
  simp only [Heap.push_n] at q1
  have hll : l.length ≤ 1 := by simpa [Ch.len, retI] using e5
  have hat : hpAt (h2.put q none) h.n 0 = some (.darr 0 3 []) := by rw [hpAt_put_ne (by omega), F2.2 h.n 0 (by simp) (by omega) (by omega) (by omega)]; exact hpAt_push_new rfl
  refine ⟨q, g, rfl, l, q3, [], hat, by simp; omega, ?_⟩
  rw [show W (0 + 1) = 1 from rfl, List.nil_append]
  obtain ⟨n1, n2, s3, l4, n5, l6, l7, l8, l9, e⟩ := x.isC
  refine w208_1 ⟨fun _ => ⟨by omega, n1, n2, s3, l4, n5, l6, l7, l8, l9, by rw [show [intC a, x.d][Int.toNat 1]? = some x.d from rfl, e], l, hpAt_put_same rfl, ?_⟩, fun h => absurd h (by simp)⟩
  have hW : W (base + iN l.length) = base + (l.length : Nat) := by
    show W (base + ((l.length : Nat) : Int)) = _
    rw [W_id (by omega) (by omega)]
  rw [hW]
  have R2' : RG i ci ct ((h2.put q none).put h.n (some (.darr (0 + 1) 3 l))) is2 m2 := (R2.put (by omega) (by omega) (by omega) _).put (by omega) (by omega) (by omega) _
  refine expR_of e ((ih _ is2 m2 _ R2' (by simp only [Ch.size] at e4; omega) (by omega) (by omega)).mono ?_)
  rintro v h3 ⟨q', g', l', is3, m3, rfl, p1, p2, p3, R3, F3, f4, f5, f5s, f8, f6, f7⟩
  simp only [Heap.put_n] at p1
  have hn2 : h.n + 1 ≤ h2.n := by have := F2.1; simpa using this
  have hn3 : h2.n ≤ h3.n := by have := F3.1; simpa using this
  refine ⟨q', g', rfl, l', p3, l, ?_, by omega, ?_⟩
  · rw [hpAt_put_ne (by omega), F3.2 h.n 1 (by simp; omega) (by omega) (by omega) (by omega)]; exact hpAt_put_same rfl
  · rw [show W (1 + 1) = 2 from rfl]
    refine w208_1 ⟨fun h => absurd h (by simp), fun _ => ⟨h.n, 0 + 1 + 1, _, is3, m3, rfl, Nat.le_refl _, by simp; omega, hpAt_put_same rfl, (R3.put (by omega) (by omega) (by omega) _).put (by omega) (by omega) (by omega) _,
      (((((RF.push _).trans F2).put (.inl (by omega)) _).put (.inl (Nat.le_refl _)) _).trans F3 |>.put (.inl (by omega)) _).put (.inl (Nat.le_refl _)) _, by simp only [Ch.size] at e4; omega, by simp; omega, (fun z hz => by simp at hz; rcases hz with hz | hz <;> first | exact e5s z hz | exact f5s z hz), fun hm => f8 (e8 hm), fun hm3 => ?_, fun hm hle => ?_⟩⟩
    · have hm2 : m2 = false := by cases m2 with
        | false => rfl
        | true => have := f8 rfl; rw [hm3] at this; cases this
      obtain ⟨k1, k2⟩ := e6 hm2
      obtain ⟨k3, k4⟩ := f6 hm3
      rw [k2] at k3 k4
      refine ⟨?_, k4⟩
      rw [k1, k3]
      simp [Ch.gen, retI]
    · have hm2 := e7 hm (by simp [Ch.len, retI]; omega)
      obtain ⟨k1, _⟩ := e6 hm2
      exact f7 hm2 (by rw [k1]; simp [Ch.gen, retI]; omega)

/-- The signs. -/
theorem x212_1 {n2 n3 n6 : Int} {l5 l7 l8 l9 l10 : List D} {q g : Nat} {Q : V → Heap → Prop} (hQ : Q (.sl (.he q g) 3 none) h) : ∀ j : Nat, j ≤ 7 → 1 ≤ j →
    Wl PP AA F212 f212_K1 (f212_S1 n2 n3 (mkStr [43]) l5 n6 l7 l8 l9 l10 q g j h) Q :=
  upto (S := fun j => 1 ≤ j → Wl PP AA F212 f212_K1 (f212_S1 n2 n3 (mkStr [43]) l5 n6 l7 l8 l9 l10 q g j h) Q) fun j hj ih h1 => by
    refine w212_1 ⟨fun h2 => ⟨by omega, ?_⟩, fun _ => hQ⟩
    have hj' : j < 7 := by omega
    have nx : Wl PP AA F212 f212_K1 (f212_S1 n2 n3 (mkStr [43]) l5 n6 l7 l8 l9 l10 q g (W ((j : Int) + 1)) h) Q := by
      rw [W_succ hj' (by omega)]; exact ih hj' (by omega)
    obtain rfl | rfl | rfl | rfl | rfl | rfl : j = 1 ∨ j = 2 ∨ j = 3 ∨ j = 4 ∨ j = 5 ∨ j = 6 := by omega
    all_goals exact ⟨_, rfl, fun h => absurd (h.symm.trans (by kernel_rfl : _ = false)) (by simp), fun _ => nx⟩

theorem x203_op {x : Ch} {b : Bool} (ih : XR i ci ct x false) (a : Int) : XR i ci ct (.op a x) b := by
  intro h is m base R hb hb0 hb1
  obtain ⟨gi, gt, e1, e2, e3⟩ := R.w
  have hl := len_pos x false
  have hl2 := len_le x false
  simp only [Ch.size] at hb
  have hil := R.il; have hcil := R.cil; have hctl := R.ctl
  refine w203o (n1 := 0) ⟨fun hf => ⟨_, _, _, _, _, _, e1, hpAt_put_same rfl, ?_⟩, fun hf => ⟨_, _, _, _, _, _, e1, fun hm => ?_, fun hm => ?_⟩⟩
  · exact RX.many (R.toMany gi gt e1 e2 e3) (RF.refl.put (.inr (.inl rfl)) _) (by simp) (Nat.le_refl _) fun _ => by simp only [Ch.len]; omega
  · subst hm
    exact RX.many R .refl (Nat.le_refl _) (Nat.le_refl _) (fun h => by cases h)
  · subst hm
    refine w212 ((x208 ih a (R.push (.darr 0 3 [])) (by omega) hb0 hf).mono ?_)
    rintro v h2 ⟨q, g, l, is2, m2, rfl, q1, q2, q3, R2, F2, e4, e5, e5s, _, e6, e7⟩
    simp only [Heap.push_n] at q1
    have hqi : q ≠ i := by omega
    have hqc : q ≠ ci := by omega
    have hqt : q ≠ ct := by omega
    refine ⟨q, g, rfl, fun h => absurd (h.symm.trans plus_not) (by simp), fun _ => w212_1 ⟨fun _ => ⟨by omega, _, rfl, fun _ => (oneI _ _ _).eq ⟨_, _, _, rfl, l, q3, by omega, ?_⟩, fun h => absurd (h.symm.trans (by kernel_rfl : _ = true)) (by simp)⟩, fun h => absurd h (by omega)⟩⟩
    rw [show W (0 + 1) = ((1 : Nat) : Int) from rfl]
    refine x212_1 ⟨q, g + 1, rfl, fun hb => (oneI _ _ _).eq ⟨_, _, _, rfl, _, hpAt_put_same rfl, by simp; omega, ?_⟩, fun hb => ?_⟩ 1 (by omega) (by omega)
    · subst hb
      refine ⟨q, g + 1 + 1, _, is2, m2, rfl, by omega, by simp; omega, hpAt_put_same rfl, (R2.put hqi hqc hqt _).put hqi hqc hqt _, (((RF.push _).trans F2).put (.inl (by omega)) _).put (.inl (by omega)) _, by simp only [Ch.size]; omega, by simp [Ch.len, retI]; omega, (snocI (snocI e5s ⟨_, _, _, rfl⟩) ⟨_, _, _, rfl⟩), (fun h => by cases h), fun hm2 => ?_, fun _ hle => e7 rfl (by simp [Ch.len, retI] at hle; omega)⟩
      obtain ⟨k1, k2⟩ := e6 hm2
      refine ⟨?_, k2⟩
      rw [k1]; simp [Ch.gen, retI, iD]
    · subst hb
      refine ⟨q, g + 1, _, is2, m2, rfl, by omega, by simp; omega, hpAt_put_same rfl, R2.put hqi hqc hqt _, ((RF.push _).trans F2).put (.inl (by omega)) _, by simp only [Ch.size]; omega, by simp [Ch.len, retI]; omega, (snocI e5s ⟨_, _, _, rfl⟩), (fun h => by cases h), fun hm2 => ?_, fun _ hle => e7 rfl (by simp [Ch.len, retI] at hle; omega)⟩
      obtain ⟨k1, k2⟩ := e6 hm2
      refine ⟨?_, k2⟩
      rw [k1]; simp [Ch.gen, retI, iD]

/-- Any chain. -/
theorem x203 : ∀ (x : Ch) (b : Bool), XR i ci ct x b
  | .int n, b => fun h is m base R hb _ _ => x203_int R (by omega) n base b
  | .seq a x, b => x203_seq (x203 x b) a
  | .op a x, b => x203_op (x203 x false) a
end Am

/- GenMany: a chain's code holds together. -/
namespace Am
open Go
set_option maxRecDepth 10000

/-- One step of a straight code. -/
def Stp1 (n : Nat) (y : I3) (d d' : Int) : Prop := (∃ k : Nat, y = (1, (k : Int), 0) ∧ k < n ∧ d' = d + 1) ∨ (y = (9, 0, 0) ∧ 1 ≤ d ∧ d' = d - 1) ∨ (y = (19, 0, 0) ∧ 2 ≤ d ∧ d' = d - 1)

/-- A straight code; the depths ahead of its instructions. -/
inductive Chn (n : Nat) (S : Int) : List I3 → List Int → Int → Int → Prop
  | nil (d : Int) : Chn n S [] [] d d
  | cons {y : I3} {d d' e : Int} {ys : List I3} {ds : List Int} (h0 : 0 ≤ d) (h1 : d ≤ S) (h : Stp1 n y d d') (r : Chn n S ys ds d' e) : Chn n S (y :: ys) (d :: ds) d e

theorem Chn.app {n : Nat} {S d e f : Int} {a b : List I3} {da db : List Int} (h : Chn n S a da d e) (h2 : Chn n S b db e f) : Chn n S (a ++ b) (da ++ db) d f := by
  induction h with
  | nil d => exact h2
  | cons h0 h1 h _ ih => exact .cons h0 h1 h (ih h2)

theorem Chn.len {n : Nat} {S d e : Int} {a : List I3} {da : List Int} (h : Chn n S a da d e) : da.length = a.length := by
  induction h with
  | nil d => rfl
  | cons h0 h1 h _ ih => simp [ih]

theorem Chn.hd {n : Nat} {S d e : Int} {a : List I3} {da : List Int} (h : Chn n S a da d e) : (da ++ [e])[0]? = some d := by
  cases h <;> rfl

theorem Chn.get {n : Nat} {S d e : Int} {a : List I3} {da : List Int} (h : Chn n S a da d e) : ∀ (j : Nat) (dj : Int), da[j]? = some dj → 0 ≤ dj ∧ dj ≤ S ∧ ∃ y d', a[j]? = some y ∧ (da ++ [e])[j + 1]? = some d' ∧ Stp1 n y dj d' := by
  induction h with
  | nil d => intro j dj h; simp at h
  | cons h0 h1 h r ih =>
    intro j dj hj
    cases j with
    | zero =>
      simp at hj; subst hj
      exact ⟨h0, h1, _, _, rfl, by simpa using r.hd, h⟩
    | succ j =>
      obtain ⟨a1, a2, y, d', a3, a4, a5⟩ := ih j dj (by simpa using hj)
      exact ⟨a1, a2, y, d', by simpa using a3, by simpa using a4, a5⟩

theorem chn_gen {n : Nat} {S : Int} : ∀ (x : Ch) (is : List Int) (d : Int), 0 ≤ d → d + x.need ≤ S → (x.gen false is).2.length ≤ n → ∃ ds, Chn n S (x.gen false is).1 ds d (d + 1)
  | .int a, is, d, hd, hS, hn => by
    have := ix_lt a is
    simp only [Ch.gen] at hn
    simp only [Ch.need] at hS
    exact ⟨_, .cons hd (by omega) (.inl ⟨ix a is, rfl, by omega, rfl⟩) (.nil _)⟩
  | .seq a x, is, d, hd, hS, hn => by
    simp only [Ch.gen] at hn
    simp only [Ch.need] at hS
    obtain ⟨ds, h⟩ := chn_gen x (ext a is) d hd hS hn
    have h1 := ix_lt a is
    have h2 := (gen_ints x false (ext a is)).2
    have h3 := (need_pos x).1
    exact ⟨d :: (d + 1) :: ds, .cons hd (by omega) (.inl ⟨ix a is, rfl, by omega, rfl⟩) (.cons (by omega) (by omega) (.inr (.inl ⟨rfl, by omega, by omega⟩)) h)⟩
  | .op a x, is, d, hd, hS, hn => by
    simp only [Ch.gen] at hn
    simp only [Ch.need] at hS
    obtain ⟨ds, h⟩ := chn_gen (S := S) x (ext a is) (d + 1) (by omega) (by omega) hn
    have h1 := ix_lt a is
    have h2 := (gen_ints x false (ext a is)).2
    have h3 := (need_pos x).1
    have hs : Chn n S [(19, 0, 0)] [d + 1 + 1] (d + 1 + 1) (d + 1) := .cons (by omega) (by omega) (.inr (.inr ⟨rfl, by omega, by omega⟩)) (.nil _)
    refine ⟨d :: (ds ++ [d + 1 + 1]), .cons (d' := d + 1) hd (by omega) (.inl ⟨ix a is, rfl, by omega, rfl⟩) ?_⟩
    have := h.app hs
    simpa [retI] using this

section
variable {fs is ts : List D} {lets n kept locals : Int}

theorem nx_step {N : Nat} (hN : is.length = N) {y : I3} {d d' : Int} (hd : 0 ≤ d) (h : Stp1 N y d d') (j : Int) : nx fs is ts lets n kept locals y.1 y.2.1 y.2.2 j (d, []) = ([(j + 1, d', [])], true) := by
  subst hN
  rcases h with ⟨k, rfl, hk, rfl⟩ | ⟨rfl, h1, rfl⟩ | ⟨rfl, h1, rfl⟩
  · have : ¬ d < 0 := by omega
    simp [nx, nextM, effM, goesM, baseM, hk, this]
  · have : ¬ d - 1 < 0 := by omega
    simp [nx, nextM, effM, goesM, baseM, this]
    omega
  · have : ¬ d - 2 < 0 := by omega
    simp [nx, nextM, effM, goesM, baseM, this]
    omega

theorem cert_chn {S : Int} {K : List I3} {ds : List Int} (hS : S ≤ 1000) (h1 : 1 ≤ S) (h : Chn is.length S K ds 0 1) : Cert fs is ts lets n kept locals S ((K ++ [(15, 0, 0)]).map iD) := by
  have hl := h.len
  refine ⟨fun j => (ds ++ [1])[j]?.map fun d => (d, []), by show Option.map _ (ds ++ [1])[0]? = _; rw [h.hd]; rfl, fun j s hj => ?_⟩
  simp only [Option.map_eq_some_iff] at hj
  obtain ⟨d, hj, rfl⟩ := hj
  have hjl : j < ds.length + 1 := by simpa using (List.getElem?_eq_some_iff.1 hj).1
  refine ⟨by simp; omega, ?_⟩
  rcases Nat.lt_or_ge j ds.length with hlt | hge
  · rw [List.getElem?_append_left hlt] at hj
    obtain ⟨a1, a2, y, d', a3, a4, a5⟩ := h.get j d hj
    refine ⟨⟨a1, by simp; omega, by simp, by simp⟩, a2, fun o a b hg => ?_⟩
    rw [List.getElem?_map, List.getElem?_append_left (by omega), a3] at hg
    simp only [Option.map_some, Option.some.injEq, iD, D.agg.injEq, List.cons.injEq, D.v.injEq, Value.int.injEq, true_and, and_true] at hg
    obtain ⟨rfl, rfl, rfl⟩ := hg
    rw [nx_step rfl a1 a5 j]
    refine ⟨rfl, fun t ht => ?_⟩
    simp at ht; subst ht
    refine ⟨by simp; omega, ?_⟩
    rw [show ((j : Int) + 1).toNat = j + 1 by omega]
    show Option.map _ (ds ++ [1])[j + 1]? = _
    rw [a4]; rfl
  · have e : j = ds.length := by omega
    subst e
    rw [List.getElem?_append_right (by omega)] at hj
    simp at hj; subst hj
    refine ⟨⟨by simp, by simp, by simp, by simp⟩, h1, fun o a b hg => ?_⟩
    rw [List.getElem?_map, List.getElem?_append_right (by omega), hl] at hg
    simp [iD] at hg
    obtain ⟨rfl, rfl, rfl⟩ := hg
    exact ⟨by simp [nx, nextM, effM, goesM, baseM], by simp [nx, nextM, effM, goesM, baseM]⟩
end

/-- Its numbers are small. -/
def Ch.ok : Ch → Prop
  | .int n => 0 ≤ n ∧ n ≤ 1000
  | .seq a x => (0 ≤ a ∧ a ≤ 1000) ∧ x.ok
  | .op a x => (0 ≤ a ∧ a ≤ 1000) ∧ x.ok

theorem ext_ok {a : Int} {is : List Int} (ha : 0 ≤ a ∧ a ≤ 1000) (h : ∀ x ∈ is, 0 ≤ x ∧ x ≤ 1000) : ∀ x ∈ ext a is, 0 ≤ x ∧ x ≤ 1000 := by
  unfold ext
  split
  · exact h
  · intro x hx
    rcases List.mem_append.1 hx with hx | hx
    · exact h x hx
    · simp at hx; subst hx; exact ha

theorem gen_ok : ∀ (x : Ch) (b : Bool) (is : List Int), x.ok → (∀ y ∈ is, 0 ≤ y ∧ y ≤ 1000) → ∀ y ∈ (x.gen b is).2, 0 ≤ y ∧ y ≤ 1000
  | .int n, b, is, h, hi => ext_ok h hi
  | .seq a x, b, is, h, hi => gen_ok x b _ h.2 (ext_ok h.1 hi)
  | .op a x, b, is, h, hi => gen_ok x false _ h.2 (ext_ok h.1 hi)

theorem chn_instr {n : Nat} (hn : n ≤ 120) {S d e : Int} {a : List I3} {da : List Int} (h : Chn n S a da d e) : ∀ y ∈ a, instrM y.1 y.2.1 y.2.2 = true := by
  induction h with
  | nil d => simp
  | cons h0 h1 h r ih =>
    intro y hy
    rcases List.mem_cons.1 hy with rfl | hy
    · rcases h with ⟨k, rfl, hk, _⟩ | ⟨rfl, _⟩ | ⟨rfl, _⟩
      · simp [instrM, usesM]; omega
      · simp [instrM, usesM]
      · simp [instrM, usesM]
    · exact ih y hy

/-- The function's body. -/
def bodyOf (x : Ch) : D := .agg [dI 0, dI 0, dI x.need, .slice 3 ((x.gen true []).1.map iD)]

theorem body_isB (x : Ch) (hx : x.size ≤ 100000) : IsB (bodyOf x) := by
  refine ⟨_, _, _, _, rfl, ?_, fun y hy => ?_⟩
  · rw [List.length_map, gen_len]; have := len_le x true; omega
  · obtain ⟨z, _, rfl⟩ := List.mem_map.1 hy; exact iD_is z

theorem may_chain {x : Ch} (ho : x.ok) (hl : x.len true ≤ 400) (hi : (x.gen true []).2.length ≤ 120) (hs : x.need ≤ 60) : mayM [bodyOf x] ((x.gen true []).2.map dI) [] 0 = true := by
  have hp := (need_pos x).1
  have hi : (x.gen false []).2.length ≤ 120 := by rw [gen_last] at hi; exact hi
  obtain ⟨ds, hc⟩ := chn_gen (n := (x.gen false []).2.length) (S := x.need) x [] 0 (by omega) (by omega) (Nat.le_refl _)
  have hin := chn_instr hi hc
  have hin2 : ∀ y ∈ (x.gen true []).1, instrM y.1 y.2.1 y.2.2 = true := by
    rw [gen_last]
    intro y hy
    rcases List.mem_append.1 hy with hy | hy
    · exact hin y hy
    · simp at hy; subst hy; simp [instrM, usesM]
  unfold mayM
  have h1 : ((x.gen true []).2.map dI).all intD = true := by
    rw [List.all_eq_true]
    intro z hz
    obtain ⟨y, hy, rfl⟩ := List.mem_map.1 hz
    have := gen_ok x true [] ho (by simp) y hy
    simp [intD]; omega
  have h2 : bodyD (bodyOf x) = true := by
    unfold bodyD bodyOf
    simp only [Bool.and_eq_true, decide_eq_true_eq, List.all_eq_true]
    refine ⟨⟨by omega, by omega, by omega, by omega, by omega, by omega, ?_, ?_⟩, fun z hz => ?_⟩
    · rw [List.length_map, gen_len]; have := len_pos x true; omega
    · rw [List.length_map, gen_len]; exact hl
    · obtain ⟨y, hy, rfl⟩ := List.mem_map.1 hz
      exact hin2 y hy
  rw [gen_last] at h1 ⊢
  simp only [h1, List.all_cons, List.all_nil, h2, Bool.and_true, decide_eq_true_eq, List.length_cons, List.length_nil, List.length_map]
  omega

theorem cert_chain {x : Ch} (hs : x.need ≤ 60) : CertC [bodyOf x] ((x.gen true []).2.map dI) [] 0 := by
  intro j a b c d hj
  have hj0 : j = 0 := by
    have := (List.getElem?_eq_some_iff.1 hj).1
    simp at this; exact this
  subst hj0
  simp [bodyOf] at hj
  obtain ⟨rfl, rfl, rfl, rfl⟩ := hj
  have hp := (need_pos x).1
  obtain ⟨ds, hc⟩ := chn_gen (n := (x.gen false []).2.length) (S := x.need) x [] 0 (by omega) (by omega) (Nat.le_refl _)
  rw [gen_last]
  exact cert_chn (by omega) hp (by simpa using hc)
end Am

/- GenMany: how deep a stack; the same code. -/
namespace Am
open Go
set_option maxRecDepth 10000

theorem x9i (n : Int) : Wa PP AA F9 [.s 9 (Ch.int n).d] (· = vI 1) := by
  refine w9 (w24 ((s35 (by simp) (by simp) 1).eq ⟨_, rfl, _, rfl, ?_⟩))
  exact w9_1 ⟨fun h => absurd h (by simp), fun _ => rfl⟩

theorem two1 : W (W (0 + 1) + 1) = 2 := rfl

/-- The program's answer. -/
theorem x9 : ∀ x : Ch, x.size ≤ 1000 → Wa PP AA F9 [.s 9 x.d] (· = vI x.need)
  | .int n, _ => x9i n
  | .seq a x, hx => by
    simp only [Ch.size] at hx
    have hp := need_pos x
    refine w9 (w24 ((s35 (by simp) (by simp) 15).eq ⟨_, rfl, _, rfl, ?_⟩))
    rw [show decide (idxF (isN 15) [dI 10, dI 15, dI 11, dI 12, dI 13, dI 21, dI 19] 0 ≥ 0) = true by simp [idxF, isN]]
    obtain ⟨n1, n2, s3, l4, n5, l6, l7, l8, l9, e⟩ := x.isC
    refine w9_1 ⟨fun _ => ⟨by omega, 1, a, mkStr [], [], 0, [], [], [], [], rfl, fun _ => (x9i a).eq ⟨_, rfl, ?_⟩, (fun h => by cases h)⟩, fun h => absurd h (by simp)⟩
    refine w9_1 ⟨fun _ => ⟨by decide, n1, n2, s3, l4, n5, l6, l7, l8, l9, ?_, fun _ => ?_, (fun h => by cases h)⟩, fun h => absurd h (by simp [W_id])⟩
    · rw [show [intC a, x.d][Int.toNat (W (0 + 1))]? = some x.d from rfl, e]
    · rw [show D.agg [dI n1, dI n2, dS s3, .slice 9 l4, dI n5, .slice 0 l6, .slice 6 l7, .slice 4 l8, .slice 0 l9] = x.d from e.symm]
      refine (x9 x (by omega)).eq ⟨_, rfl, w9_1 ⟨fun h => absurd h (by rw [two1]; simp), fun _ => congrArg vI ?_⟩⟩
      rw [show W (0 + 1) = 1 from rfl, show W (0 + x.need) = x.need by rw [W_id (by omega) (by omega)]; omega]
      simp only [Ch.need]
      repeat' split <;> omega
  | .op a x, hx => by
    simp only [Ch.size] at hx
    have hp := need_pos x
    refine w9 (w24 ((s35 (by simp) (by simp) 14).eq ⟨_, rfl, _, rfl, ?_⟩))
    rw [show decide (idxF (isN 14) [dI 10, dI 15, dI 11, dI 12, dI 13, dI 21, dI 19] 0 ≥ 0) = false by simp [idxF, isN]]
    obtain ⟨n1, n2, s3, l4, n5, l6, l7, l8, l9, e⟩ := x.isC
    refine w9_1 ⟨fun _ => ⟨by omega, 1, a, mkStr [], [], 0, [], [], [], [], rfl, (fun h => by cases h), fun _ => (x9i a).eq ⟨_, rfl, ?_⟩⟩, fun h => absurd h (by simp)⟩
    refine w9_1 ⟨fun _ => ⟨by decide, n1, n2, s3, l4, n5, l6, l7, l8, l9, ?_, (fun h => by cases h), fun _ => ?_⟩, fun h => absurd h (by simp [W_id])⟩
    · rw [show [intC a, x.d][Int.toNat (W (0 + 1))]? = some x.d from rfl, e]
    · rw [show D.agg [dI n1, dI n2, dS s3, .slice 9 l4, dI n5, .slice 0 l6, .slice 6 l7, .slice 4 l8, .slice 0 l9] = x.d from e.symm]
      refine (x9 x (by omega)).eq ⟨_, rfl, w9_1 ⟨fun h => absurd h (by rw [two1]; simp), fun _ => congrArg vI ?_⟩⟩
      rw [show W (0 + 1) = 1 from rfl, show W (1 + x.need) = 1 + x.need by rw [W_id (by omega) (by omega)]]
      simp only [Ch.need]
      repeat' split <;> omega

/-- The document's. -/
theorem x204i (n : Int) : Wa PP AA F204 [.s 9 (Ch.int n).d] (· = vI 1) := by
  refine w204 (w214 (Q := fun v => _) ⟨fun h => by omega, fun _ => ⟨fun h => by omega, fun _ => ⟨fun h => by omega, fun _ => ⟨fun h => by omega, fun _ => ⟨fun h => by omega, fun _ => ⟨fun h => by omega, fun _ => ⟨fun h => by omega, fun _ => ⟨_, rfl, ?_⟩⟩⟩⟩⟩⟩⟩⟩)
  exact w204_1 ⟨fun h => absurd h (by simp), fun _ => rfl⟩

theorem x204 : ∀ x : Ch, x.size ≤ 1000 → Wa PP AA F204 [.s 9 x.d] (· = vI x.need)
  | .int n, _ => x204i n
  | .seq a x, hx => by
    simp only [Ch.size] at hx
    have hp := need_pos x
    refine w204 (w214 (Q := fun v => _) ⟨fun h => by omega, fun _ => ⟨fun _ => ⟨_, rfl, ?_⟩, fun h => absurd rfl h⟩⟩)
    obtain ⟨n1, n2, s3, l4, n5, l6, l7, l8, l9, e⟩ := x.isC
    have fin : ∀ n : Int, n = x.need → Wl PP AA F204 f204_K1 (f204_S1 15 0 (mkStr []) [intC a, x.d] 0 [] [] [] [] n true (W (1 + 1))) (QAl fun v => v = vI (Ch.seq a x).need) := fun n hn => by
      exact w204_1 ⟨fun h => absurd h (by rw [show W (1 + 1) = 2 from rfl]; simp), fun _ => by rw [hn]; rfl⟩
    refine w204_1 ⟨fun _ => ⟨by omega, 1, a, mkStr [], [], 0, [], [], [], [], rfl, (x204i a).eq ⟨_, rfl, fun _ => ⟨fun h => absurd h (by decide), fun _ => ?_⟩, (fun h => by cases h)⟩⟩, fun h => absurd h (by simp)⟩
    rw [show W (0 + 1) = 1 from rfl]
    refine w204_1 ⟨fun _ => ⟨by decide, n1, n2, s3, l4, n5, l6, l7, l8, l9, ?_, ?_⟩, fun h => absurd h (by simp)⟩
    · rw [show [intC a, x.d][Int.toNat 1]? = some x.d from rfl, e]
    · rw [show D.agg [dI n1, dI n2, dS s3, .slice 9 l4, dI n5, .slice 0 l6, .slice 6 l7, .slice 4 l8, .slice 0 l9] = x.d from e.symm]
      exact (x204 x (by omega)).eq ⟨_, rfl, fun _ => ⟨fun h => fin _ rfl, fun h => fin _ (by omega)⟩, (fun h => by cases h)⟩
  | .op a x, hx => by
    simp only [Ch.size] at hx
    have hp := need_pos x
    refine w204 (w214 (Q := fun v => _) ⟨fun h => by omega, fun _ => ⟨fun h => by omega, fun _ => ⟨fun h => by omega, fun _ => ⟨fun h => by omega, fun _ => ⟨fun h => by omega, fun _ => ⟨fun h => by omega, fun _ => ⟨fun h => by omega, fun _ => ⟨_, rfl, ?_⟩⟩⟩⟩⟩⟩⟩⟩)
    obtain ⟨n1, n2, s3, l4, n5, l6, l7, l8, l9, e⟩ := x.isC
    have fin : ∀ n : Int, n = x.need + 1 → Wl PP AA F204 f204_K1 (f204_S1 14 0 (mkStr [43]) [intC a, x.d] 0 [] [] [] [] n false (W (1 + 1))) (QAl fun v => v = vI (Ch.op a x).need) := fun n hn => by
      exact w204_1 ⟨fun h => absurd h (by rw [show W (1 + 1) = 2 from rfl]; simp), fun _ => by rw [hn]; rfl⟩
    refine w204_1 ⟨fun _ => ⟨by omega, 1, a, mkStr [], [], 0, [], [], [], [], rfl, (x204i a).eq ⟨_, rfl, (fun h => by cases h), fun _ => ⟨fun h => absurd h (by decide), fun _ => ?_⟩⟩⟩, fun h => absurd h (by simp)⟩
    rw [show W (0 + 1) = 1 from rfl]
    refine w204_1 ⟨fun _ => ⟨by decide, n1, n2, s3, l4, n5, l6, l7, l8, l9, ?_, ?_⟩, fun h => absurd h (by simp)⟩
    · rw [show [intC a, x.d][Int.toNat 1]? = some x.d from rfl, e]
    · rw [show D.agg [dI n1, dI n2, dS s3, .slice 9 l4, dI n5, .slice 0 l6, .slice 6 l7, .slice 4 l8, .slice 0 l9] = x.d from e.symm]
      have hW : W (x.need + 1) = x.need + 1 := W_id (by omega) (by omega)
      exact (x204 x (by omega)).eq ⟨_, rfl, fun h => (by cases h), fun _ => by rw [hW]; exact ⟨fun h => fin _ rfl, fun h => fin _ (by omega)⟩⟩

/-- A code is the same as itself. -/
theorem x202 {fs is ts : List D} {n : Int} (h1 : fs.length ≤ 274877906944) (h2 : is.length ≤ 274877906944) (h3 : ts.length ≤ 274877906944) (hf : ∀ x ∈ fs, IsB x) (hi : ∀ x ∈ is, ∃ a, x = dI a) (ht : ∀ x ∈ ts, ∃ a, x = dS a) :
    Wa PP AA F202 [.s 4 (.agg [.slice 4 fs, .slice 0 is, .slice 0 ts, dI n]), .s 4 (.agg [.slice 4 fs, .slice 0 is, .slice 0 ts, dI n])] (· = vBool true) := by
  have lp3 : ∀ j : Nat, j ≤ fs.length → Wl PP AA F202 f202_K3 (f202_S3 fs is ts n fs is ts n j) (QAl (· = vBool true)) :=
    upto fun j hj ih => by
      refine w202_3 ⟨fun h => ⟨by omega, ?_⟩, fun _ => rfl⟩
      have hj' : j < fs.length := by simp at h; omega
      obtain ⟨a, b, c, d, e, hd, hd2⟩ := hf fs[j] (List.getElem_mem hj')
      have lp4 : ∀ k : Nat, k ≤ d.length → Wl PP AA F202 f202_K4 (f202_S4 fs is ts n fs is ts n j k a b c d a b c d) (QAl (· = vBool true)) :=
        upto fun k hk ihk => by
          refine w202_4 ⟨fun h => ⟨by omega, ?_⟩, fun _ => ?_⟩
          · have hk' : k < d.length := by simp at h; omega
            obtain ⟨p, q, r, e2⟩ := hd2 d[k] (List.getElem_mem hk')
            refine ⟨p, q, r, by rw [getI hk', e2], p, q, r, by rw [getI hk', e2], fun _ => ⟨fun _ => ⟨fun _ => ?_, fun h => absurd rfl h⟩, fun h => absurd rfl h⟩, fun h => absurd rfl h⟩
            rw [W_succ hk' hd]; exact ihk hk'
          · rw [W_succ hj' h1]; exact ih hj'
      exact ⟨a, b, c, d, by rw [getI hj', e], a, b, c, d, by rw [getI hj', e], fun _ => ⟨fun _ => ⟨fun _ => ⟨fun _ => lp4 0 (by omega), fun h => absurd rfl h⟩, fun h => absurd rfl h⟩, fun h => absurd rfl h⟩, fun h => absurd rfl h⟩
  have lp2 : ∀ j : Nat, j ≤ ts.length → Wl PP AA F202 f202_K2 (f202_S2 fs is ts n fs is ts n j) (QAl (· = vBool true)) :=
    upto fun j hj ih => by
      refine w202_2 ⟨fun h => ⟨by omega, ?_⟩, fun _ => lp3 0 (by omega)⟩
      have hj' : j < ts.length := by simp at h; omega
      obtain ⟨a, e⟩ := ht ts[j] (List.getElem_mem hj')
      refine ⟨a, by rw [getI hj', e], a, by rw [getI hj', e], fun _ => ?_, fun h => absurd h (by simp)⟩
      rw [W_succ hj' h3]; exact ih hj'
  have lp1 : ∀ j : Nat, j ≤ is.length → Wl PP AA F202 f202_K1 (f202_S1 fs is ts n fs is ts n j) (QAl (· = vBool true)) :=
    upto fun j hj ih => by
      refine w202_1 ⟨fun h => ⟨by omega, ?_⟩, fun _ => lp2 0 (by omega)⟩
      have hj' : j < is.length := by simp at h; omega
      obtain ⟨a, e⟩ := hi is[j] (List.getElem_mem hj')
      refine ⟨a, by rw [getI hj', e], a, by rw [getI hj', e], fun _ => ?_, fun h => absurd rfl h⟩
      rw [W_succ hj' h2]; exact ih hj'
  exact w202 ⟨fun _ => ⟨fun _ => ⟨fun _ => ⟨fun _ => lp1 0 (by omega), fun h => absurd rfl h⟩, fun h => absurd rfl h⟩, fun h => absurd rfl h⟩, fun h => absurd rfl h⟩
end Am

/- GenMany: the program's code, and the document's, of one function that is a chain. -/
namespace Am
open Go
set_option maxRecDepth 10000

/-- What both answer. -/
def resOf (x : Ch) : V := if x.len true ≤ 400 ∧ (x.gen true []).2.length ≤ 120 ∧ x.need ≤ 60 then
    .tuple [.s 4 (.agg [.slice 4 [bodyOf x], .slice 0 ((x.gen true []).2.map dI), .slice 0 [], dI 0]), vI 0, vI 0]
  else .tuple [.s 4 (.agg [.slice 4 [], .slice 0 [], .slice 0 [], dI 0]), vI 0, vI 16]

/-- Is it a case of a too great tag? -/
def greatM : D → Bool
  | .agg [.v (.int _ o), .v (.int _ a), _] => decide (o = 18) && decide (a > 65535)
  | _ => false
theorem s11 (o a b : Int) : Wa PP AA F11 [.s 3 (.agg [dI o, dI a, dI b])] (· = vBool (greatM (.agg [dI o, dI a, dI b]))) :=
  w11 ⟨fun h => by simp [greatM, h], fun h => by simp [greatM, h]⟩

theorem gen_ops : ∀ (x : Ch) (b : Bool) (is : List Int), ∀ y ∈ (x.gen b is).1, y.1 ≠ 18
  | .int n, b, is, y, hy => by
    simp only [Ch.gen, List.mem_cons] at hy
    rcases hy with rfl | hy
    · simp
    · cases b <;> simp [retI] at hy; subst hy; simp
  | .seq a x, b, is, y, hy => by
    simp only [Ch.gen, List.mem_cons] at hy
    rcases hy with rfl | rfl | hy
    · simp
    · simp
    · exact gen_ops x b _ y hy
  | .op a x, b, is, y, hy => by
    simp only [Ch.gen, List.mem_cons, List.mem_append] at hy
    rcases hy with rfl | hy | rfl | hy
    · simp
    · exact gen_ops x false _ y hy
    · simp
    · cases b <;> simp [retI] at hy; subst hy; simp

theorem no_great {x : Ch} {n : Nat} : (((x.gen true []).1.map iD).take n).any greatM = false := by
  rw [List.any_eq_false]
  intro z hz
  obtain ⟨y, hy, rfl⟩ := List.mem_map.1 (List.mem_of_mem_take hz)
  have := gen_ops x true [] y hy
  simp [greatM, iD, this]

section
variable {x : Ch} {n1 n2 : Int} {s3 : ByteArray} {l4 : List D} {n5 : Int} {l6 l7 l8 l9 : List D}

/-- The program's. -/
theorem x5 (e : x.d = coreD n1 n2 s3 l4 n5 l6 l7 l8 l9) (ho : x.ok) (hx : x.size ≤ 1000) :
    Wa PP AA F5 [.d (.slice 11 [.agg [dI 0, dI 0, dI n1, dI n2, dS s3, .slice 9 l4, dI n5, .slice 0 l6, .slice 6 l7, .slice 4 l8, .slice 0 l9]]), .d (.slice 5 []), vI 0] (· = resOf x) := by
  have hll := len_le x true
  have hlp := len_pos x true
  refine w5 (w5_1 ⟨fun _ => ⟨by omega, 0, 0, n1, n2, s3, l4, n5, l6, l7, l8, l9, rfl, ?_⟩, fun h => absurd h (by simp)⟩)
  generalize hh : (Heap.push (Heap.push (Heap.push (Heap.push Heap.none (.darr 0 0 ([]))) (.darr 0 0 ([]))) (.var (.agg [.d (.slice 5 []), .sl (.he 0 0) 0 none, .sl (.he 1 0) 0 none]))) (.darr 0 4 ([]))) = h
  have hn : h.n = 4 := by rw [← hh]; rfl
  have e0 : hpAt h 0 0 = some (.darr 0 0 []) := by rw [← hh]; rfl
  have e1 : hpAt h 1 0 = some (.darr 0 0 []) := by rw [← hh]; rfl
  have e2 : hpAt h 2 0 = some (.var (.agg [.d (.slice 5 []), .sl (.he 0 0) 0 none, .sl (.he 1 0) 0 none])) := by rw [← hh]; rfl
  have e3 : hpAt h 3 0 = some (.darr 0 4 []) := by rw [← hh]; rfl
  clear hh
  have hq : ∀ (q gq : Nat), q < h.n → hpAt (Heap.push (Heap.push h (.darr 0 3 ([]))) (.var (.agg [.ptr (.he 2 0) 0 3 0, .sl (.he h.n 0) 3 none]))) q gq = hpAt h q gq := fun q gq hq => by
    rw [hpAt_push_old (by simp only [Heap.push_n]; omega), hpAt_push_old hq]
  have I : GW (h.n + 1) 2 h.n 0 1 (Heap.push (Heap.push h (.darr 0 3 ([]))) (.var (.agg [.ptr (.he 2 0) 0 3 0, .sl (.he h.n 0) 3 none]))) [] (([] : List Int).map dI) [] :=
    ⟨⟨0, hpAt_push_new rfl, by rw [hpAt_push_old (by simp only [Heap.push_n]; omega)]; exact hpAt_push_new rfl⟩, ⟨0, 0, by rw [hq _ _ (by omega)]; exact e2, by rw [hq _ _ (by omega)]; exact e0, by rw [hq _ _ (by omega)]; exact e1⟩, by omega,
      by simp only [Heap.push_n]; omega, by simp only [Heap.push_n]; omega, by simp only [Heap.push_n]; omega, by simp only [Heap.push_n]; omega, by simp only [Heap.push_n]; omega, by simp, by simp, by simp, by simp⟩
  refine exp_of e ((x8 x true I (by simp; omega)).mono ?_)
  rintro v h2 ⟨rfl, is2, I2, F2, g1, g2⟩
  simp only [List.nil_append] at I2
  simp only [List.length_nil, Nat.zero_add] at g2
  have e3' : hpAt h2 3 0 = some (.darr 0 4 []) := by rw [F2.2 3 0 (by simp only [Heap.push_n]; omega) (by omega) (by omega) (by omega) (by omega) (by omega), hq _ _ (by omega)]; exact e3
  obtain ⟨gw, w1, w2⟩ := I2.w
  obtain ⟨gi2, gt2, p1, p2, p3⟩ := I2.pp
  refine ⟨rfl, ?_⟩
  rw [show D.agg [dI n1, dI n2, dS s3, .slice 9 l4, dI n5, .slice 0 l6, .slice 6 l7, .slice 4 l8, .slice 0 l9] = x.d from e.symm]
  refine (x9 x hx).eq ⟨x.need, rfl, 2, h.n, gw, w1, (s10h (p := greatM) (by have := I2.hl; omega) w2 fun z hz => ?_).eq ⟨_, rfl, fun h => absurd (h.symm.trans (no_great (x := x) (n := 401))) (by simp), fun _ => ⟨_, w2, fun hbig => ?_, fun hle => ⟨_, _, _, _, _, p1, _, p2, fun hbig => ?_, fun hint => ⟨_, p3, fun h => absurd h (by simp), fun _ => ⟨fun hbig => ?_, fun hst => ⟨?_, [], ?_, by simp, ?_⟩⟩⟩⟩⟩⟩⟩
  · obtain ⟨o, q, u, rfl⟩ := I2.hc z hz
    exact ⟨⟨_, _, _, rfl⟩, s11 o q u⟩
  · have : ¬ (x.len true ≤ 400) := fun h => by simp [gen_len] at hbig; omega
    unfold resOf; rw [if_neg (fun h => this h.1)]
  all_goals have hL : x.len true ≤ 400 := by simp [gen_len] at hle; omega
  all_goals have hi2 := g2 (by omega)
  all_goals subst hi2
  · have : ¬ ((x.gen true []).2.length ≤ 120) := fun h => by simp at hbig; omega
    unfold resOf; rw [if_neg (fun h => this h.2.1)]
  · unfold resOf; rw [if_neg (fun h => by omega)]
  · rw [hpAt_put_ne (by omega)]; exact w1
  · rw [hpAt_put_ne (by omega), hpAt_put_ne (by omega)]; exact e3'
  · rw [show W (0 + 1) = 1 from rfl]
    have hint' : (x.gen true []).2.length ≤ 120 := by simp at hint; omega
    have hcode : cut1 ((x.gen true []).1.map iD) = (x.gen true []).1.map iD := cut1_same (by rw [List.length_map, gen_len]; omega)
    refine w5_1 ⟨fun h => absurd h (by simp), fun _ => ⟨[], 0, gi2, 1, gt2, ?_, [] ++ [_], hpAt_put_same rfl, (x.gen true []).2.map dI, ?_, [], ?_, ?_, ?_, ?_⟩⟩
    · rw [hpAt_put_ne (by omega), hpAt_put_ne (by omega), hpAt_put_ne (by omega)]; exact p1
    · rw [hpAt_put_ne (by omega), hpAt_put_ne (by omega), hpAt_put_ne (by omega)]; exact p2
    · rw [hpAt_put_ne (by omega), hpAt_put_ne (by omega), hpAt_put_ne (by omega)]; exact p3
    · rw [hpAt_put_ne (by omega), hpAt_put_ne (by omega), hpAt_put_ne (by omega), hpAt_put_ne (by omega)]; exact p2
    · rw [hpAt_put_ne (by omega), hpAt_put_ne (by omega), hpAt_put_ne (by omega), hpAt_put_ne (by omega), hpAt_put_ne (by omega)]; exact p3
    · rw [hcode, List.nil_append]
      have hB : ∀ z ∈ [bodyOf x], IsB z := fun z hz => by simp at hz; subst hz; exact body_isB x (by omega)
      have hi : ∀ z ∈ (x.gen true []).2.map dI, ∃ a, z = dI a := fun z hz => by obtain ⟨y, _, rfl⟩ := List.mem_map.1 hz; exact ⟨y, rfl⟩
      refine (s12 (fs := [bodyOf x]) (is := (x.gen true []).2.map dI) (ts := []) (n := 0) (by simp) (by simp; omega) (by simp) hB hi (by simp)).mono ?_
      rintro v (⟨rfl, _, _⟩ | ⟨_, hno⟩)
      · refine ⟨0, rfl, fun _ => ?_, fun h => absurd rfl h⟩
        show V.tuple [.s 4 (.agg [.slice 4 [bodyOf x], .slice 0 ((x.gen true []).2.map dI), .slice 0 [], dI 0]), vI 0, vI 0] = resOf x
        unfold resOf; rw [if_pos ⟨hL, hint', hst⟩]
      · exact absurd ⟨may_chain ho hL hint' hst, cert_chain hst⟩ hno

/-- The document's. -/
theorem x201 (e : x.d = coreD n1 n2 s3 l4 n5 l6 l7 l8 l9) (ho : x.ok) (hx : x.size ≤ 900) :
    Wa PP AA F201 [.d (.slice 11 [.agg [dI 0, dI 0, dI n1, dI n2, dS s3, .slice 9 l4, dI n5, .slice 0 l6, .slice 6 l7, .slice 4 l8, .slice 0 l9]]), .d (.slice 5 []), vI 0] (· = resOf x) := by
  have hll := len_le x true
  have hlp := len_pos x true
  refine w201 (w201_1 ⟨fun _ => ⟨by omega, 0, 0, n1, n2, s3, l4, n5, l6, l7, l8, l9, rfl, ?_⟩, fun h => absurd h (by simp)⟩)
  generalize hh : (Heap.push (Heap.push (Heap.push (Heap.push Heap.none (.darr 0 0 ([]))) (.darr 0 0 ([]))) (.var (.agg [.d (.slice 5 []), .sl (.he 0 0) 0 none, .sl (.he 1 0) 0 none, vBool false]))) (.darr 0 4 ([]))) = h
  have hn : h.n = 4 := by rw [← hh]; rfl
  have e0 : hpAt h 0 0 = some (.darr 0 0 []) := by rw [← hh]; rfl
  have e1 : hpAt h 1 0 = some (.darr 0 0 []) := by rw [← hh]; rfl
  have e2 : hpAt h 2 0 = some (.var (.agg [.d (.slice 5 []), .sl (.he 0 0) 0 none, .sl (.he 1 0) 0 none, vBool false])) := by rw [← hh]; rfl
  have e3 : hpAt h 3 0 = some (.darr 0 4 []) := by rw [← hh]; rfl
  clear hh
  have R : RG 2 0 1 h [] false := ⟨⟨0, 0, e2, e0, e1⟩, by omega, by omega, by omega, by omega⟩
  refine expR_of e ((x203 x true h [] false 0 R (by simp; omega) (by omega) (by omega)).mono ?_)
  rintro v h2 ⟨q, g, l, is2, m2, rfl, q1, q2, q3, R2, F2, g1, g2, g2s, _, g3, g4⟩
  have e3' : hpAt (h2.put q none) 3 0 = some (.darr 0 4 []) := by rw [hpAt_put_ne (by omega), F2.2 3 0 (by omega) (by omega) (by omega) (by omega)]; exact e3
  have R3 : RG 2 0 1 (h2.put q none) is2 m2 := R2.put (by omega) (by omega) (by omega) _
  refine ⟨q, g, rfl, l, q3, ?_⟩
  rw [show D.agg [dI n1, dI n2, dS s3, .slice 9 l4, dI n5, .slice 0 l6, .slice 6 l7, .slice 4 l8, .slice 0 l9] = x.d from e.symm]
  refine (x204 x (by omega)).eq ⟨x.need, rfl, ?_⟩
  generalize h2.put q none = h3 at e3' R3
  obtain ⟨gi, gt, r1, r2, r3⟩ := R3.w
  have many : ¬ (x.len true ≤ 400 ∧ (x.gen true []).2.length ≤ 120 ∧ x.need ≤ 60) → V.tuple [.s 4 (.agg [.slice 4 ([]), .slice 0 ([]), .slice 0 ([]), dI 0]), vI 0, vI 16] = resOf x := fun h => by unfold resOf; rw [if_neg h]
  have hll2 : l.length ≤ 2000 := by omega
  -- the loop
  have lp : ∀ j : Nat, j ≤ l.length → ∀ b : Bool, (b = true → m2 = true) → Wl PP AA F201 f201_K2 (f201_S2 [.agg [dI 0, dI 0, dI n1, dI n2, dS s3, .slice 9 l4, dI n5, .slice 0 l6, .slice 6 l7, .slice 4 l8, .slice 0 l9]] 0 l x.need b j 0 0 h3) (QAl (· = resOf x)) :=
    upto (S := fun j => ∀ b : Bool, (b = true → m2 = true) → Wl PP AA F201 f201_K2 (f201_S2 [.agg [dI 0, dI 0, dI n1, dI n2, dS s3, .slice 9 l4, dI n5, .slice 0 l6, .slice 6 l7, .slice 4 l8, .slice 0 l9]] 0 l x.need b j 0 0 h3) (QAl (· = resOf x))) fun j hj ih b hb => by
      refine w201_2 ⟨fun hlt => ?_, fun _ => ⟨fun hbt => ?_, fun _ => ⟨_, _, _, _, _, _, r1, fun hm => many fun hc => ?_, fun hm => ⟨fun hbig => many fun hc => ?_, fun hle => ⟨_, r2, fun hbig => many fun hc => ?_, fun hint => ⟨_, r3, fun h => absurd h (by simp), fun _ => ⟨fun hbig => many fun hc => by omega, fun hst => ⟨by omega, 0, 0, n1, n2, s3, l4, n5, l6, l7, l8, l9, rfl, _, e3', by simp, ?_⟩⟩⟩⟩⟩⟩⟩⟩
      · have hj' : j < l.length := by simp at hlt; omega
        have hW : W ((j : Int) + 1) = ((j + 1 : Nat) : Int) := W_succ hj' (by omega)
        refine ⟨fun hbt => ?_, fun _ => ?_⟩
        · rw [hW]; exact ih hj' true (fun _ => hb hbt)
        · obtain ⟨o, p, u, ez⟩ := g2s l[j] (List.getElem_mem hj')
          refine ⟨by omega, o, p, u, by rw [getI hj', ez], fun ho => ?_, fun _ => ?_⟩
          · rw [hW]
            refine ih hj' _ fun _ => ?_
            cases hm : m2 with
            | true => rfl
            | false =>
              obtain ⟨k1, _⟩ := g3 hm
              have hmem : l[j] ∈ (x.gen true []).1.map iD := by rw [← k1]; exact List.getElem_mem hj'
              obtain ⟨y, hy, ey⟩ := List.mem_map.1 hmem
              have h18 := gen_ops x true [] y hy
              rw [ez] at ey
              simp [iD] at ey
              omega
          · rw [hW]; exact ih hj' false (fun h => by cases h)
      · have hm := hb hbt
        refine many fun hc => ?_
        have := g4 rfl (by omega)
        rw [hm] at this; cases this
      · have := g4 rfl (by omega)
        rw [hm] at this; cases this
      · obtain ⟨k1, k2⟩ := g3 hm
        subst k1
        simp [gen_len] at hbig; omega
      · obtain ⟨k1, k2⟩ := g3 hm
        subst k2
        simp at hbig; omega
      · obtain ⟨k1, k2⟩ := g3 hm
        subst k1; subst k2
        have hL : x.len true ≤ 400 := by simp [gen_len] at hle; omega
        have hint' : (x.gen true []).2.length ≤ 120 := by simp at hint; omega
        rw [show W (0 + 1) = 1 from rfl]
        have hB : ∀ z ∈ [bodyOf x], IsB z := fun z hz => by simp at hz; subst hz; exact body_isB x (by omega)
        have hi : ∀ z ∈ (x.gen true []).2.map dI, ∃ a, z = dI a := fun z hz => by obtain ⟨y, _, rfl⟩ := List.mem_map.1 hz; exact ⟨y, rfl⟩
        refine w201_1 ⟨fun h => absurd h (by simp), fun _ => ⟨[], 0, gi, 1, gt, m2, ?_, [] ++ [_], hpAt_put_same rfl, (x.gen true []).2.map dI, ?_, [], ?_, ?_, ?_, (s7 (fs := [bodyOf x]) (is := (x.gen true []).2.map dI) (ts := []) (n := 0) (by simp) (by simp; omega) (by simp) hB hi (by simp) (may_chain ho hL hint' hst) (cert_chain hst)).eq ⟨0, rfl, fun _ => ?_, fun h => absurd rfl h⟩⟩⟩
        · rw [hpAt_put_ne (by omega)]; exact r1
        · rw [hpAt_put_ne (by omega)]; exact r2
        · rw [hpAt_put_ne (by omega)]; exact r3
        · rw [hpAt_put_ne (by omega), hpAt_put_ne (by omega)]; exact r2
        · rw [hpAt_put_ne (by omega), hpAt_put_ne (by omega), hpAt_put_ne (by omega)]; exact r3
        · show V.tuple [.s 4 (.agg [.slice 4 [bodyOf x], .slice 0 ((x.gen true []).2.map dI), .slice 0 [], dI 0]), vI 0, vI 0] = resOf x
          unfold resOf; rw [if_pos ⟨hL, hint', hst⟩]
  exact lp 0 (by omega) false (fun h => by cases h)
end
end Am

/- AM: more fuel does no harm. -/
namespace Am
open Go

/-- Less is told. -/
def CallLe (c c' : CallF) : Prop := ∀ f a h r, c f a h = some r → c' f a h = some r

variable {P : Program} {c c' : CallF} {k k' : Nat}

theorem act1_le (hc : CallLe c c') {st : St} {o : OpA} {r} (h : act1 c st o = some r) : act1 c' st o = some r := by
  cases o with
  | call f a =>
    simp only [act1, Option.map_eq_some_iff] at h ⊢
    obtain ⟨x, h1, h2⟩ := h
    exact ⟨x, hc _ _ _ _ h1, h2⟩
  | callF f a =>
    simp only [act1, Option.bind_eq_some_iff] at h ⊢
    obtain ⟨x, h1, h2⟩ := h
    exact ⟨x, hc _ _ _ _ h1, h2⟩
  | _ => exact h

theorem doA_le (hc : CallLe c c') {st : St} {d : Option Tmp} {o : OpA} {r} (h : doA c st d o = some r) : doA c' st d o = some r := by
  unfold doA at h ⊢
  cases ha : act1 c st o with
  | none => rw [ha] at h; cases h
  | some x => rw [ha] at h; rw [act1_le hc ha]; exact h

theorem stepOp_le (hc : CallLe c c') {ops : Array Oper} {ra : RA} {i : Nat} {st : St} {r} (h : stepOp P c ops ra i st = some r) : stepOp P c' ops ra i st = some r := by
  unfold stepOp at h ⊢
  split at h
  · cases h
  · rename_i o ho
    split at h
    · cases h
    · exact h
    · split at h
      · cases h
      · exact doA_le hc h

theorem runOps_le (hc : CallLe c c') {ops : Array Oper} {ra : RA} : ∀ {l : List Nat} {st : St} {r}, runOps P c ops ra l st = some r → runOps P c' ops ra l st = some r
  | [], _, _, h => h
  | i :: l, st, r, h => by
    unfold runOps at h ⊢
    cases hs : stepOp P c ops ra i st with
    | none => rw [hs] at h; cases h
    | some x =>
      rw [hs] at h
      rw [stepOp_le hc hs]
      simp only at h ⊢
      cases hr : runOps P c ops ra l x.1 with
      | none => rw [hr] at h; cases h
      | some y => rw [hr] at h; rw [runOps_le hc hr]; exact h

theorem region_le (hc : CallLe c c') {ra : RA} {ops : Array Oper} {draw : Bool} {st : St} {r} (h : region P c ra ops draw st = some r) : region P c' ra ops draw st = some r := by
  unfold region at h ⊢
  cases hs : runOps P c ops ra (List.range ops.size) st with
  | none => rw [hs] at h; cases h
  | some x => rw [hs] at h; rw [runOps_le hc hs]; exact h

theorem iter_le {f g : St → Option (Ex × St)} (hf : ∀ st r, f st = some r → g st = some r) : ∀ {k k' : Nat} {st : St} {r}, k ≤ k' → iter f k st = some r → iter g k' st = some r
  | 0, _, _, _, _, h => by simp [iter] at h
  | k + 1, 0, _, _, hk, _ => by omega
  | k + 1, k' + 1, st, r, hk, h => by
    unfold iter at h ⊢
    cases hs : f st with
    | none => rw [hs] at h; cases h
    | some x =>
      rw [hs] at h; rw [hf _ _ hs]
      obtain ⟨e, st'⟩ := x
      cases e with
      | normal => exact iter_le hf (by omega) h
      | exit _ => exact h
      | ret => exact h

theorem exec_le (hc : CallLe c c') {an : Nat → RA} (hk : k ≤ k') : ∀ {cd : Code} {st : St} {r}, exec P c an k cd st = some r → exec P c' an k' cd st = some r := by
  intro cd
  induction cd with
  | skip => intro st r h; simpa only [exec] using h
  | label => intro st r h; simpa only [exec] using h
  | region id ops draw =>
    intro st r h
    simp only [exec] at h ⊢
    cases hs : region P c (an id) ops draw st with
    | none => rw [hs] at h; cases h
    | some x => rw [hs] at h; rw [region_le hc hs]; exact h
  | seq a b iha ihb =>
    intro st r h
    simp only [exec] at h ⊢
    cases hs : exec P c an k a st with
    | none => rw [hs] at h; cases h
    | some x =>
      rw [hs] at h; rw [iha hs]
      obtain ⟨e, st'⟩ := x
      cases e with
      | normal => exact ihb h
      | exit _ => exact h
      | ret => exact h
  | cond o a b iha ihb =>
    intro st r h
    simp only [exec] at h ⊢
    split at h
    · rename_i t ht
      cases t with
      | true => exact iha h
      | false => exact ihb h
    · cases h
  | block id b ih =>
    intro st r h
    simp only [exec] at h ⊢
    cases hs : exec P c an k b st with
    | none => rw [hs] at h; cases h
    | some x => rw [hs] at h; rw [ih hs]; exact h
  | loop b ih =>
    intro st r h
    simp only [exec] at h ⊢
    refine iter_le (fun st r h => ?_) hk h
    unfold roundOf at h ⊢
    cases hs : exec P c an k b st with
    | none => rw [hs] at h; cases h
    | some x => rw [hs] at h; rw [ih hs]; exact h
  | exit id => intro st r h; simpa only [exec] using h
  | ret => intro st r h; simpa only [exec] using h
  | _ => intro st r h; simp [exec] at h

theorem amBody_le (hc : CallLe c c') {ra : Nat → RA} (hk : k ≤ k') {f : FuncId} {args : List V} {h : Heap} {r} (hb : body P c ra k f args h = some r) : body P c' ra k' f args h = some r := by
  unfold body at hb ⊢
  split at hb
  · cases hb
  · rename_i fn hf
    split at hb
    · cases hb
    · rename_i cd hcd
      cases hs : exec P c ra k cd { nt := max args.length fn.ntmps, tm := enterTm 0 args, lo := [], hp := h } with
      | none => rw [hs] at hb; cases hb
      | some x => rw [hs] at hb; rw [exec_le hc hk hs]; exact hb

theorem run_succ {an : An} : ∀ {k : Nat}, CallLe (run P an k) (run P an (k + 1))
  | 0 => fun f a h r hr => by simp [run] at hr
  | k + 1 => fun f a h r hr => by
    have ih := run_succ (an := an) (k := k)
    rw [run] at hr ⊢
    split at hr
    · exact hr
    · cases ha : an.alone f with
      | true =>
        rw [ha] at hr
        simp only [cond_true] at hr ⊢
        cases hn : V.noHeL a with
        | false => rw [hn] at hr; cases hr
        | true =>
          rw [hn] at hr
          simp only [cond_true] at hr ⊢
          cases hb : body P (run P an k) (an.ra f) k f a Heap.none with
          | none => rw [hb] at hr; cases hr
          | some x => rw [hb] at hr; rw [amBody_le ih (Nat.le_succ k) hb]; exact hr
      | false =>
        rw [ha] at hr
        simp only [cond_false] at hr ⊢
        exact amBody_le ih (Nat.le_succ k) hr

theorem run_le {an : An} {k k' : Nat} (h : k ≤ k') : CallLe (run P an k) (run P an k') := by
  obtain ⟨d, rfl⟩ : ∃ d, k' = k + d := ⟨k' - k, by omega⟩
  clear h
  induction d with
  | zero => exact fun _ _ _ _ h => h
  | succ d ih => exact fun f a h r hr => run_succ f a h r (ih f a h r hr)

theorem RC.ofRun {an : An} {f : FuncId} {args : List V} {h h' : Heap} {v : V} (hr : run P an k f args h = some (v, h')) : RC P an f args h v h' :=
  ⟨k, fun _ hk => run_le hk _ _ _ _ hr⟩
end Am

/- GenRaw: the document's example, run. -/
namespace Am
open Go
theorem run6 : (match run PP AA 100 F6 [] Heap.none with
  | some (.d (.v (.bool b)), h) => b && Nat.beq h.n 0 && (match h.t with
    | .e => true
    | _ => false)
  | _ => false) = true := by kernel_rfl
theorem s6 : Wa PP AA F6 [] (· = vBool true) := by
  have h := run6
  split at h
  · rename_i b h' e
    simp only [Bool.and_eq_true] at h
    obtain ⟨⟨rfl, h2⟩, h3⟩ := h
    obtain ⟨k0, hr⟩ := RC.ofRun e
    -- alone: a function of no heap
    refine ⟨_, fun hh => ⟨max k0 1, fun k hk => ?_⟩, rfl⟩
    have := hr k (by omega)
    obtain ⟨m, rfl⟩ : ∃ m, k = m + 1 := ⟨k - 1, by omega⟩
    rw [run] at this ⊢
    have ha : AA.alone F6 = true := rfl
    have hp : AA.prim F6 = none := rfl
    rw [hp, ha] at this ⊢
    simp only [V.noHeL, cond_true] at this ⊢
    cases hb : body PP (run PP AA m) (AA.ra F6) m F6 [] Heap.none with
    | none => rw [hb] at this; cases this
    | some x =>
      rw [hb] at this
      simp only [Option.bind_some] at this ⊢
      cases hv : x.1.noHe with
      | false => rw [hv] at this; cases this
      | true =>
        rw [hv] at this
        simp only [cond_true, Option.some.injEq, Prod.mk.injEq] at this ⊢
        exact ⟨this.1, trivial⟩
  · cases h
end Am

/- GenMany: the law's function answers true. -/
namespace Am
open Go
set_option maxRecDepth 10000

/-- The law's end. -/
theorem fin_x {x : Ch} {n1 n2 : Int} {s3 : ByteArray} {l4 : List D} {n5 : Int} {l6 l7 l8 l9 : List D} (e : x.d = coreD n1 n2 s3 l4 n5 l6 l7 l8 l9) (ho : x.ok) (hx : x.size ≤ 900) {Q : V → Prop} (q : Q (vBool true)) :
    Wa PP AA F5 [.d (.slice 11 ([.agg [dI 0, dI 0, dI n1, dI n2, dS s3, .slice 9 l4, dI n5, .slice 0 l6, .slice 6 l7, .slice 4 l8, .slice 0 l9]])), .d (.slice 5 ([])), vI 0] fun v => ∃ (lr21 : List D) (lr22 : List D) (lr23 : List D) (nr24 : Int) (nr25 : Int) (nr26 : Int), v = .tuple [.s 4 (.agg [.slice 4 lr21, .slice 0 lr22, .slice 0 lr23, dI nr24]), vI nr25, vI nr26] ∧ (Wa PP AA F201 [.d (.slice 11 ([.agg [dI 0, dI 0, dI n1, dI n2, dS s3, .slice 9 l4, dI n5, .slice 0 l6, .slice 6 l7, .slice 4 l8, .slice 0 l9]])), .d (.slice 5 ([])), vI 0] fun v => ∃ (lr27 : List D) (lr28 : List D) (lr29 : List D) (nr210 : Int) (nr211 : Int) (nr212 : Int), v = .tuple [.s 4 (.agg [.slice 4 lr27, .slice 0 lr28, .slice 0 lr29, dI nr210]), vI nr211, vI nr212] ∧ (Wa PP AA F202 [.s 4 (.agg [.slice 4 lr21, .slice 0 lr22, .slice 0 lr23, dI nr24]), .s 4 (.agg [.slice 4 lr27, .slice 0 lr28, .slice 0 lr29, dI nr210])] fun v => ∃ (br213 : Bool), v = vBool br213 ∧ ((br213 = true → ((nr25 = nr211 → ((nr26 = nr212 → (Wa PP AA F6 [] fun v => ∃ (br214 : Bool), v = vBool br214 ∧ Q (vBool br214))) ∧ (nr26 ≠ nr212 → Q (vBool false)))) ∧ (nr25 ≠ nr211 → Q (vBool false)))) ∧ (br213 = false → Q (vBool false))))) := by
  have lives : Wa PP AA F6 [] fun v => ∃ b, v = vBool b ∧ Q (vBool b) := s6.eq ⟨_, rfl, q⟩
  have hll := len_le x true
  have gi := (gen_ints x true []).1
  have h5 := x5 e ho (by omega)
  have h201 := x201 e ho hx
  by_cases hc : x.len true ≤ 400 ∧ (x.gen true []).2.length ≤ 120 ∧ x.need ≤ 60
  · have er : resOf x = .tuple [.s 4 (.agg [.slice 4 [bodyOf x], .slice 0 ((x.gen true []).2.map dI), .slice 0 [], dI 0]), vI 0, vI 0] := by unfold resOf; rw [if_pos hc]
    rw [er] at h5 h201
    have hB : ∀ z ∈ [bodyOf x], IsB z := fun z hz => by simp at hz; subst hz; exact body_isB x (by omega)
    have hi : ∀ z ∈ (x.gen true []).2.map dI, ∃ a, z = dI a := fun z hz => by obtain ⟨y, _, rfl⟩ := List.mem_map.1 hz; exact ⟨y, rfl⟩
    exact h5.eq ⟨_, _, _, _, _, _, rfl, h201.eq ⟨_, _, _, _, _, _, rfl, (x202 (by simp) (by simp; omega) (by simp) hB hi (by simp)).eq ⟨_, rfl, fun _ => ⟨fun _ => ⟨fun _ => lives, fun h => absurd rfl h⟩, fun h => absurd rfl h⟩, fun h => by cases h⟩⟩⟩
  · have er : resOf x = .tuple [.s 4 (.agg [.slice 4 [], .slice 0 [], .slice 0 [], dI 0]), vI 0, vI 16] := by unfold resOf; rw [if_neg hc]
    rw [er] at h5 h201
    exact h5.eq ⟨_, _, _, _, _, _, rfl, h201.eq ⟨_, _, _, _, _, _, rfl, (x202 (by simp) (by simp) (by simp) (by simp) (by simp) (by simp)).eq ⟨_, rfl, fun _ => ⟨fun _ => ⟨fun _ => lives, fun h => absurd rfl h⟩, fun h => absurd rfl h⟩, fun h => by cases h⟩⟩⟩

/-- The law's cores. -/
def chOf (op : Bool) (m : Int) : Nat → Ch
  | 0 => .int 0
  | k + 1 => if op then .op ((k + 1 : Nat) * m) (chOf op m k) else .seq ((k + 1 : Nat) * m) (chOf op m k)

theorem chOf_size (op : Bool) (m : Int) : ∀ k, (chOf op m k).size = k + 1
  | 0 => rfl
  | k + 1 => by cases op <;> simp [chOf, Ch.size, chOf_size]

theorem chOf_ok {op : Bool} {m : Int} (hm : m = 0 ∨ m = 1) : ∀ k, k ≤ 1000 → (chOf op m k).ok
  | 0, _ => by simp [chOf, Ch.ok]
  | k + 1, hk => by
    have := chOf_ok (op := op) hm k (by omega)
    have h : 0 ≤ ((k + 1 : Nat) : Int) * m ∧ ((k + 1 : Nat) : Int) * m ≤ 1000 := by rcases hm with rfl | rfl <;> omega
    cases op <;> simp only [chOf, Bool.false_eq_true, if_false, if_true, Ch.ok] <;> exact ⟨h, this⟩

/-- A core's form. -/
theorem chOf_form (op : Bool) (m : Int) : ∀ k, ∃ a s l, (chOf op m k).d = coreD a 0 s l 0 [] [] [] []
  | 0 => ⟨_, _, _, rfl⟩
  | k + 1 => by cases op <;> exact ⟨_, _, _, rfl⟩

theorem chOf_succ (op : Bool) (m : Int) (k : Nat) : (chOf op m (k + 1)).d = coreD (if op then 14 else 15) 0 (if op then mkStr [43] else mkStr []) [intC ((k + 1 : Nat) * m), (chOf op m k).d] 0 [] [] [] [] := by
  cases op <;> rfl

section
variable {n : Nat} {kd : Int} {op : Bool} {m : Int}

/-- The kind. -/
structure KD (kd : Int) (op : Bool) (m : Int) : Prop where
  t : IntKind.wrap .i64 (Int.tdiv (Int.tmod kd 3) 2) = m
  m : m = 0 ∨ m = 1
  o : op = true → Int.tmod kd 3 = 1
  s : op = false → Int.tmod kd 3 = 0 ∨ Int.tmod kd 3 = 2

theorem KD.of (h : 0 ≤ kd) : ∃ op m, KD kd op m := by
  have h1 := Int.tmod_nonneg 3 h
  have h2 := Int.tmod_lt_of_pos kd (show (0 : Int) < 3 by omega)
  obtain h3 | h3 | h3 : Int.tmod kd 3 = 0 ∨ Int.tmod kd 3 = 1 ∨ Int.tmod kd 3 = 2 := by omega
  · exact ⟨false, 0, by rw [h3]; rfl, .inl rfl, (fun h => by cases h), fun _ => .inl h3⟩
  · exact ⟨true, 0, by rw [h3]; rfl, .inl rfl, fun _ => h3, fun h => by cases h⟩
  · exact ⟨false, 1, by rw [h3]; rfl, .inr rfl, (fun h => by cases h), fun _ => .inr h3⟩

theorem mul_W (K : KD kd op m) {i : Nat} (hi : i ≤ 250) : W (W ((i : Int) + 1) * IntKind.wrap .i64 (Int.tdiv (Int.tmod kd 3) 2)) = ((i + 1 : Nat) : Int) * m := by
  rw [K.t, W_succ (l := 251) (by omega) (by omega)]
  have hm := K.m
  rcases hm with rfl | rfl <;> rw [W_id (by omega) (by omega)]

/-- The loop, behind its first round. -/
theorem x200_2 (K : KD kd op m) (hn : n ≤ 250) : ∀ i : Nat, i ≤ n → 1 ≤ i → ∀ (k1 : Int) (s1 : ByteArray) (a : Int) (k2 : Int) (s2 : ByteArray) (l2 : List D) (z : Int), (chOf op m i).d = coreD k1 0 s1 [intC a, coreD k2 0 s2 l2 0 [] [] [] []] 0 [] [] [] [] →
    Wl PP AA F200 f200_K2 (f200_S2 n kd i k1 s1 a k2 s2 l2 z) (QAl (· = vBool true)) :=
  upto (S := fun i => 1 ≤ i → ∀ (k1 : Int) (s1 : ByteArray) (a : Int) (k2 : Int) (s2 : ByteArray) (l2 : List D) (z : Int), (chOf op m i).d = coreD k1 0 s1 [intC a, coreD k2 0 s2 l2 0 [] [] [] []] 0 [] [] [] [] →
    Wl PP AA F200 f200_K2 (f200_S2 n kd i k1 s1 a k2 s2 l2 z) (QAl (· = vBool true))) fun i hi ih h1 k1 s1 a k2 s2 l2 z e => by
    have es := chOf_succ op m i
    rw [e] at es
    have eW : ∀ hi' : i < n, W ((i : Int) + 1) = ((i + 1 : Nat) : Int) := fun hi' => W_succ hi' (by omega)
    refine w200_2 ⟨fun hlt => ?_, fun _ => fin_x (Q := (· = vBool true)) e (chOf_ok K.m i (by omega)) (by rw [chOf_size]; omega) rfl⟩
    have hi' : i < n := by omega
    have eM := mul_W K (i := i) (by omega)
    cases hop : op with
    | false =>
      subst hop
      have nx : Wl PP AA F200 f200_K2 (f200_S2 n kd (W ((i : Int) + 1)) 15 (mkStr []) (W (W ((i : Int) + 1) * IntKind.wrap .i64 (Int.tdiv (Int.tmod kd 3) 2))) k1 s1 [.agg [dI 1, dI a, dS (mkStr []), .slice 9 [], dI 0, .slice 0 [], .slice 6 [], .slice 4 [], .slice 0 []], .agg [dI k2, dI 0, dS s2, .slice 9 l2, dI 0, .slice 0 [], .slice 6 [], .slice 4 [], .slice 0 []]] (W (W ((i : Int) + 1) * IntKind.wrap .i64 (Int.tdiv (Int.tmod kd 3) 2)))) (QAl (· = vBool true)) := by
        rw [eM, eW hi']
        exact ih hi' (by omega) _ _ _ _ _ _ _ es
      refine ⟨fun _ => nx, fun h0 => ⟨fun _ => nx, fun h2 => ?_⟩⟩
      rcases K.s rfl with h | h
      · exact absurd h h0
      · exact absurd h h2
    | true =>
      subst hop
      have h3 := K.o rfl
      refine ⟨fun h => by omega, fun _ => ⟨fun h => by omega, fun _ => ⟨fun _ => ?_, fun h => absurd h3 h⟩⟩⟩
      rw [eM, eW hi']
      exact ih hi' (by omega) _ _ _ _ _ _ _ es

theorem x200_1 (K : KD kd op m) (hn : n ≤ 250) : Wl PP AA F200 f200_K1 (f200_S1 n kd) (QAl (· = vBool true)) := by
  have es : (chOf op m 1).d = _ := chOf_succ op m 0
  refine w200_1 ⟨fun hlt => ?_, fun _ => fin_x (x := .int 0) (Q := (· = vBool true)) rfl (by simp [Ch.ok]) (by simp [Ch.size]) rfl⟩
  have hi' : 1 ≤ n := by omega
  have eM := mul_W K (i := 0) (by omega)
  rw [show W (((0 : Nat) : Int) + 1) = 1 from rfl] at eM
  cases hop : op with
  | false =>
    subst hop
    have nx : Wl PP AA F200 f200_K2 (f200_S2 n kd 1 15 (mkStr []) (W (1 * IntKind.wrap .i64 (Int.tdiv (Int.tmod kd 3) 2))) 1 (mkStr []) [] (W (1 * IntKind.wrap .i64 (Int.tdiv (Int.tmod kd 3) 2)))) (QAl (· = vBool true)) := by
      rw [eM]
      exact x200_2 K hn 1 hi' (by omega) _ _ _ _ _ _ _ es
    refine ⟨fun _ => nx, fun h0 => ⟨fun _ => nx, fun h2 => ?_⟩⟩
    rcases K.s rfl with h | h
    · exact absurd h h0
    · exact absurd h h2
  | true =>
    subst hop
    have h3 := K.o rfl
    refine ⟨fun h => by omega, fun _ => ⟨fun h => by omega, fun _ => ⟨fun _ => ?_, fun h => absurd h3 h⟩⟩⟩
    rw [eM]
    exact x200_2 K hn 1 hi' (by omega) _ _ _ _ _ _ _ es
end

theorem wrapneg {n : Int} (h1 : -9223372036854775808 ≤ n) (h2 : n < 0) : IntKind.wrap .i64 (0 - W (n + 1)) = -(n + 1) := by
  rw [W_id (by omega) (by omega)]
  have := W_id (n := 0 - (n + 1)) (by omega) (by omega)
  rw [show IntKind.wrap .i64 (0 - (n + 1)) = W (0 - (n + 1)) from rfl, this]; omega

/-- The law's function. -/
theorem x200 {n kd : Int} (h1 : -9223372036854775808 ≤ n) (h2 : -9223372036854775808 ≤ kd) : Wa PP AA F200 [vI n, vI kd] (· = vBool true) := by
  have go : ∀ a b : Int, 0 ≤ a → 0 ≤ b → Wl PP AA F200 f200_K1 (f200_S1 (Int.tmod a 251) b) (QAl (· = vBool true)) := fun a b ha hb => by
    have g1 := Int.tmod_nonneg 251 ha
    have g2 := Int.tmod_lt_of_pos a (show (0 : Int) < 251 by omega)
    obtain ⟨op, m, K⟩ := KD.of hb
    obtain ⟨k, hk⟩ : ∃ k : Nat, Int.tmod a 251 = k := ⟨(Int.tmod a 251).toNat, by omega⟩
    rw [hk]
    exact x200_1 K (by omega)
  refine w200 ⟨fun a => ⟨fun b => ?_, fun b => ?_⟩, fun a => ⟨fun b => ?_, fun b => ?_⟩⟩
  · rw [wrapneg h1 a, wrapneg h2 b]; exact go _ _ (by omega) (by omega)
  · rw [wrapneg h1 a]; exact go _ _ (by omega) b
  · rw [wrapneg h2 b]; exact go _ _ a (by omega)
  · exact go _ _ a b
end Am

/- strings.Index, laid at this program (printed by the kit's lay-plain). -/
namespace Go.Proofs
open Go.Shelf
def Tryz.lays143_ren : Go.Shelf.Ren := ⟨fun | 143 => 23 | 219 => 49 | 217 => 68 | 225 => 69 | 224 => 70 | 267 => 71 | 266 => 90 | 314 => 91 | n => n, fun | 9 => 9 | 3 => 3 | 4 => 4 | 5 => 5 | 46 => 132 | 146 => 162 | 51 => 161 | n => n, fun | 1 => 0 | n => n⟩
theorem Tryz.lays143 : Go.Proofs.Lays.n143 Tryz.prog Tryz.lays143_ren := {
  mixed := by kernel_rfl
  f143 := Tryz.func23.trans (congrArg some (by kernel_rfl))
  f217 := Tryz.func68.trans (congrArg some (by kernel_rfl))
  f219 := Tryz.func49.trans (congrArg some (by kernel_rfl))
  f224 := Tryz.func70.trans (congrArg some (by kernel_rfl))
  f225 := Tryz.func69.trans (congrArg some (by kernel_rfl))
  f266 := Tryz.func90.trans (congrArg some (by kernel_rfl))
  f267 := Tryz.func71.trans (congrArg some (by kernel_rfl))
  f314 := Tryz.func91.trans (congrArg some (by kernel_rfl))
  t3 := Tryz.underlying3
  a3 := Tryz.isAgg3
  z3 := Tryz.sizeOf3
  v3 := Tryz.zeroValue3
  t4 := Tryz.underlying4
  a4 := Tryz.isAgg4
  z4 := Tryz.sizeOf4
  v4 := Tryz.zeroValue4
  t5 := Tryz.underlying5
  a5 := Tryz.isAgg5
  z5 := Tryz.sizeOf5
  v5 := Tryz.zeroValue5
  t9 := Tryz.underlying9
  a9 := Tryz.isAgg9
  z9 := Tryz.sizeOf9
  v9 := Tryz.zeroValue9
  t46 := Tryz.underlying132
  a46 := Tryz.isAgg132
  z46 := Tryz.sizeOf132
  v46 := Tryz.zeroValue132
  t51 := Tryz.underlying161
  a51 := Tryz.isAgg161
  z51 := Tryz.sizeOf161
  v51 := Tryz.zeroValue161
  t146 := Tryz.underlying162
  a146 := Tryz.isAgg162
  z146 := Tryz.sizeOf162
  v146 := Tryz.zeroValue162
  g1 := by kernel_rfl }
/-- The library's own variable holds an integer. -/
theorem Tryz.maxLen (w : World) (h : w.ShapedOpen Tryz.prog) : ∃ m, w.cell? ⟨0, 0, none⟩ = some (.int .i64 m) :=
  Go.Proofs.cell_of_shapedOpen_int (zero := #[.int .i64 0]) (t := 3) h (of_decide_eq_true (by kernel_rfl)) (by kernel_rfl) rfl (by kernel_rfl) (by kernel_rfl) Tryz.underlying3
end Go.Proofs

/- GenMany: the law's row. -/
namespace Am
open Go Go.Proofs
set_option maxRecDepth 100000

theorem u3 : PP.underlying 3 = some (.int .i64) := Tryz.underlying3

theorem DT.inv_int {P : Program} {t : TypeId} {ds : List D} {k : IntKind} (h : DT P t ds) (hu : P.underlying t = some (.int k)) : ∃ n, ds = [.v (.int k n)] ∧ k.min ≤ n ∧ n ≤ k.max := by
  cases h <;> simp_all

/-- What comes in. -/
theorem args_of {xs : List V} (h : ArgsT PP [3, 3] xs) : ∃ n m, xs = [vI n, vI m] ∧ -9223372036854775808 ≤ n ∧ -9223372036854775808 ≤ m := by
  match xs, h with
  | [x, y], ⟨h1, h2, _⟩ =>
    have s3 : isStruct PP 3 = false := by kernel_rfl
    rcases h1 with ⟨_, d, rfl, _, hd⟩ | ⟨hs, _⟩
    · rcases h2 with ⟨_, d2, rfl, _, hd2⟩ | ⟨hs, _⟩
      · obtain ⟨n, en, hn, _⟩ := hd.inv_int u3
        obtain ⟨m, em, hm, _⟩ := hd2.inv_int u3
        simp at en em
        subst en; subst em
        exact ⟨n, m, rfl, hn, hm⟩
      · rw [s3] at hs; cases hs
    · rw [s3] at hs; cases hs

theorem follows : PP.follows .mixedOrders = true := by kernel_rfl
theorem noNG : NoNG PP := by
  have h : PP.funcs.all (fun fn => !(fn.name == "runtime.NumGoroutine")) = true := by kernel_rfl
  intro f fn hf
  have := Array.all_eq_true_iff_forall_mem.1 h fn (Array.mem_of_getElem? hf)
  simpa using this

theorem primOk {W : World} (h : W.ShapedOpen PP) : PrimOk PP AA W := by
  obtain ⟨m, hm⟩ := Tryz.maxLen W h
  intro f p hp args v hv w G hh cargs hB hrel hargs _
  have hf : f = 23 ∧ p = pIndex := by
    simp only [theAn] at hp
    split at hp
    · rename_i e; exact ⟨e, by simpa using hp.symm⟩
    · cases hp
  obtain ⟨rfl, rfl⟩ := hf
  match args, hv with
  | [a, b], hv =>
    simp only [pIndex] at hv
    obtain ⟨x, hx, hv⟩ := Option.bind_eq_some_iff.1 hv
    obtain ⟨y, hy, hv⟩ := Option.bind_eq_some_iff.1 hv
    cases hs : Nat.blt x.size 4294967281 with
    | false => rw [hs] at hv; cases hv
    | true =>
      rw [hs] at hv
      simp only [cond_true, Option.some.injEq] at hv
      subst hv
      match cargs, hargs with
      | [ca, cb], ⟨ha, hb, _⟩ =>
        have e1 := str_VR hx ha
        have e2 := str_VR hy hb
        subst e1; subst e2
        have hlt : x.size < 4294967281 := Nat.le_of_ble_eq_true hs
        have hc : w.cell? ⟨0, 0, none⟩ = some (.int .i64 m) := by
          have hlt0 : 0 < W.heap.size := by
            rcases Nat.lt_or_ge 0 W.heap.size with h | h
            · exact h
            · simp [World.cell?, Array.getElem?_eq_none h] at hm
          have := (hB.2 0 hlt0).1
          simp only [World.cell?] at hm ⊢
          rw [this]; exact hm
        refine ⟨⟨Tryz.f23, Tryz.func23, by kernel_rfl, by kernel_rfl⟩, ((Any.strings_Index Tryz.lays143 x y m w hlt hc : Calls PP 23 #[.string x, .string y] w _).mono ?_)⟩
        rintro e w' ⟨rfl, rfl⟩
        exact ⟨G.noLo, hrel, .d _ _ (.v _ rfl) rfl, rfl⟩
  | [], hv => cases hv
  | [_], hv => cases hv
  | _ :: _ :: _ :: _, hv => cases hv

/-- The law's function answers true, whatever comes in. -/
theorem run3 {xs : List V} (h : ArgsT PP [3, 3] xs) : ∃ k h', run PP AA k F200 xs Heap.none = some (vBool true, h') := by
  obtain ⟨n, m, rfl, h1, h2⟩ := args_of h
  obtain ⟨v, hr, rfl⟩ := x200 h1 h2
  obtain ⟨k, hk⟩ := hr Heap.none
  exact ⟨k, _, hk k (Nat.le_refl _)⟩
end Am

namespace Go.Proofs.YthcndflaijcghaaGreat
open Go.ChangeShapes Go.WideShapes Go.ChangeAt Go.RowKit Am

set_option maxRecDepth 1000000 in
theorem lifted (os : Os) (started : os.Started) (H : Type) (enc : TypeId × Value → H) :
    ReturnsInHanded {} Tryz.checked os 3 .any (Rows.genManySpec.pre6 enc Tryz.prog Tryz.f3 Rows.genManyRow.domain false) (Rows.genManySpec.post enc Tryz.prog Tryz.f3 false true false false) := by
  refine returnsInHanded_of_change_shaped (C := Tryz.checked) (by kernel_rfl) started (by kernel_rfl) Tryz.func3
    (ChangeSpec.witness6 (enc := enc) (C := Tryz.checked) false ⟨#[], #[.int .i64 0, .int .i64 0], []⟩ 8 (by kernel_rfl) (by kernel_rfl) (by kernel_rfl) (by kernel_rfl)) ?_
  intro W base args ds gs before hval hW hcnd _ hsh _
  exact law_contract (P := Tryz.prog) follows noNG (primOk hsh) (by kernel_rfl) (ts := [3]) (tb := 4) (by kernel_rfl) (by kernel_rfl) (by kernel_rfl) Tryz.underlying4 rfl
    (fun ds hd => by
      match ds, hd with
      | [d1, d2], _ => exact ⟨rfl, rfl, rfl⟩)
    (fun xs h => run3 (by rw [show Tryz.f3.params.toList = [3, 3] by rw [Tryz.params3]] at h; exact h)) hval hW

theorem genMany_holds : Rows.GenManySaid :=
  OpenClaim.holds_of_wide 3 Tryz.f3 rfl rfl rfl rfl rfl rfl rfl ⟨rfl, rfl, rfl, rfl, rfl⟩ rfl rfl rfl rfl rfl (by kernel_rfl) Tryz.func3 (by kernel_rfl)
    (of_decide_eq_true (by kernel_rfl)) (by unfold Func.isWrapper; first | (rw [if_pos (by decide +kernel)]; kernel_rfl) | (rw [if_neg (by decide +kernel)]; exact ⟨rfl, rfl⟩))
    (fun os started H enc _ => lifted os started H enc)

end Go.Proofs.YthcndflaijcghaaGreat
