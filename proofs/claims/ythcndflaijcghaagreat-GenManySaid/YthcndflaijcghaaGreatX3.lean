/- GenMany: the law's function returns true for every input, and what came in reads as before; without conditions. This text: part 3 of 6 of the proof. -/
import Derived.Test.YthcndflaijcghaaGreatX2
import Derived.KernelRfl
import Derived.ProofKit
import Derived.Lib.Index
import Derived.Test.YthcndflaijcghaaGreatProg

/- AM: regions that are drawn. -/
namespace Am
open Go
variable {P : Program} {w0 w : World} {G0 G : Gh} {st st1 : St} {a : Act} {call : CallF} {fp : FP}

theorem forget_eqv {s t : St} (e : s.eqv t) (i : Nat) : (s.forget i).eqv (t.forget i) := by
  refine ⟨e.nt, by simp [St.forget, e.lo], e.hp, fun u => ?_⟩
  simp only [St.forget, aget_map, e.tm]

theorem putL_eqv {s t : St} (e : s.eqv t) (l : Loc) (o : Option Obj) : (s.putL l o).eqv (t.putL l o) := by
  have h := app_tm (.put l o)
  have h2 := app_nt (.put l o)
  refine ⟨?_, app_lo (E := .put l o) e.lo, app_hp (E := .put l o) e.hp, fun u => ?_⟩
  · have := h2 s; have := h2 t; simp only [Eff.app] at *; rw [h2 s, h2 t, e.nt]
  · simp only [Eff.app] at h; rw [h s, h t, e.tm]

theorem drop_eqv {s t : St} (e : s.eqv t) (l : Loc) : (s.drop l).eqv (t.drop l) := by
  cases l with
  | lo i => exact putL_eqv (forget_eqv e i) (.lo i) none
  | he i g => exact putL_eqv e (.he i g) none

theorem dropAll_eqv : ∀ {ls : List Loc} {s s' t : St}, dropAll ls s = some s' → s.eqv t → ∃ t', dropAll ls t = some t' ∧ s'.eqv t'
  | [], s, s', t, h, e => by
    simp only [dropAll, Option.some.injEq] at h
    subst h; exact ⟨t, rfl, e⟩
  | l :: r, s, s', t, h, e => by
    simp only [dropAll, e.get l] at h ⊢
    split at h
    · rename_i o ho
      exact dropAll_eqv h (drop_eqv e l)
    · cases h

theorem dst_eqv {s s' t : St} {d : Option Tmp} {v : V} (h : s.dst d v = some s') (e : s.eqv t) : ∃ t', t.dst d v = some t' ∧ s'.eqv t' := by
  obtain ⟨t', ht⟩ := dst_some h (t := t) e.nt.symm
  obtain ⟨a1, a2, a3, a4⟩ := dst_spec h
  obtain ⟨b1, b2, b3, b4⟩ := dst_spec ht
  exact ⟨t', ht, by rw [a1, b1, e.nt], by rw [a2, b2, e.lo], by rw [a3, b3, e.hp], fun u => by rw [a4, b4, e.tm]⟩

theorem act1_eqv {s s' t : St} {op : OpA} {v : V} (h : act1 call s op = some (s', v, fp)) (e : s.eqv t) : ∃ t', act1 call t op = some (t', v, fp) ∧ s'.eqv t' := by
  cases hq : fp.quiet with
  | true =>
    obtain ⟨E, _, rfl, _, e3⟩ := act1_spec h hq
    exact ⟨_, e3 t (same_of_eqv e fp), by rw [app_nt, app_nt, e.nt], app_lo e.lo, app_hp e.hp, fun u => by rw [app_tm, app_tm, e.tm]⟩
  | false =>
    cases op with
    | val x => simp only [act1, Option.some.injEq, Prod.mk.injEq] at h; obtain ⟨_, _, rfl⟩ := h; cases hq
    | frz x =>
      simp only [act1] at h ⊢
      obtain ⟨p, h1, h⟩ := bind_some h
      obtain ⟨hc, h⟩ := bif_some h
      obtain ⟨s1, h2, h⟩ := map_some h
      simp only [Prod.mk.injEq] at h
      obtain ⟨rfl, rfl, rfl⟩ := h
      obtain ⟨t1, g1, g2⟩ := dropAll_eqv h2 e
      have : freezeV t x = some p := freezeV_congr (x := p.1) (ls := p.2) h1 fun l _ => e.get l
      exact ⟨t1, by simp only [this, Option.bind_some, hc, cond_true, g1, Option.map_some, e.hp, g2.hp], g2⟩
    | thaw x js =>
      simp only [act1] at h
      obtain ⟨p, _, h⟩ := map_some h
      simp only [Prod.mk.injEq] at h
      obtain ⟨_, _, rfl⟩ := h
      cases hq
    | frzT x u =>
      simp only [act1] at h ⊢
      obtain ⟨p, h1, h⟩ := bind_some h
      obtain ⟨hc, h⟩ := bif_some h
      obtain ⟨s1, h2, h⟩ := bind_some h
      obtain ⟨s2, h3, h⟩ := map_some h
      simp only [Prod.mk.injEq] at h
      obtain ⟨rfl, rfl, rfl⟩ := h
      obtain ⟨t1, g1, g2⟩ := dropAll_eqv h2 e
      obtain ⟨t2, g3, g4⟩ := dst_eqv h3 g2
      have : freezeV t x = some p := freezeV_congr (x := p.1) (ls := p.2) h1 fun l _ => e.get l
      exact ⟨t2, by simp only [this, Option.bind_some, hc, cond_true, g1, g3, Option.map_some], g4⟩
    | rdz l off k =>
      simp only [act1, e.get l] at h ⊢
      split at h
      · rename_i x hx
        obtain ⟨y, h1, h⟩ := bind_some h
        obtain ⟨p, h2, h⟩ := bind_some h
        obtain ⟨z, h3, h⟩ := bind_some h
        obtain ⟨hc, h⟩ := bif_some h
        obtain ⟨s1, h4, h⟩ := bind_some h
        obtain ⟨t1, g1, g2⟩ := dropAll_eqv h4 e
        have hf : freezeV t y = some p := freezeV_congr (x := p.1) (ls := p.2) h2 fun l _ => e.get l
        split at h
        · rename_i o ho
          obtain ⟨hb, h⟩ := bif_some h
          simp only [Option.some.injEq, Prod.mk.injEq] at h
          obtain ⟨rfl, rfl, rfl⟩ := h
          rw [g2.get l] at ho
          exact ⟨_, by simp only [h1, hf, h3, Option.bind_some, hc, cond_true, g1, ho, hb, e.hp, (putL_eqv g2 l (some (.var z))).hp], putL_eqv g2 _ _⟩
        · cases h
      · cases h
    | rd l k =>
      simp only [act1] at h
      split at h
      · obtain ⟨x, h1, h⟩ := map_some h
        simp only [Prod.mk.injEq] at h
        obtain ⟨_, _, rfl⟩ := h
        cases hq
      · cases h
    | wr f l k =>
      simp only [act1, e.get l] at h ⊢
      have hfe : (s.fresh f l).eqv (t.fresh f l) := by
        unfold St.fresh
        split
        · exact forget_eqv e _
        · exact e
      split at h
      · cases h
      · cases h
      · obtain ⟨p, h1, h⟩ := map_some h
        simp only [Prod.mk.injEq] at h
        obtain ⟨rfl, rfl, rfl⟩ := h
        exact ⟨_, by simp only [h1, Option.map_some], putL_eqv hfe _ _⟩
    | push o k => simp only [act1, Option.some.injEq, Prod.mk.injEq] at h; obtain ⟨_, _, rfl⟩ := h; cases hq
    | call f args =>
      simp only [act1] at h
      obtain ⟨p, h1, h⟩ := map_some h
      simp only [Prod.mk.injEq] at h
      obtain ⟨_, _, rfl⟩ := h
      cases hq
    | callF f args =>
      simp only [act1] at h
      obtain ⟨_, _, h⟩ := bind_some h
      obtain ⟨_, _, h⟩ := bind_some h
      obtain ⟨_, h⟩ := bif_some h
      obtain ⟨_, _, h⟩ := map_some h
      simp only [Prod.mk.injEq] at h
      obtain ⟨_, _, rfl⟩ := h
      cases hq

theorem step_eqv {ops : Array Oper} {ra : RA} {i : Nat} {s s' t : St} (h : stepOp P call ops ra i s = some (s', fp)) (e : s.eqv t) :
    ∃ t', stepOp P call ops ra i t = some (t', fp) ∧ s'.eqv t' := by
  unfold stepOp at *
  split at h
  · cases h
  · rename_i o ho
    have ht : TmSame ops o s t := fun u _ => e.tm u
    rw [← wantedA_congr ht]
    split at h
    · cases h
    · obtain ⟨x, h1, h2⟩ := map_some h
      simp only [Prod.mk.injEq] at h2
      obtain ⟨rfl, rfl⟩ := h2
      obtain ⟨t', g1, g2⟩ := dst_eqv h1 e
      exact ⟨t', by simp [g1], g2⟩
    · rw [← amOp_congr (evalO_congr ht)]
      split at h
      · cases h
      · rename_i act hp
        unfold doA at *
        cases ha : act1 call s act with
        | none => simp [ha] at h
        | some r =>
          obtain ⟨s1, v, fp1⟩ := r
          simp only [ha] at h
          cases hd : s1.dst o.dst v with
          | none => simp [hd] at h
          | some x =>
            simp only [hd, Option.some.injEq, Prod.mk.injEq] at h
            obtain ⟨rfl, rfl⟩ := h
            obtain ⟨t1, g1, g2⟩ := act1_eqv ha e
            obtain ⟨t2, g3, g4⟩ := dst_eqv hd g2
            exact ⟨t2, by simp only [g1, g3], g4⟩

theorem runs_eqv {ops : Array Oper} {ra : RA} : ∀ {is : List Nat} {s s' t : St} {fps : List (FP × X)}, runOps P call ops ra is s = some (s', fps) → s.eqv t →
    ∃ t', runOps P call ops ra is t = some (t', fps) ∧ s'.eqv t'
  | [], s, s', t, fps, h, e => by
    simp only [runOps, Option.some.injEq, Prod.mk.injEq] at h
    obtain ⟨rfl, rfl⟩ := h
    exact ⟨t, rfl, e⟩
  | i :: r, s, s', t, fps, h, e => by
    simp only [runOps] at h
    cases h1 : stepOp P call ops ra i s with
    | none => simp [h1] at h
    | some p =>
      obtain ⟨s1, f1⟩ := p
      simp only [h1] at h
      cases h2 : runOps P call ops ra r s1 with
      | none => simp [h2] at h
      | some q =>
        obtain ⟨s2, f2⟩ := q
        simp only [h2, Option.some.injEq, Prod.mk.injEq] at h
        obtain ⟨rfl, rfl⟩ := h
        obtain ⟨t1, g1, g2⟩ := step_eqv h1 e
        obtain ⟨t2, g3, g4⟩ := runs_eqv h2 g2
        have hx : xOf ops i f1 s s1 = xOf ops i f1 t t1 := by
          cases ho : ops[i]? with
          | none => simp only [stepOp, ho] at h1; cases h1
          | some o => exact xOf_same ho (fun u _ => e.tm u) (fun d _ => g2.tm d) fun l _ => e.get l
        exact ⟨t2, by simp only [runOps, g1, g3, hx], g4⟩

theorem runOps_cons {ops : Array Oper} {ra : RA} {i : Nat} {r : List Nat} {s s' : St} {F : Nat → FP × X} :
    runOps P call ops ra (i :: r) s = some (s', (i :: r).map F) ↔ ∃ s1, stepOp P call ops ra i s = some (s1, (F i).1) ∧ xOf ops i (F i).1 s s1 = (F i).2 ∧ runOps P call ops ra r s1 = some (s', r.map F) := by
  simp only [runOps]
  cases h1 : stepOp P call ops ra i s with
  | none => simp
  | some p =>
    obtain ⟨s1, f1⟩ := p
    simp only
    cases h2 : runOps P call ops ra r s1 with
    | none =>
      constructor
      · intro h; cases h
      · rintro ⟨x, e1, _, e2⟩
        simp only [Option.some.injEq, Prod.mk.injEq] at e1
        obtain ⟨rfl, _⟩ := e1
        rw [h2] at e2; cases e2
    | some q =>
      obtain ⟨s2, f2⟩ := q
      simp only [Option.some.injEq, Prod.mk.injEq, List.map_cons, List.cons.injEq]
      constructor
      · rintro ⟨rfl, hf, rfl⟩
        refine ⟨s1, ⟨rfl, by rw [← hf]⟩, by rw [← hf], h2⟩
      · rintro ⟨x, ⟨rfl, e1⟩, e3, e2⟩
        rw [h2] at e2
        simp only [Option.some.injEq, Prod.mk.injEq] at e2
        exact ⟨e2.1, by rw [e1, e3], e2.2⟩

/-- Two neighbours change places. -/
theorem swapX {ops : Array Oper} {ra : RA} {i j : Nat} {oi oj : Oper} {s s1 s2 : St} {fi fj : FP × X} (hj : stepOp P call ops ra j s = some (s1, fj.1)) (hi : stepOp P call ops ra i s1 = some (s2, fi.1))
    (xj : xOf ops j fj.1 s s1 = fj.2) (xi : xOf ops i fi.1 s1 s2 = fi.2) (hf : freeX fj fi = true) (hcd : AllP (fj.1.cond fi.1)) (hoi : ops[i]? = some oi) (hoj : ops[j]? = some oj) (hap : oj.apart ops oi = true) :
    ∃ t1 t2, stepOp P call ops ra i s = some (t1, fi.1) ∧ stepOp P call ops ra j t1 = some (t2, fj.1) ∧ s2.eqv t2 ∧ xOf ops i fi.1 s t1 = fi.2 ∧ xOf ops j fj.1 t1 t2 = fj.2 := by
  obtain ⟨fi, yi⟩ := fi
  obtain ⟨fj, yj⟩ := fj
  simp only at hj hi xj xi hcd ⊢
  subst xj xi
  unfold freeX at hf
  simp only [Bool.or_eq_true] at hf
  rcases hf with (hf | hf) | hf
  · exact swap hj hi hf hcd hoi hoj hap
  · unfold newFree at hf
    simp only at hf
    split at hf
    · exact swapNew hj hi rfl (fun e => nomatch e) hf hoi hoj hap
    · exact swapNew hj hi rfl (fun e => nomatch e) hf hoi hoj hap
    · simp only [Bool.and_eq_true, Bool.not_eq_true'] at hf
      refine swapNew hj hi rfl (fun e => ?_) hf.2 hoi hoj hap
      simp only [FP.rd.injEq, Loc.lo.injEq] at e
      rw [e, Nat.beq_refl] at hf
      cases hf.1
    · exact swapNew hj hi rfl (fun e => nomatch e) hf hoi hoj hap
    · cases hf
  · unfold newFree at hf
    simp only at hf
    split at hf
    · exact swapNew' hj hi rfl (fun e => nomatch e) hf hoi hoj hap
    · exact swapNew' hj hi rfl (fun e => nomatch e) hf hoi hoj hap
    · simp only [Bool.and_eq_true, Bool.not_eq_true'] at hf
      refine swapNew' hj hi rfl (fun e => ?_) hf.2 hoi hoj hap
      simp only [FP.rd.injEq, Loc.lo.injEq] at e
      rw [e, Nat.beq_refl] at hf
      cases hf.1
    · exact swapNew' hj hi rfl (fun e => nomatch e) hf hoi hoj hap
    · cases hf

/-- One that waits for none of those ahead may go first. -/
theorem front {ops : Array Oper} {ra : RA} {F : Nat → FP × X} {i : Nat} {oi : Oper} {R2 : List Nat} (hoi : ops[i]? = some oi) : ∀ {R1 : List Nat} {s s' : St},
    runOps P call ops ra (R1 ++ i :: R2) s = some (s', (R1 ++ i :: R2).map F) → (∀ j ∈ R1, ∃ oj, ops[j]? = some oj ∧ freeX (F j) (F i) = true ∧ AllP ((F j).1.cond (F i).1) ∧ oj.apart ops oi = true) →
    ∃ t1 t', stepOp P call ops ra i s = some (t1, (F i).1) ∧ xOf ops i (F i).1 s t1 = (F i).2 ∧ runOps P call ops ra (R1 ++ R2) t1 = some (t', (R1 ++ R2).map F) ∧ s'.eqv t'
  | [], s, s', h, _ => by
    obtain ⟨s1, h1, hx, h2⟩ := runOps_cons.1 h
    exact ⟨s1, s', h1, hx, h2, .refl _⟩
  | j :: R1, s, s', h, hf => by
    obtain ⟨s1, h1, hx, h2⟩ := runOps_cons.1 h
    obtain ⟨s2, s3, h3, hx2, h4, h5⟩ := front (R2 := R2) hoi h2 fun k hk => hf k (by simp [hk])
    obtain ⟨oj, g1, g2, g4, g3⟩ := hf j (by simp)
    obtain ⟨t1, t2, k1, k2, k3, k4, k5⟩ := swapX h1 h3 hx hx2 g2 g4 hoi g1 g3
    obtain ⟨t3, m1, m2⟩ := runs_eqv h4 k3
    exact ⟨t1, t3, k1, k4, runOps_cons.2 ⟨t2, k2, k5, m1⟩, h5.trans m2⟩

/-- One waits for another one, through others. -/
inductive Path (ops : Array Oper) : Nat → Nat → Prop
  | one {i : Nat} {o : Oper} {e : Edge} : ops[i]? = some o → e ∈ o.after → Region.binds .any e = true → Path ops i e.on
  | more {i j : Nat} {o : Oper} {e : Edge} : ops[i]? = some o → e ∈ o.after → Region.binds .any e = true → Path ops e.on j → Path ops i j

theorem before_path (ops : Array Oper) (i j : Nat) (h : ((Region.before ops).getD i 0).testBit j = true) : Path ops i j := by
  have key : (Region.before ops).size = ops.size ∧ ∀ i j, ((Region.before ops).getD i 0).testBit j = true → Path ops i j := by
    unfold Region.before
    refine Array.foldl_induction (motive := fun m (acc : Array Nat) => acc.size = m ∧ ∀ i j, (acc.getD i 0).testBit j = true → Path ops i j) ⟨rfl, fun i j h => by simp at h⟩ ?_
    rintro ⟨m, hm⟩ acc ⟨h1, h2⟩
    have h1 : acc.size = m := h1
    refine ⟨by simp [h1], fun i j hj => ?_⟩
    by_cases hi : i = m
    · subst hi
      have hin : ∀ s : Nat, s = (ops[i].after.foldl (fun s e => if Region.binds .any e then s ||| 2 ^ e.on ||| acc.getD e.on 0 else s) 0) → ∀ j, s.testBit j = true → Path ops i j := by
        rintro s rfl
        refine Array.foldl_induction (motive := fun _ (s : Nat) => ∀ j, s.testBit j = true → Path ops i j) (fun j h => by simp at h) ?_
        rintro ⟨k, hk⟩ s ih j hj
        have hmem : ops[i].after[k] ∈ ops[i].after := Array.getElem_mem hk
        split at hj
        · rename_i hb
          simp only [Nat.testBit_or, Bool.or_eq_true] at hj
          rcases hj with (hj | hj) | hj
          · exact ih j hj
          · rw [Nat.testBit_two_pow] at hj
            have : ops[i].after[k].on = j := by simpa using hj
            subst this
            exact .one (o := ops[i]) (Array.getElem?_eq_getElem hm) hmem hb
          · exact .more (o := ops[i]) (Array.getElem?_eq_getElem hm) hmem hb (h2 _ _ hj)
        · exact ih j hj
      refine hin _ rfl j ?_
      have : (acc.push (ops[i].after.foldl (fun s e => if Region.binds .any e then s ||| 2 ^ e.on ||| acc.getD e.on 0 else s) 0)).getD i 0 = (ops[i].after.foldl (fun s e => if Region.binds .any e then s ||| 2 ^ e.on ||| acc.getD e.on 0 else s) 0) := by
        rw [Array.getD_eq_getD_getElem?, Array.getElem?_push]; simp [h1]
      rw [← this]; exact hj
    · refine h2 i j ?_
      rcases Nat.lt_or_ge i acc.size with hlt | hge
      · simpa [Array.getElem?_push, Nat.ne_of_lt hlt] using hj
      · have : i ≠ acc.size := by omega
        simp [Array.getElem?_push, this, Array.getElem?_eq_none hge] at hj
  exact key.2 i j h

def Closed (ops : Array Oper) (listed : Array Bool) : Prop :=
  ∀ k o, listed.getD k false = true → ops[k]? = some o → ∀ e ∈ o.after, Region.binds .any e = true → listed.getD e.on false = true

theorem path_listed {ops : Array Oper} {listed : Array Bool} (hc : Closed ops listed) {i j : Nat} (h : Path ops i j) :
    (∀ o, ops[i]? = some o → ∀ e ∈ o.after, Region.binds .any e = true → listed.getD e.on false = true) → listed.getD j false = true := by
  induction h with
  | one h1 h2 h3 => intro hp; exact hp _ h1 _ h2 h3
  | more h1 h2 h3 _ ih => intro hp; exact ih fun o ho e he hb => hc _ o (hp _ h1 _ h2 h3) ho e he hb

theorem AllP.mem : ∀ {ps : List Prop}, AllP ps → ∀ p ∈ ps, p
  | [], _, p, hp => by cases hp
  | q :: r, h, p, hp => by
    rcases List.mem_cons.1 hp with rfl | hp
    · exact h.1
    · exact AllP.mem h.2 p hp

theorem AllP.of : ∀ {ps : List Prop}, (∀ p ∈ ps, p) → AllP ps
  | [], _ => trivial
  | q :: r, h => ⟨h q (by simp), AllP.of fun p hp => h p (by simp [hp])⟩

theorem condAll_get {ops : Array Oper} {fps : List (FP × X)} (h : AllP (condAll ops fps)) {i j : Nat} (hi : i < ops.size) (hj : j < i) (hb : ((Region.before ops).getD i 0).testBit j = false) :
    ∀ fi fj, fps[i]? = some fi → fps[j]? = some fj → AllP (fj.1.cond fi.1) := by
  intro fi fj h1 h2
  refine AllP.of fun p hp => h.mem p ?_
  unfold condAll
  simp only [List.mem_flatMap, List.mem_range]
  refine ⟨i, hi, j, hj, ?_⟩
  rw [hb, h1, h2]
  exact hp

theorem drawOk (P : Program) (call : CallF) {w0 : World} {G0 : Gh} (hcall : CallOk P call w0 G0) : DrawOk P call w0 G0 := by
  intro w G st st2 a ops ra fps Q h hrun hfree hcond hQ
  unfold freeAll at hfree
  simp only [Bool.and_eq_true, List.all_eq_true, List.mem_range] at hfree
  obtain ⟨hedge, hfree⟩ := hfree
  have hlen : ∀ (is : List Nat) (s s' : St) (fs : List (FP × X)), runOps P call ops ra is s = some (s', fs) → fs.length = is.length := by
    intro is
    induction is with
    | nil => intro s s' fs hr; simp only [runOps, Option.some.injEq, Prod.mk.injEq] at hr; rw [← hr.2]; rfl
    | cons i r ih =>
      intro s s' fs hr
      simp only [runOps] at hr
      split at hr
      · cases hr
      · split at hr
        · cases hr
        · rename_i h2
          simp only [Option.some.injEq, Prod.mk.injEq] at hr
          rw [← hr.2]; simp [ih _ _ _ h2]
  have hl := hlen _ _ _ _ hrun
  rw [List.length_range] at hl
  let F : Nat → FP × X := fun i => fps.getD i (.all, ⟨[], none⟩)
  have hF : fps = (List.range ops.size).map F := by
    apply List.ext_getElem
    · simp [hl]
    · intro i h1 h2
      simp [F, h1]
  have hedge' : ∀ i o, ops[i]? = some o → ∀ e ∈ o.after, Region.binds .any e = true → e.on < i := by
    intro i o ho e he hb
    unfold edgesOk at hedge
    simp only [List.all_eq_true, List.mem_range] at hedge
    have := hedge i (Array.getElem?_eq_some_iff.1 ho).1
    simp only [ho, Array.all_eq_true_iff_forall_mem] at this
    have := this e he
    simp only [hb, Bool.not_true, Bool.false_or] at this
    exact blt_lt this
  have hpair : ∀ i j, j < i → i < ops.size → ((Region.before ops).getD i 0).testBit j = false → ∃ oi oj, ops[i]? = some oi ∧ ops[j]? = some oj ∧ freeX (F j) (F i) = true ∧ AllP ((F j).1.cond (F i).1) ∧ oj.apart ops oi = true := by
    intro i j hj hi hb
    have hc2 := condAll_get hcond hi hj hb
    have := hfree i hi j hj
    simp only [hb, Bool.false_or] at this
    split at this
    · rename_i oi oj fi fj h1 h2 h3 h4
      simp only [Bool.and_eq_true] at this
      have e1 : F i = fi := by simp [F, h3]
      have e2 : F j = fj := by simp [F, h4]
      refine ⟨oi, oj, h1, h2, by rw [e1, e2]; exact this.1, by rw [e1, e2]; exact hc2 fi fj h3 h4, this.2⟩
    · cases this
  rw [hF] at hrun
  let rest : Array Bool → List Nat := fun listed => (List.range ops.size).filter fun x => !listed.getD x true
  have key : ∀ (fuel : Nat) (listed : Array Bool) (s s' : St) (a : Act) (w : World) (G : Gh), listed.size = ops.size → (rest listed).length ≤ fuel → Closed ops listed → Rel w0 G0 G s a w →
      runOps P call ops ra (rest listed) s = some (s', (rest listed).map F) → st2.eqv s' → wpAny P .any ops Q fuel listed a w := by
    intro fuel
    have hsub : ∀ (listed : Array Bool) i, i ∈ Region.ready .any ops listed → i ∈ rest listed := by
      intro listed i hi
      obtain ⟨h1, o, h2, _⟩ := mem_ready.1 hi
      simp only [rest, List.mem_filter, List.mem_range]
      exact ⟨(Array.getElem?_eq_some_iff.1 h2).1, by rw [h1]; rfl⟩
    have hnil : ∀ (listed : Array Bool) (s s' : St) (a : Act) (w : World) (G : Gh), Rel w0 G0 G s a w → runOps P call ops ra (rest listed) s = some (s', (rest listed).map F) → st2.eqv s' → rest listed = [] → Q .normal a w := by
      intro listed s s' a w G hrel hr he hn
      rw [hn] at hr
      simp only [runOps, Option.some.injEq, Prod.mk.injEq] at hr
      obtain ⟨rfl, _⟩ := hr
      exact hQ a w G (hrel.eqv he.symm)
    induction fuel with
    | zero =>
      intro listed s s' a w G hs hlf hc hrel hr he
      have hn : rest listed = [] := List.length_eq_zero_iff.1 (by omega)
      refine ⟨?_, hnil listed s s' a w G hrel hr he hn⟩
      apply List.eq_nil_iff_forall_not_mem.2
      intro i hi
      have := hsub listed i hi
      rw [hn] at this
      cases this
    | succ fuel ih =>
      intro listed s s' a w G hs hlf hc hrel hr he
      constructor
      · intro hready
        refine hnil listed s s' a w G hrel hr he ?_
        cases hn : rest listed with
        | nil => rfl
        | cons i r =>
          exfalso
          have hi : i ∈ rest listed := by rw [hn]; simp
          have hi2 := hi
          simp only [rest, List.mem_filter, List.mem_range] at hi2
          obtain ⟨h1, h2⟩ := hi2
          have hsort : (rest listed).Pairwise (· < ·) := List.Pairwise.filter _ List.pairwise_lt_range
          rw [hn] at hsort
          have hmin := (List.pairwise_cons.1 hsort).1
          have : i ∈ Region.ready .any ops listed := by
            refine mem_ready.2 ⟨by simpa using h2, ops[i], Array.getElem?_eq_getElem h1, fun e he' hb => ?_⟩
            have hlt := hedge' i ops[i] (Array.getElem?_eq_getElem h1) e he' hb
            cases hg : listed.getD e.on false with
            | true => rfl
            | false =>
              have hmem : e.on ∈ rest listed := by
                simp only [rest, List.mem_filter, List.mem_range]
                refine ⟨by omega, ?_⟩
                have hlt2 : e.on < listed.size := by omega
                simp [hlt2] at hg ⊢
                exact hg
              rw [hn] at hmem
              rcases List.mem_cons.1 hmem with e1 | e1
              · omega
              · have := hmin _ e1; omega
          rw [hready] at this
          cases this
      · intro i hi
        obtain ⟨hun, oi, hoi, hpre⟩ := mem_ready.1 hi
        have hlt : i < ops.size := (Array.getElem?_eq_some_iff.1 hoi).1
        obtain ⟨R1, R2, hsplit⟩ := List.append_of_mem (hsub listed i hi)
        have hsort : (rest listed).Pairwise (· < ·) := List.Pairwise.filter _ List.pairwise_lt_range
        rw [hsplit] at hr hsort
        obtain ⟨_, hs2, hs3⟩ := List.pairwise_append.1 hsort
        have hs2' := (List.pairwise_cons.1 hs2).1
        have hc' : Closed ops (listed.setIfInBounds i true) := by
          intro k o hk ho e he' hb
          by_cases hki : i = k
          · subst hki
            rw [hoi] at ho; cases ho
            exact getD_set_true (hpre e he' hb)
          · rw [getD_set_ne false hki] at hk
            exact getD_set_true (hc k o hk ho e he' hb)
        obtain ⟨t1, t', g1, _, g2, g3⟩ := front hoi hr fun j hj => by
          have hji : j < i := hs3 j hj i (by simp)
          have hjr : j ∈ rest listed := by rw [hsplit]; simp [hj]
          simp only [rest, List.mem_filter, List.mem_range] at hjr
          have hb : ((Region.before ops).getD i 0).testBit j = false := by
            cases hb : ((Region.before ops).getD i 0).testBit j with
            | false => rfl
            | true =>
              exfalso
              have := path_listed hc (before_path ops i j hb) fun o ho e he' hb' => by
                rw [hoi] at ho; cases ho; exact hpre e he' hb'
              have hlt2 : j < listed.size := by omega
              simp [hlt2] at this hjr
              rw [this] at hjr
              cases hjr.2
          obtain ⟨oi', oj, k1, k2, k3, k5, k4⟩ := hpair i j hji hlt hb
          rw [hoi] at k1; cases k1
          exact ⟨oj, k2, k3, k5, k4⟩
        have hrest : rest (listed.setIfInBounds i true) = R1 ++ R2 := by
          have e1 : rest (listed.setIfInBounds i true) = (rest listed).filter fun x => x != i := by
            simp only [rest, List.filter_filter]
            apply List.filter_congr
            intro x hx
            by_cases hxi : i = x
            · subst hxi
              have : i < listed.size := by omega
              simp [this]
            · rw [getD_set_ne true hxi]
              have : (x != i) = true := by simpa using fun e => hxi e.symm
              rw [this]; simp
          rw [e1, hsplit, List.filter_append, List.filter_cons]
          have f1 : R1.filter (fun x => x != i) = R1 := List.filter_eq_self.2 fun x hx => by
            have := hs3 x hx i (by simp)
            simp; omega
          have f2 : R2.filter (fun x => x != i) = R2 := List.filter_eq_self.2 fun x hx => by
            have := hs2' x hx
            simp; omega
          rw [f1, f2]; simp
        refine stepOp_wp hcall hrel g1 fun a' w' G' h' => ?_
        refine ih (listed.setIfInBounds i true) t1 t' a' w' G' (by simp [hs]) ?_ hc' h' (by rw [hrest]; exact g2) (he.trans g3)
        rw [hrest]
        rw [hsplit] at hlf
        simp at hlf ⊢
        omega
  refine key ops.size (Array.replicate ops.size false) st st2 a w G (by simp) ?_ ?_ h ?_ (.refl _)
  · exact Nat.le_trans (List.length_filter_le _ _) (by simp)
  · intro k o hk
    rcases Nat.lt_or_ge k ops.size with hlt | hge
    · simp [hlt] at hk
    · simp [Nat.not_lt.2 hge] at hk
  · have : rest (Array.replicate ops.size false) = List.range ops.size := by
      apply List.filter_eq_self.2
      intro x hx
      have := List.mem_range.1 hx
      simp [this]
    rw [this]; exact hrun

end Am

/- AM: a function's run: how it is entered, how it returns. -/
namespace Am
open Go
variable {P : Program} {w0 w : World} {G0 G : Gh} {st st1 : St} {a : Act} {call : CallF} {fp : FP}

/-- What a function leaves behind: its own places are given up. -/
def Gh.leave (G : Gh) : Gh where
  O b := G.O b ∧ ∀ i, G.m (.lo i) ≠ some b
  m x := match x with
    | .he i g => G.m (.he i g)
    | .lo _ => none
  un x := match x with
    | .he i g => G.un (.he i g)
    | .lo _ => False
  ln := G.ln
  cp := G.cp
  K := G.K

theorem leave_stp (G : Gh) (w : World) : Stp All w G w G.leave := by
  refine ⟨Nat.le_refl _, fun b _ hO => ⟨rfl, fun h => hO h.1⟩, fun l _ hK => ⟨hK, fun b hb => ?_, fun hu => ?_⟩, .refl _⟩
  · cases l with
    | lo i => cases hb
    | he i g => exact ⟨hb, rfl, rfl⟩
  · cases l with
    | lo i => exact hu.elim
    | he i g => exact hu

theorem Rel.leave (h : Rel w0 G0 G st a w) : Rel w0 G0 G.leave (St.bare st.hp) ⟨#[], []⟩ w := by
  have stp := leave_stp G w
  refine { nt := rfl, dfr := rfl, tm := fun t v ht => (by simp [St.bare, aget] at ht), obj := fun l o ho => ?_, live := fun l b hb => ?_, inj := fun l l' b hb hb' => ?_, un := fun l hu => ?_, K := h.K, KL := h.KL, Kget := fun l hl => ?_, hlo := h.hlo, fr := ?_, Olt := fun b hb => h.Olt b hb.1 }
  · cases l with
    | lo i => simp [St.bare, St.get, aget] at ho
    | he i g => exact (h.obj (.he i g) o ho).mono stp (fun _ _ => trivial) (fun _ _ => trivial) rfl Iff.rfl rfl rfl fun _ _ => rfl
  · cases l with
    | lo i => cases hb
    | he i g =>
      obtain ⟨e1, e2, e3⟩ := h.live (.he i g) b hb
      exact ⟨⟨e1, fun j hj => by have := h.inj _ _ b hb hj; cases this⟩, e2, e3⟩
  · cases l with
    | lo i => cases hb
    | he i g => cases l' with
      | lo j => cases hb'
      | he j g' => exact h.inj _ _ b hb hb'
  · cases l with
    | lo i => exact hu.elim
    | he i g => exact h.un (.he i g) hu
  · cases l with
    | lo i => simp [St.bare, St.get, aget] at hl
    | he i g => exact h.Kget (.he i g) hl
  · refine ⟨h.fr.stp.trans stp fun _ _ => trivial, h.fr.same, fun l b hb => ?_, fun b hb h0 hn => ⟨h.fr.held b hb h0 hn, fun j hj => ?_⟩⟩
    · cases l with
      | lo i => cases hb
      | he i g => exact h.fr.mine (.he i g) b hb
    · rcases h.fr.mine _ b hj with ⟨k, g', hk⟩ | hge
      · exact hn k g' hk
      · omega

/-- One result of a function. -/
def resSem (tmps : Array Value) : ResultVar → Sem Value
  | .tmp t => pure (tmps.getD t undef)
  | .cell a t => do loadVar t (← asAddr (tmps.getD a undef))

def oneOf : List Value → Value
  | [v] => v
  | vs => .tuple vs.toArray

theorem results_eq (fn : Func) (tmps : Array Value) : Go.results fn tmps = (do let vs ← fn.results.toList.mapM (resSem tmps); pure (oneOf vs)) := by
  unfold Go.results
  rw [Array.mapM_eq_mapM_toList]
  simp only [map_eq_pure_bind, bind_assoc, pure_bind]
  congr 1
  funext vs
  congr 1
  cases vs with
  | nil => rfl
  | cons v r => cases r <;> rfl

theorem loadA_ptr {t : TypeId} {x : V} {cx : Value} {act : OpA} (h : loadA P t x = some act) (hx : VR w G x cx) : ∃ p, cx = .pointer (some p) := by
  unfold loadA at h
  obtain ⟨k, _, h⟩ := bind_some h
  split at h
  · cases hx; exact ⟨_, rfl⟩
  · cases hx; exact ⟨_, rfl⟩
  · cases h

theorem load_val_same {t : TypeId} {x v : V} {cv : Value} (h : loadA P t x = some (.val v)) (hx : VR w G x cv) : ∃ c, (Instr.loadAt t cv).run P w = .ok c w ∧ VR w G v c := by
  unfold loadA at h
  obtain ⟨k, hk, h⟩ := bind_some h
  cases hx with
  | bp y n off b o cf hO hf hw hv =>
    simp only at h
    obtain ⟨z, hz, h⟩ := map_some h
    simp only [OpA.val.injEq] at h
    subst h
    obtain ⟨e1, _, e3⟩ := part_of_shape hf hv hz
    refine ⟨_, ?_, e3⟩
    unfold Instr.loadAt Instr.sureAddr
    simp only [Sem.run_bind, Sem.run_pure, Result.andThen_ok]
    exact run_loadVar' hk fun j hj => by rw [Nat.add_assoc]; exact hw (off + j) (by omega)
  | _ => simp at h

theorem resA_ok (h : Rel w0 G0 G st a w) {r : ResultVar} {v : V} (hr : resA P st r = some v) :
    ∃ cv, (resSem a.tmps r).run P w = .ok cv w ∧ VR w G v cv := by
  cases r with
  | tmp x =>
    simp only [resA] at hr
    split at hr
    · rename_i y hy
      cases hr
      obtain ⟨cv, e1, e2⟩ := h.tm x v hy
      refine ⟨cv, ?_, e2⟩
      have : a.tmps.getD x undef = cv := by rw [Array.getD_eq_getD_getElem?, e1]; rfl
      simp only [resSem, this]; rfl
    · cases hr
  | cell x ty =>
    simp only [resA] at hr
    split at hr
    · rename_i y hy
      obtain ⟨cv, e1, e2⟩ := h.tm x y hy
      have hx : a.tmps.getD x undef = cv := by rw [Array.getD_eq_getD_getElem?, e1]; rfl
      have key : (∃ c, (Instr.loadAt ty cv).run P w = .ok c w ∧ VR w G v c) ∧ ∃ p, cv = .pointer (some p) := by
        split at hr
        · rename_i act hl
          cases hr; exact ⟨load_val_same hl e2, loadA_ptr hl e2⟩
        · rename_i l k hl
          split at hr
          · rename_i o ho
            exact ⟨load_rd hl e2 (h.obj l o ho) hr, loadA_ptr hl e2⟩
          · cases hr
        · cases hr
      obtain ⟨key, hp⟩ := key
      obtain ⟨p, rfl⟩ := hp
      obtain ⟨c, k1, k3⟩ := key
      refine ⟨c, ?_, k3⟩
      simp only [resSem, hx]
      exact k1
    · cases hr

theorem outV_ok (h : Rel w0 G0 G st a w) {t : TypeId} {v x : V} {cv : Value} (ho : outV P st t v = some x) (hv : VR w G v cv) : VR w G.leave x cv := by
  unfold outV at ho
  cases hn : v.noLo
  · simp only [hn, cond_false] at ho
    obtain ⟨p, hp, ho⟩ := bind_some ho
    obtain ⟨hc, ho⟩ := bif_some ho
    cases ho
    refine coerce_VR t (freezeV_VR h (y := p.1) (ls := p.2) hp hv (leave_stp G w) fun b hb l hl => ?_)
    have := List.all_eq_true.1 hc l hl
    cases l with
    | lo i => exact hb.2 i
    | he i g => cases this
  · simp only [hn, cond_true, Option.some.injEq] at ho
    subst ho
    exact coerce_VR t (hv.mono (leave_stp G w) (fun _ _ => trivial) fun _ _ => trivial)

theorem resAll_ok : ∀ {rs : List ResultVar} {ts : List TypeId} {vs : List V}, Rel w0 G0 G st a w → resAll P st rs ts = some vs →
    ∃ cvs, (rs.mapM (resSem a.tmps)).run P w = .ok cvs w ∧ ArgsR w G.leave vs cvs
  | [], [], vs, h, hr => by
    simp only [resAll, Option.some.injEq] at hr
    subst hr
    exact ⟨[], rfl, trivial⟩
  | [], _ :: _, vs, h, hr => by simp [resAll] at hr
  | _ :: _, [], vs, h, hr => by simp [resAll] at hr
  | r :: rs, t :: ts, vs, h, hr => by
    simp only [resAll] at hr
    split at hr
    · rename_i v hv
      split at hr
      · rename_i vs' hvs
        cases hr
        obtain ⟨y, hy1, hy2⟩ := bind_some hv
        obtain ⟨cv, e1, e3⟩ := resA_ok h hy1
        have o1 := outV_ok h hy2 e3
        obtain ⟨cvs, f1, f3⟩ := resAll_ok h hvs
        refine ⟨cv :: cvs, ?_, o1, f3⟩
        rw [List.mapM_cons]
        simp only [Sem.run_bind, e1, Result.andThen_ok, f1, Sem.run_pure]
      · cases hr
    · cases hr

theorem results_ok (h : Rel w0 G0 G st a w) {fn : Func} {v : V} (hr : results P fn st = some v) :
    ∃ cv, (Go.results fn a.tmps).run P w = .ok cv w ∧ VR w G.leave v cv ∧ v.noLo = true := by
  rw [results_eq]
  unfold results at hr
  have key : ∀ vs, resAll P st fn.results.toList fn.resultTypes.toList = some vs → ∃ cvs, (do let vs ← fn.results.toList.mapM (resSem a.tmps); pure (oneOf vs) : Sem Value).run P w = .ok (oneOf cvs) w ∧ ArgsR w G.leave vs cvs := by
    intro vs hvs
    obtain ⟨cvs, e1, e3⟩ := resAll_ok h hvs
    exact ⟨cvs, by simp only [Sem.run_bind, e1, Result.andThen_ok, Sem.run_pure], e3⟩
  split at hr
  · rename_i x hx
    obtain ⟨hn, hr⟩ := bif_some hr
    cases hr
    obtain ⟨cvs, e1, e3⟩ := key _ hx
    cases cvs with
    | nil => exact e3.elim
    | cons c r => cases r with
      | nil => exact ⟨c, e1, e3.1, hn⟩
      | cons _ _ => exact e3.2.elim
  · rename_i vs hvs hne
    obtain ⟨hn, hr⟩ := bif_some hr
    cases hr
    obtain ⟨cvs, e1, e3⟩ := key _ hne
    refine ⟨_, e1, ?_, by simpa [V.noLo] using hn⟩
    obtain ⟨l1, l2⟩ := ArgsR.get e3
    have : oneOf cvs = .tuple cvs.toArray := by
      cases cvs with
      | nil => rfl
      | cons c r => cases r with
        | nil =>
          cases vs with
          | nil => cases l1
          | cons v r => cases r with
            | nil => exact absurd rfl (hvs v)
            | cons _ _ => cases l1
        | cons _ _ => rfl
    rw [this]
    exact .tuple vs cvs.toArray (by simpa using l1) fun i d c hd hc => l2 i d c hd (by simpa using hc)
  · cases hr

theorem aget_enterTm : ∀ (args : List V) (i t : Nat), aget (enterTm i args) t = if t < i then none else args[t - i]?
  | [], i, t => by simp [enterTm, aget]
  | v :: r, i, t => by
    simp only [enterTm, aget, aget_enterTm r]
    by_cases h : i = t
    · subst h; simp
    · simp only [nbeq h, cond_false]
      by_cases h2 : t < i
      · simp [h2, Nat.lt_succ_of_lt h2]
      · have h3 : ¬ t < i + 1 := by omega
        have h4 : t - i = (t - (i + 1)) + 1 := by omega
        simp [h2, h3, h4]

/-- The contracts of what is not run here. -/
def PrimOk (P : Program) (an : An) (W0 : World) : Prop :=
  ∀ f p, an.prim f = some p → ∀ args v, p args = some v → ∀ (w : World) (G : Gh) (h : Heap) (cargs : List Value),
    Based W0 w G → Rel w G.noLo G.noLo (St.bare h) ⟨#[], []⟩ w → ArgsR w G.noLo args cargs → V.noLoL args = true →
    Enters P f ∧ Calls P f cargs.toArray w (Ends w G.noLo h v)

def NoNG (P : Program) : Prop := ∀ (f : FuncId) (fn : Func), P.funcs[f]? = some fn → (fn.name == "runtime.NumGoroutine") = false

/-- Without places: what a callee that is run alone finds. -/
def Gh.bare (G : Gh) : Gh where
  O := G.O
  m _ := none
  un _ := False
  ln := G.ln
  cp := G.cp
  K l := match l with
    | .lo _ => True
    | .he _ _ => False

theorem Gh.bare_noLo (G : Gh) : G.bare.noLo = G.bare := by
  unfold Gh.noLo Gh.bare
  congr 1
  · funext x; cases x <;> rfl
  · funext x; cases x <;> rfl

theorem Rel.alone (h : Rel w0 G0 G st a w) : Rel w G.bare G.bare (St.bare Heap.none) ⟨#[], []⟩ w := by
  have hg : ∀ l, (St.bare Heap.none).get l = Option.none := by intro l; cases l <;> rfl
  exact { nt := rfl, dfr := rfl, tm := fun t v ht => (by simp [St.bare, aget] at ht), obj := fun l o ho => (by rw [hg] at ho; cases ho), live := fun l b hb => (by cases hb), inj := fun l l' b hb => (by cases hb), un := fun l hu => hu.elim, K := fun i g hK => hK.elim, KL := fun i => trivial, Kget := fun l hl => (by rw [hg] at hl; cases hl), hlo := fun i o ho => (by simp [St.bare, Heap.get, Heap.none, Tr.get] at ho), fr := ⟨Stp.refl _ _ _, fun _ _ _ => rfl, fun l b hb => (by cases hb), fun b _ h _ => h⟩, Olt := h.Olt }

theorem noHeL_get : ∀ {vs : List V} {i : Nat} {v : V}, V.noHeL vs = true → vs[i]? = some v → v.noHe = true
  | x :: r, 0, v, h, hv => by simp at hv; subst hv; simp only [V.noHeL, Bool.and_eq_true] at h; exact h.1
  | x :: r, i + 1, v, h, hv => by simp only [V.noHeL, Bool.and_eq_true] at h; exact noHeL_get h.2 (by simpa using hv)
  | [], i, v, _, hv => by simp at hv

theorem noLoL_get : ∀ {vs : List V} {i : Nat} {v : V}, V.noLoL vs = true → vs[i]? = some v → v.noLo = true
  | x :: r, 0, v, h, hv => by simp at hv; subst hv; simp only [V.noLoL, Bool.and_eq_true] at h; exact h.1
  | x :: r, i + 1, v, h, hv => by simp only [V.noLoL, Bool.and_eq_true] at h; exact noLoL_get h.2 (by simpa using hv)
  | [], i, v, _, hv => by simp at hv

/-- A value without places means the same wherever nothing that it leads to has turned. -/
theorem VR.closed {w w' : World} {G G' : Gh} (hs : Stp (fun _ => False) w G w' G') {x : V} {v : Value} (h : VR w G x v) : x.noHe = true → x.noLo = true → VR w' G' x v := by
  induction h with
  | d x v h hs' => intro _ _; exact .d x v (h.mono hs) hs'
  | s n ds v h hn => intro _ _; exact .s n ds v (h.mono hs) hn
  | agg vs cs hl hf _ ih =>
    intro h1 h2
    exact .agg vs cs hl hf fun i d c hd hc => ih i d c hd hc (noHeL_get h1 hd) (noLoL_get h2 hd)
  | nilS => intro _ _; exact .nilS
  | ptr l i n off p hK h => intro h1 h2; cases l <;> simp [V.noHe, V.noLo] at h1 h2
  | bp x n off b o cf hO hx hw _ ih =>
    intro h1 h2
    refine .bp x n off b o cf ?_ hx ?_ (ih h1 h2)
    · exact (hs.cell hO (hw 0 (stride_pos n))).2
    · exact fun j hj => (hs.cell hO (hw j hj)).1
  | sl l sz r a' n' c' hK h hu => intro h1 h2; cases l <;> simp [V.noHe, V.noLo] at h1 h2
  | clip sz xs a len h => intro _ _; exact .clip sz xs a len (h.mono hs)
  | lit sz xs b cf hO hsh hw _ ih =>
    intro h1 h2
    refine .lit sz xs b cf ?_ hsh ?_ ?_
    · intro hne
      have hl : 0 < xs.length := by cases xs <;> simp_all
      exact (hs.cell (hO hne) (hw 0 0 hl (stride_pos sz))).2
    · intro i j hi hj
      have hne : xs ≠ [] := by intro h; simp [h] at hi
      exact (hs.cell (hO hne) (hw i j hi hj)).1
    · exact fun i x hxi => ih i x hxi (noHeL_get h1 hxi) (noLoL_get h2 hxi)
  | fn f a c a' c' ha hc _ _ ih1 ih2 =>
    intro h1 h2
    simp only [V.noHe, V.noLo, Bool.and_eq_true] at h1 h2
    exact .fn f a c a' c' ha hc (fun i d z hd hz => ih1 i d z hd hz (noHeL_get h1.1 hd) (noLoL_get h2.1 hd)) (fun i d z hd hz => ih2 i d z hd hz (noHeL_get h1.2 hd) (noLoL_get h2.2 hd))
  | map l q hK h => intro h1 h2; cases l <;> simp [V.noHe, V.noLo] at h1 h2
  | mapv ks vs r es clock hO hr hk hv _ ih =>
    intro h1 h2
    have hb : r < w.heap.size := by
      rcases Nat.lt_or_ge r w.heap.size with h | h
      · exact h
      · simp [Array.getElem?_eq_none h] at hr
    obtain ⟨e1, e2⟩ := hs.keep r hb hO
    exact .mapv ks vs r es clock e2 (by rw [e1]; exact hr) hk hv fun i d e hd he => ih i d e hd he (noHeL_get h1 hd) (noLoL_get h2 hd)
  | tuple vs cs hl _ ih =>
    intro h1 h2
    exact .tuple vs cs hl fun i d c hd hc => ih i d c hd hc (noHeL_get h1 hd) (noLoL_get h2 hd)
  | undef v => intro _ _; exact .undef v

theorem ArgsR.closed {w' : World} {G' : Gh} (hs : Stp (fun _ => False) w G w' G') {vs : List V} {cs : List Value} (h1 : V.noHeL vs = true) (h2 : V.noLoL vs = true) (h : ArgsR w G vs cs) : ArgsR w' G' vs cs := by
  induction vs generalizing cs with
  | nil => cases cs with
    | nil => trivial
    | cons => exact h.elim
  | cons v r ih => cases cs with
    | nil => exact h.elim
    | cons c s =>
      simp only [V.noLoL, V.noHeL, Bool.and_eq_true] at h1 h2
      exact ⟨h.1.closed hs h1.1 h2.1, ih h1.2 h2.2 h.2⟩

theorem body_ok (hm : P.follows .mixedOrders = true) (hng : NoNG P) {call : CallF} {w : World} {G : Gh} (ih : CallOk P call w G.noLo) {ra : Nat → RA} {k : Nat} {f : FuncId} {args : List V} {h h' : Heap} {v : V} (hr : body P call ra k f args h = some (v, h'))
    {cargs : List Value} (hrel : Rel w G.noLo G.noLo (St.bare h) ⟨#[], []⟩ w) (hargs : ArgsR w G.noLo args cargs) : Enters P f ∧ Calls P f cargs.toArray w (Ends w G.noLo h' v) := by
  unfold body at hr
  split at hr
  · cases hr
  · rename_i fn hfn
    split at hr
    · cases hr
    · rename_i c hc
      refine ⟨⟨fn, hfn, hng f fn hfn, by rw [hc]; rfl⟩, calls_of_wp hfn hc ?_⟩
      obtain ⟨hl, hget⟩ := hargs.get
      have hent : Rel w G.noLo G.noLo { nt := max args.length fn.ntmps, tm := enterTm 0 args, lo := [], hp := h }
          { tmps := cargs.toArray ++ Array.replicate (fn.ntmps - cargs.toArray.size) undef, defers := [] } w := by
        refine { nt := by simp [hl]; omega, dfr := rfl, tm := fun t x ht => ?_, obj := fun l o ho => hrel.obj l o (by cases l <;> exact ho), live := fun l b hb => ?_, inj := hrel.inj, un := fun l hu => ?_, K := hrel.K, KL := hrel.KL, Kget := fun l hl => hrel.Kget l (by cases l <;> exact hl), hlo := hrel.hlo, fr := hrel.fr, Olt := hrel.Olt }
        · rw [aget_enterTm] at ht
          simp only [Nat.not_lt_zero, if_false, Nat.sub_zero] at ht
          have hlt : t < args.length := (List.getElem?_eq_some_iff.1 ht).1
          have hlt2 : t < cargs.length := by omega
          refine ⟨cargs[t], ?_, hget t x _ ht (List.getElem?_eq_getElem hlt2)⟩
          rw [Array.getElem?_append_left (by simpa using hlt2)]
          simp [hlt2]
        · obtain ⟨e1, e2, e3⟩ := hrel.live l b hb
          exact ⟨e1, e2, by cases l <;> exact e3⟩
        · have := hrel.un l hu
          cases l <;> exact this
      have hfin : ∀ {ex : Ex} {st : St}, exec P call ra k c { nt := max args.length fn.ntmps, tm := enterTm 0 args, lo := [], hp := h } = some (ex, st) →
          (∀ id, ex ≠ .exit id) → results P fn st = some v → h' = st.hp →
          c.wp P (bodyPost P fn (Ends w G.noLo h' v)) { tmps := cargs.toArray ++ Array.replicate (fn.ntmps - cargs.toArray.size) undef, defers := [] } w := by
        intro ex st hex hne hres hh
        subst hh
        refine exec_wp hm @ih (drawOk P _ @ih) hex hent fun a' w' G' h2 => ?_
        obtain ⟨cv, e1, e3, e4⟩ := results_ok h2 hres
        have hend : Ends w G.noLo st.hp v (.returned cv) w' := ⟨G'.leave, h2.leave, e3, e4⟩
        cases ex with
        | normal => exact ⟨h2.dfr, cv, e1, hend⟩
        | ret => exact ⟨h2.dfr, cv, e1, hend⟩
        | exit id => exact absurd rfl (hne id)
      split at hr
      · cases hr
      · rename_i ex st hex hne
        obtain ⟨x, h1, h2⟩ := map_some hr
        simp only [Prod.mk.injEq] at h2
        obtain ⟨rfl, rfl⟩ := h2
        refine hfin hne (fun id e => ?_) h1 rfl
        subst e
        exact hex id rfl
      · cases hr

theorem fnOk_run (hm : P.follows .mixedOrders = true) (hng : NoNG P) {an : An} {W0 : World} (hp : PrimOk P an W0) : ∀ k, FnOk P W0 (run P an k)
  | 0 => by intro f args h h' v hr; cases hr
  | k + 1 => by
    intro f args h h' v hr w G cargs hB hrel hargs hnl
    simp only [run] at hr
    have ih : ∀ {w : World} {G : Gh}, Based W0 w G → CallOk P (run P an k) w G := fun hB => callOk_of (fnOk_run hm hng hp k) hB
    have hB2 : Based W0 w G.noLo := ⟨hB.1, hB.2⟩
    have hB3 : Based W0 w G.noLo.bare.noLo := ⟨hB.1, hB.2⟩
    split at hr
    · rename_i p hpf
      obtain ⟨x, h1, h2⟩ := map_some hr
      simp only [Prod.mk.injEq] at h2
      obtain ⟨rfl, rfl⟩ := h2
      exact hp f p hpf args x h1 w G h cargs hB hrel hargs hnl
    · cases hal : an.alone f
      · rw [hal] at hr
        exact body_ok hm hng (ih hB2) hr hrel hargs
      · rw [hal] at hr
        simp only [cond_true] at hr
        obtain ⟨hne, hr⟩ := bif_some hr
        obtain ⟨⟨x, h1⟩, hb, hr⟩ := bind_some hr
        obtain ⟨hvn, hr⟩ := bif_some hr
        simp only [Option.some.injEq, Prod.mk.injEq] at hr
        obtain ⟨rfl, rfl⟩ := hr
        have hstart := hrel.alone
        rw [← Gh.bare_noLo] at hstart
        have hs0 : Stp (fun _ => False) w G.noLo w G.noLo.bare := ⟨Nat.le_refl _, fun b _ hO => ⟨rfl, hO⟩, fun _ hf _ => hf.elim, .refl _⟩
        have hargs' := hargs.closed hs0 hne hnl
        rw [← Gh.bare_noLo] at hargs'
        obtain ⟨g1, g2⟩ := body_ok hm hng (ih hB3) hb hstart hargs'
        refine ⟨g1, g2.mono fun e w1 he => ?_⟩
        cases e with
        | panicked c => exact he.elim
        | outgrown => exact he.elim
        | returned cv =>
          obtain ⟨Gend, r1, r2, r3⟩ := he
          rw [Gh.bare_noLo] at r1
          have hblk : ∀ b, b < w.heap.size → w1.heap[b]? = w.heap[b]? := fun b hb => r1.fr.same b hb fun i g hm => by cases hm
          refine ⟨G.noLo, hrel.world r1.fr.stp.size hblk r1.fr.stp.out, ?_, r3⟩
          refine r2.closed ⟨Nat.le_refl _, fun b hb hO => ⟨rfl, fun h => hO ?_⟩, fun _ hf _ => hf.elim, .refl _⟩ hvn r3
          exact r1.fr.held b (hrel.Olt b h) h fun i g hm => by cases hm

end Am

/- AM: told runs: places, regions, code, with cuts at loops. -/
namespace Am
open Go
variable {P : Program} {an : An}

def getM (st : St) (l : Loc) : M Obj := match l with
  | .lo i => M.lift (aget st.lo i)
  | .he i g => M.askO (hpAt st.hp i g)

theorem getM_snd {st : St} {l : Loc} : Snd Eq (getM st l) (st.get l) := by
  cases l with
  | lo i => exact Snd.lift
  | he i g => exact Snd.askO

def freeze1M (st : St) (v : V) : M (V × List Loc) :=
  match v with
  | .sl l sz r => (getM st l).bind fun
    | .darr _ sz' xs => bif !Nat.beq sz sz' then .fail 100 else
      match r with
      | none => .pure (.d (.slice sz xs), [l])
      | some (o, k) => .req (Nat.ble (o + k) xs.length) (.pure (.d (.slice sz ((xs.drop o).take k)), [l]))
    | _ => .fail 101
  | .map l => (getM st l).bind fun
    | .map ks vs => .pure (.mapv ks vs, [l])
    | _ => .fail 102
  | v => .pure (v, [])

theorem Snd.get {γ δ : Type} {U : γ → δ → Prop} {st : St} {l : Loc} {f : Obj → M γ} {y : Option δ} (h : ∀ o, st.get l = some o → Snd U (f o) y) : Snd U ((getM st l).bind f) y := by
  intro os c os' ps hc hp
  obtain ⟨a, os1, p, q, h1, h2, rfl⟩ := bind_ok hc
  obtain ⟨hp1, hp2⟩ := AllP.append.1 hp
  obtain ⟨b, e1, e2⟩ := getM_snd os a os1 p h1 hp1
  subst e2
  exact h a e1 os1 c os' q h2 hp2

theorem freeze1M_snd {st : St} {v : V} : Snd Eq (freeze1M st v) (freeze1 st v) := by
  unfold freeze1M freeze1
  cases v with
  | sl l sz r =>
    refine Snd.get fun o ho => ?_
    simp only [ho]
    cases o with
    | darr g s xs =>
      refine Snd.bifN fun _ => ?_
      cases r with
      | none => exact .pureEq
      | some p => exact Snd.reqS fun _ => .pureEq
    | _ => exact .fail
  | map l =>
    refine Snd.get fun o ho => ?_
    simp only [ho]
    cases o with
    | map ks vs => exact .pureEq
    | _ => exact .fail
  | _ => exact .pureEq

def freezeLM (st : St) : List V → M (List V × List Loc)
  | [] => .pure ([], [])
  | v :: r => (freeze1M st v).bind fun p => (freezeLM st r).bind fun q => .pure (p.1 :: q.1, p.2 ++ q.2)

theorem freezeLM_snd {st : St} : ∀ {vs : List V}, Snd Eq (freezeLM st vs) (freezeL st vs)
  | [] => .pureEq
  | v :: r => by
    have e : freezeL st (v :: r) = (freeze1 st v).bind fun p => (freezeL st r).bind fun q => some (p.1 :: q.1, p.2 ++ q.2) := by
      simp only [freezeL]
      cases freeze1 st v with
      | none => rfl
      | some p => cases freezeL st r with
        | none => rfl
        | some q => rfl
    rw [e]
    exact freeze1M_snd.eqBind fun p => freezeLM_snd.eqBind fun q => .pureEq

def freezeVM (st : St) (v : V) : M (V × List Loc) :=
  match v with
  | .agg cs => (freezeLM st cs).bind fun p => .pure (mkAgg p.1, p.2)
  | v => freeze1M st v

theorem freezeVM_snd {st : St} {v : V} : Snd Eq (freezeVM st v) (freezeV st v) := by
  cases v with
  | agg cs => exact freezeLM_snd.map fun _ => rfl
  | _ => simp only [freezeVM, freezeV]; exact freeze1M_snd

def dropAllM : List Loc → St → M St
  | [], st => .pure st
  | l :: r, st => (getM st l).bind fun _ => dropAllM r (st.drop l)

theorem dropAllM_snd : ∀ {ls : List Loc} {st : St}, Snd Eq (dropAllM ls st) (dropAll ls st)
  | [], st => .pureEq
  | l :: r, st => by
    have e : dropAll (l :: r) st = (st.get l).bind fun _ => dropAll r (st.drop l) := by
      simp only [dropAll]
      cases st.get l <;> rfl
    rw [e]
    exact getM_snd.eqBind fun _ => dropAllM_snd

/-- A call comes back. -/
def RC (P : Program) (an : An) (f : FuncId) (args : List V) (h : Heap) (v : V) (h' : Heap) : Prop := ∃ k0, ∀ k, k0 ≤ k → run P an k f args h = some (v, h')

def M.askR (P : Program) (an : An) (f : FuncId) (args : List V) (h : Heap) : M (V × Heap) := fun os => match os with
  | .r v h' :: os => .ok (v, h') os [RC P an f args h v h']
  | _ => .no 9

def SndK {α : Type} (x : M α) (y : Nat → Option α) : Prop :=
  ∀ os a os' ps, x os = .ok a os' ps → AllP ps → ∃ k0, ∀ k, k0 ≤ k → y k = some a

theorem SndK.of {α : Type} {x : M α} {y : Option α} (h : Snd Eq x y) : SndK x fun _ => y := by
  intro os a os' ps hx hp
  obtain ⟨b, e1, e2⟩ := h os a os' ps hx hp
  exact ⟨0, fun _ _ => by rw [e1, e2]⟩

theorem SndK.bind {α β : Type} {x : M α} {y : Nat → Option α} {f : α → M β} {g : Nat → α → Option β} (hx : SndK x y) (hf : ∀ a, SndK (f a) fun k => g k a) : SndK (x.bind f) fun k => (y k).bind (g k) := by
  intro os c os' ps hc hp
  obtain ⟨a, os1, p, q, h1, h2, rfl⟩ := bind_ok hc
  obtain ⟨hp1, hp2⟩ := AllP.append.1 hp
  obtain ⟨k1, e1⟩ := hx os a os1 p h1 hp1
  obtain ⟨k2, e2⟩ := hf a os1 c os' q h2 hp2
  refine ⟨max k1 k2, fun k hk => ?_⟩
  show (y k).bind (g k) = some c
  rw [e1 k (by omega)]
  exact e2 k (by omega)

theorem SndK.pure {α : Type} {a : α} : SndK (.pure a) fun _ => some a := .of .pureEq
theorem SndK.fail {α : Type} {n : Nat} {y : Nat → Option α} : SndK (.fail n) y := by
  intro os a os' ps h; cases h
theorem SndK.map {α β : Type} {x : M α} {y : Nat → Option α} {f : α → β} (hx : SndK x y) : SndK (x.bind fun a => .pure (f a)) fun k => (y k).map f := by
  have : (fun k => (y k).map f) = fun k => (y k).bind fun a => some (f a) := by funext k; cases y k <;> rfl
  rw [this]
  exact hx.bind fun a => .pure

theorem SndK.askR {f : FuncId} {args : List V} {h : Heap} : SndK (M.askR P an f args h) fun k => run P an k f args h := by
  intro os a os' ps hx hp
  unfold M.askR at hx
  split at hx
  · cases hx; exact hp.1
  · cases hx

def act1M (P : Program) (an : An) (st : St) (op : OpM) : M (St × V × FP) :=
  match op with
  | .val v => .pure (st, v, .val)
  | .frz v => (freezeVM st v).bind fun p => bif cleanOf p.2 p.1 then (dropAllM p.2 st).bind fun st' => .pure (st', p.1, bif p.2.all Loc.isHe then .call st.hp st'.hp else .all) else .fail 103
  | .thaw v js => (M.lift (thaw st v js)).bind fun p => .pure (p.1, p.2, .call st.hp p.1.hp)
  | .frzT v t => (freezeVM st v).bind fun p => bif cleanOf p.2 p.1 then (dropAllM p.2 st).bind fun st' => (M.lift (st'.dst (some t) p.1)).bind fun st'' => .pure (st'', p.1, .all) else .fail 103
  | .rdz l off k => (getM st l).bind fun
    | .var x => (M.lift (x.part off k)).bind fun v => (freezeVM st v).bind fun p => (M.lift (x.setPart off k p.1)).bind fun x' =>
      bif cleanOf p.2 p.1 && cleanOf p.2 x' && okHe l x'.noLo then (dropAllM p.2 st).bind fun st' => (getM st' l).bind fun o =>
        .req (Nat.beq o.gen 0) (.pure (st'.putL l (some (.var x')), p.1, bif l.isHe && p.2.all Loc.isHe then .call st.hp (st'.putL l (some (.var x'))).hp else .all)) else .fail 104
    | _ => .fail 105
  | .rd l k => (getM st l).bind fun o => (k o).bind fun v => .pure (st, v, .rd l)
  | .wr f l k => match l with
    | .lo i => match aget st.lo i, f with
      | none, false => .fail 106
      | o, _ => (k o).bind fun p => .pure ((st.fresh f (.lo i)).putL (.lo i) p.1, p.2, .wr f (.lo i))
    | .he i g => (M.askO (hpAt st.hp i g)).bind fun o => (k (some o)).bind fun p => .pure ((st.fresh f (.he i g)).putL (.he i g) p.1, p.2, .wr f (.he i g))
  | .push o k => .pure ({ st with hp := st.hp.push o }, k st.hp.n, .call st.hp (st.hp.push o))
  | .call f args => (M.askR P an f args st.hp).bind fun p => .pure ({ st with hp := p.2 }, p.1, .call st.hp p.2)
  | .callF f args => (M.askR P an f args st.hp).bind fun p => (freezeVM { st with hp := p.2 } p.1).bind fun q => bif cleanOf q.2 q.1 && q.2.all Loc.isHe then (dropAllM q.2 { st with hp := p.2 }).bind fun st' => .pure (st', q.1, .call st.hp st'.hp) else .fail 107

theorem act1M_snd {st : St} {m : OpM} {op : OpA} (h : OpS m op) : SndK (act1M P an st m) fun k => act1 (run P an k) st op := by
  cases h with
  | val v => exact .pure
  | frz v =>
    refine SndK.bind (SndK.of freezeVM_snd) (g := fun _ p => _) fun p => ?_
    cases cleanOf p.2 p.1 with
    | true => exact SndK.of (dropAllM_snd.map fun _ => rfl)
    | false => exact .fail
  | thaw v js => exact SndK.of (Snd.lift.map fun _ => rfl)
  | frzT v t =>
    refine SndK.bind (SndK.of freezeVM_snd) (g := fun _ p => _) fun p => ?_
    cases cleanOf p.2 p.1 with
    | true => exact SndK.of (dropAllM_snd.eqBind fun st' => Snd.lift.map fun _ => rfl)
    | false => exact .fail
  | rdz l off k =>
    have e : ∀ kk, act1 (run P an kk) st (.rdz l off k) = (st.get l).bind fun o => (match o with
      | .var x => (x.part off k).bind fun v => (freezeV st v).bind fun p => (x.setPart off k p.1).bind fun x' =>
        bif cleanOf p.2 p.1 && cleanOf p.2 x' && okHe l x'.noLo then (Am.dropAll p.2 st).bind fun st' => (st'.get l).bind fun o =>
          bif Nat.beq o.gen 0 then some (st'.putL l (some (.var x')), p.1, bif l.isHe && p.2.all Loc.isHe then FP.call st.hp (st'.putL l (some (.var x'))).hp else .all) else none else none
      | _ => none) := by
      intro kk
      simp only [act1]
      cases st.get l with
      | none => rfl
      | some o =>
        cases o with
        | var x =>
          simp only [Option.bind_some]
          congr 1; funext v
          congr 1; funext p
          congr 1; funext x'
          congr 2; funext st'
          cases st'.get l <;> rfl
        | _ => rfl
    simp only [e]
    refine SndK.of (getM_snd.eqBind fun o => ?_)
    cases o with
    | var x =>
      refine Snd.lift.eqBind fun v => freezeVM_snd.eqBind fun p => Snd.lift.eqBind fun x' => Snd.bifS fun _ => dropAllM_snd.eqBind fun st' => getM_snd.eqBind fun o => Snd.reqS fun _ => .pureEq
    | _ => exact .fail
  | rd l k k' hk =>
    have e : ∀ kk, act1 (run P an kk) st (.rd l k') = (st.get l).bind fun o => (k' o).map fun v => (st, v, FP.rd l) := by
      intro kk
      simp only [act1]
      cases st.get l <;> rfl
    simp only [e]
    exact SndK.of (getM_snd.eqBind fun o => (hk o).map fun _ => rfl)
  | wr f l k k' hk =>
    cases l with
    | lo i =>
      have hg : st.get (.lo i) = aget st.lo i := rfl
      simp only [act1M, act1, hg]
      cases hgi : aget st.lo i with
      | none =>
        cases f with
        | false => exact .fail
        | true => exact SndK.of ((hk none).map fun _ => rfl)
      | some o => exact SndK.of ((hk (some o)).map fun _ => rfl)
    | he i g =>
      have hg : st.get (.he i g) = hpAt st.hp i g := rfl
      have e : ∀ kk, act1 (run P an kk) st (.wr f (.he i g) k') = (hpAt st.hp i g).bind fun o => (k' (some o)).map fun p => ((st.fresh f (.he i g)).putL (.he i g) p.1, p.2, FP.wr f (.he i g)) := by
        intro kk
        simp only [act1, hg]
        cases hpAt st.hp i g <;> rfl
      simp only [e]
      exact SndK.of (Snd.askO.eqBind fun o => (hk (some o)).map fun _ => rfl)
  | push o k => exact .pure
  | call f args => exact SndK.askR.map
  | callF f args =>
    refine SndK.bind SndK.askR (g := fun _ p => _) fun p => ?_
    refine SndK.bind (SndK.of freezeVM_snd) (g := fun _ q => _) fun q => ?_
    cases cleanOf q.2 q.1 && q.2.all Loc.isHe with
    | true => exact SndK.of (dropAllM_snd.map fun _ => rfl)
    | false => exact .fail

def wantedM (ops : Array Oper) (tm : List (Nat × V)) (o : Oper) : M Bool :=
  match o.guard with
  | none => .pure true
  | some (j, want) => match (ops[j]?).bind (·.dst) with
    | none => .fail 107
    | some t => match aget tm t with
      | some (.d (.v (.bool b))) => (M.askB b).bind fun b => .pure (b == want)
      | some (.tuple []) => .pure false
      | _ => .fail 108

theorem wantedM_snd {ops : Array Oper} {tm : List (Nat × V)} {o : Oper} : Snd Eq (wantedM ops tm o) (wantedA ops tm o) := by
  unfold wantedM wantedA
  cases o.guard with
  | none => exact .pureEq
  | some p =>
    simp only
    cases (ops[p.1]?).bind (·.dst) with
    | none => exact .fail
    | some t =>
      simp only
      split
      · rename_i b hb
        rw [hb]
        exact (Snd.askB (b := b)).eqBind fun b => .pureEq
      · rename_i hb
        rw [hb]
        exact .pureEq
      · exact .fail

def stepOpM (P : Program) (an : An) (ops : Array Oper) (ra : RA) (i : Nat) (st : St) : M (St × FP) :=
  match ops[i]? with
  | none => .fail 109
  | some o => (wantedM ops st.tm o).bind fun
    | false => (M.lift (st.dst o.dst (.tuple []))).bind fun s => .pure (s, .val)
    | true => (opM P (ra.op i) o (evalO st.tm)).bind fun a => (act1M P an st a).bind fun p => (M.lift (p.1.dst o.dst p.2.1)).bind fun s => .pure (s, p.2.2)

theorem SndK.bindS {α β γ : Type} {T : α → β → Prop} {x : M α} {y : Option β} {f : α → M γ} {g : Nat → β → Option γ} (hx : Snd T x y) (hf : ∀ a b, T a b → SndK (f a) fun k => g k b) : SndK (x.bind f) fun k => y.bind (g k) := by
  intro os c os' ps hc hp
  obtain ⟨a, os1, p, q, h1, h2, rfl⟩ := bind_ok hc
  obtain ⟨hp1, hp2⟩ := AllP.append.1 hp
  obtain ⟨b, e1, e2⟩ := hx os a os1 p h1 hp1
  obtain ⟨k2, e3⟩ := hf a b e2 os1 c os' q h2 hp2
  exact ⟨k2, fun k hk => by rw [e1]; exact e3 k hk⟩

theorem stepOpM_snd {ops : Array Oper} {ra : RA} {i : Nat} {st : St} : SndK (stepOpM P an ops ra i st) fun k => stepOp P (run P an k) ops ra i st := by
  unfold stepOpM stepOp
  cases ops[i]? with
  | none => exact .fail
  | some o =>
    have e : (fun k => (match wantedA ops st.tm o with
      | none => none
      | some false => (st.dst o.dst (.tuple [])).map (·, FP.val)
      | some true => match amOp P (ra.op i) o (evalO st.tm) with
        | none => none
        | some a => doA (run P an k) st o.dst a : Option (St × FP))) = fun k => (wantedA ops st.tm o).bind fun b => (match b with
      | false => (st.dst o.dst (.tuple [])).map (·, FP.val)
      | true => (amOp P (ra.op i) o (evalO st.tm)).bind fun a => (act1 (run P an k) st a).bind fun p => (p.1.dst o.dst p.2.1).map fun s => (s, p.2.2)) := by
      funext k
      cases wantedA ops st.tm o with
      | none => rfl
      | some b =>
        cases b with
        | false => rfl
        | true =>
          simp only [Option.bind_some]
          cases amOp P (ra.op i) o (evalO st.tm) with
          | none => rfl
          | some a =>
            simp only [Option.bind_some, doA]
            cases act1 (run P an k) st a with
            | none => rfl
            | some p =>
              obtain ⟨s, v, fp⟩ := p
              simp only [Option.bind_some]
              cases s.dst o.dst v <;> rfl
    refine Eq.mpr (congrArg _ e) ?_
    refine SndK.bindS (T := Eq) wantedM_snd fun a b hab => ?_
    subst hab
    cases a with
    | false => exact SndK.of (Snd.lift.map fun _ => rfl)
    | true => exact SndK.bindS opM_snd fun m op hm => (act1M_snd hm).bind fun p => SndK.of (Snd.lift.map fun _ => rfl)

def runOpsM (P : Program) (an : An) (ops : Array Oper) (ra : RA) : List Nat → St → M (St × List (FP × X))
  | [], st => .pure (st, [])
  | i :: r, st => (stepOpM P an ops ra i st).bind fun p => (runOpsM P an ops ra r p.1).bind fun q => .pure (q.1, (p.2, xOf ops i p.2 st p.1) :: q.2)

theorem runOpsM_snd {ops : Array Oper} {ra : RA} : ∀ {is : List Nat} {st : St}, SndK (runOpsM P an ops ra is st) fun k => runOps P (run P an k) ops ra is st
  | [], st => .pure
  | i :: r, st => by
    have e : ∀ k, runOps P (run P an k) ops ra (i :: r) st = (stepOp P (run P an k) ops ra i st).bind fun p => (runOps P (run P an k) ops ra r p.1).map fun q => (q.1, (p.2, xOf ops i p.2 st p.1) :: q.2) := by
      intro k
      simp only [runOps]
      cases stepOp P (run P an k) ops ra i st with
      | none => rfl
      | some p =>
        obtain ⟨s, fp⟩ := p
        simp only [Option.bind_some]
        cases runOps P (run P an k) ops ra r s <;> rfl
    simp only [e]
    exact stepOpM_snd.bind fun p => runOpsM_snd.map

theorem SndK.owe {α : Type} {qs : List Prop} {a : α} : SndK (M.owe qs (.pure a)) fun _ => condIf qs a := by
  intro os b os' ps h hp
  simp only [M.owe, M.pure, R.ok.injEq, List.append_nil] at h
  obtain ⟨rfl, _, rfl⟩ := h
  refine ⟨0, fun _ _ => ?_⟩
  cases qs with
  | nil => rfl
  | cons q r => simp only [condIf]; rw [if_pos hp]

def regionM (P : Program) (an : An) (ra : RA) (ops : Array Oper) (draw : Bool) (st : St) : M St :=
  (runOpsM P an ops ra (List.range ops.size) st).bind fun p => bif !draw || freeAll ops p.2 then M.owe (bif draw then condAll ops p.2 else []) (.pure (kill ra p.1)) else .fail 110

theorem regionM_snd {ra : RA} {ops : Array Oper} {draw : Bool} {st : St} : SndK (regionM P an ra ops draw st) fun k => region P (run P an k) ra ops draw st := by
  have e : ∀ k, region P (run P an k) ra ops draw st = (runOps P (run P an k) ops ra (List.range ops.size) st).bind fun p => bif !draw || freeAll ops p.2 then condIf (bif draw then condAll ops p.2 else []) (kill ra p.1) else none := by
    intro k
    unfold region
    cases runOps P (run P an k) ops ra (List.range ops.size) st <;> rfl
  simp only [e]
  refine runOpsM_snd.bind fun p => ?_
  cases (!draw || freeAll ops p.2) with
  | true => exact SndK.owe
  | false => exact .fail

theorem adel_filter {α : Type} (l : List (Nat × α)) (i : Nat) : adel l i = l.filter fun p => !Nat.beq p.1 i := by
  induction l with
  | nil => rfl
  | cons p r ih =>
    obtain ⟨k, x⟩ := p
    simp only [adel, List.filter_cons, ih]
    cases Nat.beq k i <;> rfl

theorem adels_filter {α : Type} (ts : List Nat) : ∀ (l : List (Nat × α)), ts.foldl adel l = l.filter fun p => ts.all fun i => !Nat.beq p.1 i := by
  induction ts with
  | nil => intro l; rw [List.foldl_nil]; exact (List.filter_eq_self.2 (by simp)).symm
  | cons t r ih =>
    intro l
    simp only [List.foldl_cons, ih, adel_filter, List.filter_filter, List.all_cons]
    congr 1; funext p; rw [Bool.and_comm]

theorem adels_twice {α : Type} (ts : List Nat) (l : List (Nat × α)) : ts.foldl adel (ts.foldl adel l) = ts.foldl adel l := by
  rw [adels_filter, adels_filter, List.filter_filter]
  simp

theorem atHead_twice (ra : Nat → RA) (b : Code) (st : St) : atHead ra b (atHead ra b st) = atHead ra b st := by
  simp only [atHead, adels_twice]

/-- What is still to be done. -/
inductive It where
  | c (code : Code)
  | blk (id : Nat)
  | lp (b : Code)

inductive OutM where
  | at_ (s : List It) (st : St)
  | ret (v : V) (h : Heap)

def goM (P : Program) (an : An) (ra : Nat → RA) (fn : Func) : Nat → List It → Ex → St → M OutM
  | 0, _, _, _ => .fail 111
  | _ + 1, [], ex, st => match ex with
    | .exit _ => .fail 112
    | _ => (M.lift (results P fn st)).bind fun v => .pure (.ret v st.hp)
  | n + 1, i :: r, ex, st => match i with
    | .c code => match ex with
      | .normal => match code with
        | .skip => goM P an ra fn n r .normal st
        | .label _ => goM P an ra fn n r .normal st
        | .region id ops draw => (regionM P an (ra id) ops draw st).bind fun st' => goM P an ra fn n r .normal st'
        | .seq a b => goM P an ra fn n (.c a :: .c b :: r) .normal st
        | .cond c a b => match evalO st.tm c with
          | some (.d (.v (.bool t))) => (M.askB t).bind fun t => goM P an ra fn n (.c (bif t then a else b) :: r) .normal st
          | _ => .fail 113
        | .block id b => goM P an ra fn n (.c b :: .blk id :: r) .normal st
        | .loop b => .pure (.at_ (.lp b :: r) (atHead ra b st))
        | .exit id => goM P an ra fn n r (.exit id) st
        | .ret => goM P an ra fn n r .ret st
        | _ => .fail 114
      | ex => goM P an ra fn n r ex st
    | .blk id => match ex with
      | .exit j => goM P an ra fn n r (bif Nat.beq j id then .normal else .exit j) st
      | ex => goM P an ra fn n r ex st
    | .lp b => match ex with
      | .normal => .pure (.at_ (.lp b :: r) (atHead ra b st))
      | ex => goM P an ra fn n r ex st

noncomputable def den (P : Program) (an : An) (ra : Nat → RA) (fn : Func) (k : Nat) : List It → List Nat → Ex → St → Option (V × Heap)
  | [], _, ex, st => match ex with
    | .exit _ => none
    | _ => (results P fn st).map (·, st.hp)
  | i :: r, ns, ex, st => match i with
    | .c code => match ex with
      | .normal => (exec P (run P an k) ra k code st).bind fun p => den P an ra fn k r ns p.1 p.2
      | ex => den P an ra fn k r ns ex st
    | .blk id => match ex with
      | .exit j => den P an ra fn k r ns (bif Nat.beq j id then .normal else .exit j) st
      | ex => den P an ra fn k r ns ex st
    | .lp b => match ns with
      | [] => none
      | n :: ns => match ex with
        | .normal => (iter (roundOf ra b (exec P (run P an k) ra k b)) n (atHead ra b st)).bind fun p => den P an ra fn k r ns p.1 p.2
        | ex => den P an ra fn k r ns ex st

def nlp : List It → Nat
  | [] => 0
  | .lp _ :: r => nlp r + 1
  | _ :: r => nlp r

/-- What is still to be done is done, and a function returns. -/
def Go_ (P : Program) (an : An) (ra : Nat → RA) (fn : Func) (s : List It) (ex : Ex) (st : St) (v : V) (h : Heap) : Prop :=
  ∃ k0, ∀ k, k0 ≤ k → ∀ ns, ns.length = nlp s → (∀ n ∈ ns, k0 ≤ n) → den P an ra fn k s ns ex st = some (v, h)

variable {ra : Nat → RA} {fn : Func} {s r : List It} {ex ex' : Ex} {st st' : St} {v : V} {h : Heap}

theorem Go_.code {c : Code} (hc : ∃ k1, ∀ k, k1 ≤ k → exec P (run P an k) ra k c st = some (ex', st')) (hr : Go_ P an ra fn r ex' st' v h) : Go_ P an ra fn (.c c :: r) .normal st v h := by
  obtain ⟨k1, h1⟩ := hc
  obtain ⟨k0, h0⟩ := hr
  refine ⟨max k0 k1, fun k hk ns hl hn => ?_⟩
  simp only [den, h1 k (by omega), Option.bind_some]
  exact h0 k (by omega) ns hl fun n hn' => by have := hn n hn'; omega

theorem Go_.skip {i : It} (hi : nlp (i :: r) = nlp r) (hd : ∀ k ns, den P an ra fn k (i :: r) ns ex st = den P an ra fn k r ns ex' st) (hr : Go_ P an ra fn r ex' st v h) : Go_ P an ra fn (i :: r) ex st v h := by
  obtain ⟨k0, h0⟩ := hr
  refine ⟨k0, fun k hk ns hl hn => ?_⟩
  rw [hd]
  exact h0 k hk ns (by rw [hl, hi]) hn

theorem Go_.loop {b : Code} (hr : Go_ P an ra fn (.lp b :: r) .normal st v h) : Go_ P an ra fn (.c (.loop b) :: r) .normal st v h := by
  obtain ⟨k0, h0⟩ := hr
  refine ⟨k0, fun k hk ns hl hn => ?_⟩
  have := h0 k hk (k :: ns) (by simp [hl, nlp]) (fun n hn' => by
    rcases List.mem_cons.1 hn' with rfl | hn'
    · exact hk
    · exact hn n hn')
  simpa [den, exec] using this

theorem Go_.head {b : Code} (hr : Go_ P an ra fn (.lp b :: r) .normal (atHead ra b st) v h) : Go_ P an ra fn (.lp b :: r) .normal st v h := by
  obtain ⟨k0, h0⟩ := hr
  refine ⟨k0, fun k hk ns hl hn => ?_⟩
  rw [← h0 k hk ns hl hn]
  simp only [den, atHead_twice]

theorem Go_.round {b : Code} (hr : Go_ P an ra fn (.c b :: .lp b :: r) .normal (atHead ra b st) v h) : Go_ P an ra fn (.lp b :: r) .normal st v h := by
  obtain ⟨k0, h0⟩ := hr
  refine ⟨k0 + 1, fun k hk ns hl hn => ?_⟩
  cases ns with
  | nil => simp [nlp] at hl
  | cons n ns =>
    cases n with
    | zero => have := hn 0 (by simp); omega
    | succ n =>
      have := h0 k (by omega) (n :: ns) (by simpa [nlp] using hl) (fun m hm => by
        rcases List.mem_cons.1 hm with rfl | hm
        · have := hn (m + 1) (by simp); omega
        · have := hn m (by simp [hm]); omega)
      rw [← this]
      simp only [den, iter, roundOf]
      cases he : exec P (run P an k) ra k b (atHead ra b st) with
      | none => rfl
      | some p =>
        obtain ⟨ex, st'⟩ := p
        cases ex <;> rfl

theorem Go_.out {b : Code} (hne : ex ≠ .normal) (hr : Go_ P an ra fn r ex st v h) : Go_ P an ra fn (.lp b :: r) ex st v h := by
  obtain ⟨k0, h0⟩ := hr
  refine ⟨k0, fun k hk ns hl hn => ?_⟩
  cases ns with
  | nil => simp [nlp] at hl
  | cons n ns =>
    have := h0 k hk ns (by simpa [nlp] using hl) (fun m hm => hn m (by simp [hm]))
    rw [← this]
    cases ex with
    | normal => exact absurd rfl hne
    | exit id => rfl
    | ret => rfl

def GoOut (P : Program) (an : An) (ra : Nat → RA) (fn : Func) (v : V) (h : Heap) : OutM → Prop
  | .ret v' h' => v' = v ∧ h' = h
  | .at_ s' st' => Go_ P an ra fn s' .normal st' v h

theorem goM_ok : ∀ (n : Nat) (s : List It) (ex : Ex) (st : St) (os : List Or) (out : OutM) (os' : List Or) (ps : List Prop),
    goM P an ra fn n s ex st os = .ok out os' ps → AllP ps → GoOut P an ra fn v h out → Go_ P an ra fn s ex st v h := by
  intro n
  induction n with
  | zero => intro s ex st os out os' ps hg; cases hg
  | succ n ih =>
    intro s ex st os out os' ps hg hp ho
    cases s with
    | nil =>
      simp only [goM] at hg
      have key : (M.lift (results P fn st)).bind (fun v => .pure (.ret v st.hp)) os = .ok out os' ps → (∀ id, ex ≠ .exit id) → Go_ P an ra fn [] ex st v h := by
        intro hg hne
        obtain ⟨a, os1, p, q, h1, h2, rfl⟩ := bind_ok hg
        unfold M.lift at h1
        split at h1
        · rename_i w hw
          cases h1
          cases h2
          obtain ⟨rfl, rfl⟩ := ho
          refine ⟨0, fun k _ ns _ _ => ?_⟩
          cases ex with
          | exit id => exact absurd rfl (hne id)
          | normal => simp [den, hw]
          | ret => simp [den, hw]
        · cases h1
      cases ex with
      | exit id => cases hg
      | normal => exact key hg fun id e => by cases e
      | ret => exact key hg fun id e => by cases e
    | cons i r =>
      cases i with
      | c code =>
        cases ex with
        | exit id => exact Go_.skip rfl (fun _ _ => rfl) (ih r _ st os out os' ps hg hp ho)
        | ret => exact Go_.skip rfl (fun _ _ => rfl) (ih r _ st os out os' ps hg hp ho)
        | normal =>
          cases code with
          | skip => exact Go_.code ⟨0, fun _ _ => rfl⟩ (ih r _ st os out os' ps hg hp ho)
          | label l => exact Go_.code ⟨0, fun _ _ => rfl⟩ (ih r _ st os out os' ps hg hp ho)
          | region id ops draw =>
            obtain ⟨a, os1, p, q, h1, h2, rfl⟩ := bind_ok hg
            obtain ⟨hp1, hp2⟩ := AllP.append.1 hp
            obtain ⟨k1, e1⟩ := regionM_snd os a os1 p h1 hp1
            exact Go_.code ⟨k1, fun k hk => by simp only [exec, e1 k hk]⟩ (ih r _ a os1 out os' q h2 hp2 ho)
          | seq a b =>
            obtain ⟨k0, h0⟩ := ih (.c a :: .c b :: r) .normal st os out os' ps hg hp ho
            refine ⟨k0, fun k hk ns hl hn => ?_⟩
            rw [← h0 k hk ns hl hn]
            simp only [den, exec]
            cases exec P (run P an k) ra k a st with
            | none => rfl
            | some p => obtain ⟨ex, st'⟩ := p; cases ex <;> rfl
          | cond c a b =>
            have hcond : ∃ t, evalO st.tm c = some (.d (.v (.bool t))) ∧ (M.askB t).bind (fun t => goM P an ra fn n (.c (bif t then a else b) :: r) .normal st) os = .ok out os' ps := by
              simp only [goM] at hg
              cases he : evalO st.tm c with
              | none => rw [he] at hg; cases hg
              | some x =>
                rw [he] at hg
                cases x with
                | d x =>
                  cases x with
                  | v x => cases x with
                    | bool t => exact ⟨t, rfl, hg⟩
                    | _ => cases hg
                  | _ => cases hg
                | _ => cases hg
            obtain ⟨t, ht, hg⟩ := hcond
            · obtain ⟨x, os1, p, q, h1, h2, rfl⟩ := bind_ok hg
              obtain ⟨hp1, hp2⟩ := AllP.append.1 hp
              obtain ⟨_, e1, e2⟩ := Snd.askB os x os1 p h1 hp1
              cases e1
              subst e2
              obtain ⟨k0, h0⟩ := ih (.c (bif x then a else b) :: r) .normal st os1 out os' q h2 hp2 ho
              refine ⟨k0, fun k hk ns hl hn => ?_⟩
              rw [← h0 k hk ns hl hn]
              simp only [den, exec, ht]
              cases x <;> rfl
          | block id b =>
            obtain ⟨k0, h0⟩ := ih (.c b :: .blk id :: r) .normal st os out os' ps hg hp ho
            refine ⟨k0, fun k hk ns hl hn => ?_⟩
            rw [← h0 k hk ns hl hn]
            simp only [den, exec]
            cases exec P (run P an k) ra k b st with
            | none => rfl
            | some p =>
              obtain ⟨ex, st'⟩ := p
              cases ex with
              | exit j => simp only [Option.bind_some]; cases Nat.beq j id <;> rfl
              | normal => rfl
              | ret => rfl
          | loop b =>
            simp only [goM, M.pure, R.ok.injEq] at hg
            obtain ⟨rfl, _, _⟩ := hg
            exact Go_.loop (Go_.head ho)
          | exit id => exact Go_.code ⟨0, fun _ _ => rfl⟩ (ih r _ st os out os' ps hg hp ho)
          | ret => exact Go_.code ⟨0, fun _ _ => rfl⟩ (ih r _ st os out os' ps hg hp ho)
          | _ => cases hg
      | blk id =>
        cases ex with
        | exit j => exact Go_.skip rfl (fun _ _ => rfl) (ih r _ st os out os' ps hg hp ho)
        | ret => exact Go_.skip rfl (fun _ _ => rfl) (ih r _ st os out os' ps hg hp ho)
        | normal => exact Go_.skip rfl (fun _ _ => rfl) (ih r _ st os out os' ps hg hp ho)
      | lp b =>
        cases ex with
        | normal =>
          simp only [goM, M.pure, R.ok.injEq] at hg
          obtain ⟨rfl, _, _⟩ := hg
          exact Go_.head ho
        | exit j => exact Go_.out (by simp) (ih r _ st os out os' ps hg hp ho)
        | ret => exact Go_.out (by simp) (ih r _ st os out os' ps hg hp ho)

/-- A function's run from a place in it. -/
def GoF (P : Program) (an : An) (f : FuncId) (s : List It) (st : St) (v : V) (h : Heap) : Prop := ∃ fn, P.funcs[f]? = some fn ∧ Go_ P an (an.ra f) fn s .normal st v h

def entry (fn : Func) (args : List V) (h : Heap) : St := { nt := max args.length fn.ntmps, tm := enterTm 0 args, lo := [], hp := h }

/-- A function's body comes back. -/
def RB (P : Program) (an : An) (f : FuncId) (args : List V) (h : Heap) (v : V) (h' : Heap) : Prop := ∃ k0, ∀ k, k0 ≤ k → body P (run P an k) (an.ra f) k f args h = some (v, h')

/-- From a function's beginning. -/
def goF (P : Program) (an : An) (f : FuncId) (args : List V) (h : Heap) (os : List Or) : R OutM :=
  match P.funcs[f]? with
  | some fn => match fn.body with
    | some c => goM P an (an.ra f) fn 5000 [.c c] .normal (entry fn args h) os
    | none => .no 120
  | none => .no 121

/-- A round of a loop. -/
def goL (P : Program) (an : An) (f : FuncId) (s : List It) (st : St) (os : List Or) : R OutM :=
  match P.funcs[f]? with
  | some fn => match s with
    | .lp b :: r => goM P an (an.ra f) fn 5000 (.c b :: .lp b :: r) .normal (atHead (an.ra f) b st) os
    | _ => .no 122
  | none => .no 123

theorem RB.of {f : FuncId} {args : List V} {fn : Func} {c : Code} {h h' : Heap} (hf : P.funcs[f]? = some fn) (hb : fn.body = some c) (hg : Go_ P an (an.ra f) fn [.c c] .normal (entry fn args h) v h') : RB P an f args h v h' := by
  obtain ⟨k0, h0⟩ := hg
  refine ⟨k0, fun k hk => ?_⟩
  have := h0 k hk [] rfl (by simp)
  rw [← this]
  simp only [den, body, hf, hb, entry]
  cases exec P (run P an k) (an.ra f) k c { nt := max args.length fn.ntmps, tm := enterTm 0 args, lo := [], hp := h } with
  | none => rfl
  | some p => obtain ⟨ex, st'⟩ := p; cases ex <;> rfl

theorem rule_ret {f : FuncId} {args : List V} {h h' : Heap} {os os' : List Or} {ps : List Prop} (hg : goF P an f args h os = .ok (.ret v h') os' ps) (hp : AllP ps) : RB P an f args h v h' := by
  unfold goF at hg
  split at hg
  · rename_i fn hf
    split at hg
    · rename_i c hc
      exact .of hf hc (goM_ok _ _ _ _ _ _ _ _ hg hp ⟨rfl, rfl⟩)
    · cases hg
  · cases hg

theorem rule_at {f : FuncId} {args : List V} {h h' : Heap} {s : List It} {st : St} {os os' : List Or} {ps : List Prop} (hg : goF P an f args h os = .ok (.at_ s st) os' ps) (hp : AllP ps) (hr : GoF P an f s st v h') : RB P an f args h v h' := by
  unfold goF at hg
  split at hg
  · rename_i fn hf
    split at hg
    · rename_i c hc
      obtain ⟨fn', hf', hr⟩ := hr
      rw [hf] at hf'; cases hf'
      exact .of hf hc (goM_ok _ _ _ _ _ _ _ _ hg hp hr)
    · cases hg
  · cases hg

theorem round_ret {f : FuncId} {h' : Heap} {s : List It} {st : St} {os os' : List Or} {ps : List Prop} (hg : goL P an f s st os = .ok (.ret v h') os' ps) (hp : AllP ps) : GoF P an f s st v h' := by
  unfold goL at hg
  split at hg
  · rename_i fn hf
    split at hg
    · exact ⟨fn, hf, .round (goM_ok _ _ _ _ _ _ _ _ hg hp ⟨rfl, rfl⟩)⟩
    · cases hg
  · cases hg

theorem round_at {f : FuncId} {h' : Heap} {s s' : List It} {st st' : St} {os os' : List Or} {ps : List Prop} (hg : goL P an f s st os = .ok (.at_ s' st') os' ps) (hp : AllP ps) (hr : GoF P an f s' st' v h') : GoF P an f s st v h' := by
  unfold goL at hg
  split at hg
  · rename_i fn hf
    split at hg
    · obtain ⟨fn', hf', hr⟩ := hr
      rw [hf] at hf'; cases hf'
      exact ⟨fn, hf, .round (goM_ok _ _ _ _ _ _ _ _ hg hp hr)⟩
    · cases hg
  · cases hg

theorem RC.of {f : FuncId} {args : List V} {h h' : Heap} (hp : an.prim f = none) (ha : an.alone f = false) (hb : RB P an f args h v h') : RC P an f args h v h' := by
  obtain ⟨k0, h0⟩ := hb
  refine ⟨k0 + 1, fun k hk => ?_⟩
  obtain ⟨m, rfl⟩ : ∃ m, k = m + 1 := ⟨k - 1, by omega⟩
  simp only [run, hp, ha, cond_false]
  exact h0 m (by omega)

theorem RC.alone {f : FuncId} {args : List V} {h h' : Heap} (hp : an.prim f = none) (ha : an.alone f = true) (hn : V.noHeL args = true) (hv : v.noHe = true) (hb : RB P an f args Heap.none v h') : RC P an f args h v h := by
  obtain ⟨k0, h0⟩ := hb
  refine ⟨k0 + 1, fun k hk => ?_⟩
  obtain ⟨m, rfl⟩ : ∃ m, k = m + 1 := ⟨k - 1, by omega⟩
  simp only [run, hp, ha, cond_true, hn, h0 m (by omega), Option.bind_some, hv]

theorem RC.prim {f : FuncId} {args : List V} {h : Heap} {p : List V → Option V} (hp : an.prim f = some p) (hv : p args = some v) : RC P an f args h v h := by
  refine ⟨1, fun k hk => ?_⟩
  obtain ⟨m, rfl⟩ : ∃ m, k = m + 1 := ⟨k - 1, by omega⟩
  simp only [run, hp, hv, Option.map_some]

end Am

/- AM: words of printed rules. -/
namespace Am
open Go

theorem andT {a b : Bool} (h1 : a = true) (h2 : b = true) : (a && b) = true := by rw [h1, h2]; rfl
theorem nbeq_refl (n : Nat) : Nat.beq n n = true := by simp
theorem nbeq_of {m n : Nat} (h : m = n) : Nat.beq m n = true := by subst h; simp

abbrev dI (n : Int) : D := .v (.int .i64 n)
abbrev dB (b : Bool) : D := .v (.bool b)
abbrev dS (s : ByteArray) : D := .v (.string s)
abbrev vI (n : Int) : V := vInt .i64 n
abbrev iN (n : Nat) : Int := (n : Int)
abbrev W (n : Int) : Int := IntKind.wrap .i64 n

/-- A part of a code. -/
def cdAt : Code → List Nat → Code
  | c, [] => c
  | .seq a b, i :: r => cdAt (bif Nat.beq i 0 then a else b) r
  | .cond _ a b, i :: r => cdAt (bif Nat.beq i 0 then a else b) r
  | .block _ b, _ :: r => cdAt b r
  | .loop b, _ :: r => cdAt b r
  | c, _ => c
def codeOf (fn : Func) : Code := fn.body.getD .skip

end Am

/- AM: facts that a run is told, and what a function comes to. -/
namespace Am
open Go

/-- A fact, and what a run is told by it. -/
structure Fc where
  os : List Or
  p : Prop
  h : p

def osOf : List Fc → List Or
  | [] => []
  | f :: r => match f.os with
    | [] => osOf r
    | o :: _ => o :: osOf r
def psOf : List Fc → List Prop
  | [] => []
  | f :: r => f.p :: psOf r

theorem psOf_all : ∀ fs : List Fc, AllP (psOf fs)
  | [] => trivial
  | f :: r => ⟨f.h, psOf_all r⟩

abbrev bt {b : Bool} (h : b = true) : Fc := ⟨[.b true], b = true, h⟩
abbrev bf {b : Bool} (h : b = false) : Fc := ⟨[.b false], b = false, h⟩
abbrev bT : Fc := ⟨[.b true], true = true, rfl⟩
abbrev bF : Fc := ⟨[.b false], false = false, rfl⟩
abbrev rt {b : Bool} (h : b = true) : Fc := ⟨[], b = true, h⟩
abbrev rq : Fc := ⟨[], true = true, rfl⟩
abbrev fu {o : Option UInt8} {x : UInt8} (h : o = some x) : Fc := ⟨[.u x], o = some x, h⟩
abbrev fd {o : Option D} {x : D} (h : o = some x) : Fc := ⟨[.d x], o = some x, h⟩
abbrev fv {o : Option V} {x : V} (h : o = some x) : Fc := ⟨[.v x], o = some x, h⟩
abbrev fo {o : Option Obj} {x : Obj} (h : o = some x) : Fc := ⟨[.o x], o = some x, h⟩
abbrev fw {o : Option (Option V)} {x : Option V} (h : o = some x) : Fc := ⟨[.ov x], o = some x, h⟩
abbrev fk {o : Option (List Value × List V)} {x : List Value} {y : List V} (h : o = some (x, y)) : Fc := ⟨[.kv x y], o = some (x, y), h⟩
abbrev fr {P : Program} {an : An} {f : FuncId} {args : List V} {h h' : Heap} {v : V} (q : RC P an f args h v h') : Fc := ⟨[.r v h'], RC P an f args h v h', q⟩
abbrev fc {p : Prop} (h : p) : Fc := ⟨[], p, h⟩
/-- Told: so, or not so. -/
abbrev tt {p : Prop} [Decidable p] (h : p) : Fc := ⟨[.b true], decide p = true, decide_eq_true h⟩
abbrev tl {x y : Int} (h : y ≤ x) : Fc := ⟨[.b false], decide (x < y) = false, decide_eq_false (Int.not_lt.mpr h)⟩
abbrev tg {x y : Int} (h : y < x) : Fc := ⟨[.b false], decide (x ≤ y) = false, decide_eq_false (Int.not_le.mpr h)⟩
abbrev rd {p : Prop} [Decidable p] (h : p) : Fc := ⟨[], decide p = true, decide_eq_true h⟩

theorem andF1 {a b : Bool} (h : a = false) : (a && b) = false := by rw [h]; rfl
theorem andF2 {a b : Bool} (h : b = false) : (a && b) = false := by rw [h]; cases a <;> rfl
theorem nbleF {a b : Nat} (h : b < a) : Nat.ble a b = false := by
  cases h' : Nat.ble a b with
  | false => rfl
  | true => have := Nat.le_of_ble_eq_true h'; omega
theorem nbltF {a b : Nat} (h : b ≤ a) : Nat.blt a b = false := nbleF (Nat.lt_succ_of_le h)
theorem nbeqF {a b : Nat} (h : a ≠ b) : Nat.beq a b = false := by
  cases h' : Nat.beq a b with
  | false => rfl
  | true => exact absurd (Nat.eq_of_beq_eq_true h') h
theorem icase (a b : Int) : a < b ∨ b ≤ a := by omega
theorem ncase (a b : Nat) : a < b ∨ b ≤ a := by omega
theorem bcase (b : Bool) : b = true ∨ b = false := by cases b <;> simp

variable {P : Program} {an : An} {f : FuncId} {args : List V} {h : Heap} {K K' : List It} {st st' : St} {Q : V → Heap → Prop} {QA : V → Prop}

/-- A call comes to something of which Q is true. -/
def Wc (P : Program) (an : An) (f : FuncId) (args : List V) (h : Heap) (Q : V → Heap → Prop) : Prop := ∃ v h', RC P an f args h v h' ∧ Q v h'
/-- Likewise, of a function that hangs on no heap. -/
def Wa (P : Program) (an : An) (f : FuncId) (args : List V) (Q : V → Prop) : Prop := ∃ v, (∀ h, RC P an f args h v h) ∧ Q v
/-- Likewise, of a function that reads a heap. -/
def Wn (P : Program) (an : An) (f : FuncId) (args : List V) (h : Heap) (Q : V → Prop) : Prop := ∃ v, RC P an f args h v h ∧ Q v
/-- From a loop's head on. -/
def Wl (P : Program) (an : An) (f : FuncId) (K : List It) (st : St) (Q : V → Heap → Prop) : Prop := ∃ v h', GoF P an f K st v h' ∧ Q v h'

theorem Wc.mono {Q' : V → Heap → Prop} (w : Wc P an f args h Q) (m : ∀ v h', Q v h' → Q' v h') : Wc P an f args h Q' := by
  obtain ⟨v, h', a, b⟩ := w; exact ⟨v, h', a, m v h' b⟩
theorem Wa.mono {Q' : V → Prop} (w : Wa P an f args QA) (m : ∀ v, QA v → Q' v) : Wa P an f args Q' := by
  obtain ⟨v, a, b⟩ := w; exact ⟨v, a, m v b⟩
theorem Wl.mono {Q' : V → Heap → Prop} (w : Wl P an f K st Q) (m : ∀ v h', Q v h' → Q' v h') : Wl P an f K st Q' := by
  obtain ⟨v, h', a, b⟩ := w; exact ⟨v, h', a, m v h' b⟩
theorem Wa.toC (w : Wa P an f args fun v => Q v h) : Wc P an f args h Q := by
  obtain ⟨v, a, b⟩ := w; exact ⟨v, h, a h, b⟩

theorem Wa.toN (w : Wa P an f args QA) : Wn P an f args h QA := by
  obtain ⟨v, a, b⟩ := w; exact ⟨v, a h, b⟩
theorem Wn.mono {Q' : V → Prop} (w : Wn P an f args h QA) (m : ∀ v, QA v → Q' v) : Wn P an f args h Q' := by
  obtain ⟨v, a, b⟩ := w; exact ⟨v, a, m v b⟩
theorem Wn.eq {x : V} (w : Wn P an f args h (· = x)) (q : QA x) : Wn P an f args h QA :=
  w.mono fun _ e => e ▸ q
theorem Wc.toN {x : V} (w : Wc P an f args h fun v h' => v = x ∧ h' = h) (q : QA x) : Wn P an f args h QA := by
  obtain ⟨v, h', a, rfl, rfl⟩ := w; exact ⟨_, a, q⟩

/-- What an alone function's run comes to. -/
def QAl (QA : V → Prop) (v : V) (_ : Heap) : Prop := v.noHe = true ∧ QA v

variable {fs : List Fc} {v : V} {h' : Heap}

theorem ent_ret (hp : an.prim f = none) (ha : an.alone f = false) (hg : goF P an f args h (osOf fs) = .ok (.ret v h') [] (psOf fs)) (q : Q v h') : Wc P an f args h Q :=
  ⟨v, h', .of hp ha (rule_ret hg (psOf_all fs)), q⟩
theorem ent_at (hp : an.prim f = none) (ha : an.alone f = false) (hg : goF P an f args h (osOf fs) = .ok (.at_ K st) [] (psOf fs)) (q : Wl P an f K st Q) : Wc P an f args h Q := by
  obtain ⟨v, h', a, b⟩ := q
  exact ⟨v, h', .of hp ha (rule_at hg (psOf_all fs) a), b⟩
theorem ent_retA (hp : an.prim f = none) (ha : an.alone f = true) (hn : V.noHeL args = true) (hg : goF P an f args Heap.none (osOf fs) = .ok (.ret v h') [] (psOf fs)) (hv : v.noHe = true) (q : QA v) : Wa P an f args QA :=
  ⟨v, fun _ => .alone hp ha hn hv (rule_ret hg (psOf_all fs)), q⟩
theorem ent_atA (hp : an.prim f = none) (ha : an.alone f = true) (hn : V.noHeL args = true) (hg : goF P an f args Heap.none (osOf fs) = .ok (.at_ K st) [] (psOf fs)) (q : Wl P an f K st (QAl QA)) : Wa P an f args QA := by
  obtain ⟨v, h', a, b, c⟩ := q
  exact ⟨v, fun _ => .alone hp ha hn b (rule_at hg (psOf_all fs) a), c⟩
theorem lp_ret (hg : goL P an f K st (osOf fs) = .ok (.ret v h') [] (psOf fs)) (q : Q v h') : Wl P an f K st Q :=
  ⟨v, h', round_ret hg (psOf_all fs), q⟩
theorem lp_at (hg : goL P an f K st (osOf fs) = .ok (.at_ K' st') [] (psOf fs)) (q : Wl P an f K' st' Q) : Wl P an f K st Q := by
  obtain ⟨v, h', a, b⟩ := q
  exact ⟨v, h', round_at hg (psOf_all fs) a, b⟩

end Am

/- AM: what comes in, read as data. -/
namespace Am
open Go Go.ChangeShapes Go.WideShapes
variable {P : Program} {w : World}

/-- Data of a type: the cells. -/
inductive DT (P : Program) : TypeId → List D → Prop
  | bool (t : TypeId) (b : Bool) (h : P.underlying t = some .bool) : DT P t [.v (.bool b)]
  | int (t : TypeId) (k : IntKind) (n : Int) (h : P.underlying t = some (.int k)) (h1 : k.min ≤ n) (h2 : n ≤ k.max) : DT P t [.v (.int k n)]
  | str (t : TypeId) (s : ByteArray) (h : P.underlying t = some .string) (hl : s.size ≤ maxLen) : DT P t [.v (.string s)]
  | slice (t e : TypeId) (sz : Nat) (xs : List D) (h : P.underlying t = some (.slice e)) (hs : shp P e = some sz) (hl : xs.length ≤ maxLen)
      (hx : ∀ x ∈ xs, okShape sz x) (hd : ∀ x ∈ xs, DT P e x.cells) : DT P t [.slice sz xs]
  | struct (t : TypeId) (fs : Array Field) (ds : List D) (h : P.underlying t = some (.struct fs)) (hl : ds.length = P.cellsOf t)
      (hf : ∀ f ∈ fs.toList, DT P f.type ((ds.drop f.offset).take (P.cellsOf f.type))) : DT P t ds

/-- Fields one behind the other. -/
def tiles (P : Program) : Nat → List Field → Nat → Bool
  | off, [], n => Nat.beq off n
  | off, f :: r, n => Nat.beq f.offset off && tiles P (off + P.cellsOf f.type) r n

/-- Plain types, closed under parts. -/
def closedB (P : Program) (ts : List TypeId) : Bool :=
  ts.all fun t => match P.underlying t with
    | some .bool | some (.int _) | some .string => true
    | some (.slice e) => ts.contains e && (shp P e).isSome
    | some (.struct fs) => fs.toList.all (fun f => ts.contains f.type) && tiles P 0 fs.toList (P.cellsOf t)
    | _ => false

/-- Cells that stand for data, one by one. -/
def CellsD (w : World) (O : Nat → Prop) : List D → List Value → Prop
  | [], [] => True
  | d :: ds, c :: cs => d.isAgg = false ∧ DR w O d c ∧ CellsD w O ds cs
  | _, _ => False

theorem CellsD.len {O : Nat → Prop} : ∀ {ds : List D} {cs : List Value}, CellsD w O ds cs → ds.length = cs.length
  | [], [], _ => rfl
  | _ :: _, _ :: _, h => by simp [CellsD.len h.2.2]
  | [], _ :: _, h => h.elim
  | _ :: _, [], h => h.elim

theorem CellsD.append {O : Nat → Prop} : ∀ {ds es : List D} {cs bs : List Value}, CellsD w O ds cs → CellsD w O es bs → CellsD w O (ds ++ es) (cs ++ bs)
  | [], _, [], _, _, h' => h'
  | _ :: _, _, _ :: _, _, h, h' => ⟨h.1, h.2.1, h.2.2.append h'⟩
  | [], _, _ :: _, _, h, _ => h.elim
  | _ :: _, _, [], _, h, _ => h.elim

theorem CellsD.get {O : Nat → Prop} : ∀ {ds : List D} {cs : List Value}, CellsD w O ds cs → (∀ d ∈ ds, d.isAgg = false) ∧ ∀ (i : Nat) (d : D) (c : Value), ds[i]? = some d → cs[i]? = some c → DR w O d c
  | [], [], _ => by simp
  | d :: ds, c :: cs, h => by
    obtain ⟨h1, h2⟩ := CellsD.get h.2.2
    refine ⟨fun x hx => ?_, fun i x y hx hy => ?_⟩
    · rcases List.mem_cons.1 hx with rfl | hx
      · exact h.1
      · exact h1 x hx
    · cases i with
      | zero => simp at hx hy; subst hx; subst hy; exact h.2.1
      | succ i => exact h2 i x y (by simpa using hx) (by simpa using hy)
  | [], _ :: _, h => h.elim
  | _ :: _, [], h => h.elim

theorem add_spot {a : Addr} (h : a.spot = none) (n : Nat) : a.add n = ⟨a.block, a.off + n, none⟩ := by
  unfold Addr.add
  split
  · rename_i h0; subst h0; cases a; simp_all
  · cases a; simp_all

theorem cells_spec {b : Nat} {a : Addr} {n : Nat} {cs : List Value} (h : w.cells? b a n = some cs) : cs.length = n ∧ ∀ j, j < n → ∃ c, cs[j]? = some c ∧ w.cell? (a.add j) = some c := by
  unfold World.cells? at h
  split at h
  · refine ⟨by simpa using mapM_some_length h, fun j hj => ?_⟩
    have := mapM_some_get h j j (by simp [hj])
    cases hc : w.cell? (a.add j) with
    | none =>
      rw [hc] at this
      have hl : cs.length = n := by simpa using mapM_some_length h
      simp at this; omega
    | some c => exact ⟨c, by rw [← this, hc], rfl⟩
  · cases h

theorem shape_D {O : Nat → Prop} {sz : Nat} {ds : List D} {cs : List Value} {cf : Nat → Value} (hl : cs.length = stride sz) (h : CellsD w O ds cs) (hcf : ∀ j, j < stride sz → cs[j]? = some (cf j)) :
    ∃ x : D, okShape sz x ∧ x.cells = ds ∧ DR w O x (shapeVal sz cf) := by
  by_cases h0 : sz = 0
  · subst h0
    have hl1 : cs.length = 1 := hl
    match cs, ds, h, hl1 with
    | [c], [d], h, _ =>
      refine ⟨d, by simp [okShape, h.1], ?_, ?_⟩
      · have := h.1
        cases d <;> simp_all [D.cells, D.isAgg]
      · have := hcf 0 (by decide)
        simp at this
        rw [shapeVal_zero, ← this]
        exact h.2.1
    | [c], [], h, _ => exact h.elim
    | [c], _ :: _ :: _, h, _ => exact h.2.2.elim
  · have hst : stride sz = sz := by simp [stride, nbeq h0]
    obtain ⟨h1, h2⟩ := h.get
    have hlen := h.len
    rw [hst] at hl hcf
    refine ⟨.agg ds, by simp [okShape, h0, D.isAgg, D.cells]; omega, rfl, ?_⟩
    rw [shapeVal_pos h0]
    refine .agg ds _ (by simp; omega) h1 fun i d c hd hc => ?_
    have hi : i < sz := by have := (List.getElem?_eq_some_iff.1 hd).1; omega
    refine h2 i d c hd ?_
    rw [hcf i hi]
    simpa [hi] using hc

section
variable {H : Type} {enc : TypeId × Value → H}

theorem stride_shp {e : TypeId} {sz : Nat} (h : shp P e = some sz) : P.cellsOf e = stride sz := by
  unfold shp at h
  split at h
  · cases h
  · cases hs : isStruct P e <;> simp only [hs, cond_true, cond_false] at h
    · obtain ⟨hb, h⟩ := bif_some h
      cases h
      simpa [stride] using beq_eq hb
    · obtain ⟨hb, h⟩ := bif_none h
      cases h
      unfold stride
      rw [hb]; rfl

theorem trod_data {ts : List TypeId} (hc : closedB P ts = true) {O : Nat → Prop} (hO : ∀ b, ¬ O b) : ∀ (fuel : Nat) (t : TypeId) (cs : List Value) (x : DataW H × List MemPlace), t ∈ ts →
    DataW.trod enc P w 0 (fun _ => true) true fuel t cs = some x → ∃ ds, DT P t ds ∧ CellsD w O ds cs := by
  intro fuel
  induction fuel with
  | zero => intro t cs x _ h; simp [DataW.trod] at h
  | succ n ih =>
    intro t cs x ht h
    have hct := hc
    unfold closedB at hct
    have hk := List.all_eq_true.1 hct t ht
    split at hk
    · rename_i hu
      obtain ⟨b, rfl, _⟩ := DataW.trod_bool hu h
      exact ⟨[.v (.bool b)], .bool t b hu, rfl, .v _ rfl, trivial⟩
    · rename_i k hu
      obtain ⟨i, rfl, _, hw⟩ := DataW.trod_int hu h
      simp only [Lit.wf, Bool.and_eq_true, decide_eq_true_eq] at hw
      exact ⟨[.v (.int k i)], .int t k i hu hw.1 hw.2, rfl, .v _ rfl, trivial⟩
    · rename_i hu
      obtain ⟨s, rfl, _, hl⟩ := DataW.trod_string hu h
      exact ⟨[.v (.string s)], .str t s hu hl, rfl, .v _ rfl, trivial⟩
    · rename_i e hu
      simp only [Bool.and_eq_true] at hk
      obtain ⟨sz, hsz⟩ := Option.isSome_iff_exists.1 hk.2
      have he : e ∈ ts := by simpa using hk.1
      have hst := stride_shp hsz
      rcases DataW.trod_slice hu h with ⟨rfl, _⟩ | ⟨a, len, cap, elems, rest, m, hm, rfl, _, _, hlc, hcm, hel, hels, hrest, _⟩
      · exact ⟨[.slice sz []], .slice t e sz [] hu hsz (by simp) (by simp) (by simp), rfl, .nil sz, trivial⟩
      · have hmn : m = n := by omega
        subst hmn
        have hrow : ∀ i, i < len → ∃ cs', w.cells? 0 (a.add (i * P.cellsOf e)) (P.cellsOf e) = some cs' ∧ ∃ ds, DT P e ds ∧ CellsD w O ds cs' := by
          intro i hi
          have := hels i hi
          cases hq : w.cells? 0 (a.add (i * P.cellsOf e)) (P.cellsOf e) with
          | none =>
            rw [hq] at this
            simp at this; omega
          | some cs' =>
            rw [hq] at this
            simp only [Option.bind_some] at this
            cases hy : DataW.trod enc P w 0 (fun _ => true) true m e cs' with
            | none => rw [hy] at this; simp at this; omega
            | some y => exact ⟨cs', rfl, ih e cs' y he hy⟩
        have hspot : cap ≠ 0 → a.spot = none := by
          intro h0
          have hany : ∃ i cs', i * P.cellsOf e = 0 ∧ w.cells? 0 (a.add (i * P.cellsOf e)) (P.cellsOf e) = some cs' := by
            by_cases hl : 0 < len
            · obtain ⟨cs', h1, _⟩ := hrow 0 hl
              exact ⟨0, cs', by simp, h1⟩
            · have hl0 : len = 0 := by omega
              have := (hrest rfl).2 0 (by omega)
              cases hq : w.cells? 0 (a.add ((len + 0) * P.cellsOf e)) (P.cellsOf e) with
              | none =>
                rw [hq] at this
                have h5 := (hrest rfl).1
                simp only [Option.bind_none] at this
                have h6 := (List.getElem?_eq_none_iff.1 this.symm)
                omega
              | some cs' => exact ⟨len + 0, cs', by simp [hl0], hq⟩
          obtain ⟨i, cs', hi, hq⟩ := hany
          obtain ⟨_, hcell⟩ := cells_spec hq
          obtain ⟨c, _, hcc⟩ := hcell 0 (by rw [hst]; exact stride_pos sz)
          rw [hi] at hcc
          have : (a.add 0).add 0 = a := by simp [Addr.add]
          rw [this] at hcc
          cases hs : a.spot with
          | none => rfl
          | some q =>
            unfold World.cell? at hcc
            split at hcc
            · simp [hs] at hcc
            · cases hcc
        by_cases hcap : cap = 0
        · subst hcap
          have : len = 0 := by omega
          subst this
          exact ⟨[.slice sz []], .slice t e sz [] hu hsz (by simp) (by simp) (by simp), rfl, .emp sz a, trivial⟩
        · have hsp := hspot hcap
          let cf : Nat → Nat → Value := fun i j => (w.cell? ⟨a.block, a.off + (i * stride sz + j), none⟩).getD undef
          have hrow2 : ∀ i, i < len → ∃ x : D, okShape sz x ∧ DT P e x.cells ∧ DR w O x (shapeVal sz (cf i)) ∧ ∀ j, j < stride sz → w.cell? ⟨a.block, a.off + (i * stride sz + j), none⟩ = some (cf i j) := by
            intro i hi
            obtain ⟨cs', h1, ds, h2, h3⟩ := hrow i hi
            obtain ⟨h4, h5⟩ := cells_spec h1
            rw [hst] at h4 h5
            have hcell : ∀ j, j < stride sz → ∃ c, cs'[j]? = some c ∧ w.cell? ⟨a.block, a.off + (i * stride sz + j), none⟩ = some c := by
              intro j hj
              obtain ⟨c, e1, e2⟩ := h5 j hj
              rw [add_spot hsp, add_spot rfl] at e2
              exact ⟨c, e1, by rw [← e2]; simp [Nat.add_assoc]⟩
            obtain ⟨x, g1, g2, g3⟩ := shape_D (cf := cf i) h4 h3 fun j hj => by
              obtain ⟨c, e1, e2⟩ := hcell j hj
              rw [e1]; simp [cf, e2]
            refine ⟨x, g1, by rw [g2]; exact h2, g3, fun j hj => ?_⟩
            obtain ⟨c, e1, e2⟩ := hcell j hj
            simp [cf, e2]
          let f : Nat → D := fun i => if hi : i < len then (hrow2 i hi).choose else default
          have hf : ∀ i (hi : i < len), okShape sz (f i) ∧ DT P e (f i).cells ∧ DR w O (f i) (shapeVal sz (cf i)) ∧ ∀ j, j < stride sz → w.cell? ⟨a.block, a.off + (i * stride sz + j), none⟩ = some (cf i j) := by
            intro i hi
            have := (hrow2 i hi).choose_spec
            simp only [f, dif_pos hi]
            exact this
          let xs := (List.range len).map f
          have hxl : xs.length = len := by simp [xs]
          have hmem : ∀ x ∈ xs, ∃ i, i < len ∧ x = f i := by
            intro x hx
            simp only [xs, List.mem_map, List.mem_range] at hx
            obtain ⟨i, hi, rfl⟩ := hx
            exact ⟨i, hi, rfl⟩
          refine ⟨[.slice sz xs], .slice t e sz xs hu hsz (by omega) (fun x hx => ?_) (fun x hx => ?_), rfl, ?_, trivial⟩
          · obtain ⟨i, hi, rfl⟩ := hmem x hx; exact (hf i hi).1
          · obtain ⟨i, hi, rfl⟩ := hmem x hx; exact (hf i hi).2.1
          · have key := DR.slice (w := w) (O := O) sz xs a.block a.off cap cf (fun _ => hO _) (by omega) (fun x hx => by obtain ⟨i, hi, rfl⟩ := hmem x hx; exact (hf i hi).1)
              (fun i j hi hj => (hf i (by omega)).2.2.2 j hj) (fun i x hx => by
                have hi : i < len := by have := (List.getElem?_eq_some_iff.1 hx).1; omega
                have : x = f i := by
                  have h2 : xs[i]? = some (f i) := by simp [xs, hi]
                  rw [h2] at hx; cases hx; rfl
                rw [this]
                exact (hf i hi).2.2.1)
            rw [hxl] at key
            have : a = ⟨a.block, a.off, none⟩ := by rw [← hsp]
            rw [this]
            exact key
    · rename_i fs hu
      simp only [Bool.and_eq_true] at hk
      obtain ⟨xs, m, hm, _, hl, _, hfs⟩ := DataW.trod_struct hu h
      have hmn : m = n := by omega
      subst hmn
      have hlen := (DataW.trod_struct hu h)
      have hread : ∀ f ∈ fs.toList, ∃ ds, DT P f.type ds ∧ CellsD w O ds ((cs.drop f.offset).take (P.cellsOf f.type)) := by
        intro f hf
        obtain ⟨i, hi⟩ := List.getElem?_of_mem hf
        have h1 := hfs i f (by simpa using hi)
        obtain ⟨xs', m', hm', _, _, hxl, _⟩ := hlen
        have hft : f.type ∈ ts := by simpa using List.all_eq_true.1 hk.1 f hf
        cases hy : DataW.trod enc P w 0 (fun _ => true) true m f.type ((cs.drop f.offset).take (P.cellsOf f.type)) with
        | none =>
          exfalso
          rw [hy] at h1
          have hi' : i < fs.size := by have := (List.getElem?_eq_some_iff.1 hi).1; simpa using this
          have : xs.length = fs.size := by assumption
          simp at h1; omega
        | some y => exact ih f.type _ y hft hy
      have build : ∀ (l : List Field) (off : Nat), (∀ f ∈ l, f ∈ fs.toList) → tiles P off l (P.cellsOf t) = true → ∃ ds, CellsD w O ds (cs.drop off) ∧ ∀ f ∈ l, off ≤ f.offset ∧ DT P f.type ((ds.drop (f.offset - off)).take (P.cellsOf f.type)) := by
        intro l
        induction l with
        | nil =>
          intro off _ htl
          have := beq_eq htl
          have hnil : cs.drop off = [] := List.drop_eq_nil_of_le (by omega)
          exact ⟨[], by rw [hnil]; trivial, by simp⟩
        | cons f r ihl =>
          intro off hsub htl
          simp only [tiles, Bool.and_eq_true] at htl
          have hoff := beq_eq htl.1
          obtain ⟨ds2, g1, g2⟩ := ihl (off + P.cellsOf f.type) (fun f hf => hsub f (by simp [hf])) htl.2
          obtain ⟨ds1, k1, k2⟩ := hread f (hsub f (by simp))
          rw [hoff] at k2
          have hcs : cs.drop off = (cs.drop off).take (P.cellsOf f.type) ++ cs.drop (off + P.cellsOf f.type) := by
            rw [← List.drop_drop, List.take_append_drop]
          have hl1 : ds1.length = P.cellsOf f.type ∨ (ds1.length < P.cellsOf f.type ∧ cs.drop (off + P.cellsOf f.type) = []) := by
            have := k2.len
            simp at this
            rcases Nat.lt_or_ge (cs.length - off) (P.cellsOf f.type) with hlt | hge
            · right; exact ⟨by omega, List.drop_eq_nil_of_le (by omega)⟩
            · left; omega
          refine ⟨ds1 ++ ds2, by rw [hcs]; exact k2.append g1, fun f' hf' => ?_⟩
          rcases List.mem_cons.1 hf' with rfl | hf'
          · refine ⟨by omega, ?_⟩
            rw [hoff, Nat.sub_self, List.drop_zero]
            rcases hl1 with hl1 | ⟨hl1, hnil⟩
            · rw [← hl1, List.take_left']
              · exact k1
              · rfl
            · have hd2 : ds2 = [] := by
                have := g1.len; rw [hnil] at this; exact List.eq_nil_of_length_eq_zero this
              rw [hd2, List.append_nil, List.take_of_length_le (by omega)]
              exact k1
          · obtain ⟨q1, q2⟩ := g2 f' hf'
            refine ⟨by omega, ?_⟩
            rcases hl1 with hl1 | ⟨hl1, hnil⟩
            · have : f'.offset - off = ds1.length + (f'.offset - (off + P.cellsOf f.type)) := by omega
              rw [this, ← List.drop_drop, List.drop_left']
              · exact q2
              · rfl
            · have hd2 : ds2 = [] := by
                have := g1.len; rw [hnil] at this; exact List.eq_nil_of_length_eq_zero this
              subst hd2
              have : ds1.drop (f'.offset - off) = [] := List.drop_eq_nil_of_le (by omega)
              simp only [List.append_nil, this]
              simpa using q2
      obtain ⟨ds, k1, k2⟩ := build fs.toList 0 (fun f hf => hf) hk.2
      rw [List.drop_zero] at k1
      exact ⟨ds, .struct t fs ds hu (by rw [k1.len]; exact hl) fun f hf => by have := (k2 f hf).2; simpa using this, k1⟩
    · cases hk
end

end Am

/- AM: a law that answers true, whatever plain data comes in. -/
namespace Am
open Go Go.ChangeShapes Go.WideShapes Go.RowKit
variable {P : Program} {w : World}

/-- Nothing is owned. -/
def Gh.none : Gh where
  O _ := False
  m _ := Option.none
  un _ := False
  ln _ := 0
  cp _ := 0
  K l := match l with
    | .lo _ => True
    | .he _ _ => False

theorem Gh.none_noLo : Gh.none.noLo = Gh.none := by
  unfold Gh.noLo Gh.none
  congr 1
  · funext x; cases x <;> rfl
  · funext x; cases x <;> rfl

theorem Rel.start (w : World) : Rel w Gh.none Gh.none (St.bare Heap.none) ⟨#[], []⟩ w := by
  have hg : ∀ l, (St.bare Heap.none).get l = Option.none := by intro l; cases l <;> rfl
  exact { nt := rfl, dfr := rfl, tm := fun t v ht => (by simp [St.bare, aget] at ht), obj := fun l o ho => (by rw [hg] at ho; cases ho), live := fun l b hb => (by cases hb), inj := fun l l' b hb => (by cases hb), un := fun l hu => hu.elim, K := fun i g hK => hK.elim, KL := fun i => trivial, Kget := fun l hl => (by rw [hg] at hl; cases hl), hlo := fun i o ho => (by simp [St.bare, Heap.get, Heap.none, Tr.get] at ho), fr := ⟨Stp.refl _ _ _, fun _ _ _ => rfl, fun l b hb => (by cases hb), fun b _ h => h.elim⟩, Olt := fun b hb => hb.elim }

/-- A value of a type, as an argument. -/
def ArgT (P : Program) (t : TypeId) (x : V) : Prop :=
  (isStruct P t = false ∧ ∃ d, x = .d d ∧ d.isAgg = false ∧ DT P t [d]) ∨ (isStruct P t = true ∧ ∃ ds, x = .s ds.length (.agg ds) ∧ (∀ d ∈ ds, d.isAgg = false) ∧ DT P t ds)

def ArgsT (P : Program) : List TypeId → List V → Prop
  | [], [] => True
  | t :: ts, x :: xs => ArgT P t x ∧ ArgsT P ts xs
  | _, _ => False

theorem DT.nodup {t : TypeId} {ds : List D} (h : DT P t ds) (hs : isStruct P t = false) : ∃ d, ds = [d] := by
  cases h with
  | struct _ fs _ hu _ _ => simp [isStruct, hu] at hs
  | _ => exact ⟨_, rfl⟩

section
variable {H : Type} {enc : TypeId × Value → H}

theorem arg_V {ts : List TypeId} (hc : closedB P ts = true) {t : TypeId} (ht : t ∈ ts) {v : Value} {d : DataW H} {p : List MemPlace} {base : Nat} (hv : Value.okWide P w .any base t v)
    (hd : DataW.Trod enc P w 0 (fun _ => true) true t v d p) : ∃ x, VR w Gh.none x v ∧ x.noLo = true ∧ ArgT P t x := by
  obtain ⟨fuel, hf⟩ := hd
  obtain ⟨ds, h1, h2⟩ := trod_data hc (O := Gh.none.O) (fun _ h => h) fuel t _ _ ht hf
  have hk := List.all_eq_true.1 hc t ht
  cases hs : isStruct P t with
  | true =>
    have : ∃ cs, v = .agg cs := by
      unfold isStruct at hs
      unfold Value.okWide at hv
      split at hs
      · rename_i fs hu; simp only [hu] at hv; obtain ⟨cs, e, _⟩ := hv; exact ⟨cs, e⟩
      · rename_i fs hu; simp only [hu] at hv; obtain ⟨cs, e, _⟩ := hv; exact ⟨cs, e⟩
      · cases hs
    obtain ⟨cs, rfl⟩ := this
    obtain ⟨g1, g2⟩ := h2.get
    have hl := h2.len
    refine ⟨.s ds.length (.agg ds), .s _ ds _ (.agg ds cs (by simpa [Value.cells] using hl.symm) g1 fun i d c hd hc => g2 i d c hd (by simpa [Value.cells] using hc)) rfl, rfl, .inr ⟨hs, ds, rfl, g1, h1⟩⟩
  | false =>
    obtain ⟨d, rfl⟩ := h1.nodup hs
    have : v.cells.toList = [v] := by
      unfold Value.okWide at hv
      split at hk
      · rename_i hu; simp only [hu, Cell.okWide] at hv; cases v <;> simp_all [Cell.ok, Value.cells]
      · rename_i hu; simp only [hu, Cell.okWide] at hv; cases v <;> simp_all [Cell.ok, Value.cells]
      · rename_i hu; simp only [hu, Cell.okWide] at hv; cases v <;> simp_all [Cell.ok, Value.cells]
      · rename_i hu; simp only [hu, Cell.okWide] at hv; cases v <;> simp_all [Cell.ok, Value.cells]
      · rename_i hu; simp [isStruct, hu] at hs
      · cases hk
    rw [this] at h2
    exact ⟨.d d, .d d v h2.2.1 h2.1, rfl, .inl ⟨hs, d, rfl, h2.1, h1⟩⟩

theorem args_V {ts : List TypeId} (hc : closedB P ts = true) {base : Nat} : ∀ {tys : List TypeId} {vs : List Value} {ds : List (DataW H)} {p : List MemPlace}, (∀ t ∈ tys, t ∈ ts) →
    (∀ (j : Nat) t v, tys[j]? = some t → vs[j]? = some v → Value.okWide P w .any base t v) → DataW.TrodAll enc P w 0 (fun _ => true) true tys vs ds p →
    ∃ xs, ArgsR w Gh.none xs vs ∧ V.noLoL xs = true ∧ ArgsT P tys xs
  | [], [], [], _, _, _, _ => ⟨[], trivial, rfl, trivial⟩
  | t :: tys, v :: vs, d :: ds, _, hm, hv, h => by
    obtain ⟨p, q, h1, h2, _⟩ := h
    obtain ⟨x, k1, k2, k3⟩ := arg_V hc (hm t (by simp)) (hv 0 t v rfl rfl) h1
    obtain ⟨xs, g1, g2, g3⟩ := args_V hc (fun t ht => hm t (by simp [ht])) (fun j t v hj hv' => hv (j + 1) t v (by simpa using hj) (by simpa using hv')) h2
    exact ⟨x :: xs, ⟨k1, g1⟩, by simp [V.noLoL, k2, g2], k3, g3⟩
  | [], _ :: _, _, _, _, _, h => h.elim
  | [], [], _ :: _, _, _, _, h => h.elim
  | _ :: _, [], _, _, _, _, h => h.elim
  | _ :: _, _ :: _, [], _, _, _, h => h.elim

theorem trodAll_stays (hl : laidOutB P = true) {W W' : World} {sp : Nat → Bool} : ∀ {tys : List TypeId} {vs : List Value} {ds : List (DataW H)} {p : List MemPlace}, (∀ t ∈ tys, P.readableRec t = true ∧ t < P.types.size) →
    DataW.TrodAll enc P W 0 (fun _ => true) true tys vs ds p → (∀ x ∈ p, W.sameAt W' x) → (∀ x ∈ p, sp x.block = true) → DataW.TrodAll enc P W' 0 sp true tys vs ds p
  | [], [], [], _, _, h, _, _ => h
  | t :: tys, v :: vs, d :: ds, _, hr, h, hs, hp => by
    obtain ⟨p, q, h1, h2, rfl⟩ := h
    exact ⟨p, q, WideElems.Trod_stays hl (hr t (by simp)).1 (hr t (by simp)).2 h1 (fun x hx => hs x (by simp [hx])) (fun x hx => hp x (by simp [hx])),
      trodAll_stays hl (fun t ht => hr t (by simp [ht])) h2 (fun x hx => hs x (by simp [hx])) (fun x hx => hp x (by simp [hx])), rfl⟩
  | [], _ :: _, _, _, _, h, _, _ => h.elim
  | [], [], _ :: _, _, _, h, _, _ => h.elim
  | _ :: _, [], _, _, _, h, _, _ => h.elim
  | _ :: _, _ :: _, [], _, _, h, _, _ => h.elim

/-- The law's contract, from the abstract machine's run. -/
theorem law_contract (hm : P.follows .mixedOrders = true) (hng : NoNG P) {an : An} {W : World} (hp : PrimOk P an W) (hlaid : laidOutB P = true) {f : FuncId} {fn : Func} {s : ChangeSpec} {ts : List TypeId} {tb : TypeId}
    (hc : closedB P ts = true) (hpar : fn.params.toList.all (fun t => ts.contains t && P.readableRec t && decide (t < P.types.size)) = true)
    (hres : fn.resultTypes = #[tb]) (htb : P.underlying tb = some .bool) (hvars : s.vars = [])
    (hspec : ∀ ds : List (DataW H), ds.length = fn.params.size → (s.fn H ds).results = [.lit (.bool true)] ∧ (s.fn H ds).args = ds ∧ (s.fn H ds).vars = [])
    (hrun : ∀ xs, ArgsT P fn.params.toList xs → ∃ k h', run P an k f xs Heap.none = some (vBool true, h'))
    {base : Nat} {args : Array Value} {ds gs : List (DataW H)} {before : List MemPlace} {apart fresh handsOn again : Bool}
    (hval : ∀ (j : Nat) t v, fn.params[j]? = some t → args[j]? = some v → Value.okWide P W .any base t v)
    (hW : DataW.Whole enc P fn.params.toList s.vars apart W args.toList ds gs before) :
    Calls P f args W fun e W' => ∃ v, e = .returned v ∧ s.post enc P fn apart fresh handsOn again W args v W' := by
  have hW0 := hW
  obtain ⟨p, q, hA, hV, rfl, hfz, hnd⟩ := hW
  rw [hvars] at hV
  obtain ⟨rfl, rfl⟩ := trodVars_none hV
  have hpar' : ∀ t ∈ fn.params.toList, t ∈ ts ∧ P.readableRec t = true ∧ t < P.types.size := by
    intro t ht
    have := List.all_eq_true.1 hpar t ht
    simp only [Bool.and_eq_true, decide_eq_true_eq, List.contains_iff_mem] at this
    exact ⟨this.1.1, this.1.2, this.2⟩
  obtain ⟨xs, a1, a2, a3⟩ := args_V hc (fun t ht => (hpar' t ht).1) (fun j t v hj hv => hval j t v (by simpa using hj) (by simpa using hv)) hA
  obtain ⟨k, h', hr⟩ := hrun xs a3
  have hdl : ds.length = fn.params.size := by
    have : ∀ {tys : List TypeId} {vs : List Value} {ds : List (DataW H)} {p : List MemPlace}, DataW.TrodAll enc P W 0 (fun _ => true) true tys vs ds p → ds.length = tys.length := by
      intro tys
      induction tys with
      | nil => intro vs ds p h; cases vs <;> cases ds <;> first | rfl | exact h.elim
      | cons t tys ih => intro vs ds p h; cases vs <;> cases ds <;> first | exact h.elim | (obtain ⟨_, _, _, h2, _⟩ := h; simp [ih h2])
    simpa using this hA
  obtain ⟨_, hcalls⟩ := fnOk_run hm hng hp k f xs Heap.none h' _ hr W Gh.none args.toList ⟨Nat.le_refl _, fun _ _ => ⟨rfl, fun h => h⟩⟩ (by rw [Gh.none_noLo]; exact Rel.start W) (by rw [Gh.none_noLo]; exact a1) a2
  refine hcalls.mono fun e W' he => ?_
  cases e with
  | panicked c => exact he.elim
  | outgrown => exact he.elim
  | returned cv =>
    obtain ⟨Gend, r1, r2, _⟩ := he
    rw [Gh.none_noLo] at r1
    have hcv : cv = .bool true := bool_VR (b := true) rfl r2
    subst hcv
    have hblk : ∀ b, b < W.heap.size → W'.heap[b]? = W.heap[b]? := fun b hb => r1.fr.same b hb fun i g hm => by cases hm
    have hout := r1.fr.stp.out
    have hlt : ∀ x ∈ p, x.block < W.heap.size := fun x hx => hW0.lt x (by simp [hx])
    have hsame : ∀ x ∈ p, W.sameAt W' x := by
      intro x hx
      cases x with
      | cell b o => exact World.cell?_of_block (w := W) (hblk b (hlt _ hx))
      | map b => exact hblk b (hlt _ hx)
    obtain ⟨s1, s2, s3⟩ := hspec ds hdl
    have hargs : ∀ sp : Nat → Bool, (∀ x ∈ p, sp x.block = true) → DataW.TrodAll enc P W' 0 sp true fn.params.toList args.toList (s.fn H (ds ++ [])).args p := by
      intro sp hsp
      rw [List.append_nil, s2]
      exact trodAll_stays hlaid (fun t ht => (hpar' t ht).2) hA hsame hsp
    have hresT : ∀ (b : Nat) (sp : Nat → Bool) (hd : Bool), DataW.TrodAll enc P W' b sp hd fn.resultTypes.toList ((Value.bool true).resultList fn.resultTypes.size) (s.fn H (ds ++ [])).results [] := by
      intro b sp hd
      rw [List.append_nil, s1, hres]
      exact trodAll_mk1 (shut_bool htb true)
    have hold : ∀ x ∈ p, (fun b => decide (b < W.heap.size)) x.block = true := fun x hx => by simpa using hlt x hx
    have hvarsT : ∀ sp : Nat → Bool, DataW.TrodVars enc P W' sp s.vars (s.fn H (ds ++ [])).vars [] := by
      intro sp
      rw [List.append_nil, s3, hvars]
      exact rfl
    refine ⟨.bool true, rfl, ds, [], p ++ [], [], p, [], hW0, hresT _ _ _, hargs _ hold, hvarsT _, ?_, fun _ => ?_⟩
    · refine ⟨hout.1, hout.2, fun i hi => ?_⟩
      rw [hblk i hi]
      split <;> simp_all
    · refine ⟨ok_one hres rfl (okWide_bool_mk htb true), _, _, ([] ++ p) ++ [], ⟨[] ++ p, [], trodAll_append (hargs _ (fun _ _ => rfl)) (hresT _ _ _), hvarsT _, rfl, ?_, ?_⟩, ?_⟩
      · intro b off hp'
        have hin : MemPlace.cell b off ∈ p := by simpa using hp'
        have : W'.frozen? ⟨b, off, Option.none⟩ = W.frozen? ⟨b, off, Option.none⟩ := World.frozen?_of_block (w := W) (hblk b (hlt _ hin))
        rw [this]
        exact hfz b off (by simpa using hin)
      · intro ha
        have := hnd ha
        simpa using this
      · intro x hx _
        simpa using hx
end

end Am

/- AM: functions of the library that are told, not run. -/
namespace Am
open Go
/-- strings.Index. -/
def pIndex : List V → Option V
  | [a, b] => a.str?.bind fun x => b.str?.bind fun y => bif Nat.blt x.size 4294967281 then some (vInt .i64 (Lib.index x.data.toList y.data.toList)) else none
  | _ => none
end Am

/- The annotation, printed by annot.py. -/
namespace AnZ
open Am

/-- gosem.cut.init -/
def ra2 : List RA := [{ killT := [0] }]

/-- selvage.selvagelaw15.GenMany -/
def ra3 : List RA := [{ killT := [4] },
  { killT := [16] },
  { killT := [17, 18, 19, 20] },
  { killT := [17, 21] },
  { killT := [22, 23, 24, 25] },
  { killT := [22, 26, 27] },
  { ops := [(1, .loc 0)], killT := [28] },
  {},
  { killT := [29, 30] },
  { killT := [7, 32, 33, 50] },
  { ops := [(7, .loc 1)], killT := [31, 34, 35, 36, 37, 38, 39, 40] },
  { killT := [41] },
  { killT := [44] },
  { killT := [45] },
  { killT := [7, 42, 43, 46, 47, 48, 49] },
  { killT := [42, 43, 51] },
  { killT := [7, 50, 52, 53, 54, 55] },
  { killT := [0, 1, 5, 6, 31, 56, 57, 58] },
  { ops := [(6, .loc 2)], killT := [59, 60, 61, 62, 63, 64] },
  { ops := [(6, .loc 3)], killT := [8, 65, 66, 67, 68, 69, 70], killL := [0, 1] },
  { killT := [9, 12, 71, 72, 73], killL := [2, 3] },
  { killT := [10, 11, 13, 14, 15, 74, 75, 76, 77, 78, 79, 80, 81, 82, 83, 84, 85, 86, 87] }]

/-- selvage.gen.Code -/
def ra4 : List RA := [{ ops := [(0, .loc 0)], killT := [7, 8] },
  { ops := [(1, .thaw [(1, 0), (2, 0)]), (2, .heap)], killT := [1, 16, 17, 18] },
  { ops := [(1, .thaw [(0, 4)]), (2, .loc 1)], killT := [2, 19, 20] },
  { killT := [0] },
  {},
  { ops := [(3, .loc 2)], killT := [24, 25, 26, 27] },
  { ops := [(1, .thaw [(1, 3)]), (2, .heap)], killT := [28, 29, 30] },
  { killT := [31, 32, 33, 34] },
  { killT := [35, 36, 37] },
  { killT := [38, 39, 40, 41, 42] },
  { killT := [15, 43, 44, 45, 46, 47, 48, 49, 50, 51, 52, 53, 54, 55, 56, 57, 58, 59, 60, 61, 62, 63, 64, 65, 66, 67, 68, 69, 70] },
  { killT := [9, 10, 11, 12, 13, 14, 21, 22, 23, 71, 72, 73], killL := [2] },
  { ops := [(10, .frz), (13, .arrH 4 true)], killT := [11, 12, 13, 14, 71, 74, 75, 76, 77, 78, 79, 80, 81, 82, 83, 84, 85, 86, 87, 88], killL := [2] },
  { killT := [89] },
  { killT := [9, 21, 22, 23, 24, 90, 91, 92, 93, 94, 95, 96, 97, 98, 99] },
  { ops := [(0, .frz)], killT := [100, 101] },
  { killT := [10, 102, 103] },
  { ops := [(0, .frz)], killT := [10, 102, 104] }]

/-- selvage.selvageref15.Code -/
def ra5 : List RA := [{ ops := [(0, .loc 0)], killT := [7, 8] },
  { ops := [(1, .thaw [(1, 0), (2, 0)]), (2, .heap)], killT := [1, 16, 17, 18] },
  { ops := [(1, .thaw [(0, 4)]), (2, .loc 1)], killT := [2, 19, 20] },
  {},
  { killT := [21, 22, 23] },
  { killT := [25, 26] },
  { ops := [(6, .frz)], killT := [24, 27, 28, 29, 30, 31, 32, 33] },
  { killT := [34, 35, 36, 37, 38, 39] },
  {},
  {},
  { killT := [40, 41, 42] },
  { killT := [44, 45] },
  { killT := [43, 46, 47, 48, 49, 50, 51, 52, 53, 54, 55, 56, 57, 58, 59, 60, 61, 62] },
  { killT := [14, 15, 43, 63, 64, 65, 66, 67, 68, 69, 70, 71, 72, 73, 74, 75, 76, 77, 78, 79, 80, 81, 82, 83, 84, 85, 86, 87, 88, 89, 90, 91, 92, 93] },
  { killT := [0, 9, 10, 11, 12, 13, 94, 95, 96] },
  { ops := [(16, .arrH 4 true)], killT := [12, 13, 94, 97, 98, 99, 100, 101, 102, 103, 104, 105, 106, 107, 108, 109, 110, 111, 112, 113, 114] },
  { killT := [0, 11, 24, 115, 116, 117, 118, 119] },
  { killT := [9, 120, 121, 122, 123, 124] },
  { ops := [(0, .frz)], killT := [125, 126] },
  { killT := [10, 127, 128] },
  { ops := [(0, .frz)], killT := [10, 127, 129] }]

/-- selvage.selvageref13.Same -/
def ra6 : List RA := [{ ops := [(0, .imm), (1, .imm)], killT := [0, 1, 4] },
  { killT := [11, 12, 13, 14, 15, 16, 17, 18, 19, 20, 21, 22, 23, 24, 25, 26, 27, 28, 29, 30, 31, 32, 33, 34, 35, 36, 37, 38, 39, 40, 41] },
  { killT := [2, 3, 42] },
  { killT := [42] },
  { killT := [43, 44, 45, 46] },
  { killT := [48, 49, 60] },
  { killT := [47, 50, 51, 52, 53, 54, 55, 56, 57, 58, 59] },
  { killT := [2, 3, 5, 60] },
  { killT := [5, 47] },
  { killT := [61, 62, 63, 64] },
  { killT := [66, 67, 78] },
  { killT := [65, 68, 69, 70, 71, 72, 73, 74, 75, 76, 77] },
  { killT := [2, 3, 6, 78] },
  { killT := [6, 65] },
  { killT := [79, 80, 81, 82] },
  { killT := [8, 9, 10, 84, 85, 128], killL := [0, 1] },
  { ops := [(5, .loc 0)], killT := [83, 86, 87, 88, 89, 90] },
  { ops := [(5, .loc 1)], killT := [91, 92, 93, 94, 95] },
  { killT := [96, 97, 98, 99, 100, 101, 102, 103, 104, 105, 106, 107, 108, 109, 110, 111, 112, 113, 114, 115, 116, 117, 118, 119, 120, 121, 122] },
  { killT := [2, 3, 7, 8, 9, 123], killL := [0, 1] },
  { killT := [123] },
  { killT := [124, 125, 126, 127] },
  { killT := [129, 130, 141] },
  { killT := [128, 131, 132, 133, 134, 135, 136, 137, 138, 139, 140] },
  { killT := [2, 3, 7, 8, 9, 10, 141], killL := [0, 1] },
  { killT := [2, 3, 7, 83] }]

/-- selvage.selvagelaw15.lives -/
def ra7 : List RA := [{ killT := [0] },
  { ops := [(1, .loc 0)], killT := [5] },
  { ops := [(11, .loc 1)], killT := [1, 3, 6, 7, 8, 9, 10, 11, 12, 13, 14, 15, 16], killL := [0] },
  { killT := [17, 18, 19, 20, 21, 22, 23, 24, 25, 26, 27, 28] },
  { killT := [2, 4, 29], killL := [1] },
  { killT := [2, 4, 29, 30, 31, 32, 33, 34, 35, 36, 37, 38, 39, 40, 41, 42, 43, 44, 45, 46, 47, 48, 49, 50, 51, 52, 53, 54, 55, 56, 57, 58, 59, 60, 61, 62, 63, 64, 65, 66, 67, 68, 69, 70, 71, 72, 73, 74], killL := [1] }]

/-- (*selvage.gen.writer).exp -/
def ra8 : List RA := [{ ops := [(0, .imm)], killT := [1] },
  { killT := [7, 8, 9, 10, 11] },
  { killT := [12, 13, 14, 15, 16] },
  { killT := [17] },
  { killT := [0, 2, 4, 6, 18, 19, 20, 21, 22, 23] },
  { killT := [6, 18, 24] },
  { killT := [4, 26, 27, 28, 77] },
  { killT := [30] },
  { killT := [4, 25, 29, 31, 32, 33, 34, 35, 36, 37, 38, 39, 40, 41, 42] },
  { killT := [29, 44] },
  { killT := [4, 25, 43, 45, 46, 47, 48, 49, 50, 51, 52, 53, 54, 55, 56] },
  { killT := [43, 58] },
  { killT := [4, 25, 57, 59, 60, 61] },
  { killT := [57, 63] },
  { killT := [4, 25, 62, 64, 65, 66] },
  { killT := [62, 68] },
  { killT := [25, 67, 69, 70] },
  { killT := [4, 71, 72, 73, 74] },
  { killT := [75, 76] },
  { killT := [25, 67, 78] },
  { killT := [77, 79, 80, 81] },
  { killT := [82, 83] },
  { killT := [4, 84, 85, 86] },
  { killT := [4, 84, 87, 88, 89, 90, 91, 92, 93] },
  { killT := [2] },
  { killT := [0, 94, 95, 96] }]

/-- selvage.gen.needs -/
def ra9 : List RA := [{ ops := [(0, .imm)], killT := [0, 2] },
  { killT := [7, 8, 9, 10] },
  {},
  { killT := [1, 11] },
  {},
  { ops := [(3, .loc 0)], killT := [15, 16, 17, 18] },
  {},
  { killT := [19] },
  { killT := [5, 6, 19, 20, 21, 22, 23, 24, 25], killL := [0] },
  { killT := [26] },
  { killT := [3, 4, 12, 13, 14, 15, 27] }]

/-- slices.ContainsFunc[[]selvage.api.Instr,selvage.api.Instr] -/
def ra10 : List RA := [{ killT := [4] },
  { killT := [0, 1, 5, 6, 7, 8] }]

/-- selvage.gen.Code$1 -/
def ra11 : List RA := [{ ops := [(0, .imm)], killT := [0, 2] },
  { killT := [1, 3, 4, 5, 6, 7, 8, 9, 10] }]

/-- selvage.verify.Code -/
def ra12 : List RA := [{ ops := [(0, .imm)], killT := [0, 2] },
  { killT := [8, 9] },
  { killT := [1, 10] },
  { killT := [10, 11] },
  {},
  { ops := [(3, .loc 0)], killT := [15, 16, 17, 18] },
  { ops := [(4, .heap)], killT := [3, 4, 19, 20, 21, 22, 23], killL := [0] },
  { killT := [5, 6, 24, 25, 26, 27, 28] },
  { killT := [7, 29] },
  { killT := [1, 12, 13, 14, 30] },
  { killT := [30, 31] },
  { killT := [1, 12, 13, 14, 15] }]

/-- (*selvage.selvageref15.G).Exp -/
def ra13 : List RA := [{ ops := [(0, .imm)], killT := [1, 8] },
  { killT := [14] },
  { killT := [15, 16, 17, 18] },
  { killT := [15, 19, 20, 21] },
  { ops := [(0, .arrH 3 true)], killT := [0, 2, 3, 5, 22] },
  { ops := [(0, .arrH 3 true)], killT := [22] },
  { killT := [23] },
  { killT := [0, 2, 25, 26, 27, 28, 169] },
  { killT := [29, 30, 31, 32, 33, 34, 35] },
  { ops := [(2, .loc 0)], killT := [10, 36, 37] },
  { killT := [11] },
  { killT := [38, 39, 40, 41] },
  { killT := [12, 38] },
  { killT := [5, 42, 43, 44, 45, 46] },
  { ops := [(3, .arrH 3 true)], killT := [5, 13, 42, 47, 48, 49, 50], killL := [0] },
  { killT := [52] },
  { killT := [53] },
  { killT := [24, 51, 54, 55, 56, 57, 58, 59, 60] },
  { killT := [61, 62] },
  { ops := [(5, .arrH 3 true)], killT := [63, 64, 65, 66, 67, 68, 69] },
  { killT := [63, 70, 71, 72, 73, 74] },
  { ops := [(3, .arrH 3 true)], killT := [75, 76, 77, 78, 79] },
  { ops := [(11, .frz), (12, .arrH 3 true)], killT := [0, 2, 3, 5, 9, 75, 80, 81, 82, 83, 84, 85, 86, 87, 88, 89, 90, 91, 92] },
  { killT := [51, 94] },
  { killT := [0, 2, 3, 5, 9, 24, 93, 95, 96, 97, 98, 99] },
  { killT := [93, 101] },
  { killT := [0, 2, 3, 5, 9, 24, 100, 102, 103, 104, 105, 106] },
  { killT := [100, 108] },
  { killT := [0, 2, 5, 24, 107, 109, 110, 111, 112] },
  { killT := [3] },
  { ops := [(3, .arrH 3 true)], killT := [9, 113, 114, 115, 116, 117] },
  { ops := [(3, .arrH 3 true)], killT := [9, 113, 118, 119, 120, 121] },
  { killT := [107, 123] },
  { ops := [(7, .arrH 3 true)], killT := [0, 2, 5, 24, 122, 124, 125, 126, 127, 128, 129, 130, 131] },
  { killT := [122, 133] },
  { ops := [(7, .arrH 3 true)], killT := [0, 2, 5, 24, 132, 134, 135, 136, 137, 138, 139, 140, 141] },
  { killT := [132, 143] },
  { ops := [(3, .arrH 3 true)], killT := [24, 142, 144, 145, 146, 147] },
  { ops := [(8, .frz), (9, .arrH 3 true)], killT := [0, 2, 5, 148, 149, 150, 151, 152, 153, 154, 155, 156, 157] },
  { ops := [(3, .arrH 3 true)], killT := [158, 159, 160, 161] },
  { killT := [9, 142, 163] },
  { killT := [164] },
  { killT := [0, 2, 5, 24, 162, 165, 166, 167, 168] },
  { killT := [24, 162, 170] },
  { killT := [0, 2, 5, 169, 171, 172, 173, 174] },
  { killT := [3] },
  { ops := [(3, .arrH 3 true)], killT := [175, 176, 177, 178, 179] },
  { killT := [9, 175, 180] }]

/-- selvage.selvageref15.Needs -/
def ra14 : List RA := [{ ops := [(0, .imm)], killT := [0, 2] },
  {},
  { killT := [7, 8, 9] },
  {},
  { killT := [10, 11, 12, 13] },
  { killT := [6, 15, 16, 30] },
  { killT := [14, 17, 18, 19, 20, 21, 22] },
  { killT := [23] },
  { killT := [24, 25, 26, 27] },
  { killT := [24, 28, 29] },
  { killT := [6, 30, 31] },
  { killT := [1, 3, 4, 5, 14, 32] }]

/-- selvage.selvageref14.Code -/
def ra15 : List RA := [{ ops := [(0, .imm)], killT := [0, 2] },
  { killT := [7, 8] },
  { killT := [3, 9] },
  { killT := [1, 10] },
  { killT := [10] },
  { killT := [11, 12, 13, 14] },
  { killT := [16, 17, 25] },
  { killT := [5, 15, 18, 19, 20, 21, 22, 23] },
  { killT := [6, 24] },
  { killT := [1, 4, 25] },
  { killT := [1, 4, 15] }]

/-- selvage.gen.readers -/
def ra16 : List RA := [{ killT := [0] },
  { ops := [(0, .loc 0), (6, .frz)], killT := [1, 2] }]

/-- (*selvage.gen.writer).put -/
def ra17 : List RA := [{ killT := [6] },
  { ops := [(2, .loc 0)], killT := [1, 8, 9] },
  { killT := [10, 11] },
  { killT := [12, 13, 14, 15, 16] },
  { killT := [12, 17, 18] },
  { killT := [2, 19, 20, 21, 22, 23] },
  { killT := [2, 19, 24, 25, 26, 27, 28] },
  { ops := [(7, .arrH 3 true)], killT := [7, 29, 30, 31, 32, 33, 34, 35, 36, 37, 38, 39], killL := [0] },
  { killT := [0, 7, 29, 40, 41, 42, 43, 44, 45], killL := [0] }]

/-- selvage.gen.place[int] -/
def ra18 : List RA := [{ killT := [4] },
  { killT := [6, 7, 8, 9, 10] },
  { killT := [11] },
  { killT := [12, 13, 14, 15, 16] },
  { ops := [(6, .arrH 0 true)], killT := [0, 1, 17, 18, 19, 20, 21, 22, 23, 24] },
  { killT := [0, 1, 5, 12, 25] }]

/-- selvage.gen.place[string] -/
def ra19 : List RA := [{ killT := [4] },
  { killT := [6, 7, 8, 9, 10] },
  { killT := [11] },
  { killT := [12, 13, 14, 15, 16] },
  { ops := [(6, .arrH 0 true)], killT := [0, 1, 17, 18, 19, 20, 21, 22, 23, 24] },
  { killT := [0, 1, 5, 12, 25] }]

/-- (*selvage.gen.writer).either -/
def ra20 : List RA := [{ ops := [(0, .imm)], killT := [1] },
  { killT := [2, 12, 13, 14] },
  { killT := [15, 16, 17, 18] },
  { killT := [3, 19, 20, 21] },
  { killT := [22, 23] },
  { killT := [10, 24, 25, 26, 27] },
  { killT := [4] },
  { killT := [28, 29, 30, 31, 32, 33] },
  { killT := [6, 28, 34, 35, 36, 37] },
  { killT := [0, 11, 38, 39, 40, 41] }]

/-- selvage.gen.kid -/
def ra21 : List RA := [{ ops := [(0, .imm), (1, .loc 0)], killT := [0] },
  { killT := [5, 6, 7, 8] },
  { killT := [1, 2, 9, 10] },
  { killT := [1, 2, 9, 11, 12, 13, 14, 15] }]

/-- (*selvage.gen.writer).kids -/
def ra22 : List RA := [{ ops := [(0, .imm)], killT := [1] },
  { killT := [3, 6] },
  {},
  { ops := [(2, .loc 0)], killT := [10, 11, 12] },
  { killT := [5, 13, 14, 15], killL := [0] },
  { killT := [16] }]

/-- strings.Index -/
def ra23 : List RA := [{ killT := [4] },
  { killT := [0, 1, 5, 6, 7] }]

/-- (*selvage.gen.writer).rest -/
def ra24 : List RA := [{ ops := [(0, .imm)], killT := [1] },
  { killT := [4, 5, 6] },
  { killT := [0, 3, 7, 8, 9, 10, 11, 12, 13, 14, 15, 16, 17, 18, 31] },
  { killT := [20, 21, 22, 23, 24] },
  { killT := [0, 3, 19, 25, 26, 27, 28, 29, 30] },
  { killT := [19, 32, 33, 34, 35, 36] },
  { killT := [0, 3, 31, 37, 38, 39, 40, 41, 42, 43, 44, 45] }]

/-- slices.Contains[[]int,int] -/
def ra25 : List RA := [{ killT := [4] },
  { killT := [0, 1, 5, 6, 7, 8] }]

/-- slices.IndexFunc[[]selvage.api.Instr,selvage.api.Instr] -/
def ra26 : List RA := [{ killT := [4] },
  { killT := [6] },
  {},
  { killT := [9, 10] },
  { killT := [11, 12, 13, 14, 15] },
  { killT := [0, 1, 5, 7, 8, 16, 17] },
  { killT := [5, 16, 18] },
  { killT := [0, 1, 7, 8, 9] }]

/-- selvage.code.May -/
def ra27 : List RA := [{ ops := [(0, .imm)], killT := [0, 2] },
  { killT := [4, 5, 6, 7, 8, 9, 10, 11, 12, 13, 14, 15, 16, 17, 18, 19, 20, 21, 22, 23, 24] },
  { killT := [1, 3, 25, 26, 27, 28, 29, 30, 31, 32, 33, 34, 35, 36, 37, 38, 39, 40, 41, 42, 43] }]

/-- (*selvage.verify.walker).walk -/
def ra28 : List RA := [{ killT := [2, 3] },
  { ops := [(6, .arrH 0 false)], killT := [10, 11, 12, 13, 14, 15, 16] },
  { ops := [(2, .arrL 1 3 true)], killT := [17, 18, 19] },
  { killT := [20, 21], preT := [77] },
  { ops := [(6, .loc 0)], killT := [22, 23, 24, 25, 26, 27, 28] },
  { killT := [29, 30, 31, 32, 33] },
  { killT := [35, 36, 37, 38, 39, 40, 41, 42, 43, 44, 45, 46, 47, 48, 49, 50] },
  { killT := [0, 4, 5, 6, 34], killL := [0, 1] },
  { killT := [34, 52, 53, 54, 55, 56, 57] },
  { ops := [(2, .heap)], killT := [51, 58, 59] },
  { killT := [60, 61, 62, 63] },
  { killT := [6, 7, 64, 65, 66, 67, 68, 69, 70, 71], killL := [0] },
  { killT := [9, 72] },
  { killT := [0, 4, 5, 8, 73], killL := [1] },
  { ops := [(2, .arrL 1 3 true)], killT := [8, 73, 74, 75, 76] },
  { killT := [6, 51, 78, 79, 80, 81, 82, 83, 84, 85, 86, 87, 88], killL := [0] },
  { killT := [0, 4, 5, 77], killL := [1] },
  { killT := [0, 4, 5, 22, 89], killL := [1] }]

/-- selvage.selvageref15.one -/
def ra29 : List RA := [{ ops := [(0, .loc 0)] },
  { killT := [0, 1, 2, 7, 8, 9, 10] }]

/-- (*selvage.selvageref15.G).branch -/
def ra30 : List RA := [{ ops := [(0, .imm)], killT := [1, 8] },
  { killT := [13, 14, 15, 16, 17, 18, 19] },
  { ops := [(11, .frz)], killT := [20, 21, 22, 23, 24, 25, 26, 27, 28, 29, 30, 31] },
  { killT := [2, 32, 33, 34, 35, 36, 37, 38, 39] },
  { killT := [40] },
  { killT := [41, 42, 43] },
  { ops := [(7, .frz)], killT := [0, 5, 41, 44, 45, 46, 47, 48, 49, 50, 51] },
  { ops := [(4, .arrH 3 true)], killT := [52, 53, 54, 55, 56] },
  { ops := [(2, .arrH 3 true)], killT := [10, 57, 58, 59] },
  { killT := [3, 60] },
  { ops := [(7, .arrH 3 true)], killT := [11, 61, 62, 63, 64, 65, 66, 67, 68, 69] },
  { ops := [(2, .arrH 3 true)], killT := [9, 11, 12, 61, 70, 71, 72] }]

/-- (*selvage.selvageref15.G).match -/
def ra31 : List RA := [{ ops := [(0, .imm)], killT := [1, 8] },
  { killT := [18, 19, 20, 21, 22, 23, 24] },
  { ops := [(5, .arrH 3 true)], killT := [25, 26, 27, 28, 29, 30] },
  { killT := [31, 32] },
  { ops := [(10, .frz), (11, .arrH 3 true)], killT := [33, 34, 35, 36, 37, 38, 39, 40, 41, 42, 43, 44] },
  { killT := [45, 46] },
  { ops := [(0, .arrH 0 true)] },
  {},
  { killT := [47, 48, 49, 50] },
  { killT := [52, 53, 145] },
  { killT := [51, 54] },
  { killT := [55, 56] },
  { killT := [58, 59, 75] },
  { killT := [57, 60, 61, 62, 63, 64, 65, 66, 67, 68, 69, 70, 71, 72, 73, 74] },
  { killT := [75, 76, 77, 78, 79, 80, 81, 82, 83] },
  { killT := [14, 57] },
  { killT := [84, 85, 86, 87, 88, 89, 90] },
  { killT := [92, 93] },
  { ops := [(13, .arrH 3 true)], killT := [91, 94, 95, 96, 97, 98, 99, 100, 101, 102, 103, 104, 105, 106, 107] },
  { ops := [(12, .arrH 3 true)], killT := [108, 109, 110, 111, 112, 113, 114, 115, 116, 117, 118, 119, 120] },
  { ops := [(13, .frz), (14, .arrH 3 true)], killT := [15, 91, 121, 122, 123, 124, 125, 126, 127, 128, 129, 130, 131, 132, 133, 134, 135] },
  { killT := [136, 137, 138, 139, 140, 141, 142, 143, 144] },
  { ops := [(4, .arrH 0 true)], killT := [145, 146, 147, 148, 149, 150] },
  { ops := [(3, .arrH 3 true)], killT := [151, 152, 153, 154] },
  { killT := [0, 3, 5, 10, 11, 13, 51] },
  { killT := [155, 156, 157] },
  { killT := [159, 160] },
  { killT := [158, 161, 162, 163, 164] },
  { killT := [17, 165, 166, 167, 168, 169, 170, 171, 172] },
  { killT := [2, 9, 12, 16, 158, 173] }]

/-- (*selvage.selvageref15.G).kids -/
def ra32 : List RA := [{ ops := [(0, .imm)], killT := [1, 6] },
  { ops := [(0, .arrH 3 true)] },
  {},
  { killT := [9, 10, 11, 12] },
  { killT := [14, 15] },
  { ops := [(11, .frz), (12, .arrH 3 true)], killT := [13, 16, 17, 18, 19, 20, 21, 22, 23, 24, 25, 26, 27, 28] },
  { killT := [0, 2, 4, 7, 8, 13, 29] }]

/-- (*selvage.selvageref15.G).number -/
def ra33 : List RA := [{ killT := [4] },
  {},
  { killT := [6, 7, 8, 9, 10, 11] },
  { killT := [13, 14, 23] },
  { killT := [12, 15, 16, 17, 18, 19, 20, 21, 22] },
  { killT := [0, 1, 5, 23, 24] },
  { ops := [(7, .arrH 0 true)], killT := [1, 5, 12, 25, 26, 27, 28, 29, 30, 31, 32, 33, 34] },
  { killT := [0, 35, 36, 37, 38, 39, 40] }]

/-- (*selvage.selvageref15.G).text -/
def ra34 : List RA := [{ killT := [4] },
  {},
  { killT := [6, 7, 8, 9, 10, 11] },
  { killT := [13, 14, 23] },
  { killT := [12, 15, 16, 17, 18, 19, 20, 21, 22] },
  { killT := [0, 1, 5, 23, 24] },
  { ops := [(7, .arrH 0 true)], killT := [1, 5, 12, 25, 26, 27, 28, 29, 30, 31, 32, 33, 34] },
  { killT := [0, 35, 36, 37, 38, 39, 40] }]

/-- (*selvage.selvageref15.G).either -/
def ra35 : List RA := [{ ops := [(0, .imm)], killT := [1, 6] },
  {},
  {},
  { killT := [13, 14] },
  { killT := [8, 15] },
  {},
  { ops := [(7, .frz)], killT := [15, 16, 17, 18, 19, 20, 21, 22, 23] },
  { killT := [2, 24, 25, 26, 27, 28, 29] },
  { ops := [(0, .arrH 3 true)] },
  { ops := [(5, .arrH 3 true)], killT := [7, 30, 31, 32, 33, 34, 35] },
  { ops := [(2, .arrH 3 true)], killT := [9, 36, 37, 38] },
  { ops := [(4, .arrH 3 true)], killT := [8, 39, 40, 41, 42, 43] },
  { ops := [(0, .arrH 3 true)] },
  { killT := [44, 45] },
  { ops := [(5, .arrH 3 true)], killT := [46, 47, 48, 49, 50, 51, 52] },
  { ops := [(10, .frz), (11, .arrH 3 true)], killT := [0, 4, 46, 53, 54, 55, 56, 57, 58, 59, 60, 61, 62, 63, 64] },
  { ops := [(7, .arrH 3 true)], killT := [10, 65, 66, 67, 68, 69, 70, 71, 72] },
  { ops := [(1, .frz), (2, .arrH 3 true)], killT := [11, 12, 73, 74, 75] }]

/-- (*selvage.selvageref15.G).op -/
def ra36 : List RA := [{ ops := [(0, .imm)], killT := [1, 6] },
  { killT := [0, 2, 10, 11, 12, 13] },
  { killT := [14, 15] },
  { ops := [(3, .arrH 3 true)], killT := [4, 7, 16, 17, 18, 19, 20] },
  { killT := [16, 21] },
  {},
  { killT := [22] },
  { killT := [24, 25, 32] },
  { killT := [23, 26, 27, 28, 29, 30, 31] },
  { ops := [(4, .arrH 3 true)], killT := [32, 33, 34, 35, 36, 37] },
  { killT := [4, 7, 8, 9, 23, 38] }]

/-- selvage.selvageref15.simple -/
def ra37 : List RA := [{ killT := [2, 3, 4] },
  { killT := [0] },
  { killT := [7] },
  { killT := [5, 6] },
  { killT := [6, 9] },
  { killT := [5, 8] },
  { killT := [8, 11] },
  { killT := [5, 10] },
  { killT := [10, 13] },
  { killT := [5, 12] },
  { killT := [12, 15] },
  { killT := [5, 14] },
  { killT := [14, 17] },
  { killT := [5, 16] },
  { killT := [16, 19] },
  { killT := [5, 18] },
  { killT := [18, 21] },
  { killT := [5, 20] },
  { killT := [20, 23] },
  { killT := [5, 22] },
  { killT := [22, 25] },
  { killT := [5, 24] },
  { killT := [24, 27] },
  { killT := [5, 26] },
  { killT := [26, 29] },
  { killT := [5, 28] },
  { killT := [28, 31] },
  { killT := [5, 30] },
  { killT := [5, 30, 33] },
  { killT := [32] },
  { killT := [32] }]

/-- selvage.selvageref15.Apart -/
def ra38 : List RA := [{ killT := [2] },
  { killT := [0] },
  { killT := [5] },
  { killT := [6] },
  { killT := [7] },
  { killT := [8] },
  { killT := [9] },
  { killT := [10] },
  { killT := [3, 11] },
  { killT := [3, 4] },
  { killT := [3, 4] }]

/-- selvage.selvageref13.May -/
def ra39 : List RA := [{ ops := [(0, .imm)], killT := [0, 2] },
  { killT := [9, 10, 11, 12, 13, 14, 15, 16, 17, 18, 19, 20, 21, 22, 23, 24, 25, 26, 27, 28, 29, 30, 31, 32, 33, 34, 35, 36, 37, 38, 39] },
  { killT := [1, 40] },
  { killT := [40] },
  { killT := [41, 42, 43, 44] },
  { killT := [46, 47, 61] },
  { killT := [45, 48, 49, 50, 51, 52, 53, 54, 55, 56, 57, 58, 59, 60] },
  { killT := [1, 3, 61] },
  { killT := [3, 45] },
  { killT := [62, 63, 64, 65] },
  { killT := [67, 68, 75] },
  { killT := [66, 69, 70, 71, 72, 73, 74] },
  { killT := [1, 4, 75] },
  { killT := [4, 66] },
  { killT := [76, 77, 78, 79] },
  { killT := [6, 7, 81, 82, 132], killL := [0] },
  { ops := [(5, .loc 0)], killT := [80, 83, 84, 85, 86, 87] },
  { killT := [88, 89, 90, 91, 92, 93, 94, 95, 96, 97, 98, 99, 100, 101, 102, 103, 104, 105, 106, 107, 108, 109, 110, 111, 112, 113, 114, 115, 116, 117, 118, 119, 120, 121, 122, 123, 124, 125, 126] },
  { killT := [1, 5, 6, 127], killL := [0] },
  { killT := [127] },
  { killT := [128, 129, 130, 131] },
  { killT := [133, 134, 142] },
  { killT := [132, 135, 136, 137, 138, 139, 140] },
  { killT := [8, 141] },
  { killT := [1, 5, 6, 7, 142], killL := [0] },
  { killT := [1, 5, 80] }]

/-- selvage.selvageref14.Walk -/
def ra40 : List RA := [{ ops := [(0, .imm)], killT := [0, 4, 5] },
  { ops := [(5, .loc 0)], killT := [11, 12, 13, 14, 15] },
  { ops := [(3, .arrH 3 true)], killT := [16, 17, 18, 19] },
  { killT := [20, 21, 22] },
  { ops := [(3, .arrL 1 0 true)], killT := [23, 24, 25, 26] },
  { preT := [63] },
  { killT := [27, 28, 29, 30, 31, 32, 33, 34, 35, 36, 37, 38, 39, 40, 41, 42, 43, 44] },
  { killT := [45, 46, 47] },
  { killT := [45, 48, 49, 50, 51] },
  { killT := [1, 2, 6, 7, 8, 9, 52, 53], killL := [0, 1] },
  { killT := [52, 54, 55, 56] },
  { killT := [9, 57, 58, 59, 60, 61] },
  { killT := [10, 62] },
  { killT := [1, 2, 6, 7, 8, 63], killL := [0, 1] }]

/-- (*selvage.gen.writer).let -/
def ra41 : List RA := [{ ops := [(0, .imm)], killT := [1] },
  { killT := [6, 7, 8, 9] },
  { killT := [10, 11, 12, 13, 14] },
  { killT := [0, 2, 4, 15, 16, 17, 18, 19] }]

/-- (*selvage.gen.writer).seq -/
def ra42 : List RA := [{ ops := [(0, .imm)], killT := [1] },
  { killT := [6, 7, 8, 9] },
  { killT := [10, 11, 12] },
  { killT := [13, 14, 15] },
  { killT := [0, 2, 4, 13, 16, 17, 18, 19, 20] }]

/-- (*selvage.gen.writer).branch -/
def ra43 : List RA := [{ ops := [(0, .imm)], killT := [1] },
  { killT := [8, 9, 10, 11] },
  { killT := [12, 13] },
  { killT := [14, 15, 16, 17, 18] },
  { ops := [(0, .arrL 0 0 true)] },
  { killT := [19] },
  { ops := [(4, .arrL 0 0 true)], killT := [20, 21, 22, 23, 24, 25] },
  { killT := [6, 20, 26, 27, 28, 29] },
  { killT := [2, 4, 30, 31, 32, 33, 34] },
  { ops := [(1, .frz)], killT := [0, 7, 35, 36, 37], killL := [0] }]

/-- (*selvage.gen.writer).match -/
def ra44 : List RA := [{ ops := [(0, .imm)], killT := [1] },
  { killT := [11, 12, 13, 14] },
  { killT := [15, 16, 17, 18, 19] },
  { ops := [(0, .heap)], killT := [20] },
  { killT := [21, 22, 23, 24, 25, 26, 27] },
  { ops := [(0, .arrL 1 0 true)] },
  { killT := [28, 29] },
  {},
  { killT := [32, 33] },
  { killT := [34, 35, 36, 37, 38] },
  { killT := [39, 40, 41, 42] },
  {},
  { ops := [(2, .loc 0)], killT := [46, 47, 48] },
  { killT := [49, 50, 51, 52, 53, 54] },
  { killT := [10, 55, 56, 57, 58, 59], killL := [0] },
  { killT := [60] },
  { killT := [43, 44, 45, 46, 61, 62, 63, 64, 65, 66, 67] },
  { killT := [8, 68, 69, 70, 71, 72, 73, 74, 75, 76] },
  { ops := [(4, .arrL 1 0 true)], killT := [77, 78, 79, 80, 81, 82] },
  { killT := [77, 83] },
  { ops := [(1, .frz)], killT := [0, 2, 4, 6, 7, 30, 31, 32, 84, 85, 86], killL := [1] }]

/-- (*selvage.gen.writer).call -/
def ra45 : List RA := [{ ops := [(0, .imm)], killT := [1] },
  { killT := [4, 6, 7, 8] },
  { killT := [2] },
  { killT := [0, 9, 10, 11] },
  { killT := [0, 9, 12, 13] }]

/-- slices.Index[[]int,int] -/
def ra46 : List RA := [{ killT := [4] },
  { killT := [6] },
  {},
  { killT := [9, 10] },
  { killT := [11, 12, 13, 14, 15] },
  { killT := [0, 1, 5, 7, 8, 16, 17] },
  { killT := [5, 16, 18] },
  { killT := [0, 1, 7, 8, 9] }]

/-- slices.Index[[]string,string] -/
def ra47 : List RA := [{ killT := [4] },
  { killT := [6] },
  {},
  { killT := [9, 10] },
  { killT := [11, 12, 13, 14, 15] },
  { killT := [0, 1, 5, 7, 8, 16, 17] },
  { killT := [5, 16, 18] },
  { killT := [0, 1, 7, 8, 9] }]

/-- (*selvage.gen.writer).here -/
def ra48 : List RA := [{ killT := [1] },
  {},
  { killT := [9, 10, 11] },
  { killT := [12, 13, 14, 15, 16, 17, 18, 19] },
  { killT := [5, 20, 21, 22, 23, 24, 25, 26, 27, 28, 29, 30, 31, 32] },
  { killT := [5, 20, 33, 34, 35, 36, 37, 38, 39, 40, 41, 42, 43, 44] },
  { killT := [45] }]

/-- internal.stringslite.Index -/
def ra49 : List RA := [{ killT := [4] },
  { killT := [14, 15] },
  { killT := [17, 18, 19, 20, 21, 22, 23] },
  { killT := [0, 1, 5, 16] },
  { killT := [16, 25, 26] },
  { killT := [0, 1, 5, 24, 27, 28, 29, 30] },
  { killT := [24, 32, 33, 34, 35] },
  { killT := [0, 1, 5, 31] },
  { killT := [31, 37, 38, 39, 40, 41, 42, 43, 44] },
  { killT := [0, 1, 5, 36, 45, 46, 47] },
  { killT := [36, 48, 49] },
  { killT := [50, 51] },
  {},
  { killT := [52, 53, 54, 55, 56] },
  {},
  { killT := [57, 58], preT := [132] },
  { killT := [59, 60, 61, 62, 63] },
  { killT := [64, 65, 66, 67, 68, 69, 70, 71] },
  { killT := [72] },
  { killT := [0, 1, 5, 6, 7, 8, 9, 10, 11, 73] },
  { killT := [11, 73, 74, 75, 76, 77] },
  { killT := [64, 78, 79, 80, 81, 82, 83, 84, 85, 86, 87, 88, 89, 90, 91, 92] },
  { killT := [0, 1, 5, 6, 7, 8, 9, 10, 93, 94] },
  { killT := [93, 95, 96] },
  { killT := [97, 98] },
  { killT := [99, 100, 101, 102, 103, 104, 105, 106] },
  { killT := [0, 1, 5, 6, 7, 9, 10, 107, 108, 109, 110, 111, 112] },
  { killT := [113] },
  { killT := [8, 12, 114, 115, 116, 117] },
  { killT := [8, 12, 114] },
  { killT := [107, 118, 119, 120, 121, 122, 123, 124, 125, 126, 127, 128, 129, 130, 131] },
  { killT := [0, 1, 5, 6, 7, 9, 10, 132, 133, 134, 135, 136, 137] },
  { killT := [138] },
  { killT := [8, 13, 139] },
  { killT := [8, 13, 139, 140, 141, 142] },
  { killT := [0, 1, 5, 6, 7, 8, 9, 10, 59] }]

/-- selvage.gen.plain -/
def ra50 : List RA := [{ killT := [0] },
  { ops := [(0, .loc 0), (9, .frz)], killT := [1, 2] }]

/-- selvage.gen.numbered -/
def ra51 : List RA := [{ killT := [0] },
  { ops := [(0, .loc 0), (5, .frz)], killT := [1, 2] }]

/-- selvage.gen.counted -/
def ra52 : List RA := [{ killT := [0] },
  { ops := [(0, .loc 0), (3, .frz)], killT := [1, 2] }]

/-- selvage.code.in -/
def ra53 : List RA := [{ killT := [6] },
  { killT := [0, 1, 2, 7, 8, 9, 10, 11, 12, 13, 14] }]

/-- slices.ContainsFunc[[]selvage.api.Body,selvage.api.Body] -/
def ra54 : List RA := [{ killT := [4] },
  { killT := [0, 1, 5, 6, 7, 8] }]

/-- selvage.code.wrong -/
def ra55 : List RA := [{ ops := [(0, .imm)], killT := [0, 2] },
  { killT := [4, 5, 6, 7, 8, 9, 10, 11, 12, 13, 14, 15, 16, 17, 18, 19, 20, 21, 22] },
  { killT := [1, 3, 23, 24, 25, 26, 27, 28, 29] }]

/-- slices.ContainsFunc[[]int,int] -/
def ra56 : List RA := [{ killT := [4] },
  { killT := [0, 1, 5, 6, 7, 8] }]

/-- selvage.code.May$1 -/
def ra57 : List RA := [{ killT := [2] },
  { killT := [0, 3, 4, 5] }]

/-- slices.ContainsFunc[[]string,string] -/
def ra58 : List RA := [{ killT := [4] },
  { killT := [0, 1, 5, 6, 7, 8] }]

/-- selvage.code.May$2 -/
def ra59 : List RA := [{ killT := [2] },
  { killT := [0, 3, 4, 5] }]

/-- (*selvage.verify.walker).next -/
def ra60 : List RA := [{ ops := [(0, .imm)], killT := [2, 6, 7] },
  { ops := [(8, .loc 0)], killT := [16, 17, 18, 19, 20, 21, 22, 23] },
  {},
  { killT := [24, 25, 26, 27] },
  { killT := [28] },
  { killT := [9, 10, 12, 29] },
  { killT := [0, 11, 30, 31, 32, 33, 34, 35, 36, 37] },
  { killT := [12, 38] },
  { killT := [1, 5, 8, 9, 10, 39] },
  { killT := [0, 11, 29, 39, 40, 41, 42, 43, 44, 45] },
  { killT := [1, 5, 8, 9, 10, 46] },
  { ops := [(8, .loc 1)], killT := [9, 10, 46, 47, 48, 49, 50, 51, 52, 53, 54] },
  { killT := [55] },
  { killT := [58] },
  { killT := [59] },
  { killT := [1, 5, 8, 13, 56, 57, 60, 61, 62, 63] },
  { killT := [57, 65] },
  { killT := [66] },
  { killT := [1, 5, 8, 13, 56, 64] },
  { killT := [64, 68] },
  { killT := [1, 5, 8, 13, 56, 67, 69, 70, 71, 72, 73] },
  { killT := [67, 75] },
  { killT := [1, 5, 8, 13, 56, 74, 76, 77, 78, 79, 80, 81, 82] },
  { killT := [74, 84] },
  { killT := [1, 5, 8, 13, 56, 83, 85, 86, 87, 88, 89, 90, 91] },
  { killT := [83, 93] },
  { killT := [1, 5, 8, 13, 56, 92, 94, 95, 96, 97, 98, 99, 100, 101, 102, 103, 104, 105, 106] },
  { killT := [92, 108] },
  { killT := [1, 5, 8, 13, 56, 107, 109, 110, 111, 112, 113, 114, 115, 116, 117, 118, 119, 120] },
  { killT := [107, 122] },
  { killT := [1, 5, 8, 13, 56, 121, 123, 124, 125, 126, 127, 128, 129, 130, 131, 132, 133, 134] },
  { killT := [121, 136] },
  { killT := [137] },
  { killT := [56, 138] },
  { ops := [(1, .loc 3), (5, .frz), (13, .loc 2)], killT := [5, 8, 13, 56, 135, 139, 140, 141, 142, 143, 144, 145, 146, 147, 148], killL := [0, 1, 3] },
  { killT := [1, 14, 15, 149, 150, 151, 152, 153, 154] },
  { killT := [1, 5, 8, 13, 56, 135, 155, 156] }]

/-- selvage.verify.same -/
def ra61 : List RA := [{ ops := [(0, .imm), (1, .imm)], killT := [0, 1, 4] },
  { killT := [2, 3, 5, 6, 7, 8, 9, 10, 11, 12, 13, 14, 15, 16] }]

/-- (*selvage.selvageref15.G).tree -/
def ra62 : List RA := [{ ops := [(0, .imm)], killT := [1, 8] },
  { killT := [18] },
  { killT := [19, 20, 21, 22] },
  { killT := [19, 23, 24, 25] },
  { ops := [(0, .arrH 3 true)], killT := [0, 2, 3, 5, 26] },
  { killT := [26, 27, 28, 29, 30, 31, 32, 33, 34, 35] },
  { killT := [0, 2, 3, 5, 36, 37, 38, 39, 40, 41] },
  { killT := [36, 42, 43, 44] },
  { ops := [(1, .loc 0)], killT := [45] },
  { killT := [46, 47, 48] },
  { killT := [49, 50, 51, 52, 53] },
  { killT := [49, 54, 55] },
  { killT := [56, 57, 58, 59, 60, 61] },
  { ops := [(0, .arrH 3 true)] },
  { ops := [(0, .arrH 0 true)] },
  {},
  { killT := [62, 63] },
  { killT := [65, 66] },
  { ops := [(5, .arrH 3 true)], killT := [64, 67, 68, 69, 70, 71, 72] },
  { killT := [73, 74, 75, 76, 77, 78] },
  { killT := [79, 80, 81, 82, 83, 84, 85, 86, 87, 88, 89] },
  { killT := [90] },
  { killT := [15, 91, 92, 93, 94, 95, 96, 97, 98, 99] },
  { ops := [(4, .arrH 0 true)], killT := [15, 91, 100, 101, 102, 103, 104] },
  { ops := [(4, .arrH 3 true)], killT := [14, 105, 106, 107, 108, 109] },
  { ops := [(8, .frz), (9, .arrH 3 true)], killT := [10, 13, 64, 110, 111, 112, 113, 114, 115, 116, 117, 118, 119], killL := [0] },
  {},
  { killT := [120, 121] },
  { killT := [123, 124] },
  { killT := [122, 125, 126, 127, 128] },
  { killT := [17, 129, 130, 131, 132, 133, 134, 135, 136] },
  { ops := [(13, .frz), (14, .arrH 3 true)], killT := [137, 138, 139, 140, 141, 142, 143, 144, 145, 146, 147, 148, 149, 150, 151] },
  { killT := [0, 2, 3, 5, 9, 11, 12, 16, 122, 152] }]

/-- selvage.selvageref15.look -/
def ra63 : List RA := [{ killT := [4] },
  { ops := [(2, .arrL 0 3 true)], killT := [0, 7, 8, 9] },
  {},
  { killT := [10, 11, 12] },
  { killT := [14, 15] },
  { ops := [(7, .arrL 0 3 true)], killT := [13, 16, 17, 18, 19, 20, 21, 22, 23] },
  { killT := [1, 5, 6, 13, 24] }]

/-- selvage.selvageref13.Instr -/
def ra64 : List RA := [{ ops := [(0, .imm)], killT := [0, 2] },
  { killT := [4, 5, 6] },
  { killT := [7, 8, 9, 10, 11, 12, 13, 14, 15, 16, 17, 18, 19, 20, 21, 22, 23, 24, 25, 26, 27] },
  { killT := [1, 3, 28] },
  { killT := [1, 3, 28, 29, 30, 31, 32, 33, 34, 35, 36, 37, 38, 39, 40, 41, 42, 43, 44] }]

/-- selvage.selvageref14.step -/
def ra65 : List RA := [{ ops := [(0, .imm)], killT := [0, 8] },
  { ops := [(5, .loc 0)], killT := [24, 25, 26, 27, 28] },
  { ops := [(5, .loc 1)], killT := [29, 30, 31, 32, 33] },
  { ops := [(4, .loc 2)], killT := [34, 35, 36, 37] },
  { killT := [1, 4, 38, 39, 40, 41, 42, 43, 44, 45] },
  {},
  { killT := [46, 47, 48] },
  { killT := [49, 50, 51, 52, 53, 54, 55, 56, 57, 58] },
  { killT := [12, 15, 49, 59, 60, 61, 62, 63, 64, 65, 66, 67, 68, 69, 70, 71, 72, 73, 74] },
  { killT := [2, 3, 9, 10, 11, 13, 14, 75], killL := [0, 1, 2] },
  { ops := [(10, .loc 3)], killT := [13, 14, 75, 76, 77, 78, 79, 80, 81, 82, 83, 84, 85] },
  {},
  { killT := [2, 86, 87] },
  { killT := [88] },
  { killT := [91] },
  { killT := [92] },
  { killT := [3, 9, 10, 11, 16, 17, 18, 89, 90, 93, 94, 95, 96], killL := [0, 1, 2, 3] },
  { killT := [90, 98] },
  { killT := [99] },
  { killT := [3, 9, 10, 11, 16, 17, 18, 89, 97], killL := [0, 1, 2, 3] },
  { killT := [97, 101] },
  { killT := [10, 11, 89, 100, 102, 103], killL := [2] },
  { killT := [100, 105] },
  { killT := [10, 11, 89, 104, 106, 107], killL := [2] },
  { killT := [104, 109] },
  { killT := [10, 11, 89, 108, 110, 111], killL := [2] },
  { killT := [108, 113] },
  { killT := [89, 112, 114, 115, 116, 117, 118, 119, 120, 121, 122, 123, 124, 125] },
  { killT := [19, 126] },
  { killT := [3, 9, 10, 11, 16, 17, 18, 127], killL := [0, 1, 2, 3] },
  { ops := [(8, .arrH 2 true)], killT := [10, 11, 127, 128, 129, 130, 131, 132, 133, 134, 135, 136, 137], killL := [2] },
  { killT := [112, 139] },
  { killT := [89, 138, 140, 141, 142, 143, 144, 145, 146] },
  { killT := [20, 147] },
  { killT := [3, 9, 10, 11, 16, 17, 18, 148], killL := [0, 1, 2, 3] },
  { ops := [(8, .arrH 2 true)], killT := [10, 11, 148, 149, 150, 151, 152, 153, 154, 155, 156, 157, 158], killL := [2] },
  { killT := [138, 160] },
  { killT := [89, 159] },
  { killT := [161, 162, 163, 164] },
  { killT := [166, 167, 174] },
  { killT := [165, 168, 169, 170, 171, 172, 173] },
  { killT := [3, 9, 10, 11, 16, 17, 18, 21, 174], killL := [0, 1, 2, 3] },
  { ops := [(8, .arrH 2 true)], killT := [10, 11, 21, 165, 175, 176, 177, 178, 179, 180, 181, 182, 183, 184], killL := [2] },
  { killT := [159, 186] },
  { killT := [187] },
  { killT := [89, 188] },
  { killT := [89, 185] },
  { killT := [189, 190] },
  { killT := [191] },
  { killT := [10, 191, 192, 193] },
  { killT := [194] },
  { killT := [11, 22, 194, 195, 196, 197, 198, 199, 200, 201, 202, 203, 204, 205, 206, 207, 208, 209, 210], killL := [2] },
  { killT := [3, 9, 16, 17, 18, 211], killL := [0, 1, 3] },
  { killT := [211, 212, 213, 214, 215, 216, 217, 218, 219] },
  { killT := [10, 11, 89, 185, 220], killL := [2] },
  { ops := [(2, .frz)], killT := [17, 221, 222, 223, 224, 225, 226, 227] },
  { killT := [23, 228] },
  { killT := [3, 9, 16, 18, 229], killL := [0, 1, 3] },
  { ops := [(2, .frz)], killT := [3, 9, 16, 17, 18, 221, 229, 230, 231, 232, 233, 234, 235], killL := [0, 1, 3] }]

/-- (*selvage.gen.writer).tree -/
def ra66 : List RA := [{ ops := [(0, .imm)], killT := [1] },
  { killT := [18, 19, 20, 21, 22, 23, 24, 25, 26] },
  { killT := [27, 28, 29, 30, 31, 32, 33, 34, 35, 36] },
  { ops := [(10, .arrH 0 true)], killT := [0, 2, 3, 4, 6, 37, 38, 39, 40, 41, 42, 43, 44, 45, 46, 47, 48] },
  { killT := [37, 49, 50, 51, 52] },
  { killT := [53, 54, 55] },
  { killT := [56, 57] },
  { killT := [12, 58, 59, 60, 61, 62, 63, 64, 65, 66, 67] },
  { ops := [(0, .arrL 2 0 true)], killT := [12, 58] },
  {},
  {},
  { ops := [(2, .loc 0)], killT := [71, 72, 73] },
  { killT := [74, 75, 76, 77, 78] },
  { ops := [(8, .arrL 2 0 true)], killT := [15, 79, 80, 81, 82, 83, 84, 85, 86, 87], killL := [0] },
  { killT := [88] },
  { killT := [6, 11, 68, 69, 70, 71, 89, 90, 91, 92, 93, 94, 95, 96, 97] },
  { killT := [10] },
  {},
  { ops := [(3, .loc 1)], killT := [101, 102, 103, 104] },
  { killT := [16, 105, 106, 107, 108, 109, 110, 111] },
  { killT := [17, 112, 113, 114, 115, 116, 117, 118, 119], killL := [1] },
  { killT := [120] }]

/-- (*selvage.gen.writer).look -/
def ra67 : List RA := [{ killT := [1, 8, 9, 10, 11] },
  { killT := [2] },
  {},
  { killT := [15, 16, 17] },
  { killT := [7, 18, 19, 20, 21] },
  { killT := [22] }]

/-- internal.stringslite.IndexByte -/
def ra68 : List RA := [{ killT := [4] },
  { killT := [0, 1, 5, 6, 7] }]

/-- internal.bytealg.Cutover -/
def ra70 : List RA := [{ killT := [2] },
  { killT := [0, 3, 4, 5] }]

/-- internal.bytealg.IndexRabinKarp[string] -/
def ra71 : List RA := [{ killT := [4] },
  { killT := [11, 12, 13, 14, 15] },
  { killT := [16, 17] },
  {},
  {},
  { killT := [18, 19] },
  { killT := [21, 22] },
  { killT := [20, 23, 24, 25, 26, 27, 28, 29] },
  { killT := [9, 20, 30, 31, 32, 33, 34, 35, 36, 37, 38] },
  { killT := [0, 1, 5, 6, 7, 8, 39] },
  { killT := [39, 40] },
  { killT := [41, 42, 43], preT := [77] },
  { killT := [44, 45, 46] },
  { killT := [47, 48, 49, 50, 51, 52] },
  { killT := [53, 54, 55, 56, 57, 58, 59, 60, 61, 62] },
  { killT := [63, 64] },
  { killT := [65, 66, 67, 68, 69, 70, 71, 72, 73, 74, 75, 76] },
  { killT := [0, 1, 5, 6, 7, 8, 10, 77, 78, 79, 80] },
  { killT := [0, 1, 5, 6, 7, 8, 10, 44] }]

/-- slices.IndexFunc[[]selvage.api.Body,selvage.api.Body] -/
def ra72 : List RA := [{ killT := [4] },
  { killT := [6] },
  {},
  { killT := [9, 10] },
  { killT := [11, 12, 13, 14, 15] },
  { killT := [0, 1, 5, 7, 8, 16, 17] },
  { killT := [5, 16, 18] },
  { killT := [0, 1, 7, 8, 9] }]

/-- selvage.code.odd -/
def ra73 : List RA := [{ ops := [(0, .imm)], killT := [0, 2] },
  { killT := [4, 5, 6] },
  { killT := [1, 3, 7, 8, 9, 10, 11, 12, 13, 14, 15, 16, 17, 18, 19, 20, 21, 22, 23, 24, 25, 26, 27, 28, 29, 30, 31, 32, 33, 34, 35, 36, 37, 38] }]

/-- slices.IndexFunc[[]int,int] -/
def ra74 : List RA := [{ killT := [4] },
  { killT := [6] },
  {},
  { killT := [9, 10] },
  { killT := [11, 12, 13, 14, 15] },
  { killT := [0, 1, 5, 7, 8, 16, 17] },
  { killT := [5, 16, 18] },
  { killT := [0, 1, 7, 8, 9] }]

/-- slices.IndexFunc[[]string,string] -/
def ra75 : List RA := [{ killT := [4] },
  { killT := [6] },
  {},
  { killT := [9, 10] },
  { killT := [11, 12, 13, 14, 15] },
  { killT := [0, 1, 5, 7, 8, 16, 17] },
  { killT := [5, 16, 18] },
  { killT := [0, 1, 7, 8, 9] }]

/-- selvage.verify.rules -/
def ra76 : List RA := [{ killT := [0] },
  {},
  {},
  { ops := [(0, .loc 0), (52, .frz)], killT := [1, 2, 3, 4, 5, 6, 7, 8, 9, 10, 11, 12, 13, 14, 15, 16, 17, 18, 19, 20, 21, 22, 23, 24, 25, 26, 27, 28, 29, 30] }]

/-- (selvage.verify.state).base -/
def ra77 : List RA := [{ ops := [(0, .imm)], killT := [0, 2] },
  { killT := [4, 5, 6] },
  { killT := [7] },
  { killT := [1, 3, 8, 9, 10, 11, 12, 13, 14, 15] },
  { killT := [1, 3, 8] }]

/-- (selvage.verify.state).moved -/
def ra78 : List RA := [{ ops := [(0, .loc 0), (1, .loc 1)], killT := [0] },
  { killT := [1, 5, 6, 7, 8, 9] },
  { killT := [2, 10] }]

/-- (selvage.verify.state).with -/
def ra79 : List RA := [{ ops := [(0, .loc 0), (1, .loc 1)], killT := [0] },
  { ops := [(14, .arrH 2 true)], killT := [1, 5, 6, 7, 8, 9, 10, 11, 12, 13, 14, 15, 16, 17, 18, 19, 20] },
  { ops := [(0, .frz)], killT := [2, 21] }]

/-- slices.ContainsFunc[[]selvage.verify.mark,selvage.verify.mark] -/
def ra80 : List RA := [{ killT := [4] },
  { killT := [0, 1, 5, 6, 7, 8] }]

/-- (*selvage.verify.walker).next$1 -/
def ra81 : List RA := [{ ops := [(0, .imm)], killT := [0, 2] },
  { killT := [1, 3, 4, 5] }]

/-- (selvage.verify.state).without -/
def ra82 : List RA := [{ ops := [(0, .loc 0), (1, .loc 1)], killT := [0, 5] },
  { killT := [7, 8, 9, 10] },
  { killT := [1, 11, 12, 13, 14, 15, 16, 17, 18, 19, 20, 21] },
  { killT := [2, 6, 22, 23] },
  { killT := [6, 22, 24, 25, 26, 27, 28] },
  { killT := [2, 29] }]

/-- slices.Equal[[]selvage.verify.mark,selvage.verify.mark] -/
def ra83 : List RA := [{ killT := [4] },
  { killT := [6, 7, 8, 9] },
  { killT := [0, 1, 10] },
  { killT := [10, 11] },
  {},
  { killT := [14, 15] },
  { killT := [5, 16, 17, 18, 19, 20, 21, 22, 23] },
  { killT := [0, 1, 12, 13, 24] },
  { killT := [24, 25] },
  { killT := [0, 1, 12, 13, 14] }]

/-- selvage.selvageref09.Find -/
def ra84 : List RA := [{ killT := [4] },
  {},
  { killT := [6, 7, 8] },
  { killT := [10, 11, 18] },
  { killT := [9, 12, 13, 14, 15, 16, 17] },
  { killT := [0, 1, 5, 18, 19] },
  { killT := [0, 1, 5, 9] }]

/-- selvage.selvageref13.Uses -/
def ra85 : List RA := [{ killT := [2] },
  { killT := [7, 8, 9, 10, 11] },
  { killT := [0, 12] },
  { killT := [12, 13] },
  { killT := [14] },
  {},
  { killT := [15, 16, 17] },
  { killT := [19, 20, 26] },
  { killT := [18, 21, 22, 23, 24, 25] },
  { killT := [0, 3, 4, 5, 26] },
  { killT := [3, 5, 18] },
  { killT := [27, 28, 29] },
  { killT := [31, 32, 38] },
  { killT := [30, 33, 34, 35, 36, 37] },
  { killT := [0, 4, 6, 38] },
  { killT := [0, 4, 6, 30] }]

/-- selvage.selvageref14.Effect -/
def ra86 : List RA := [{ ops := [(0, .imm), (1, .imm)], killT := [0, 2, 6, 7, 8] },
  { ops := [(5, .loc 0)], killT := [10, 11, 12, 13, 14] },
  { killT := [15] },
  { killT := [18] },
  { killT := [1, 3, 5, 9, 16, 17, 19, 20, 21, 22, 23, 24], killL := [0] },
  { killT := [17, 26] },
  { killT := [1, 3, 5, 9, 16, 25, 27, 28, 29, 30, 31, 32], killL := [0] },
  { killT := [25, 34] },
  { killT := [1, 3, 5, 9, 16, 33, 35, 36, 37, 38, 39], killL := [0] },
  { killT := [33, 41] },
  { killT := [1, 3, 5, 9, 16, 40, 42, 43, 44, 45, 46], killL := [0] },
  { killT := [40, 48] },
  { killT := [1, 3, 5, 9, 16, 47, 49, 50], killL := [0] },
  { killT := [1, 47, 52] },
  { killT := [3, 5, 9, 16, 51, 53, 54, 55, 56, 57], killL := [0] },
  { killT := [51, 59] },
  { killT := [3, 5, 9, 16, 58, 60, 61, 62, 63, 64], killL := [0] },
  { killT := [9, 58, 66], killL := [0] },
  { killT := [3, 5, 16, 65, 67, 68, 69, 70, 71] },
  { killT := [65, 73] },
  { killT := [74] },
  { killT := [75] },
  { killT := [76] },
  { killT := [77] },
  { killT := [3, 5, 16, 72] },
  { killT := [72, 79] },
  { killT := [3, 5, 16, 78, 80, 81, 82, 83, 84, 85, 86, 87, 88, 89, 90, 91, 92, 93, 94] },
  { killT := [78, 96] },
  { killT := [3, 5, 16, 95, 97, 98, 99, 100, 101, 102, 103, 104, 105, 106, 107, 108, 109, 110, 111, 112, 113, 114, 115, 116, 117, 118, 119, 120, 121] },
  { killT := [3, 95, 123] },
  { killT := [5, 16, 122, 124, 125, 126] },
  { killT := [122, 128] },
  { killT := [129] },
  { killT := [130] },
  { killT := [5, 16, 127] },
  { killT := [127, 132] },
  { killT := [5, 16, 131, 133, 134, 135] },
  { killT := [5, 131, 137] },
  { killT := [16, 136] },
  { killT := [136, 139] },
  { killT := [140] },
  { killT := [141] },
  { killT := [16, 142] },
  { killT := [16, 138] },
  { killT := [16, 138] }]

/-- selvage.selvageref14.own -/
def ra87 : List RA := [{ killT := [2] },
  { ops := [(0, .arrH 2 true)] },
  { ops := [(2, .arrH 2 true)], killT := [0, 4, 5, 6] },
  { killT := [3, 7] }]

/-- selvage.selvageref14.hand -/
def ra88 : List RA := [{ ops := [(0, .imm)], killT := [2, 8] },
  { killT := [3, 10, 11, 12, 13, 14, 15, 16, 17, 18] },
  { killT := [0, 1, 6, 19] },
  { killT := [19, 20, 21, 22, 23, 24, 25] },
  { killT := [9, 26, 27, 28, 29, 30, 31, 32, 33] },
  { killT := [0, 1, 6, 34] },
  { ops := [(7, .frz)], killT := [0, 1, 6, 34, 35, 36, 37, 38, 39, 40, 41, 42, 43] },
  {}]

/-- (*selvage.gen.writer).tag -/
def ra89 : List RA := [{ ops := [(0, .imm)], killT := [1, 4] },
  { killT := [6, 7, 8, 9, 10, 11, 12, 13, 14] },
  { killT := [15] },
  { killT := [0, 3, 5, 16, 17, 18] },
  { killT := [0, 3, 5, 16, 19, 20, 21, 22, 23, 24, 25, 26, 27, 28, 29] }]

/-- internal.bytealg.hashStr[string] -/
def ra91 : List RA := [{ killT := [2, 3] },
  {},
  {},
  { killT := [9, 10, 11] },
  { killT := [13, 14] },
  { killT := [12, 15, 16, 17, 18, 19, 20, 21] },
  { killT := [5, 12] },
  { killT := [0, 22, 23] },
  { killT := [24] },
  { killT := [26, 27] },
  { killT := [25, 28, 29] },
  { killT := [30, 31, 32, 33] },
  { killT := [30, 34, 35, 36] },
  { killT := [4, 6, 7, 8, 25, 37, 38] }]

/-- selvage.code.Uses -/
def ra92 : List RA := [{ killT := [2] },
  {},
  { killT := [5] },
  { killT := [6] },
  { killT := [7] },
  { killT := [0, 3, 4] },
  { killT := [4, 9] },
  { killT := [10] },
  { killT := [11] },
  { killT := [12] },
  { killT := [13] },
  { killT := [14] },
  { killT := [15] },
  { killT := [16] },
  { killT := [17] },
  { killT := [18] },
  { killT := [19] },
  { killT := [20] },
  { killT := [3, 21] },
  { killT := [0, 3, 8] },
  { killT := [0, 3, 8, 22, 23, 24, 25, 26] },
  { killT := [27] },
  { killT := [27] }]

/-- selvage.verify.rules$1 -/
def ra93 : List RA := [{ killT := [2] },
  { killT := [0, 3, 4, 5, 6, 7] }]

/-- selvage.verify.rules$2 -/
def ra94 : List RA := [{ killT := [2] },
  { killT := [0, 3, 4, 5, 6, 7] }]

/-- selvage.verify.below -/
def ra95 : List RA := [{ ops := [(0, .imm), (1, .imm), (2, .imm)], killT := [0, 1, 2, 6] },
  { killT := [3, 4, 5, 7] }]

/-- selvage.verify.rules$3 -/
def ra96 : List RA := [{ killT := [2] },
  { killT := [0, 3, 4, 5, 6, 7, 8] }]

/-- selvage.verify.rules$4 -/
def ra97 : List RA := [{ killT := [2] },
  { killT := [0, 3, 4, 5, 6, 7, 8] }]

/-- selvage.verify.rules$5 -/
def ra98 : List RA := [{ killT := [2] },
  { killT := [0, 3, 4, 5, 6, 7] }]

/-- selvage.verify.rules$6 -/
def ra99 : List RA := [{ ops := [(0, .imm)], killT := [1, 3, 4, 5, 6] },
  { killT := [0, 7, 8, 9, 10, 11] }]

/-- selvage.verify.fixed -/
def ra100 : List RA := [{ ops := [(0, .imm), (1, .imm)], killT := [0, 1, 4] },
  { killT := [2, 3, 5] }]

/-- selvage.verify.rules$7 -/
def ra101 : List RA := [{ ops := [(0, .imm)], killT := [0, 1, 4, 5, 6] },
  { killT := [3, 7, 8, 9, 10, 11, 12, 13, 14, 15, 16, 17, 18, 19, 20, 21] }]

/-- selvage.verify.rules$8 -/
def ra102 : List RA := [{ ops := [(0, .imm)], killT := [1, 4, 5, 6] },
  { killT := [0, 3, 7, 8, 9, 10, 11, 12, 13, 14, 15, 16, 17, 18, 19, 20, 21, 22, 23, 24, 25, 26, 27, 28, 29, 30, 31, 32, 33, 34, 35, 36, 37] }]

/-- selvage.verify.rules$9 -/
def ra103 : List RA := [{ killT := [0, 2] },
  {}]

/-- selvage.verify.rules$10 -/
def ra104 : List RA := [{ killT := [0, 2] },
  {}]

/-- slices.IndexFunc[[]selvage.verify.mark,selvage.verify.mark] -/
def ra105 : List RA := [{ killT := [4] },
  { killT := [6] },
  {},
  { killT := [9, 10] },
  { killT := [11, 12, 13, 14, 15] },
  { killT := [0, 1, 5, 7, 8, 16, 17] },
  { killT := [5, 16, 18] },
  { killT := [0, 1, 7, 8, 9] }]

/-- selvage.selvageref14.same -/
def ra106 : List RA := [{ ops := [(0, .imm), (1, .imm)], killT := [0, 1, 4] },
  { killT := [6, 7, 8, 9, 10, 11, 12, 13, 14, 15, 16, 17, 18] },
  { killT := [2, 3, 19] },
  { killT := [19] },
  { killT := [20, 21, 22, 23] },
  { killT := [25, 26, 37] },
  { killT := [24, 27, 28, 29, 30, 31, 32, 33, 34, 35, 36] },
  { killT := [2, 3, 5, 37] },
  { killT := [2, 3, 5, 24] }]

/-- slices.IndexFunc[[]selvage.api.Con,selvage.api.Con] -/
def ra107 : List RA := [{ killT := [4] },
  { killT := [6] },
  {},
  { killT := [9, 10] },
  { killT := [11, 12, 13, 14, 15] },
  { killT := [0, 1, 5, 7, 8, 16, 17] },
  { killT := [5, 16, 18] },
  { killT := [0, 1, 7, 8, 9] }]

/-- (*selvage.gen.writer).tag$1 -/
def ra108 : List RA := [{ ops := [(0, .imm)], killT := [0, 3] },
  { killT := [1, 2, 4, 5, 6, 7, 8] }]

/-- selvage.verify.below$1 -/
def ra109 : List RA := [{ ops := [(0, .imm)], killT := [1, 7, 8, 9] },
  { killT := [0, 2, 3, 4, 6, 10, 11, 12, 13, 14, 15, 16, 17] }]

/-- selvage.verify.fixed$1 -/
def ra110 : List RA := [{ ops := [(0, .imm)], killT := [0, 1, 5, 6, 7, 8] },
  { killT := [2, 3, 9, 10] }]

def raAll : List (List RA) := [[], [], ra2, ra3, ra4, ra5, ra6, ra7, ra8, ra9, ra10, ra11, ra12, ra13, ra14, ra15, ra16, ra17, ra18, ra19, ra20, ra21, ra22, ra23, ra24, ra25, ra26, ra27, ra28, ra29, ra30, ra31, ra32, ra33, ra34, ra35, ra36, ra37, ra38, ra39, ra40, ra41, ra42, ra43, ra44, ra45, ra46, ra47, ra48, ra49, ra50, ra51, ra52, ra53, ra54, ra55, ra56, ra57, ra58, ra59, ra60, ra61, ra62, ra63, ra64, ra65, ra66, ra67, ra68, [], ra70, ra71, ra72, ra73, ra74, ra75, ra76, ra77, ra78, ra79, ra80, ra81, ra82, ra83, ra84, ra85, ra86, ra87, ra88, ra89, [], ra91, ra92, ra93, ra94, ra95, ra96, ra97, ra98, ra99, ra100, ra101, ra102, ra103, ra104, ra105, ra106, ra107, ra108, ra109, ra110, [], [], [], [], [], [], [], [], [], [], [], [], [], [], [], [], []]

def ra (f r : Nat) : RA := ((raAll[f]?).bind (·[r]?)).getD {}

end AnZ

/- The program, and what is told of it (printed by gr.py). -/
namespace Am
open Go Go.Proofs
/-- The functions' numbers in this program. -/
abbrev F2 : Nat := 2
abbrev F5 : Nat := 4
abbrev F6 : Nat := 7
abbrev F7 : Nat := 15
abbrev F8 : Nat := 8
abbrev F9 : Nat := 9
abbrev F10 : Nat := 10
abbrev F11 : Nat := 11
abbrev F12 : Nat := 12
abbrev F13 : Nat := 39
abbrev F14 : Nat := 40
abbrev F15 : Nat := 16
abbrev F16 : Nat := 17
abbrev F17 : Nat := 18
abbrev F18 : Nat := 19
abbrev F19 : Nat := 20
abbrev F20 : Nat := 21
abbrev F21 : Nat := 22
abbrev F22 : Nat := 23
abbrev F23 : Nat := 24
abbrev F24 : Nat := 25
abbrev F25 : Nat := 26
abbrev F26 : Nat := 27
abbrev F27 : Nat := 28
abbrev F28 : Nat := 64
abbrev F29 : Nat := 65
abbrev F30 : Nat := 41
abbrev F31 : Nat := 42
abbrev F32 : Nat := 43
abbrev F33 : Nat := 44
abbrev F34 : Nat := 45
abbrev F35 : Nat := 46
abbrev F36 : Nat := 47
abbrev F37 : Nat := 48
abbrev F38 : Nat := 49
abbrev F39 : Nat := 50
abbrev F40 : Nat := 51
abbrev F41 : Nat := 52
abbrev F42 : Nat := 53
abbrev F43 : Nat := 54
abbrev F44 : Nat := 55
abbrev F45 : Nat := 56
abbrev F46 : Nat := 57
abbrev F47 : Nat := 58
abbrev F48 : Nat := 59
abbrev F49 : Nat := 60
abbrev F50 : Nat := 61
abbrev F51 : Nat := 85
abbrev F52 : Nat := 86
abbrev F53 : Nat := 87
abbrev F54 : Nat := 88
abbrev F55 : Nat := 66
abbrev F56 : Nat := 67
abbrev F57 : Nat := 68
abbrev F59 : Nat := 70
abbrev F60 : Nat := 71
abbrev F61 : Nat := 72
abbrev F62 : Nat := 73
abbrev F63 : Nat := 74
abbrev F64 : Nat := 75
abbrev F65 : Nat := 76
abbrev F66 : Nat := 77
abbrev F67 : Nat := 78
abbrev F68 : Nat := 79
abbrev F69 : Nat := 80
abbrev F70 : Nat := 81
abbrev F71 : Nat := 82
abbrev F72 : Nat := 83
abbrev F73 : Nat := 106
abbrev F74 : Nat := 89
abbrev F76 : Nat := 91
abbrev F77 : Nat := 92
abbrev F78 : Nat := 93
abbrev F79 : Nat := 94
abbrev F80 : Nat := 95
abbrev F81 : Nat := 96
abbrev F82 : Nat := 97
abbrev F83 : Nat := 98
abbrev F84 : Nat := 99
abbrev F85 : Nat := 100
abbrev F86 : Nat := 101
abbrev F87 : Nat := 102
abbrev F88 : Nat := 103
abbrev F89 : Nat := 104
abbrev F90 : Nat := 105
abbrev F91 : Nat := 107
abbrev F92 : Nat := 108
abbrev F93 : Nat := 109
abbrev F94 : Nat := 110
abbrev F200 : Nat := 3
abbrev F201 : Nat := 5
abbrev F202 : Nat := 6
abbrev F203 : Nat := 13
abbrev F204 : Nat := 14
abbrev F205 : Nat := 29
abbrev F206 : Nat := 30
abbrev F207 : Nat := 31
abbrev F208 : Nat := 32
abbrev F209 : Nat := 33
abbrev F210 : Nat := 34
abbrev F211 : Nat := 35
abbrev F212 : Nat := 36
abbrev F213 : Nat := 37
abbrev F214 : Nat := 38
abbrev F215 : Nat := 62
abbrev F216 : Nat := 63
abbrev F217 : Nat := 84
def theAn : An := { ra := AnZ.ra, prim := fun f => if f = F22 then some pIndex else none, alone := fun f => [2, 3, 4, 5, 6, 7, 9, 11, 12, 14, 15, 21, 25, 27, 29, 37, 38, 39, 49, 53, 54, 55, 56, 57, 58, 59, 61, 63, 64, 68, 70, 71, 72, 73, 74, 75, 77, 78, 79, 80, 81, 82, 83, 84, 85, 86, 91, 92, 95, 100, 105, 106, 107].any (Nat.beq f) }
noncomputable abbrev PP := Tryz.prog
abbrev AA := theAn
end Am

/- Constants, printed by sym.py. -/
namespace Am
open Go Go.Proofs
def cK15 : List Value := [.int .i64 10, .int .i64 15, .int .i64 11, .int .i64 12, .int .i64 9]

def cL15 : List V := [.fn (.func F30) [] [], .fn (.func F31) [] [], .fn (.func F32) [] [], .fn (.func F33) [] [], .fn (.func F34) [] []]

def cK39 : List Value := [.int .i64 16, .int .i64 17, .int .i64 18, .int .i64 22, .int .i64 23, .int .i64 24, .int .i64 20, .int .i64 5]

def cL39 : List V := [vI 24, vI 23, vI 25, vI 31, vI 32, vI 33, vI 30, vI 5]

def cK40 : List Value := [.int .i64 3, .int .i64 4, .int .i64 6, .int .i64 25]

def cL40 : List V := [vI 3, vI 4, vI 6, vI 8]

def cK41 : List Value := [.int .i64 7, .int .i64 8]

def cK65 : List Value := [.int .i64 1, .int .i64 2, .int .i64 3, .int .i64 4, .int .i64 5, .int .i64 6, .int .i64 7, .int .i64 8, .int .i64 9, .int .i64 10, .int .i64 11, .int .i64 12, .int .i64 13, .int .i64 14, .int .i64 15, .int .i64 17, .int .i64 18, .int .i64 19, .int .i64 20, .int .i64 23, .int .i64 24, .int .i64 25, .int .i64 31, .int .i64 32, .int .i64 33]

def cL65 : List V := [.fn (.func F93) [] [.bp (.fn (.func F81) [] []) 0 0, .bp (vI 0) 0 0, .bp (vI 1) 0 0], .fn (.func F93) [] [.bp (.fn (.func F82) [] []) 0 0, .bp (vI 0) 0 0, .bp (vI 1) 0 0], .fn (.func F93) [] [.bp (.fn (.func F78) [] []) 0 0, .bp (vI 0) 0 0, .bp (vI 1) 0 0], .fn (.func F93) [] [.bp (.fn (.func F83) [] []) 0 0, .bp (vI 0) 0 0, .bp (vI 1) 0 0], .fn (.func F84) [] [], .fn (.func F93) [] [.bp (.fn (.func F79) [] []) 0 0, .bp (vI 0) 0 0, .bp (vI 1) 0 0], .fn (.func F93) [] [.bp (.fn (.func F78) [] []) 0 0, .bp (vI 1) 0 0, .bp (vI 0) 0 0], .fn (.func F93) [] [.bp (.fn (.func F79) [] []) 0 0, .bp (vI 1) 0 0, .bp (vI 0) 0 0], .fn (.func F94) [] [.bp (vI 1) 0 0, .bp (vI 0) 0 0], .fn (.func F86) [] [], .fn (.func F87) [] [], .fn (.func F93) [] [.bp (.fn (.func F88) [] []) 0 0, .bp (vI 1) 0 0, .bp (vI 1) 0 0], .fn (.func F94) [] [.bp (vI 2) 0 0, .bp (vI 1) 0 0], .fn (.func F94) [] [.bp (vI 2) 0 0, .bp (vI 0) 0 0], .fn (.func F94) [] [.bp (vI 1) 0 0, .bp (vI 0) 0 0], .fn (.func F94) [] [.bp (vI 1) 0 0, .bp (vI 0) 0 0], .fn (.func F94) [] [.bp (vI 1) 0 0, .bp (vI 0) 0 0], .fn (.func F93) [] [.bp (.fn (.func F89) [] []) 0 0, .bp (vI 2) 0 0, .bp (vI 1) 0 0], .fn (.func F94) [] [.bp (vI 2) 0 0, .bp (vI 1) 0 0], .fn (.func F94) [] [.bp (vI 1) 0 0, .bp (vI 0) 0 0], .fn (.func F94) [] [.bp (vI 1) 0 0, .bp (vI 1) 0 0], .fn (.func F94) [] [.bp (vI 1) 0 0, .bp (vI 1) 0 0], .fn (.func F94) [] [.bp (vI 1) 0 0, .bp (vI 1) 0 0], .fn (.func F94) [] [.bp (vI 1) 0 0, .bp (vI 1) 0 0], .fn (.func F94) [] [.bp (vI 2) 0 0, .bp (vI 1) 0 0]]

end Am

/- Rules, printed by sym.py. -/
namespace Am
open Go Go.Proofs
set_option maxRecDepth 100000
/- selvage/verify.below -/
noncomputable abbrev PF80 := Tryz.f95

theorem p80 : AA.prim F80 = none := by kernel_rfl
theorem a80 : AA.alone F80 = true := by kernel_rfl

theorem w80 {n1 : Int} {n2 : Int} {f3 : Nat} {Q : V → Prop}
    (h0 : Q (.fn (.func F93) [] [.bp (.fn (.func f3) [] []) 0 0, .bp (vI n1) 0 0, .bp (vI n2) 0 0])) :
    Wa PP AA F80 [vI n1, vI n2, .fn (.func f3) [] []] Q := by
  exact ent_retA (fs := []) (h' := Heap.none) p80 a80 (by kernel_rfl) (by kernel_rfl) (by kernel_rfl) h0

theorem cl80 {n1 : Int} {n2 : Int} {f3 : Nat} (h : Heap) : RC PP AA F80 [vI n1, vI n2, .fn (.func f3) [] []] h (.fn (.func F93) [] [.bp (.fn (.func f3) [] []) 0 0, .bp (vI n1) 0 0, .bp (vI n2) 0 0]) h := by
  obtain ⟨v, a, b⟩ := w80 (Q := fun v => v = .fn (.func F93) [] [.bp (.fn (.func f3) [] []) 0 0, .bp (vI n1) 0 0, .bp (vI n2) 0 0]) rfl
  subst b
  exact a h

/- selvage/verify.fixed -/
noncomputable abbrev PF85 := Tryz.f100

theorem p85 : AA.prim F85 = none := by kernel_rfl
theorem a85 : AA.alone F85 = true := by kernel_rfl

theorem w85 {n1 : Int} {n2 : Int} {Q : V → Prop}
    (h0 : Q (.fn (.func F94) [] [.bp (vI n1) 0 0, .bp (vI n2) 0 0])) :
    Wa PP AA F85 [vI n1, vI n2] Q := by
  exact ent_retA (fs := []) (h' := Heap.none) p85 a85 (by kernel_rfl) (by kernel_rfl) (by kernel_rfl) h0

theorem cl85 {n1 : Int} {n2 : Int} (h : Heap) : RC PP AA F85 [vI n1, vI n2] h (.fn (.func F94) [] [.bp (vI n1) 0 0, .bp (vI n2) 0 0]) h := by
  obtain ⟨v, a, b⟩ := w85 (Q := fun v => v = .fn (.func F94) [] [.bp (vI n1) 0 0, .bp (vI n2) 0 0]) rfl
  subst b
  exact a h

/- selvage/gen.readers -/
noncomputable abbrev PF15 := Tryz.f16

theorem p15 : AA.prim F15 = none := by kernel_rfl
theorem a15 : AA.alone F15 = false := by kernel_rfl

theorem w15 {h1 : Heap} {Q : V → Heap → Prop}
    (h0 : Q (.mapv cK15 cL15) h1) :
    Wc PP AA F15 [] h1 Q := by
  exact ent_ret (fs := []) p15 a15 (by kernel_rfl) h0

theorem cl15  (h1 : Heap) : RC PP AA F15 [] h1 (.mapv cK15 cL15) h1 := by
  obtain ⟨v, h2, a, b, c⟩ := w15 (h1 := h1) (Q := fun v h2 => v = .mapv cK15 cL15 ∧ h2 = h1) ⟨rfl, rfl⟩
  subst b c
  exact a

/- selvage/gen.plain -/
noncomputable abbrev PF39 := Tryz.f50

theorem p39 : AA.prim F39 = none := by kernel_rfl
theorem a39 : AA.alone F39 = false := by kernel_rfl

theorem w39 {h1 : Heap} {Q : V → Heap → Prop}
    (h0 : Q (.mapv cK39 cL39) h1) :
    Wc PP AA F39 [] h1 Q := by
  exact ent_ret (fs := []) p39 a39 (by kernel_rfl) h0

theorem cl39  (h1 : Heap) : RC PP AA F39 [] h1 (.mapv cK39 cL39) h1 := by
  obtain ⟨v, h2, a, b, c⟩ := w39 (h1 := h1) (Q := fun v h2 => v = .mapv cK39 cL39 ∧ h2 = h1) ⟨rfl, rfl⟩
  subst b c
  exact a

/- selvage/gen.numbered -/
noncomputable abbrev PF40 := Tryz.f51

theorem p40 : AA.prim F40 = none := by kernel_rfl
theorem a40 : AA.alone F40 = false := by kernel_rfl

theorem w40 {h1 : Heap} {Q : V → Heap → Prop}
    (h0 : Q (.mapv cK40 cL40) h1) :
    Wc PP AA F40 [] h1 Q := by
  exact ent_ret (fs := []) p40 a40 (by kernel_rfl) h0

theorem cl40  (h1 : Heap) : RC PP AA F40 [] h1 (.mapv cK40 cL40) h1 := by
  obtain ⟨v, h2, a, b, c⟩ := w40 (h1 := h1) (Q := fun v h2 => v = .mapv cK40 cL40 ∧ h2 = h1) ⟨rfl, rfl⟩
  subst b c
  exact a

/- selvage/gen.counted -/
noncomputable abbrev PF41 := Tryz.f52

theorem p41 : AA.prim F41 = none := by kernel_rfl
theorem a41 : AA.alone F41 = false := by kernel_rfl

theorem w41 {h1 : Heap} {Q : V → Heap → Prop}
    (h0 : Q (.mapv cK41 ([vI 10, vI 11])) h1) :
    Wc PP AA F41 [] h1 Q := by
  exact ent_ret (fs := []) p41 a41 (by kernel_rfl) h0

theorem cl41  (h1 : Heap) : RC PP AA F41 [] h1 (.mapv cK41 ([vI 10, vI 11])) h1 := by
  obtain ⟨v, h2, a, b, c⟩ := w41 (h1 := h1) (Q := fun v h2 => v = .mapv cK41 ([vI 10, vI 11]) ∧ h2 = h1) ⟨rfl, rfl⟩
  subst b c
  exact a

/- selvage/verify.rules -/
noncomputable abbrev PF65 := Tryz.f76

theorem p65 : AA.prim F65 = none := by kernel_rfl
theorem a65 : AA.alone F65 = false := by kernel_rfl

theorem w65 {h1 : Heap} {Q : V → Heap → Prop}
    (h0 : Q (.mapv cK65 cL65) h1) :
    Wc PP AA F65 [] h1 Q := by
  exact ent_ret (fs := [fr (cl80 h1 : RC PP AA F80 [vI 0, vI 1, .fn (.func F81) [] []] h1 (.fn (.func F93) [] [.bp (.fn (.func F81) [] []) 0 0, .bp (vI 0) 0 0, .bp (vI 1) 0 0]) h1), fr (cl80 h1 : RC PP AA F80 [vI 0, vI 1, .fn (.func F82) [] []] h1 (.fn (.func F93) [] [.bp (.fn (.func F82) [] []) 0 0, .bp (vI 0) 0 0, .bp (vI 1) 0 0]) h1), fr (cl80 h1 : RC PP AA F80 [vI 0, vI 1, .fn (.func F78) [] []] h1 (.fn (.func F93) [] [.bp (.fn (.func F78) [] []) 0 0, .bp (vI 0) 0 0, .bp (vI 1) 0 0]) h1), fr (cl80 h1 : RC PP AA F80 [vI 0, vI 1, .fn (.func F83) [] []] h1 (.fn (.func F93) [] [.bp (.fn (.func F83) [] []) 0 0, .bp (vI 0) 0 0, .bp (vI 1) 0 0]) h1), fr (cl80 h1 : RC PP AA F80 [vI 0, vI 1, .fn (.func F79) [] []] h1 (.fn (.func F93) [] [.bp (.fn (.func F79) [] []) 0 0, .bp (vI 0) 0 0, .bp (vI 1) 0 0]) h1), fr (cl80 h1 : RC PP AA F80 [vI 1, vI 0, .fn (.func F78) [] []] h1 (.fn (.func F93) [] [.bp (.fn (.func F78) [] []) 0 0, .bp (vI 1) 0 0, .bp (vI 0) 0 0]) h1), fr (cl80 h1 : RC PP AA F80 [vI 1, vI 0, .fn (.func F79) [] []] h1 (.fn (.func F93) [] [.bp (.fn (.func F79) [] []) 0 0, .bp (vI 1) 0 0, .bp (vI 0) 0 0]) h1), fr (cl85 h1 : RC PP AA F85 [vI 1, vI 0] h1 (.fn (.func F94) [] [.bp (vI 1) 0 0, .bp (vI 0) 0 0]) h1), fr (cl80 h1 : RC PP AA F80 [vI 1, vI 1, .fn (.func F88) [] []] h1 (.fn (.func F93) [] [.bp (.fn (.func F88) [] []) 0 0, .bp (vI 1) 0 0, .bp (vI 1) 0 0]) h1), fr (cl85 h1 : RC PP AA F85 [vI 2, vI 1] h1 (.fn (.func F94) [] [.bp (vI 2) 0 0, .bp (vI 1) 0 0]) h1), fr (cl85 h1 : RC PP AA F85 [vI 2, vI 0] h1 (.fn (.func F94) [] [.bp (vI 2) 0 0, .bp (vI 0) 0 0]) h1), fr (cl85 h1 : RC PP AA F85 [vI 1, vI 0] h1 (.fn (.func F94) [] [.bp (vI 1) 0 0, .bp (vI 0) 0 0]) h1), fr (cl85 h1 : RC PP AA F85 [vI 1, vI 0] h1 (.fn (.func F94) [] [.bp (vI 1) 0 0, .bp (vI 0) 0 0]) h1), fr (cl85 h1 : RC PP AA F85 [vI 1, vI 0] h1 (.fn (.func F94) [] [.bp (vI 1) 0 0, .bp (vI 0) 0 0]) h1), fr (cl80 h1 : RC PP AA F80 [vI 2, vI 1, .fn (.func F89) [] []] h1 (.fn (.func F93) [] [.bp (.fn (.func F89) [] []) 0 0, .bp (vI 2) 0 0, .bp (vI 1) 0 0]) h1), fr (cl85 h1 : RC PP AA F85 [vI 2, vI 1] h1 (.fn (.func F94) [] [.bp (vI 2) 0 0, .bp (vI 1) 0 0]) h1), fr (cl85 h1 : RC PP AA F85 [vI 1, vI 0] h1 (.fn (.func F94) [] [.bp (vI 1) 0 0, .bp (vI 0) 0 0]) h1), fr (cl85 h1 : RC PP AA F85 [vI 1, vI 1] h1 (.fn (.func F94) [] [.bp (vI 1) 0 0, .bp (vI 1) 0 0]) h1), fr (cl85 h1 : RC PP AA F85 [vI 1, vI 1] h1 (.fn (.func F94) [] [.bp (vI 1) 0 0, .bp (vI 1) 0 0]) h1), fr (cl85 h1 : RC PP AA F85 [vI 1, vI 1] h1 (.fn (.func F94) [] [.bp (vI 1) 0 0, .bp (vI 1) 0 0]) h1), fr (cl85 h1 : RC PP AA F85 [vI 1, vI 1] h1 (.fn (.func F94) [] [.bp (vI 1) 0 0, .bp (vI 1) 0 0]) h1), fr (cl85 h1 : RC PP AA F85 [vI 2, vI 1] h1 (.fn (.func F94) [] [.bp (vI 2) 0 0, .bp (vI 1) 0 0]) h1)]) p65 a65 (by kernel_rfl) h0

theorem cl65  (h1 : Heap) : RC PP AA F65 [] h1 (.mapv cK65 cL65) h1 := by
  obtain ⟨v, h2, a, b, c⟩ := w65 (h1 := h1) (Q := fun v h2 => v = .mapv cK65 cL65 ∧ h2 = h1) ⟨rfl, rfl⟩
  subst b c
  exact a

end Am

/- Rules, printed by sym.py. -/
namespace Am
open Go Go.Proofs
set_option maxRecDepth 100000
/- selvage/gen.Code -/
noncomputable abbrev PF5 := Tryz.f4

noncomputable def f5_K1 : List It := [.lp (cdAt (codeOf PF5) [1, 1, 1, 0, 1, 0, 0]), .blk 0, .c (cdAt (codeOf PF5) [1, 1, 1, 1])]

noncomputable def f5_S1 (p1_1 : List D) (p1_2 : Int) (p1_3 : Int) (p1_4 : Nat) (p1_5 : Int) (p1_6 : Heap) : St :=
  { nt := 105, tm := [(6, .ptr (.lo 0) 0 4 0), (9, .ptr (.he 2 0) 0 3 0), (10, .ptr (.lo 1) 0 4 0), (21, .d (.slice 11 p1_1)), (22, vI p1_2), (23, vI p1_3)], lo := [(0, .var (.agg [.nilS, .nilS, .nilS, vI 0])), (1, .var (.agg [.sl (.he 3 p1_4) 4 none, .nilS, .nilS, vI p1_5]))], hp := p1_6 }

theorem p5 : AA.prim F5 = none := by kernel_rfl
theorem a5 : AA.alone F5 = true := by kernel_rfl

theorem w5 {l1 : List D} {l2 : List D} {n3 : Int} {Q : V → Prop}
    (h0 : Wl PP AA F5 f5_K1 (f5_S1 l1 (((l1.length : Nat) : Int)) 0 0 n3 ((Heap.push (Heap.push (Heap.push (Heap.push Heap.none (.darr 0 0 ([]))) (.darr 0 0 ([]))) (.var (.agg [.d (.slice 5 l2), .sl (.he 0 0) 0 none, .sl (.he 1 0) 0 none]))) (.darr 0 4 ([]))))) (QAl Q)) :
    Wa PP AA F5 [.d (.slice 11 l1), .d (.slice 5 l2), vI n3] Q := by
  exact ent_atA (fs := []) p5 a5 (by kernel_rfl) (by kernel_rfl) h0

theorem w5_1 {p1_1 : List D} {p1_2 : Int} {p1_3 : Int} {p1_4 : Nat} {p1_5 : Int} {p1_6 : Heap} {Q : V → Prop}
    (h0 : ((p1_3 < p1_2 → ((0 : Int) ≤ p1_3 ∧ (∃ (nr11 : Int) (nr12 : Int) (nr13 : Int) (nr14 : Int) (sr15 : ByteArray) (lr16 : List D) (nr17 : Int) (lr18 : List D) (lr19 : List D) (lr110 : List D) (lr111 : List D), p1_1[(Int.toNat p1_3)]? = some (.agg [dI nr11, dI nr12, dI nr13, dI nr14, dS sr15, .slice 9 lr16, dI nr17, .slice 0 lr18, .slice 6 lr19, .slice 4 lr110, .slice 0 lr111]) ∧ (Wc PP AA F8 [.ptr (.he ((p1_6.n + 1)) 0) 0 2 0, .s 9 (.agg [dI nr13, dI nr14, dS sr15, .slice 9 lr16, dI nr17, .slice 0 lr18, .slice 6 lr19, .slice 4 lr110, .slice 0 lr111]), vBool true] (Heap.push (Heap.push p1_6 (.darr 0 3 ([]))) (.var (.agg [.ptr (.he 2 0) 0 3 0, .sl (.he p1_6.n 0) 3 none]))) fun v Hr112 => v = .tuple [] ∧ (Wa PP AA F9 [.s 9 (.agg [dI nr13, dI nr14, dS sr15, .slice 9 lr16, dI nr17, .slice 0 lr18, .slice 6 lr19, .slice 4 lr110, .slice 0 lr111])] fun v => ∃ (nr113 : Int), v = vI nr113 ∧ (∃ (ir114 : Nat) (cr115 : Nat) (gr116 : Nat), hpAt Hr112 ((p1_6.n + 1)) 0 = some (.var (.agg [.ptr (.he ir114 0) 0 3 0, .sl (.he cr115 gr116) 3 none])) ∧ (Wn PP AA F10 [.sl (.he cr115 gr116) 3 none, .fn (.func F11) [] []] Hr112 fun v => ∃ (br117 : Bool), v = vBool br117 ∧ ((br117 = true → Q (.tuple [.s 4 (.agg [.slice 4 ([]), .slice 0 ([]), .slice 0 ([]), dI 0]), vI p1_3, vI 16])) ∧ (br117 = false → (∃ (lr118 : List D), hpAt Hr112 cr115 gr116 = some (.darr gr116 3 lr118) ∧ (((400 : Int) < ((lr118.length : Nat) : Int) → Q (.tuple [.s 4 (.agg [.slice 4 ([]), .slice 0 ([]), .slice 0 ([]), dI 0]), vI p1_3, vI 16])) ∧ (((lr118.length : Nat) : Int) ≤ 400 → (∃ (lr119 : List D) (cr120 : Nat) (gr121 : Nat) (cr122 : Nat) (gr123 : Nat), hpAt Hr112 2 0 = some (.var (.agg [.d (.slice 5 lr119), .sl (.he cr120 gr121) 0 none, .sl (.he cr122 gr123) 0 none])) ∧ (∃ (lr124 : List D), hpAt Hr112 cr120 gr121 = some (.darr gr121 0 lr124) ∧ (((120 : Int) < ((lr124.length : Nat) : Int) → Q (.tuple [.s 4 (.agg [.slice 4 ([]), .slice 0 ([]), .slice 0 ([]), dI 0]), vI p1_3, vI 16])) ∧ (((lr124.length : Nat) : Int) ≤ 120 → (∃ (lr125 : List D), hpAt Hr112 cr122 gr123 = some (.darr gr123 0 lr125) ∧ (((120 : Int) < ((lr125.length : Nat) : Int) → Q (.tuple [.s 4 (.agg [.slice 4 ([]), .slice 0 ([]), .slice 0 ([]), dI 0]), vI p1_3, vI 16])) ∧ (((lr125.length : Nat) : Int) ≤ 120 → (((60 : Int) < nr113 → Q (.tuple [.s 4 (.agg [.slice 4 ([]), .slice 0 ([]), .slice 0 ([]), dI 0]), vI p1_3, vI 16])) ∧ (nr113 ≤ 60 → (hpAt (Heap.put Hr112 cr115 none) ((p1_6.n + 1)) 0 = some (.var (.agg [.ptr (.he ir114 0) 0 3 0, .sl (.he cr115 gr116) 3 none])) ∧ (∃ (lr126 : List D), hpAt (Heap.put (Heap.put Hr112 cr115 none) ((p1_6.n + 1)) (some (.var (.agg [.ptr (.he ir114 0) 0 3 0, .d (.slice 3 lr118)])))) 3 p1_4 = some (.darr p1_4 4 lr126) ∧ ((lr126.length + 1) ≤ 274877906944 ∧ Wl PP AA F5 f5_K1 (f5_S1 p1_1 p1_2 ((W (p1_3 + 1))) ((p1_4 + 1)) p1_5 ((Heap.put (Heap.put (Heap.put Hr112 cr115 none) ((p1_6.n + 1)) (some (.var (.agg [.ptr (.he ir114 0) 0 3 0, .d (.slice 3 lr118)])))) 3 (some (.darr ((p1_4 + 1)) 4 ((lr126 ++ [.agg [dI nr11, dI nr12, dI nr113, .slice 3 lr118]]))))))) (QAl Q))))))))))))))))))))))))) ∧ (p1_2 ≤ p1_3 → (∃ (lr11 : List D) (cr12 : Nat) (gr13 : Nat) (cr14 : Nat) (gr15 : Nat), hpAt p1_6 2 0 = some (.var (.agg [.d (.slice 5 lr11), .sl (.he cr12 gr13) 0 none, .sl (.he cr14 gr15) 0 none])) ∧ (∃ (lr16 : List D), hpAt p1_6 3 p1_4 = some (.darr p1_4 4 lr16) ∧ (∃ (lr17 : List D), hpAt p1_6 cr12 gr13 = some (.darr gr13 0 lr17) ∧ (∃ (lr18 : List D), hpAt p1_6 cr14 gr15 = some (.darr gr15 0 lr18) ∧ (hpAt (Heap.put p1_6 3 none) cr12 gr13 = some (.darr gr13 0 lr17) ∧ (hpAt (Heap.put (Heap.put p1_6 3 none) cr12 none) cr14 gr15 = some (.darr gr15 0 lr18) ∧ (Wa PP AA F12 [.s 4 (.agg [.slice 4 lr16, .slice 0 lr17, .slice 0 lr18, dI p1_5])] fun v => ∃ (nr19 : Int), v = vI nr19 ∧ ((nr19 = 0 → Q (.tuple [.s 4 (.agg [.slice 4 lr16, .slice 0 lr17, .slice 0 lr18, dI p1_5]), vI 0, vI 0])) ∧ (nr19 ≠ 0 → Q (.tuple [.s 4 (.agg [.slice 4 ([]), .slice 0 ([]), .slice 0 ([]), dI 0]), vI 0, vI 1]))))))))))))) :
    Wl PP AA F5 f5_K1 (f5_S1 p1_1 p1_2 p1_3 p1_4 p1_5 p1_6) (QAl Q) := by
  rcases icase p1_3 p1_2 with q0f | q0f
  · replace h0 := h0.1 q0f
    obtain ⟨q1, h0⟩ := h0
    obtain ⟨nr11, nr12, nr13, nr14, sr15, lr16, nr17, lr18, lr19, lr110, lr111, q2, h0⟩ := h0
    obtain ⟨v, Hr112, r3, e, h0⟩ := h0
    subst e
    obtain ⟨v, r4, nr113, e, h0⟩ := h0
    subst e
    obtain ⟨ir114, cr115, gr116, q5, h0⟩ := h0
    obtain ⟨v, r6, br117, e, h0⟩ := h0
    subst e
    rcases bcase br117 with e | e
    · replace h0 := h0.1 e
      subst e
      exact lp_ret (fs := [tt q0f, rd q1, fd q2, fr r3, fr (r4 Hr112), fo q5, fr r6, bT, bT, bT, bT, bT, bT, bT, bT, bT, bT, bT, bT, bT, bT, bT, bT, bT, bT, bT, bT, bT, bT, bT, bT, bT]) (h' := Hr112) (by kernel_rfl) ⟨by kernel_rfl, h0⟩
    · replace h0 := h0.2 e
      subst e
      obtain ⟨lr118, q13, h0⟩ := h0
      rcases icase 400 (((lr118.length : Nat) : Int)) with q16f | q16f
      · replace h0 := h0.1 q16f
        exact lp_ret (fs := [tt q0f, rd q1, fd q2, fr r3, fr (r4 Hr112), fo q5, fr r6, bF, bF, bF, bF, fo q5, bF, fo q13, bF, bF, tt q16f, tt q16f, tt q16f, tt q16f, tt q16f, tt q16f, tt q16f, bT, bT, bT, bT, bT, bT, bT, bT, bT, bT, bT]) (h' := Hr112) (by kernel_rfl) ⟨by kernel_rfl, h0⟩
      · replace h0 := h0.2 q16f
        obtain ⟨lr119, cr120, gr121, cr122, gr123, q20, h0⟩ := h0
        obtain ⟨lr124, q22, h0⟩ := h0
        rcases icase 120 (((lr124.length : Nat) : Int)) with q25f | q25f
        · replace h0 := h0.1 q25f
          exact lp_ret (fs := [tt q0f, rd q1, fd q2, fr r3, fr (r4 Hr112), fo q5, fr r6, bF, bF, bF, bF, fo q5, bF, fo q13, bF, bF, tl q16f, tl q16f, tl q16f, tl q16f, fo q20, tl q16f, fo q22, tl q16f, tl q16f, tt q25f, tt q25f, tt q25f, tt q25f, tt q25f, tt q25f, tt q25f, bT, bT, bT, bT]) (h' := Hr112) (by kernel_rfl) ⟨by kernel_rfl, h0⟩
        · replace h0 := h0.2 q25f
          obtain ⟨lr125, q31, h0⟩ := h0
          rcases icase 120 (((lr125.length : Nat) : Int)) with q34f | q34f
          · replace h0 := h0.1 q34f
            exact lp_ret (fs := [tt q0f, rd q1, fd q2, fr r3, fr (r4 Hr112), fo q5, fr r6, bF, bF, bF, bF, fo q5, bF, fo q13, bF, bF, tl q16f, tl q16f, tl q16f, tl q16f, fo q20, tl q16f, fo q22, tl q16f, tl q16f, tl q25f, tl q25f, tl q25f, tl q25f, fo q20, tl q25f, fo q31, tl q25f, tl q25f, tt q34f, tt q34f, tt q34f, bT]) (h' := Hr112) (by kernel_rfl) ⟨by kernel_rfl, h0⟩
          · replace h0 := h0.2 q34f
            rcases icase 60 nr113 with q37f | q37f
            · replace h0 := h0.1 q37f
              exact lp_ret (fs := [tt q0f, rd q1, fd q2, fr r3, fr (r4 Hr112), fo q5, fr r6, bF, bF, bF, bF, fo q5, bF, fo q13, bF, bF, tl q16f, tl q16f, tl q16f, tl q16f, fo q20, tl q16f, fo q22, tl q16f, tl q16f, tl q25f, tl q25f, tl q25f, tl q25f, fo q20, tl q25f, fo q31, tl q25f, tl q25f, tl q34f, tl q34f, tl q34f, tt q37f]) (h' := Hr112) (by kernel_rfl) ⟨by kernel_rfl, h0⟩
            · replace h0 := h0.2 q37f
              obtain ⟨q41, h0⟩ := h0
              obtain ⟨lr126, q43, h0⟩ := h0
              obtain ⟨q44, h0⟩ := h0
              exact lp_at (fs := [tt q0f, rd q1, fd q2, fr r3, fr (r4 Hr112), fo q5, fr r6, bF, bF, bF, bF, fo q5, bF, fo q13, bF, bF, tl q16f, tl q16f, tl q16f, tl q16f, fo q20, tl q16f, fo q22, tl q16f, tl q16f, tl q25f, tl q25f, tl q25f, tl q25f, fo q20, tl q25f, fo q31, tl q25f, tl q25f, tl q34f, tl q34f, tl q34f, tl q37f, fo q5, fo q13, fo q13, fo q41, rq, fo q43, rt (Nat.ble_eq_true_of_le q44)]) (by kernel_rfl) h0
  · replace h0 := h0.2 q0f
    obtain ⟨lr11, cr12, gr13, cr14, gr15, q1, h0⟩ := h0
    obtain ⟨lr16, q3, h0⟩ := h0
    obtain ⟨lr17, q4, h0⟩ := h0
    obtain ⟨lr18, q5, h0⟩ := h0
    obtain ⟨q7, h0⟩ := h0
    obtain ⟨q8, h0⟩ := h0
    obtain ⟨v, r10, nr19, e, h0⟩ := h0
    subst e
    rcases Classical.em (nr19 = 0) with e | q11f
    · replace h0 := h0.1 e
      subst e
      exact lp_ret (fs := [tl q0f, fo q1, fo q1, fo q3, fo q4, fo q5, fo q3, fo q7, fo q8, rq, fr (r10 ((Heap.put (Heap.put (Heap.put p1_6 3 none) cr12 none) cr14 none))), bF, rq]) (h' := (Heap.put (Heap.put (Heap.put p1_6 3 none) cr12 none) cr14 none)) (by kernel_rfl) ⟨by kernel_rfl, h0⟩
    · replace h0 := h0.2 q11f
      exact lp_ret (fs := [tl q0f, fo q1, fo q1, fo q3, fo q4, fo q5, fo q3, fo q7, fo q8, rq, fr (r10 ((Heap.put (Heap.put (Heap.put p1_6 3 none) cr12 none) cr14 none))), bt (bne_iff_ne.mpr q11f)]) (h' := (Heap.put (Heap.put (Heap.put p1_6 3 none) cr12 none) cr14 none)) (by kernel_rfl) ⟨by kernel_rfl, h0⟩

/- selvage/selvageref14.Code -/
noncomputable abbrev PF7 := Tryz.f15

noncomputable def f7_K1 : List It := [.lp (cdAt (codeOf PF7) [1, 1, 1, 0, 1, 0, 0]), .blk 0, .c (cdAt (codeOf PF7) [1, 1, 1, 1])]

noncomputable def f7_S1 (p1_1 : List D) (p1_2 : List D) (p1_3 : List D) (p1_4 : Int) (p1_5 : Int) (p1_6 : Heap) : St :=
  { nt := 26, tm := [(1, .bp (.s 4 (.agg [.slice 4 p1_1, .slice 0 p1_2, .slice 0 p1_3, dI p1_4])) 4 0), (4, vI p1_5)], lo := [], hp := p1_6 }

theorem p7 : AA.prim F7 = none := by kernel_rfl
theorem a7 : AA.alone F7 = true := by kernel_rfl

theorem w7 {l1 : List D} {l2 : List D} {l3 : List D} {n4 : Int} {Q : V → Prop}
    (h0 : (Wa PP AA F13 [.s 4 (.agg [.slice 4 l1, .slice 0 l2, .slice 0 l3, dI n4])] fun v => ∃ (b5 : Bool), v = vBool b5 ∧ ((b5 = true → Wl PP AA F7 f7_K1 (f7_S1 l1 l2 l3 n4 0 Heap.none) (QAl Q)) ∧ (b5 = false → Q (vI 1))))) :
    Wa PP AA F7 [.s 4 (.agg [.slice 4 l1, .slice 0 l2, .slice 0 l3, dI n4])] Q := by
  obtain ⟨v, r0, b5, e, h0⟩ := h0
  subst e
  rcases bcase b5 with e | e
  · replace h0 := h0.1 e
    subst e
    exact ent_atA (fs := [fr (r0 Heap.none), bF]) p7 a7 (by kernel_rfl) (by kernel_rfl) h0
  · replace h0 := h0.2 e
    subst e
    exact ent_retA (fs := [fr (r0 Heap.none), bT]) (h' := Heap.none) p7 a7 (by kernel_rfl) (by kernel_rfl) (by kernel_rfl) h0

theorem w7_1 {p1_1 : List D} {p1_2 : List D} {p1_3 : List D} {p1_4 : Int} {p1_5 : Int} {p1_6 : Heap} {Q : V → Prop}
    (h0 : ((p1_5 < ((p1_1.length : Nat) : Int) → (Wc PP AA F14 [.s 4 (.agg [.slice 4 p1_1, .slice 0 p1_2, .slice 0 p1_3, dI p1_4]), vI p1_5] p1_6 fun v Hr13 => ∃ (xr11 : V) (br12 : Bool), v = .tuple [xr11, vBool br12] ∧ ((br12 = true → Wl PP AA F7 f7_K1 (f7_S1 p1_1 p1_2 p1_3 p1_4 ((W (p1_5 + 1))) Hr13) (QAl Q)) ∧ (br12 = false → Q (vI 30))))) ∧ (((p1_1.length : Nat) : Int) ≤ p1_5 → Q (vI 0)))) :
    Wl PP AA F7 f7_K1 (f7_S1 p1_1 p1_2 p1_3 p1_4 p1_5 p1_6) (QAl Q) := by
  rcases icase p1_5 (((p1_1.length : Nat) : Int)) with q0f | q0f
  · replace h0 := h0.1 q0f
    obtain ⟨v, Hr13, r1, xr11, br12, e, h0⟩ := h0
    subst e
    rcases bcase br12 with e | e
    · replace h0 := h0.1 e
      subst e
      exact lp_at (fs := [tt q0f, fr r1, bF]) (by kernel_rfl) h0
    · replace h0 := h0.2 e
      subst e
      exact lp_ret (fs := [tt q0f, fr r1, bT]) (h' := Hr13) (by kernel_rfl) ⟨by kernel_rfl, h0⟩
  · replace h0 := h0.2 q0f
    exact lp_ret (fs := [tl q0f]) (h' := p1_6) (by kernel_rfl) ⟨by kernel_rfl, h0⟩

/- (*selvage/gen.writer).exp -/
noncomputable abbrev PF8 := Tryz.f8

theorem p8 : AA.prim F8 = none := by kernel_rfl
theorem a8 : AA.alone F8 = false := by kernel_rfl

theorem w8 {i1 : Nat} {n2 : Int} {n3 : Int} {s4 : ByteArray} {l5 : List D} {n6 : Int} {l7 : List D} {l8 : List D} {l9 : List D} {l10 : List D} {b11 : Bool} {h12 : Heap} {Q : V → Heap → Prop}
    (h0 : (∃ (i13 : Nat) (c14 : Nat) (g15 : Nat), hpAt h12 i1 0 = some (.var (.agg [.ptr (.he i13 0) 0 3 0, .sl (.he c14 g15) 3 none])) ∧ (∃ (l16 : List D), hpAt h12 c14 g15 = some (.darr g15 3 l16) ∧ (((400 : Int) < ((l16.length : Nat) : Int) → Q (.tuple []) h12) ∧ (((l16.length : Nat) : Int) ≤ 400 → ((n2 = 10 → (Wc PP AA F30 [.ptr (.he i1 0) 0 2 0, .s 9 (.agg [dI 10, dI n3, dS s4, .slice 9 l5, dI n6, .slice 0 l7, .slice 6 l8, .slice 4 l9, .slice 0 l10]), vBool b11] h12 fun v H17 => v = .tuple [] ∧ Q (.tuple []) H17)) ∧ (n2 ≠ 10 → ((n2 = 15 → (Wc PP AA F31 [.ptr (.he i1 0) 0 2 0, .s 9 (.agg [dI 15, dI n3, dS s4, .slice 9 l5, dI n6, .slice 0 l7, .slice 6 l8, .slice 4 l9, .slice 0 l10]), vBool b11] h12 fun v H17 => v = .tuple [] ∧ Q (.tuple []) H17)) ∧ (n2 ≠ 15 → ((n2 = 11 → (Wc PP AA F32 [.ptr (.he i1 0) 0 2 0, .s 9 (.agg [dI 11, dI n3, dS s4, .slice 9 l5, dI n6, .slice 0 l7, .slice 6 l8, .slice 4 l9, .slice 0 l10]), vBool b11] h12 fun v H17 => v = .tuple [] ∧ Q (.tuple []) H17)) ∧ (n2 ≠ 11 → ((n2 = 12 → (Wc PP AA F33 [.ptr (.he i1 0) 0 2 0, .s 9 (.agg [dI 12, dI n3, dS s4, .slice 9 l5, dI n6, .slice 0 l7, .slice 6 l8, .slice 4 l9, .slice 0 l10]), vBool b11] h12 fun v H17 => v = .tuple [] ∧ Q (.tuple []) H17)) ∧ (n2 ≠ 12 → ((n2 = 9 → (Wc PP AA F34 [.ptr (.he i1 0) 0 2 0, .s 9 (.agg [dI 9, dI n3, dS s4, .slice 9 l5, dI n6, .slice 0 l7, .slice 6 l8, .slice 4 l9, .slice 0 l10]), vBool b11] h12 fun v H17 => v = .tuple [] ∧ Q (.tuple []) H17)) ∧ (n2 ≠ 9 → (findKey (.int .i64 n2) cK15 cL15 = some none ∧ ((n2 = 1 → (Wc PP AA F17 [.ptr (.he i13 0) 0 3 1, vI n3] h12 fun v H18 => ∃ (n17 : Int), v = vI n17 ∧ (Wc PP AA F16 [.ptr (.he i1 0) 0 2 0, vI 1, .d (.slice 0 ([dI n17]))] H18 fun v H20 => ∃ (n19 : Int), v = vI n19 ∧ ((b11 = true → (Wc PP AA F16 [.ptr (.he i1 0) 0 2 0, vI 15, .d (.slice 0 ([]))] H20 fun v H22 => ∃ (n21 : Int), v = vI n21 ∧ Q (.tuple []) H22)) ∧ (b11 = false → Q (.tuple []) H20))))) ∧ (n2 ≠ 1 → ((n2 = 2 → (Wc PP AA F18 [.ptr (.he i13 0) 0 3 2, .d (dS s4)] h12 fun v H18 => ∃ (n17 : Int), v = vI n17 ∧ (Wc PP AA F16 [.ptr (.he i1 0) 0 2 0, vI 2, .d (.slice 0 ([dI n17]))] H18 fun v H20 => ∃ (n19 : Int), v = vI n19 ∧ ((b11 = true → (Wc PP AA F16 [.ptr (.he i1 0) 0 2 0, vI 15, .d (.slice 0 ([]))] H20 fun v H22 => ∃ (n21 : Int), v = vI n21 ∧ Q (.tuple []) H22)) ∧ (b11 = false → Q (.tuple []) H20))))) ∧ (n2 ≠ 2 → ((n2 = 13 → (Wc PP AA F19 [.ptr (.he i1 0) 0 2 0, .s 9 (.agg [dI 13, dI n3, dS s4, .slice 9 l5, dI n6, .slice 0 l7, .slice 6 l8, .slice 4 l9, .slice 0 l10]), vI 21, vI 22, vBool true] h12 fun v H17 => v = .tuple [] ∧ ((b11 = true → (Wc PP AA F16 [.ptr (.he i1 0) 0 2 0, vI 15, .d (.slice 0 ([]))] H17 fun v H19 => ∃ (n18 : Int), v = vI n18 ∧ Q (.tuple []) H19)) ∧ (b11 = false → Q (.tuple []) H17)))) ∧ (n2 ≠ 13 → ((n2 = 21 → (Wc PP AA F19 [.ptr (.he i1 0) 0 2 0, .s 9 (.agg [dI 21, dI n3, dS s4, .slice 9 l5, dI n6, .slice 0 l7, .slice 6 l8, .slice 4 l9, .slice 0 l10]), vI 28, vI 29, vBool false] h12 fun v H17 => v = .tuple [] ∧ ((b11 = true → (Wc PP AA F16 [.ptr (.he i1 0) 0 2 0, vI 15, .d (.slice 0 ([]))] H17 fun v H19 => ∃ (n18 : Int), v = vI n18 ∧ Q (.tuple []) H19)) ∧ (b11 = false → Q (.tuple []) H17)))) ∧ (n2 ≠ 21 → ((n2 = 19 → (Wc PP AA F16 [.ptr (.he i1 0) 0 2 0, vI 26, .d (.slice 0 ([]))] h12 fun v H18 => ∃ (n17 : Int), v = vI n17 ∧ (Wa PP AA F20 [.s 9 (.agg [dI 19, dI n3, dS s4, .slice 9 l5, dI n6, .slice 0 l7, .slice 6 l8, .slice 4 l9, .slice 0 l10]), vI 0] fun v => ∃ (n19 : Int) (n20 : Int) (s21 : ByteArray) (l22 : List D) (n23 : Int) (l24 : List D) (l25 : List D) (l26 : List D) (l27 : List D), v = .s 9 (.agg [dI n19, dI n20, dS s21, .slice 9 l22, dI n23, .slice 0 l24, .slice 6 l25, .slice 4 l26, .slice 0 l27]) ∧ (Wc PP AA F8 [.ptr (.he i1 0) 0 2 0, .s 9 (.agg [dI n19, dI n20, dS s21, .slice 9 l22, dI n23, .slice 0 l24, .slice 6 l25, .slice 4 l26, .slice 0 l27]), vBool false] H18 fun v H28 => v = .tuple [] ∧ (Wc PP AA F16 [.ptr (.he i1 0) 0 2 0, vI 27, .d (.slice 0 ([]))] H28 fun v H30 => ∃ (n29 : Int), v = vI n29 ∧ ((b11 = true → (Wc PP AA F16 [.ptr (.he i1 0) 0 2 0, vI 15, .d (.slice 0 ([]))] H30 fun v H32 => ∃ (n31 : Int), v = vI n31 ∧ Q (.tuple []) H32)) ∧ (b11 = false → Q (.tuple []) H30))))))) ∧ (n2 ≠ 19 → ((n2 = 14 → (Wc PP AA F21 [.ptr (.he i1 0) 0 2 0, .s 9 (.agg [dI 14, dI n3, dS s4, .slice 9 l5, dI n6, .slice 0 l7, .slice 6 l8, .slice 4 l9, .slice 0 l10])] h12 fun v H17 => v = .tuple [] ∧ (((s4.toList == ((mkStr [94])).toList) = true → (Wc PP AA F16 [.ptr (.he i1 0) 0 2 0, vI 20, .d (.slice 0 ([]))] H17 fun v H19 => ∃ (n18 : Int), v = vI n18 ∧ ((b11 = true → (Wc PP AA F16 [.ptr (.he i1 0) 0 2 0, vI 15, .d (.slice 0 ([]))] H19 fun v H21 => ∃ (n20 : Int), v = vI n20 ∧ Q (.tuple []) H21)) ∧ (b11 = false → Q (.tuple []) H19)))) ∧ ((s4.toList == ((mkStr [94])).toList) = false → (Wa PP AA F22 [.d (dS (mkStr [43, 45, 42, 47, 37, 61, 60])), .d (dS s4)] fun v => ∃ (n18 : Int), v = vI n18 ∧ (Wc PP AA F16 [.ptr (.he i1 0) 0 2 0, vI 19, .d (.slice 0 ([dI (if 0 > n18 then 0 else n18)]))] H17 fun v H20 => ∃ (n19 : Int), v = vI n19 ∧ ((b11 = true → (Wc PP AA F16 [.ptr (.he i1 0) 0 2 0, vI 15, .d (.slice 0 ([]))] H20 fun v H22 => ∃ (n21 : Int), v = vI n21 ∧ Q (.tuple []) H22)) ∧ (b11 = false → Q (.tuple []) H20)))))))) ∧ (n2 ≠ 14 → (Wc PP AA F23 [.ptr (.he i1 0) 0 2 0, .s 9 (.agg [dI n2, dI n3, dS s4, .slice 9 l5, dI n6, .slice 0 l7, .slice 6 l8, .slice 4 l9, .slice 0 l10])] h12 fun v H17 => v = .tuple [] ∧ ((b11 = true → (Wc PP AA F16 [.ptr (.he i1 0) 0 2 0, vI 15, .d (.slice 0 ([]))] H17 fun v H19 => ∃ (n18 : Int), v = vI n18 ∧ Q (.tuple []) H19)) ∧ (b11 = false → Q (.tuple []) H17))))))))))))))))))))))))))))))) :
    Wc PP AA F8 [.ptr (.he i1 0) 0 2 0, .s 9 (.agg [dI n2, dI n3, dS s4, .slice 9 l5, dI n6, .slice 0 l7, .slice 6 l8, .slice 4 l9, .slice 0 l10]), vBool b11] h12 Q := by
  obtain ⟨i13, c14, g15, q0, h0⟩ := h0
  obtain ⟨l16, q1, h0⟩ := h0
  rcases icase 400 (((l16.length : Nat) : Int)) with q2f | q2f
  · replace h0 := h0.1 q2f
    exact ent_ret (fs := [fo q0, fo q1, tt q2f]) p8 a8 (by kernel_rfl) h0
  · replace h0 := h0.2 q2f
    rcases Classical.em (n2 = 10) with e | q4k0f
    · replace h0 := h0.1 e
      subst e
      obtain ⟨v, H17, r6, e, h0⟩ := h0
      subst e
      exact ent_ret (fs := [fo q0, fo q1, tl q2f, fr (cl15 h12 : RC PP AA F15 [] h12 (.mapv cK15 cL15) h12), fw (rfl : findKey (.int .i64 10) cK15 cL15 = some (some (.fn (.func F30) [] []))), bT, fr r6]) p8 a8 (by kernel_rfl) h0
    · replace h0 := h0.2 q4k0f
      rcases Classical.em (n2 = 15) with e | q4k1f
      · replace h0 := h0.1 e
        subst e
        obtain ⟨v, H17, r6, e, h0⟩ := h0
        subst e
        exact ent_ret (fs := [fo q0, fo q1, tl q2f, fr (cl15 h12 : RC PP AA F15 [] h12 (.mapv cK15 cL15) h12), fw (rfl : findKey (.int .i64 15) cK15 cL15 = some (some (.fn (.func F31) [] []))), bT, fr r6]) p8 a8 (by kernel_rfl) h0
      · replace h0 := h0.2 q4k1f
        rcases Classical.em (n2 = 11) with e | q4k2f
        · replace h0 := h0.1 e
          subst e
          obtain ⟨v, H17, r6, e, h0⟩ := h0
          subst e
          exact ent_ret (fs := [fo q0, fo q1, tl q2f, fr (cl15 h12 : RC PP AA F15 [] h12 (.mapv cK15 cL15) h12), fw (rfl : findKey (.int .i64 11) cK15 cL15 = some (some (.fn (.func F32) [] []))), bT, fr r6]) p8 a8 (by kernel_rfl) h0
        · replace h0 := h0.2 q4k2f
          rcases Classical.em (n2 = 12) with e | q4k3f
          · replace h0 := h0.1 e
            subst e
            obtain ⟨v, H17, r6, e, h0⟩ := h0
            subst e
            exact ent_ret (fs := [fo q0, fo q1, tl q2f, fr (cl15 h12 : RC PP AA F15 [] h12 (.mapv cK15 cL15) h12), fw (rfl : findKey (.int .i64 12) cK15 cL15 = some (some (.fn (.func F33) [] []))), bT, fr r6]) p8 a8 (by kernel_rfl) h0
          · replace h0 := h0.2 q4k3f
            rcases Classical.em (n2 = 9) with e | q4k4f
            · replace h0 := h0.1 e
              subst e
              obtain ⟨v, H17, r6, e, h0⟩ := h0
              subst e
              exact ent_ret (fs := [fo q0, fo q1, tl q2f, fr (cl15 h12 : RC PP AA F15 [] h12 (.mapv cK15 cL15) h12), fw (rfl : findKey (.int .i64 9) cK15 cL15 = some (some (.fn (.func F34) [] []))), bT, fr r6]) p8 a8 (by kernel_rfl) h0
            · replace h0 := h0.2 q4k4f
              obtain ⟨q4, h0⟩ := h0
              rcases Classical.em (n2 = 1) with e | q6f
              · replace h0 := h0.1 e
                subst e
                obtain ⟨v, H18, r8, n17, e, h0⟩ := h0
                subst e
                obtain ⟨v, H20, r9, n19, e, h0⟩ := h0
                subst e
                rcases bcase b11 with e | e
                · replace h0 := h0.1 e
                  subst e
                  obtain ⟨v, H22, r11, n21, e, h0⟩ := h0
                  subst e
                  exact ent_ret (fs := [fo q0, fo q1, tl q2f, fr (cl15 h12 : RC PP AA F15 [] h12 (.mapv cK15 cL15) h12), fw (rfl : findKey (.int .i64 1) cK15 cL15 = some none), bF, bT, fo q0, fr r8, fr r9, bT, fr r11]) p8 a8 (by kernel_rfl) h0
                · replace h0 := h0.2 e
                  subst e
                  exact ent_ret (fs := [fo q0, fo q1, tl q2f, fr (cl15 h12 : RC PP AA F15 [] h12 (.mapv cK15 cL15) h12), fw (rfl : findKey (.int .i64 1) cK15 cL15 = some none), bF, bT, fo q0, fr r8, fr r9, bF]) p8 a8 (by kernel_rfl) h0
              · replace h0 := h0.2 q6f
                rcases Classical.em (n2 = 2) with e | q7f
                · replace h0 := h0.1 e
                  subst e
                  obtain ⟨v, H18, r9, n17, e, h0⟩ := h0
                  subst e
                  obtain ⟨v, H20, r10, n19, e, h0⟩ := h0
                  subst e
                  rcases bcase b11 with e | e
                  · replace h0 := h0.1 e
                    subst e
                    obtain ⟨v, H22, r12, n21, e, h0⟩ := h0
                    subst e
                    exact ent_ret (fs := [fo q0, fo q1, tl q2f, fr (cl15 h12 : RC PP AA F15 [] h12 (.mapv cK15 cL15) h12), fw (rfl : findKey (.int .i64 2) cK15 cL15 = some none), bF, bF, bT, fo q0, fr r9, fr r10, bT, fr r12]) p8 a8 (by kernel_rfl) h0
                  · replace h0 := h0.2 e
                    subst e
                    exact ent_ret (fs := [fo q0, fo q1, tl q2f, fr (cl15 h12 : RC PP AA F15 [] h12 (.mapv cK15 cL15) h12), fw (rfl : findKey (.int .i64 2) cK15 cL15 = some none), bF, bF, bT, fo q0, fr r9, fr r10, bF]) p8 a8 (by kernel_rfl) h0
                · replace h0 := h0.2 q7f
                  rcases Classical.em (n2 = 13) with e | q8f
                  · replace h0 := h0.1 e
                    subst e
                    obtain ⟨v, H17, r9, e, h0⟩ := h0
                    subst e
                    rcases bcase b11 with e | e
                    · replace h0 := h0.1 e
                      subst e
                      obtain ⟨v, H19, r11, n18, e, h0⟩ := h0
                      subst e
                      exact ent_ret (fs := [fo q0, fo q1, tl q2f, fr (cl15 h12 : RC PP AA F15 [] h12 (.mapv cK15 cL15) h12), fw (rfl : findKey (.int .i64 13) cK15 cL15 = some none), bF, bF, bF, bT, fr r9, bT, fr r11]) p8 a8 (by kernel_rfl) h0
                    · replace h0 := h0.2 e
                      subst e
                      exact ent_ret (fs := [fo q0, fo q1, tl q2f, fr (cl15 h12 : RC PP AA F15 [] h12 (.mapv cK15 cL15) h12), fw (rfl : findKey (.int .i64 13) cK15 cL15 = some none), bF, bF, bF, bT, fr r9, bF]) p8 a8 (by kernel_rfl) h0
                  · replace h0 := h0.2 q8f
                    rcases Classical.em (n2 = 21) with e | q9f
                    · replace h0 := h0.1 e
                      subst e
                      obtain ⟨v, H17, r10, e, h0⟩ := h0
                      subst e
                      rcases bcase b11 with e | e
                      · replace h0 := h0.1 e
                        subst e
                        obtain ⟨v, H19, r12, n18, e, h0⟩ := h0
                        subst e
                        exact ent_ret (fs := [fo q0, fo q1, tl q2f, fr (cl15 h12 : RC PP AA F15 [] h12 (.mapv cK15 cL15) h12), fw (rfl : findKey (.int .i64 21) cK15 cL15 = some none), bF, bF, bF, bF, bT, fr r10, bT, fr r12]) p8 a8 (by kernel_rfl) h0
                      · replace h0 := h0.2 e
                        subst e
                        exact ent_ret (fs := [fo q0, fo q1, tl q2f, fr (cl15 h12 : RC PP AA F15 [] h12 (.mapv cK15 cL15) h12), fw (rfl : findKey (.int .i64 21) cK15 cL15 = some none), bF, bF, bF, bF, bT, fr r10, bF]) p8 a8 (by kernel_rfl) h0
                    · replace h0 := h0.2 q9f
                      rcases Classical.em (n2 = 19) with e | q10f
                      · replace h0 := h0.1 e
                        subst e
                        obtain ⟨v, H18, r11, n17, e, h0⟩ := h0
                        subst e
                        obtain ⟨v, r12, n19, n20, s21, l22, n23, l24, l25, l26, l27, e, h0⟩ := h0
                        subst e
                        obtain ⟨v, H28, r13, e, h0⟩ := h0
                        subst e
                        obtain ⟨v, H30, r14, n29, e, h0⟩ := h0
                        subst e
                        rcases bcase b11 with e | e
                        · replace h0 := h0.1 e
                          subst e
                          obtain ⟨v, H32, r16, n31, e, h0⟩ := h0
                          subst e
                          exact ent_ret (fs := [fo q0, fo q1, tl q2f, fr (cl15 h12 : RC PP AA F15 [] h12 (.mapv cK15 cL15) h12), fw (rfl : findKey (.int .i64 19) cK15 cL15 = some none), bF, bF, bF, bF, bF, bT, fr r11, fr (r12 H18), fr r13, fr r14, bT, fr r16]) p8 a8 (by kernel_rfl) h0
                        · replace h0 := h0.2 e
                          subst e
                          exact ent_ret (fs := [fo q0, fo q1, tl q2f, fr (cl15 h12 : RC PP AA F15 [] h12 (.mapv cK15 cL15) h12), fw (rfl : findKey (.int .i64 19) cK15 cL15 = some none), bF, bF, bF, bF, bF, bT, fr r11, fr (r12 H18), fr r13, fr r14, bF]) p8 a8 (by kernel_rfl) h0
                      · replace h0 := h0.2 q10f
                        rcases Classical.em (n2 = 14) with e | q11f
                        · replace h0 := h0.1 e
                          subst e
                          obtain ⟨v, H17, r12, e, h0⟩ := h0
                          subst e
                          rcases bcase ((s4.toList == ((mkStr [94])).toList)) with q13f | q13f
                          · replace h0 := h0.1 q13f
                            obtain ⟨v, H19, r14, n18, e, h0⟩ := h0
                            subst e
                            rcases bcase b11 with e | e
                            · replace h0 := h0.1 e
                              subst e
                              obtain ⟨v, H21, r16, n20, e, h0⟩ := h0
                              subst e
                              exact ent_ret (fs := [fo q0, fo q1, tl q2f, fr (cl15 h12 : RC PP AA F15 [] h12 (.mapv cK15 cL15) h12), fw (rfl : findKey (.int .i64 14) cK15 cL15 = some none), bF, bF, bF, bF, bF, bF, bT, fr r12, bt q13f, fr r14, bT, fr r16]) p8 a8 (by kernel_rfl) h0
                            · replace h0 := h0.2 e
                              subst e
                              exact ent_ret (fs := [fo q0, fo q1, tl q2f, fr (cl15 h12 : RC PP AA F15 [] h12 (.mapv cK15 cL15) h12), fw (rfl : findKey (.int .i64 14) cK15 cL15 = some none), bF, bF, bF, bF, bF, bF, bT, fr r12, bt q13f, fr r14, bF]) p8 a8 (by kernel_rfl) h0
                          · replace h0 := h0.2 q13f
                            obtain ⟨v, r14, n18, e, h0⟩ := h0
                            subst e
                            obtain ⟨v, H20, r15, n19, e, h0⟩ := h0
                            subst e
                            rcases bcase b11 with e | e
                            · replace h0 := h0.1 e
                              subst e
                              obtain ⟨v, H22, r17, n21, e, h0⟩ := h0
                              subst e
                              exact ent_ret (fs := [fo q0, fo q1, tl q2f, fr (cl15 h12 : RC PP AA F15 [] h12 (.mapv cK15 cL15) h12), fw (rfl : findKey (.int .i64 14) cK15 cL15 = some none), bF, bF, bF, bF, bF, bF, bT, fr r12, bf q13f, fr (r14 H17), fr r15, bT, fr r17]) p8 a8 (by kernel_rfl) h0
                            · replace h0 := h0.2 e
                              subst e
                              exact ent_ret (fs := [fo q0, fo q1, tl q2f, fr (cl15 h12 : RC PP AA F15 [] h12 (.mapv cK15 cL15) h12), fw (rfl : findKey (.int .i64 14) cK15 cL15 = some none), bF, bF, bF, bF, bF, bF, bT, fr r12, bf q13f, fr (r14 H17), fr r15, bF]) p8 a8 (by kernel_rfl) h0
                        · replace h0 := h0.2 q11f
                          obtain ⟨v, H17, r12, e, h0⟩ := h0
                          subst e
                          rcases bcase b11 with e | e
                          · replace h0 := h0.1 e
                            subst e
                            obtain ⟨v, H19, r14, n18, e, h0⟩ := h0
                            subst e
                            exact ent_ret (fs := [fo q0, fo q1, tl q2f, fr (cl15 h12 : RC PP AA F15 [] h12 (.mapv cK15 cL15) h12), fw q4, bF, bf (beq_eq_false_iff_ne.mpr q6f), bf (beq_eq_false_iff_ne.mpr q7f), bf (beq_eq_false_iff_ne.mpr q8f), bf (beq_eq_false_iff_ne.mpr q9f), bf (beq_eq_false_iff_ne.mpr q10f), bf (beq_eq_false_iff_ne.mpr q11f), fr r12, bT, fr r14]) p8 a8 (by kernel_rfl) h0
                          · replace h0 := h0.2 e
                            subst e
                            exact ent_ret (fs := [fo q0, fo q1, tl q2f, fr (cl15 h12 : RC PP AA F15 [] h12 (.mapv cK15 cL15) h12), fw q4, bF, bf (beq_eq_false_iff_ne.mpr q6f), bf (beq_eq_false_iff_ne.mpr q7f), bf (beq_eq_false_iff_ne.mpr q8f), bf (beq_eq_false_iff_ne.mpr q9f), bf (beq_eq_false_iff_ne.mpr q10f), bf (beq_eq_false_iff_ne.mpr q11f), fr r12, bF]) p8 a8 (by kernel_rfl) h0

/- selvage/gen.needs -/
noncomputable abbrev PF9 := Tryz.f9

noncomputable def f9_K1 : List It := [.lp (cdAt (codeOf PF9) [1, 1, 1, 0, 1, 0, 0]), .blk 0, .c (cdAt (codeOf PF9) [1, 1, 1, 1])]

noncomputable def f9_S1 (p1_1 : Bool) (p1_2 : Int) (p1_3 : List D) (p1_4 : Int) (p1_5 : Int) : St :=
  { nt := 28, tm := [(3, vBool p1_1), (4, vI p1_2), (12, .d (.slice 9 p1_3)), (13, vI p1_4), (14, vI p1_5)], lo := [], hp := Heap.none }

theorem p9 : AA.prim F9 = none := by kernel_rfl
theorem a9 : AA.alone F9 = true := by kernel_rfl

theorem w9 {n1 : Int} {n2 : Int} {s3 : ByteArray} {l4 : List D} {n5 : Int} {l6 : List D} {l7 : List D} {l8 : List D} {l9 : List D} {Q : V → Prop}
    (h0 : (Wa PP AA F24 [.d (.slice 0 ([dI 10, dI 15, dI 11, dI 12, dI 13, dI 21, dI 19])), vI n1] fun v => ∃ (b10 : Bool), v = vBool b10 ∧ Wl PP AA F9 f9_K1 (f9_S1 b10 1 l4 (((l4.length : Nat) : Int)) 0) (QAl Q))) :
    Wa PP AA F9 [.s 9 (.agg [dI n1, dI n2, dS s3, .slice 9 l4, dI n5, .slice 0 l6, .slice 6 l7, .slice 4 l8, .slice 0 l9])] Q := by
  obtain ⟨v, r0, b10, e, h0⟩ := h0
  subst e
  exact ent_atA (fs := [fr (r0 Heap.none)]) p9 a9 (by kernel_rfl) (by kernel_rfl) h0

theorem w9_1 {p1_1 : Bool} {p1_2 : Int} {p1_3 : List D} {p1_4 : Int} {p1_5 : Int} {Q : V → Prop}
    (h0 : ((p1_5 < p1_4 → ((0 : Int) ≤ p1_5 ∧ (∃ (nr11 : Int) (nr12 : Int) (sr13 : ByteArray) (lr14 : List D) (nr15 : Int) (lr16 : List D) (lr17 : List D) (lr18 : List D) (lr19 : List D), p1_3[(Int.toNat p1_5)]? = some (.agg [dI nr11, dI nr12, dS sr13, .slice 9 lr14, dI nr15, .slice 0 lr16, .slice 6 lr17, .slice 4 lr18, .slice 0 lr19]) ∧ ((p1_1 = true → (Wa PP AA F9 [.s 9 (.agg [dI nr11, dI nr12, dS sr13, .slice 9 lr14, dI nr15, .slice 0 lr16, .slice 6 lr17, .slice 4 lr18, .slice 0 lr19])] fun v => ∃ (nr110 : Int), v = vI nr110 ∧ Wl PP AA F9 f9_K1 (f9_S1 true ((if (W (0 + nr110)) > p1_2 then (W (0 + nr110)) else p1_2)) p1_3 p1_4 ((W (p1_5 + 1)))) (QAl Q))) ∧ (p1_1 = false → (Wa PP AA F9 [.s 9 (.agg [dI nr11, dI nr12, dS sr13, .slice 9 lr14, dI nr15, .slice 0 lr16, .slice 6 lr17, .slice 4 lr18, .slice 0 lr19])] fun v => ∃ (nr110 : Int), v = vI nr110 ∧ Wl PP AA F9 f9_K1 (f9_S1 false ((if (W (p1_5 + nr110)) > p1_2 then (W (p1_5 + nr110)) else p1_2)) p1_3 p1_4 ((W (p1_5 + 1)))) (QAl Q))))))) ∧ (p1_4 ≤ p1_5 → Q (vI p1_2)))) :
    Wl PP AA F9 f9_K1 (f9_S1 p1_1 p1_2 p1_3 p1_4 p1_5) (QAl Q) := by
  rcases icase p1_5 p1_4 with q0f | q0f
  · replace h0 := h0.1 q0f
    obtain ⟨q1, h0⟩ := h0
    obtain ⟨nr11, nr12, sr13, lr14, nr15, lr16, lr17, lr18, lr19, q2, h0⟩ := h0
    rcases bcase p1_1 with e | e
    · replace h0 := h0.1 e
      subst e
      obtain ⟨v, r4, nr110, e, h0⟩ := h0
      subst e
      exact lp_at (fs := [tt q0f, rd q1, fd q2, bT, fr (r4 Heap.none)]) (by kernel_rfl) h0
    · replace h0 := h0.2 e
      subst e
      obtain ⟨v, r4, nr110, e, h0⟩ := h0
      subst e
      exact lp_at (fs := [tt q0f, rd q1, fd q2, bF, fr (r4 Heap.none)]) (by kernel_rfl) h0
  · replace h0 := h0.2 q0f
    exact lp_ret (fs := [tl q0f]) (h' := Heap.none) (by kernel_rfl) ⟨by kernel_rfl, h0⟩

/- slices.ContainsFunc[[]selvage/api.Instr,selvage/api.Instr] -/
noncomputable abbrev PF10 := Tryz.f10

theorem p10 : AA.prim F10 = none := by kernel_rfl
theorem a10 : AA.alone F10 = false := by kernel_rfl

theorem w10 {l1 : List D} {f2 : Nat} {h3 : Heap} {Q : V → Heap → Prop}
    (h0 : (Wa PP AA F25 [.d (.slice 3 l1), .fn (.func f2) [] []] fun v => ∃ (n4 : Int), v = vI n4 ∧ Q (vBool (decide (n4 ≥ 0))) h3)) :
    Wc PP AA F10 [.d (.slice 3 l1), .fn (.func f2) [] []] h3 Q := by
  obtain ⟨v, r0, n4, e, h0⟩ := h0
  subst e
  exact ent_ret (fs := [fr (r0 h3)]) p10 a10 (by kernel_rfl) h0

theorem w10h {c1 : Nat} {g2 : Nat} {f3 : Nat} {h4 : Heap} {Q : V → Heap → Prop}
    (h0 : (Wn PP AA F25 [.sl (.he c1 g2) 3 none, .fn (.func f3) [] []] h4 fun v => ∃ (n5 : Int), v = vI n5 ∧ Q (vBool (decide (n5 ≥ 0))) h4)) :
    Wc PP AA F10 [.sl (.he c1 g2) 3 none, .fn (.func f3) [] []] h4 Q := by
  obtain ⟨v, r0, n5, e, h0⟩ := h0
  subst e
  exact ent_ret (fs := [fr r0]) p10 a10 (by kernel_rfl) h0

/- selvage/gen.Code$1 -/
noncomputable abbrev PF11 := Tryz.f11

theorem p11 : AA.prim F11 = none := by kernel_rfl
theorem a11 : AA.alone F11 = true := by kernel_rfl

theorem w11 {n1 : Int} {n2 : Int} {n3 : Int} {Q : V → Prop}
    (h0 : ((n1 = 18 → Q (vBool (decide (n2 > 65535)))) ∧ (n1 ≠ 18 → Q (vBool false)))) :
    Wa PP AA F11 [.s 3 (.agg [dI n1, dI n2, dI n3])] Q := by
  rcases Classical.em (n1 = 18) with e | q0f
  · replace h0 := h0.1 e
    subst e
    exact ent_retA (fs := [bT, bT, bT, bT]) (h' := Heap.none) p11 a11 (by kernel_rfl) (by kernel_rfl) (by kernel_rfl) h0
  · replace h0 := h0.2 q0f
    exact ent_retA (fs := [bf (beq_eq_false_iff_ne.mpr q0f), bf (beq_eq_false_iff_ne.mpr q0f), bf (beq_eq_false_iff_ne.mpr q0f), bf (beq_eq_false_iff_ne.mpr q0f)]) (h' := Heap.none) p11 a11 (by kernel_rfl) (by kernel_rfl) (by kernel_rfl) h0

/- selvage/verify.Code -/
noncomputable abbrev PF12 := Tryz.f12

noncomputable def f12_K1 : List It := [.lp (cdAt (codeOf PF12) [1, 1, 0, 1, 0, 0]), .blk 0, .c (cdAt (codeOf PF12) [1, 1, 1])]

noncomputable def f12_S1 (p1_1 : List D) (p1_2 : List D) (p1_3 : List D) (p1_4 : Int) (p1_5 : Int) (p1_6 : Int) (p1_7 : Heap) : St :=
  { nt := 32, tm := [(1, .bp (.s 4 (.agg [.slice 4 p1_1, .slice 0 p1_2, .slice 0 p1_3, dI p1_4])) 4 0), (12, .d (.slice 4 p1_1)), (13, vI p1_5), (14, vI p1_6)], lo := [], hp := p1_7 }

theorem p12 : AA.prim F12 = none := by kernel_rfl
theorem a12 : AA.alone F12 = true := by kernel_rfl

theorem w12 {l1 : List D} {l2 : List D} {l3 : List D} {n4 : Int} {Q : V → Prop}
    (h0 : (Wa PP AA F26 [.s 4 (.agg [.slice 4 l1, .slice 0 l2, .slice 0 l3, dI n4])] fun v => ∃ (b5 : Bool), v = vBool b5 ∧ ((b5 = true → Wl PP AA F12 f12_K1 (f12_S1 l1 l2 l3 n4 (((l1.length : Nat) : Int)) 0 Heap.none) (QAl Q)) ∧ (b5 = false → Q (vI 1))))) :
    Wa PP AA F12 [.s 4 (.agg [.slice 4 l1, .slice 0 l2, .slice 0 l3, dI n4])] Q := by
  obtain ⟨v, r0, b5, e, h0⟩ := h0
  subst e
  rcases bcase b5 with e | e
  · replace h0 := h0.1 e
    subst e
    exact ent_atA (fs := [fr (r0 Heap.none), bF]) p12 a12 (by kernel_rfl) (by kernel_rfl) h0
  · replace h0 := h0.2 e
    subst e
    exact ent_retA (fs := [fr (r0 Heap.none), bT]) (h' := Heap.none) p12 a12 (by kernel_rfl) (by kernel_rfl) (by kernel_rfl) h0

theorem w12_1 {p1_1 : List D} {p1_2 : List D} {p1_3 : List D} {p1_4 : Int} {p1_5 : Int} {p1_6 : Int} {p1_7 : Heap} {Q : V → Prop}
    (h0 : ((p1_6 < p1_5 → ((0 : Int) ≤ p1_6 ∧ (∃ (nr11 : Int) (nr12 : Int) (nr13 : Int) (lr14 : List D), p1_1[(Int.toNat p1_6)]? = some (.agg [dI nr11, dI nr12, dI nr13, .slice 3 lr14]) ∧ (Wc PP AA F27 [.ptr (.he p1_7.n 0) 0 9 0] (Heap.push p1_7 (.var (.s 9 (.agg [.slice 4 p1_1, .slice 0 p1_2, .slice 0 p1_3, dI p1_4, dI p1_6, dI nr11, dI nr12, dI nr13, .slice 3 lr14])))) fun v Hr17 => ∃ (xr15 : V) (br16 : Bool), v = .tuple [xr15, vBool br16] ∧ ((br16 = true → Wl PP AA F12 f12_K1 (f12_S1 p1_1 p1_2 p1_3 p1_4 p1_5 ((W (p1_6 + 1))) Hr17) (QAl Q)) ∧ (br16 = false → Q (vI 30))))))) ∧ (p1_5 ≤ p1_6 → Q (vI 0)))) :
    Wl PP AA F12 f12_K1 (f12_S1 p1_1 p1_2 p1_3 p1_4 p1_5 p1_6 p1_7) (QAl Q) := by
  rcases icase p1_6 p1_5 with q0f | q0f
  · replace h0 := h0.1 q0f
    obtain ⟨q1, h0⟩ := h0
    obtain ⟨nr11, nr12, nr13, lr14, q2, h0⟩ := h0
    obtain ⟨v, Hr17, r3, xr15, br16, e, h0⟩ := h0
    subst e
    rcases bcase br16 with e | e
    · replace h0 := h0.1 e
      subst e
      exact lp_at (fs := [tt q0f, rd q1, fd q2, fr r3, bF]) (by kernel_rfl) h0
    · replace h0 := h0.2 e
      subst e
      exact lp_ret (fs := [tt q0f, rd q1, fd q2, fr r3, bT]) (h' := Hr17) (by kernel_rfl) ⟨by kernel_rfl, h0⟩
  · replace h0 := h0.2 q0f
    exact lp_ret (fs := [tl q0f]) (h' := p1_7) (by kernel_rfl) ⟨by kernel_rfl, h0⟩

/- selvage/selvageref13.May -/
noncomputable abbrev PF13 := Tryz.f39

noncomputable def f13_K1 : List It := [.lp (cdAt (codeOf PF13) [1, 1, 0, 1, 0, 0]), .blk 0, .c (cdAt (codeOf PF13) [1, 1, 1])]

noncomputable def f13_S1 (p1_1 : List D) (p1_2 : List D) (p1_3 : List D) (p1_4 : Int) (p1_5 : Int) : St :=
  { nt := 143, tm := [(1, .bp (.s 4 (.agg [.slice 4 p1_1, .slice 0 p1_2, .slice 0 p1_3, dI p1_4])) 4 0), (3, vI p1_5)], lo := [], hp := Heap.none }

noncomputable def f13_K2 : List It := [.lp (cdAt (codeOf PF13) [1, 1, 1, 0, 1, 0, 0]), .blk 2, .c (cdAt (codeOf PF13) [1, 1, 1, 1])]

noncomputable def f13_S2 (p2_1 : List D) (p2_2 : List D) (p2_3 : List D) (p2_4 : Int) (p2_5 : Int) : St :=
  { nt := 143, tm := [(1, .bp (.s 4 (.agg [.slice 4 p2_1, .slice 0 p2_2, .slice 0 p2_3, dI p2_4])) 4 0), (4, vI p2_5)], lo := [], hp := Heap.none }

noncomputable def f13_K3 : List It := [.lp (cdAt (codeOf PF13) [1, 1, 1, 1, 0, 1, 0, 0]), .blk 4, .c (cdAt (codeOf PF13) [1, 1, 1, 1, 1])]

noncomputable def f13_S3 (p3_1 : List D) (p3_2 : List D) (p3_3 : List D) (p3_4 : Int) (p3_5 : Int) : St :=
  { nt := 143, tm := [(1, .bp (.s 4 (.agg [.slice 4 p3_1, .slice 0 p3_2, .slice 0 p3_3, dI p3_4])) 4 0), (5, vI p3_5)], lo := [], hp := Heap.none }

noncomputable def f13_K4 : List It := [.lp (cdAt (codeOf PF13) [1, 1, 1, 1, 0, 1, 0, 0, 1, 0, 0, 1, 1, 1, 0, 0]), .blk 6, .blk 5, .c (cdAt (codeOf PF13) [1, 1, 1, 1, 0, 1, 0, 0, 1, 1]), .lp (cdAt (codeOf PF13) [1, 1, 1, 1, 0, 1, 0, 0]), .blk 4, .c (cdAt (codeOf PF13) [1, 1, 1, 1, 1])]

noncomputable def f13_S4 (p4_1 : List D) (p4_2 : List D) (p4_3 : List D) (p4_4 : Int) (p4_5 : Int) (p4_6 : Int) (p4_7 : Int) (p4_8 : Int) (p4_9 : Int) (p4_10 : List D) : St :=
  { nt := 143, tm := [(1, .bp (.s 4 (.agg [.slice 4 p4_1, .slice 0 p4_2, .slice 0 p4_3, dI p4_4])) 4 0), (5, vI p4_5), (6, .ptr (.lo 0) 0 4 0), (7, vI p4_6)], lo := [(0, .var (.s 4 (.agg [dI p4_7, dI p4_8, dI p4_9, .slice 3 p4_10])))], hp := Heap.none }

theorem p13 : AA.prim F13 = none := by kernel_rfl
theorem a13 : AA.alone F13 = true := by kernel_rfl

theorem w13 {l1 : List D} {l2 : List D} {l3 : List D} {n4 : Int} {Q : V → Prop}
    (h0 : ((((l1.length : Nat) : Int) < 1 → Q (vBool false)) ∧ ((1 : Int) ≤ ((l1.length : Nat) : Int) → (((120 : Int) < ((l1.length : Nat) : Int) → Q (vBool false)) ∧ (((l1.length : Nat) : Int) ≤ 120 → (((120 : Int) < ((l2.length : Nat) : Int) → Q (vBool false)) ∧ (((l2.length : Nat) : Int) ≤ 120 → (((120 : Int) < ((l3.length : Nat) : Int) → Q (vBool false)) ∧ (((l3.length : Nat) : Int) ≤ 120 → ((n4 < 0 → Q (vBool false)) ∧ ((0 : Int) ≤ n4 → (((60 : Int) < n4 → Q (vBool false)) ∧ (n4 ≤ 60 → Wl PP AA F13 f13_K1 (f13_S1 l1 l2 l3 n4 0) (QAl Q)))))))))))))) :
    Wa PP AA F13 [.s 4 (.agg [.slice 4 l1, .slice 0 l2, .slice 0 l3, dI n4])] Q := by
  rcases icase (((l1.length : Nat) : Int)) 1 with q0f | q0f
  · replace h0 := h0.1 q0f
    exact ent_retA (fs := [tt q0f, tt q0f, tt q0f, tt q0f, tt q0f, bT, bT, bT, bT, bT, bT, bT, bT, bT, bT, bT, bT, bT, bT, bT, bT, bT, bT, bT]) (h' := Heap.none) p13 a13 (by kernel_rfl) (by kernel_rfl) (by kernel_rfl) h0
  · replace h0 := h0.2 q0f
    rcases icase 120 (((l1.length : Nat) : Int)) with q5f | q5f
    · replace h0 := h0.1 q5f
      exact ent_retA (fs := [tl q0f, tl q0f, tl q0f, tl q0f, tl q0f, tt q5f, tt q5f, tt q5f, tt q5f, tt q5f, bT, bT, bT, bT, bT, bT, bT, bT, bT, bT, bT, bT, bT, bT]) (h' := Heap.none) p13 a13 (by kernel_rfl) (by kernel_rfl) (by kernel_rfl) h0
    · replace h0 := h0.2 q5f
      rcases icase 120 (((l2.length : Nat) : Int)) with q10f | q10f
      · replace h0 := h0.1 q10f
        exact ent_retA (fs := [tl q0f, tl q0f, tl q0f, tl q0f, tl q0f, tl q5f, tl q5f, tl q5f, tl q5f, tl q5f, tt q10f, tt q10f, tt q10f, tt q10f, tt q10f, bT, bT, bT, bT, bT, bT, bT, bT, bT]) (h' := Heap.none) p13 a13 (by kernel_rfl) (by kernel_rfl) (by kernel_rfl) h0
      · replace h0 := h0.2 q10f
        rcases icase 120 (((l3.length : Nat) : Int)) with q15f | q15f
        · replace h0 := h0.1 q15f
          exact ent_retA (fs := [tl q0f, tl q0f, tl q0f, tl q0f, tl q0f, tl q5f, tl q5f, tl q5f, tl q5f, tl q5f, tl q10f, tl q10f, tl q10f, tl q10f, tl q10f, tt q15f, tt q15f, tt q15f, tt q15f, bT, bT, bT, bT, bT]) (h' := Heap.none) p13 a13 (by kernel_rfl) (by kernel_rfl) (by kernel_rfl) h0
        · replace h0 := h0.2 q15f
          rcases icase n4 0 with q19f | q19f
          · replace h0 := h0.1 q19f
            exact ent_retA (fs := [tl q0f, tl q0f, tl q0f, tl q0f, tl q0f, tl q5f, tl q5f, tl q5f, tl q5f, tl q5f, tl q10f, tl q10f, tl q10f, tl q10f, tl q10f, tl q15f, tl q15f, tl q15f, tl q15f, tt q19f, tt q19f, tt q19f, tt q19f, bT]) (h' := Heap.none) p13 a13 (by kernel_rfl) (by kernel_rfl) (by kernel_rfl) h0
          · replace h0 := h0.2 q19f
            rcases icase 60 n4 with q23f | q23f
            · replace h0 := h0.1 q23f
              exact ent_retA (fs := [tl q0f, tl q0f, tl q0f, tl q0f, tl q0f, tl q5f, tl q5f, tl q5f, tl q5f, tl q5f, tl q10f, tl q10f, tl q10f, tl q10f, tl q10f, tl q15f, tl q15f, tl q15f, tl q15f, tl q19f, tl q19f, tl q19f, tl q19f, tt q23f]) (h' := Heap.none) p13 a13 (by kernel_rfl) (by kernel_rfl) (by kernel_rfl) h0
            · replace h0 := h0.2 q23f
              exact ent_atA (fs := [tl q0f, tl q0f, tl q0f, tl q0f, tl q0f, tl q5f, tl q5f, tl q5f, tl q5f, tl q5f, tl q10f, tl q10f, tl q10f, tl q10f, tl q10f, tl q15f, tl q15f, tl q15f, tl q15f, tl q19f, tl q19f, tl q19f, tl q19f, tl q23f]) p13 a13 (by kernel_rfl) (by kernel_rfl) h0

theorem w13_1 {p1_1 : List D} {p1_2 : List D} {p1_3 : List D} {p1_4 : Int} {p1_5 : Int} {Q : V → Prop}
    (h0 : ((p1_5 < ((p1_2.length : Nat) : Int) → ((0 : Int) ≤ p1_5 ∧ (∃ (nr11 : Int), p1_2[(Int.toNat p1_5)]? = some (dI nr11) ∧ ((nr11 < (-4611686018427387904) → Q (vBool false)) ∧ (((-4611686018427387904) : Int) ≤ nr11 → (((4611686018427387903 : Int) < nr11 → Q (vBool false)) ∧ (nr11 ≤ 4611686018427387903 → Wl PP AA F13 f13_K1 (f13_S1 p1_1 p1_2 p1_3 p1_4 ((W (p1_5 + 1)))) (QAl Q)))))))) ∧ (((p1_2.length : Nat) : Int) ≤ p1_5 → Wl PP AA F13 f13_K2 (f13_S2 p1_1 p1_2 p1_3 p1_4 0) (QAl Q)))) :
    Wl PP AA F13 f13_K1 (f13_S1 p1_1 p1_2 p1_3 p1_4 p1_5) (QAl Q) := by
  rcases icase p1_5 (((p1_2.length : Nat) : Int)) with q0f | q0f
  · replace h0 := h0.1 q0f
    obtain ⟨q1, h0⟩ := h0
    obtain ⟨nr11, q2, h0⟩ := h0
    rcases icase nr11 ((-4611686018427387904)) with q3f | q3f
    · replace h0 := h0.1 q3f
      exact lp_ret (fs := [tt q0f, rd q1, fd q2, tt q3f, tt q3f, tt q3f, tt q3f, tt q3f, tt q3f, tt q3f, bT]) (h' := Heap.none) (by kernel_rfl) ⟨by kernel_rfl, h0⟩
    · replace h0 := h0.2 q3f
      rcases icase 4611686018427387903 nr11 with q12f | q12f
      · replace h0 := h0.1 q12f
        exact lp_ret (fs := [tt q0f, rd q1, fd q2, tl q3f, tl q3f, tl q3f, tl q3f, rd q1, fd q2, tl q3f, tl q3f, tl q3f, tt q12f]) (h' := Heap.none) (by kernel_rfl) ⟨by kernel_rfl, h0⟩
      · replace h0 := h0.2 q12f
        exact lp_at (fs := [tt q0f, rd q1, fd q2, tl q3f, tl q3f, tl q3f, tl q3f, rd q1, fd q2, tl q3f, tl q3f, tl q3f, tl q12f]) (by kernel_rfl) h0
  · replace h0 := h0.2 q0f
    exact lp_at (fs := [tl q0f]) (by kernel_rfl) h0

theorem w13_2 {p2_1 : List D} {p2_2 : List D} {p2_3 : List D} {p2_4 : Int} {p2_5 : Int} {Q : V → Prop}
    (h0 : ((p2_5 < ((p2_3.length : Nat) : Int) → ((0 : Int) ≤ p2_5 ∧ (∃ (sr21 : ByteArray), p2_3[(Int.toNat p2_5)]? = some (dS sr21) ∧ (((60 : Int) < ((sr21.size : Nat) : Int) → Q (vBool false)) ∧ (((sr21.size : Nat) : Int) ≤ 60 → Wl PP AA F13 f13_K2 (f13_S2 p2_1 p2_2 p2_3 p2_4 ((W (p2_5 + 1)))) (QAl Q)))))) ∧ (((p2_3.length : Nat) : Int) ≤ p2_5 → Wl PP AA F13 f13_K3 (f13_S3 p2_1 p2_2 p2_3 p2_4 0) (QAl Q)))) :
    Wl PP AA F13 f13_K2 (f13_S2 p2_1 p2_2 p2_3 p2_4 p2_5) (QAl Q) := by
  rcases icase p2_5 (((p2_3.length : Nat) : Int)) with q0f | q0f
  · replace h0 := h0.1 q0f
    obtain ⟨q1, h0⟩ := h0
    obtain ⟨sr21, q2, h0⟩ := h0
    rcases icase 60 (((sr21.size : Nat) : Int)) with q3f | q3f
    · replace h0 := h0.1 q3f
      exact lp_ret (fs := [tt q0f, rd q1, fd q2, tt q3f]) (h' := Heap.none) (by kernel_rfl) ⟨by kernel_rfl, h0⟩
    · replace h0 := h0.2 q3f
      exact lp_at (fs := [tt q0f, rd q1, fd q2, tl q3f]) (by kernel_rfl) h0
  · replace h0 := h0.2 q0f
    exact lp_at (fs := [tl q0f]) (by kernel_rfl) h0

theorem w13_3 {p3_1 : List D} {p3_2 : List D} {p3_3 : List D} {p3_4 : Int} {p3_5 : Int} {Q : V → Prop}
    (h0 : ((p3_5 < ((p3_1.length : Nat) : Int) → ((0 : Int) ≤ p3_5 ∧ (∃ (nr31 : Int) (nr32 : Int) (nr33 : Int) (lr34 : List D), p3_1[(Int.toNat p3_5)]? = some (.agg [dI nr31, dI nr32, dI nr33, .slice 3 lr34]) ∧ ((nr31 < 0 → Q (vBool false)) ∧ ((0 : Int) ≤ nr31 → (((59 : Int) < nr31 → Q (vBool false)) ∧ (nr31 ≤ 59 → ((nr32 < 0 → Q (vBool false)) ∧ ((0 : Int) ≤ nr32 → (((60 : Int) < nr32 → Q (vBool false)) ∧ (nr32 ≤ 60 → ((nr33 < 1 → Q (vBool false)) ∧ ((1 : Int) ≤ nr33 → (((60 : Int) < nr33 → Q (vBool false)) ∧ (nr33 ≤ 60 → ((((lr34.length : Nat) : Int) < 1 → Q (vBool false)) ∧ ((1 : Int) ≤ ((lr34.length : Nat) : Int) → (((400 : Int) < ((lr34.length : Nat) : Int) → Q (vBool false)) ∧ (((lr34.length : Nat) : Int) ≤ 400 → Wl PP AA F13 f13_K4 (f13_S4 p3_1 p3_2 p3_3 p3_4 p3_5 0 nr31 nr32 nr33 lr34) (QAl Q)))))))))))))))))))) ∧ (((p3_1.length : Nat) : Int) ≤ p3_5 → Q (vBool true)))) :
    Wl PP AA F13 f13_K3 (f13_S3 p3_1 p3_2 p3_3 p3_4 p3_5) (QAl Q) := by
  rcases icase p3_5 (((p3_1.length : Nat) : Int)) with q0f | q0f
  · replace h0 := h0.1 q0f
    obtain ⟨q1, h0⟩ := h0
    obtain ⟨nr31, nr32, nr33, lr34, q2, h0⟩ := h0
    rcases icase nr31 0 with q3f | q3f
    · replace h0 := h0.1 q3f
      exact lp_ret (fs := [tt q0f, rd q1, fd q2, tt q3f, tt q3f, tt q3f, tt q3f, bT, bT, bT, bT, bT, bT, bT, bT, bT, bT, bT, bT, bT, bT, bT, bT, bT, bT, bT, bT, bT, bT, bT, bT, bT, bT, bT]) (h' := Heap.none) (by kernel_rfl) ⟨by kernel_rfl, h0⟩
    · replace h0 := h0.2 q3f
      rcases icase 59 nr31 with q7f | q7f
      · replace h0 := h0.1 q7f
        exact lp_ret (fs := [tt q0f, rd q1, fd q2, tl q3f, tl q3f, tl q3f, tl q3f, tt q7f, tt q7f, tt q7f, tt q7f, bT, bT, bT, bT, bT, bT, bT, bT, bT, bT, bT, bT, bT, bT, bT, bT, bT, bT, bT, bT, bT, bT, bT]) (h' := Heap.none) (by kernel_rfl) ⟨by kernel_rfl, h0⟩
      · replace h0 := h0.2 q7f
        rcases icase nr32 0 with q11f | q11f
        · replace h0 := h0.1 q11f
          exact lp_ret (fs := [tt q0f, rd q1, fd q2, tl q3f, tl q3f, tl q3f, tl q3f, tl q7f, tl q7f, tl q7f, tl q7f, tt q11f, tt q11f, tt q11f, tt q11f, bT, bT, bT, bT, bT, bT, bT, bT, bT, bT, bT, bT, bT, bT, bT, bT, bT, bT, bT]) (h' := Heap.none) (by kernel_rfl) ⟨by kernel_rfl, h0⟩
        · replace h0 := h0.2 q11f
          rcases icase 60 nr32 with q15f | q15f
          · replace h0 := h0.1 q15f
            exact lp_ret (fs := [tt q0f, rd q1, fd q2, tl q3f, tl q3f, tl q3f, tl q3f, tl q7f, tl q7f, tl q7f, tl q7f, tl q11f, tl q11f, tl q11f, tl q11f, tt q15f, tt q15f, tt q15f, tt q15f, bT, bT, bT, bT, bT, bT, bT, bT, bT, bT, bT, bT, bT, bT, bT]) (h' := Heap.none) (by kernel_rfl) ⟨by kernel_rfl, h0⟩
          · replace h0 := h0.2 q15f
            rcases icase nr33 1 with q19f | q19f
            · replace h0 := h0.1 q19f
              exact lp_ret (fs := [tt q0f, rd q1, fd q2, tl q3f, tl q3f, tl q3f, tl q3f, tl q7f, tl q7f, tl q7f, tl q7f, tl q11f, tl q11f, tl q11f, tl q11f, tl q15f, tl q15f, tl q15f, tl q15f, tt q19f, tt q19f, tt q19f, tt q19f, bT, bT, bT, bT, bT, bT, bT, bT, bT, bT, bT]) (h' := Heap.none) (by kernel_rfl) ⟨by kernel_rfl, h0⟩
            · replace h0 := h0.2 q19f
              rcases icase 60 nr33 with q23f | q23f
              · replace h0 := h0.1 q23f
                exact lp_ret (fs := [tt q0f, rd q1, fd q2, tl q3f, tl q3f, tl q3f, tl q3f, tl q7f, tl q7f, tl q7f, tl q7f, tl q11f, tl q11f, tl q11f, tl q11f, tl q15f, tl q15f, tl q15f, tl q15f, tl q19f, tl q19f, tl q19f, tl q19f, tt q23f, tt q23f, tt q23f, tt q23f, tt q23f, bT, bT, bT, bT, bT, bT]) (h' := Heap.none) (by kernel_rfl) ⟨by kernel_rfl, h0⟩
              · replace h0 := h0.2 q23f
                rcases icase (((lr34.length : Nat) : Int)) 1 with q28f | q28f
                · replace h0 := h0.1 q28f
                  exact lp_ret (fs := [tt q0f, rd q1, fd q2, tl q3f, tl q3f, tl q3f, tl q3f, tl q7f, tl q7f, tl q7f, tl q7f, tl q11f, tl q11f, tl q11f, tl q11f, tl q15f, tl q15f, tl q15f, tl q15f, tl q19f, tl q19f, tl q19f, tl q19f, tl q23f, tl q23f, tl q23f, tl q23f, tl q23f, tt q28f, tt q28f, tt q28f, tt q28f, tt q28f, bT]) (h' := Heap.none) (by kernel_rfl) ⟨by kernel_rfl, h0⟩
                · replace h0 := h0.2 q28f
                  rcases icase 400 (((lr34.length : Nat) : Int)) with q33f | q33f
                  · replace h0 := h0.1 q33f
                    exact lp_ret (fs := [tt q0f, rd q1, fd q2, tl q3f, tl q3f, tl q3f, tl q3f, tl q7f, tl q7f, tl q7f, tl q7f, tl q11f, tl q11f, tl q11f, tl q11f, tl q15f, tl q15f, tl q15f, tl q15f, tl q19f, tl q19f, tl q19f, tl q19f, tl q23f, tl q23f, tl q23f, tl q23f, tl q23f, tl q28f, tl q28f, tl q28f, tl q28f, tl q28f, tt q33f]) (h' := Heap.none) (by kernel_rfl) ⟨by kernel_rfl, h0⟩
                  · replace h0 := h0.2 q33f
                    exact lp_at (fs := [tt q0f, rd q1, fd q2, tl q3f, tl q3f, tl q3f, tl q3f, tl q7f, tl q7f, tl q7f, tl q7f, tl q11f, tl q11f, tl q11f, tl q11f, tl q15f, tl q15f, tl q15f, tl q15f, tl q19f, tl q19f, tl q19f, tl q19f, tl q23f, tl q23f, tl q23f, tl q23f, tl q23f, tl q28f, tl q28f, tl q28f, tl q28f, tl q28f, tl q33f]) (by kernel_rfl) h0
  · replace h0 := h0.2 q0f
    exact lp_ret (fs := [tl q0f]) (h' := Heap.none) (by kernel_rfl) ⟨by kernel_rfl, h0⟩

theorem w13_4 {p4_1 : List D} {p4_2 : List D} {p4_3 : List D} {p4_4 : Int} {p4_5 : Int} {p4_6 : Int} {p4_7 : Int} {p4_8 : Int} {p4_9 : Int} {p4_10 : List D} {Q : V → Prop}
    (h0 : ((p4_6 < ((p4_10.length : Nat) : Int) → ((0 : Int) ≤ p4_6 ∧ (∃ (nr41 : Int) (nr42 : Int) (nr43 : Int), p4_10[(Int.toNat p4_6)]? = some (.agg [dI nr41, dI nr42, dI nr43]) ∧ (Wa PP AA F28 [.s 3 (.agg [dI nr41, dI nr42, dI nr43])] fun v => ∃ (br44 : Bool), v = vBool br44 ∧ ((br44 = true → Wl PP AA F13 f13_K4 (f13_S4 p4_1 p4_2 p4_3 p4_4 p4_5 ((W (p4_6 + 1))) p4_7 p4_8 p4_9 p4_10) (QAl Q)) ∧ (br44 = false → Q (vBool false))))))) ∧ (((p4_10.length : Nat) : Int) ≤ p4_6 → Wl PP AA F13 f13_K3 (f13_S3 p4_1 p4_2 p4_3 p4_4 ((W (p4_5 + 1)))) (QAl Q)))) :
    Wl PP AA F13 f13_K4 (f13_S4 p4_1 p4_2 p4_3 p4_4 p4_5 p4_6 p4_7 p4_8 p4_9 p4_10) (QAl Q) := by
  rcases icase p4_6 (((p4_10.length : Nat) : Int)) with q0f | q0f
  · replace h0 := h0.1 q0f
    obtain ⟨q1, h0⟩ := h0
    obtain ⟨nr41, nr42, nr43, q2, h0⟩ := h0
    obtain ⟨v, r3, br44, e, h0⟩ := h0
    subst e
    rcases bcase br44 with e | e
    · replace h0 := h0.1 e
      subst e
      exact lp_at (fs := [tt q0f, rd q1, fd q2, fr (r3 Heap.none), bF]) (by kernel_rfl) h0
    · replace h0 := h0.2 e
      subst e
      exact lp_ret (fs := [tt q0f, rd q1, fd q2, fr (r3 Heap.none), bT]) (h' := Heap.none) (by kernel_rfl) ⟨by kernel_rfl, h0⟩
  · replace h0 := h0.2 q0f
    exact lp_at (fs := [tl q0f]) (by kernel_rfl) h0

/- selvage/selvageref14.Walk -/
noncomputable abbrev PF14 := Tryz.f40

noncomputable def f14_K1 : List It := [.lp (cdAt (codeOf PF14) [1, 1, 1, 1, 1, 0, 0]), .blk 0]

noncomputable def f14_S1 (p1_1 : Int) (p1_2 : List D) (p1_3 : List D) (p1_4 : List D) (p1_5 : Int) (p1_6 : Nat) (p1_7 : Int) (p1_8 : Int) (p1_9 : Int) (p1_10 : List D) (p1_11 : List D) (p1_12 : Heap) : St :=
  { nt := 64, tm := [(1, vI p1_1), (2, .bp (.s 4 (.agg [.slice 4 p1_2, .slice 0 p1_3, .slice 0 p1_4, dI p1_5])) 4 0), (6, .ptr (.lo 0) 0 4 0), (7, .sl (.he p1_6 0) 3 none), (8, .sl (.lo 1) 0 none)], lo := [(0, .var (.s 4 (.agg [dI p1_7, dI p1_8, dI p1_9, .slice 3 p1_10]))), (1, .darr 0 0 p1_11)], hp := p1_12 }

noncomputable def f14_K2 : List It := [.lp (cdAt (codeOf PF14) [1, 1, 1, 1, 1, 0, 0, 0, 1, 0, 0, 0]), .blk 2, .c (cdAt (codeOf PF14) [1, 1, 1, 1, 1, 0, 0, 0, 1, 1]), .blk 1, .lp (cdAt (codeOf PF14) [1, 1, 1, 1, 1, 0, 0]), .blk 0]

noncomputable def f14_S2 (p2_1 : Int) (p2_2 : List D) (p2_3 : List D) (p2_4 : List D) (p2_5 : Int) (p2_6 : Nat) (p2_7 : Int) (p2_8 : Int) (p2_9 : Int) (p2_10 : Int) (p2_11 : List D) (p2_12 : List D) (p2_13 : Heap) : St :=
  { nt := 64, tm := [(1, vI p2_1), (2, .bp (.s 4 (.agg [.slice 4 p2_2, .slice 0 p2_3, .slice 0 p2_4, dI p2_5])) 4 0), (6, .ptr (.lo 0) 0 4 0), (7, .sl (.he p2_6 0) 3 none), (8, .sl (.lo 1) 0 none), (9, vI p2_7)], lo := [(0, .var (.s 4 (.agg [dI p2_8, dI p2_9, dI p2_10, .slice 3 p2_11]))), (1, .darr 0 0 p2_12)], hp := p2_13 }

theorem p14 : AA.prim F14 = none := by kernel_rfl
theorem a14 : AA.alone F14 = false := by kernel_rfl

theorem w14 {l1 : List D} {l2 : List D} {l3 : List D} {n4 : Int} {n5 : Int} {h6 : Heap} {Q : V → Heap → Prop}
    (h0 : ((0 : Int) ≤ n5 ∧ (∃ (n7 : Int) (n8 : Int) (n9 : Int) (l10 : List D), l1[(Int.toNat n5)]? = some (.agg [dI n7, dI n8, dI n9, .slice 3 l10]) ∧ ((Int.toNat (((l10.length : Nat) : Int))) ≤ 274877906944 ∧ (((List.replicate ((Int.toNat (((l10.length : Nat) : Int)))) (.agg [dB false, dI 0, .slice 2 ([])] : D)) : List D).length ≤ 274877906944 ∧ (hpAt (Heap.push h6 (.darr 0 3 ((List.replicate ((Int.toNat (((l10.length : Nat) : Int)))) (.agg [dB false, dI 0, .slice 2 ([])] : D))))) h6.n 0 = some (.darr 0 3 ((List.replicate ((Int.toNat (((l10.length : Nat) : Int)))) (.agg [dB false, dI 0, .slice 2 ([])] : D)))) ∧ (0 < ((List.replicate ((Int.toNat (((l10.length : Nat) : Int)))) (.agg [dB false, dI 0, .slice 2 ([])] : D)) : List D).length ∧ (∃ (b11 : Bool) (n12 : Int) (l13 : List D), ((List.replicate ((Int.toNat (((l10.length : Nat) : Int)))) (.agg [dB false, dI 0, .slice 2 ([])] : D)))[0]? = some (.agg [dB b11, dI n12, .slice 2 l13]) ∧ (((List.replicate ((Int.toNat (((l10.length : Nat) : Int)))) (dB false : D)) : List D).length ≤ 274877906944 ∧ Wl PP AA F14 f14_K1 (f14_S1 n5 l1 l2 l3 n4 h6.n n7 n8 n9 l10 ((List.replicate ((Int.toNat (((l10.length : Nat) : Int)))) (dB false : D))) ((Heap.put (Heap.push h6 (.darr 0 3 ((List.replicate ((Int.toNat (((l10.length : Nat) : Int)))) (.agg [dB false, dI 0, .slice 2 ([])] : D))))) h6.n (some (.darr 0 3 ((((List.replicate ((Int.toNat (((l10.length : Nat) : Int)))) (.agg [dB false, dI 0, .slice 2 ([])] : D))).set 0 (.agg [dB true, dI 0, .slice 2 ([])])))))))) Q))))))))) :
    Wc PP AA F14 [.s 4 (.agg [.slice 4 l1, .slice 0 l2, .slice 0 l3, dI n4]), vI n5] h6 Q := by
  obtain ⟨q0, h0⟩ := h0
  obtain ⟨n7, n8, n9, l10, q1, h0⟩ := h0
  have q3 : (0 : Int) ≤ ((l10.length : Nat) : Int) := by omega
  obtain ⟨q4a, h0⟩ := h0
  obtain ⟨q5, h0⟩ := h0
  obtain ⟨q7, h0⟩ := h0
  obtain ⟨q8, h0⟩ := h0
  obtain ⟨b11, n12, l13, q10, h0⟩ := h0
  obtain ⟨q14, h0⟩ := h0
  exact ent_at (fs := [rd q0, fd q1, rt (decide_eq_true (rfl : (((l10.length : Nat) : Int) : Int) = ((l10.length : Nat) : Int))), rd q3, rt (andT (Nat.ble_eq_true_of_le q4a) rfl), rt (Nat.ble_eq_true_of_le q5), rq, fo q7, rt (Nat.ble_eq_true_of_le q8), fo q7, fd q10, rt (decide_eq_true (rfl : (((l10.length : Nat) : Int) : Int) = ((l10.length : Nat) : Int))), rd q3, rt (andT (Nat.ble_eq_true_of_le q4a) rfl), rt (Nat.ble_eq_true_of_le q14)]) p14 a14 (by kernel_rfl) h0

theorem w14_1 {p1_1 : Int} {p1_2 : List D} {p1_3 : List D} {p1_4 : List D} {p1_5 : Int} {p1_6 : Nat} {p1_7 : Int} {p1_8 : Int} {p1_9 : Int} {p1_10 : List D} {p1_11 : List D} {p1_12 : Heap} {Q : V → Heap → Prop}
    (h0 : Wl PP AA F14 f14_K2 (f14_S2 p1_1 p1_2 p1_3 p1_4 p1_5 p1_6 0 p1_7 p1_8 p1_9 p1_10 p1_11 p1_12) Q) :
    Wl PP AA F14 f14_K1 (f14_S1 p1_1 p1_2 p1_3 p1_4 p1_5 p1_6 p1_7 p1_8 p1_9 p1_10 p1_11 p1_12) Q := by
  exact lp_at (fs := []) (by kernel_rfl) h0

theorem w14_2 {p2_1 : Int} {p2_2 : List D} {p2_3 : List D} {p2_4 : List D} {p2_5 : Int} {p2_6 : Nat} {p2_7 : Int} {p2_8 : Int} {p2_9 : Int} {p2_10 : Int} {p2_11 : List D} {p2_12 : List D} {p2_13 : Heap} {Q : V → Heap → Prop}
    (h0 : ((p2_7 < ((p2_11.length : Nat) : Int) → ((0 : Int) ≤ p2_7 ∧ ((Int.toNat p2_7) < p2_12.length ∧ (∃ (br21 : Bool), p2_12[(Int.toNat p2_7)]? = some (dB br21) ∧ ((br21 = true → Wl PP AA F14 f14_K2 (f14_S2 p2_1 p2_2 p2_3 p2_4 p2_5 p2_6 ((W (p2_7 + 1))) p2_8 p2_9 p2_10 p2_11 p2_12 p2_13) Q) ∧ (br21 = false → (∃ (lr22 : List D), hpAt p2_13 p2_6 0 = some (.darr 0 3 lr22) ∧ ((Int.toNat p2_7) < lr22.length ∧ (∃ (br23 : Bool) (nr24 : Int) (lr25 : List D), lr22[(Int.toNat p2_7)]? = some (.agg [dB br23, dI nr24, .slice 2 lr25]) ∧ ((br23 = true → ((p2_7 = ((p2_11.length : Nat) : Int) → Q (.tuple [.sl (.he p2_6 0) 3 none, vBool true]) p2_13) ∧ (p2_7 ≠ ((p2_11.length : Nat) : Int) → (Wc PP AA F29 [.s 4 (.agg [.slice 4 p2_2, .slice 0 p2_3, .slice 0 p2_4, dI p2_5]), vI p2_1, vI p2_7, .sl (.he p2_6 0) 3 none] p2_13 fun v Hr27 => ∃ (br26 : Bool), v = vBool br26 ∧ ((br26 = true → Wl PP AA F14 f14_K1 (f14_S1 p2_1 p2_2 p2_3 p2_4 p2_5 p2_6 p2_8 p2_9 p2_10 p2_11 ((p2_12.set ((Int.toNat p2_7)) (dB true))) Hr27) Q) ∧ (br26 = false → Q (.tuple [.d (.slice 3 ([])), vBool false]) Hr27)))))) ∧ (br23 = false → Wl PP AA F14 f14_K2 (f14_S2 p2_1 p2_2 p2_3 p2_4 p2_5 p2_6 ((W (p2_7 + 1))) p2_8 p2_9 p2_10 p2_11 p2_12 p2_13) Q))))))))))) ∧ (((p2_11.length : Nat) : Int) ≤ p2_7 → ((p2_7 = ((p2_11.length : Nat) : Int) → Q (.tuple [.sl (.he p2_6 0) 3 none, vBool true]) p2_13) ∧ (p2_7 ≠ ((p2_11.length : Nat) : Int) → ((0 : Int) ≤ p2_7 ∧ ((Int.toNat p2_7) < p2_12.length ∧ (∃ (br21 : Bool), p2_12[(Int.toNat p2_7)]? = some (dB br21) ∧ (Wc PP AA F29 [.s 4 (.agg [.slice 4 p2_2, .slice 0 p2_3, .slice 0 p2_4, dI p2_5]), vI p2_1, vI p2_7, .sl (.he p2_6 0) 3 none] p2_13 fun v Hr23 => ∃ (br22 : Bool), v = vBool br22 ∧ ((br22 = true → Wl PP AA F14 f14_K1 (f14_S1 p2_1 p2_2 p2_3 p2_4 p2_5 p2_6 p2_8 p2_9 p2_10 p2_11 ((p2_12.set ((Int.toNat p2_7)) (dB true))) Hr23) Q) ∧ (br22 = false → Q (.tuple [.d (.slice 3 ([])), vBool false]) Hr23))))))))))) :
    Wl PP AA F14 f14_K2 (f14_S2 p2_1 p2_2 p2_3 p2_4 p2_5 p2_6 p2_7 p2_8 p2_9 p2_10 p2_11 p2_12 p2_13) Q := by
  rcases icase p2_7 (((p2_11.length : Nat) : Int)) with q0f | q0f
  · replace h0 := h0.1 q0f
    obtain ⟨q3, h0⟩ := h0
    obtain ⟨q4, h0⟩ := h0
    obtain ⟨br21, q6, h0⟩ := h0
    rcases bcase br21 with e | e
    · replace h0 := h0.1 e
      subst e
      exact lp_at (fs := [tt q0f, tt q0f, tt q0f, rd q3, rt (Nat.ble_eq_true_of_le q4), tt q0f, fd q6, tt q0f, bT, bT, bT, bT, bT, bT, tt q0f, bT, tt q0f, bT]) (by kernel_rfl) h0
    · replace h0 := h0.2 e
      subst e
      obtain ⟨lr22, q12, h0⟩ := h0
      obtain ⟨q13, h0⟩ := h0
      obtain ⟨br23, nr24, lr25, q17, h0⟩ := h0
      rcases bcase br23 with e | e
      · replace h0 := h0.1 e
        subst e
        rcases Classical.em ((p2_7 : Int) = ((p2_11.length : Nat) : Int)) with q23f | q23f
        · replace h0 := h0.1 q23f
          exact lp_ret (fs := [tt q0f, tt q0f, tt q0f, rd q3, rt (Nat.ble_eq_true_of_le q4), tt q0f, fd q6, tt q0f, bF, bF, bF, rd q3, fo q12, rt (Nat.ble_eq_true_of_le q13), bF, bF, fo q12, fd q17, bF, tt q0f, bF, tt q0f, bF, bt (beq_iff_eq.mpr q23f)]) (by kernel_rfl) h0
        · replace h0 := h0.2 q23f
          obtain ⟨v, Hr27, r27, br26, e, h0⟩ := h0
          subst e
          rcases bcase br26 with e | e
          · replace h0 := h0.1 e
            subst e
            exact lp_at (fs := [tt q0f, tt q0f, tt q0f, rd q3, rt (Nat.ble_eq_true_of_le q4), tt q0f, fd q6, tt q0f, bF, bF, bF, rd q3, fo q12, rt (Nat.ble_eq_true_of_le q13), bF, bF, fo q12, fd q17, bF, tt q0f, bF, tt q0f, bF, bf (beq_eq_false_iff_ne.mpr q23f), rd q3, rt (Nat.ble_eq_true_of_le q4), fd q6, fr r27, bF]) (by kernel_rfl) h0
          · replace h0 := h0.2 e
            subst e
            exact lp_ret (fs := [tt q0f, tt q0f, tt q0f, rd q3, rt (Nat.ble_eq_true_of_le q4), tt q0f, fd q6, tt q0f, bF, bF, bF, rd q3, fo q12, rt (Nat.ble_eq_true_of_le q13), bF, bF, fo q12, fd q17, bF, tt q0f, bF, tt q0f, bF, bf (beq_eq_false_iff_ne.mpr q23f), rd q3, rt (Nat.ble_eq_true_of_le q4), fd q6, fr r27, bT]) (by kernel_rfl) h0
      · replace h0 := h0.2 e
        subst e
        exact lp_at (fs := [tt q0f, tt q0f, tt q0f, rd q3, rt (Nat.ble_eq_true_of_le q4), tt q0f, fd q6, tt q0f, bF, bF, bF, rd q3, fo q12, rt (Nat.ble_eq_true_of_le q13), bF, bF, fo q12, fd q17, bF, tt q0f, bF, tt q0f, bT]) (by kernel_rfl) h0
  · replace h0 := h0.2 q0f
    rcases Classical.em ((p2_7 : Int) = ((p2_11.length : Nat) : Int)) with q8f | q8f
    · replace h0 := h0.1 q8f
      exact lp_ret (fs := [tl q0f, tl q0f, tl q0f, tl q0f, tl q0f, tl q0f, tl q0f, bF, bt (beq_iff_eq.mpr q8f)]) (by kernel_rfl) h0
    · replace h0 := h0.2 q8f
      obtain ⟨q9, h0⟩ := h0
      obtain ⟨q10, h0⟩ := h0
      obtain ⟨br21, q11, h0⟩ := h0
      obtain ⟨v, Hr23, r12, br22, e, h0⟩ := h0
      subst e
      rcases bcase br22 with e | e
      · replace h0 := h0.1 e
        subst e
        exact lp_at (fs := [tl q0f, tl q0f, tl q0f, tl q0f, tl q0f, tl q0f, tl q0f, bF, bf (beq_eq_false_iff_ne.mpr q8f), rd q9, rt (Nat.ble_eq_true_of_le q10), fd q11, fr r12, bF]) (by kernel_rfl) h0
      · replace h0 := h0.2 e
        subst e
        exact lp_ret (fs := [tl q0f, tl q0f, tl q0f, tl q0f, tl q0f, tl q0f, tl q0f, bF, bf (beq_eq_false_iff_ne.mpr q8f), rd q9, rt (Nat.ble_eq_true_of_le q10), fd q11, fr r12, bT]) (by kernel_rfl) h0

/- (*selvage/gen.writer).put -/
noncomputable abbrev PF16 := Tryz.f17

theorem p16 : AA.prim F16 = none := by kernel_rfl
theorem a16 : AA.alone F16 = false := by kernel_rfl

theorem w16 {i1 : Nat} {n2 : Int} {l3 : List D} {h4 : Heap} {Q : V → Heap → Prop}
    (h0 : (((0 : Int) < ((l3.length : Nat) : Int) → (∃ (n5 : Int), l3[0]? = some (dI n5) ∧ (((1 : Int) < ((l3.length : Nat) : Int) → (∃ (n6 : Int), l3[1]? = some (dI n6) ∧ (∃ (i7 : Nat) (c8 : Nat) (g9 : Nat), hpAt h4 i1 0 = some (.var (.agg [.ptr (.he i7 0) 0 3 0, .sl (.he c8 g9) 3 none])) ∧ (∃ (l10 : List D), hpAt h4 c8 g9 = some (.darr g9 3 l10) ∧ (((400 : Int) < ((l10.length : Nat) : Int) → Q (vI (W (((l10.length : Nat) : Int) - 1))) h4) ∧ (((l10.length : Nat) : Int) ≤ 400 → ((l10.length + 1) ≤ 274877906944 ∧ (hpAt (Heap.put h4 c8 (some (.darr ((g9 + 1)) 3 ((l10 ++ [.agg [dI n2, dI n5, dI n6]]))))) i1 0 = some (.var (.agg [.ptr (.he i7 0) 0 3 0, .sl (.he c8 g9) 3 none])) ∧ (hpAt (Heap.put (Heap.put h4 c8 (some (.darr ((g9 + 1)) 3 ((l10 ++ [.agg [dI n2, dI n5, dI n6]]))))) i1 (some (.var (.agg [.ptr (.he i7 0) 0 3 0, .sl (.he c8 ((g9 + 1))) 3 none])))) i1 0 = some (.var (.agg [.ptr (.he i7 0) 0 3 0, .sl (.he c8 ((g9 + 1))) 3 none])) ∧ (hpAt (Heap.put (Heap.put h4 c8 (some (.darr ((g9 + 1)) 3 ((l10 ++ [.agg [dI n2, dI n5, dI n6]]))))) i1 (some (.var (.agg [.ptr (.he i7 0) 0 3 0, .sl (.he c8 ((g9 + 1))) 3 none])))) c8 ((g9 + 1)) = some (.darr ((g9 + 1)) 3 ((l10 ++ [.agg [dI n2, dI n5, dI n6]]))) ∧ Q (vI (W ((((((l10 ++ [.agg [dI n2, dI n5, dI n6]]) : List D).length) : Nat) : Int) - 1))) (Heap.put (Heap.put h4 c8 (some (.darr ((g9 + 1)) 3 ((l10 ++ [.agg [dI n2, dI n5, dI n6]]))))) i1 (some (.var (.agg [.ptr (.he i7 0) 0 3 0, .sl (.he c8 ((g9 + 1))) 3 none])))))))))))))) ∧ (((l3.length : Nat) : Int) ≤ 1 → (∃ (i6 : Nat) (c7 : Nat) (g8 : Nat), hpAt h4 i1 0 = some (.var (.agg [.ptr (.he i6 0) 0 3 0, .sl (.he c7 g8) 3 none])) ∧ (∃ (l9 : List D), hpAt h4 c7 g8 = some (.darr g8 3 l9) ∧ (((400 : Int) < ((l9.length : Nat) : Int) → Q (vI (W (((l9.length : Nat) : Int) - 1))) h4) ∧ (((l9.length : Nat) : Int) ≤ 400 → ((l9.length + 1) ≤ 274877906944 ∧ (hpAt (Heap.put h4 c7 (some (.darr ((g8 + 1)) 3 ((l9 ++ [.agg [dI n2, dI n5, dI 0]]))))) i1 0 = some (.var (.agg [.ptr (.he i6 0) 0 3 0, .sl (.he c7 g8) 3 none])) ∧ (hpAt (Heap.put (Heap.put h4 c7 (some (.darr ((g8 + 1)) 3 ((l9 ++ [.agg [dI n2, dI n5, dI 0]]))))) i1 (some (.var (.agg [.ptr (.he i6 0) 0 3 0, .sl (.he c7 ((g8 + 1))) 3 none])))) i1 0 = some (.var (.agg [.ptr (.he i6 0) 0 3 0, .sl (.he c7 ((g8 + 1))) 3 none])) ∧ (hpAt (Heap.put (Heap.put h4 c7 (some (.darr ((g8 + 1)) 3 ((l9 ++ [.agg [dI n2, dI n5, dI 0]]))))) i1 (some (.var (.agg [.ptr (.he i6 0) 0 3 0, .sl (.he c7 ((g8 + 1))) 3 none])))) c7 ((g8 + 1)) = some (.darr ((g8 + 1)) 3 ((l9 ++ [.agg [dI n2, dI n5, dI 0]]))) ∧ Q (vI (W ((((((l9 ++ [.agg [dI n2, dI n5, dI 0]]) : List D).length) : Nat) : Int) - 1))) (Heap.put (Heap.put h4 c7 (some (.darr ((g8 + 1)) 3 ((l9 ++ [.agg [dI n2, dI n5, dI 0]]))))) i1 (some (.var (.agg [.ptr (.he i6 0) 0 3 0, .sl (.he c7 ((g8 + 1))) 3 none])))))))))))))))) ∧ (((l3.length : Nat) : Int) ≤ 0 → (∃ (i5 : Nat) (c6 : Nat) (g7 : Nat), hpAt h4 i1 0 = some (.var (.agg [.ptr (.he i5 0) 0 3 0, .sl (.he c6 g7) 3 none])) ∧ (∃ (l8 : List D), hpAt h4 c6 g7 = some (.darr g7 3 l8) ∧ (((400 : Int) < ((l8.length : Nat) : Int) → Q (vI (W (((l8.length : Nat) : Int) - 1))) h4) ∧ (((l8.length : Nat) : Int) ≤ 400 → ((l8.length + 1) ≤ 274877906944 ∧ (hpAt (Heap.put h4 c6 (some (.darr ((g7 + 1)) 3 ((l8 ++ [.agg [dI n2, dI 0, dI 0]]))))) i1 0 = some (.var (.agg [.ptr (.he i5 0) 0 3 0, .sl (.he c6 g7) 3 none])) ∧ (hpAt (Heap.put (Heap.put h4 c6 (some (.darr ((g7 + 1)) 3 ((l8 ++ [.agg [dI n2, dI 0, dI 0]]))))) i1 (some (.var (.agg [.ptr (.he i5 0) 0 3 0, .sl (.he c6 ((g7 + 1))) 3 none])))) i1 0 = some (.var (.agg [.ptr (.he i5 0) 0 3 0, .sl (.he c6 ((g7 + 1))) 3 none])) ∧ (hpAt (Heap.put (Heap.put h4 c6 (some (.darr ((g7 + 1)) 3 ((l8 ++ [.agg [dI n2, dI 0, dI 0]]))))) i1 (some (.var (.agg [.ptr (.he i5 0) 0 3 0, .sl (.he c6 ((g7 + 1))) 3 none])))) c6 ((g7 + 1)) = some (.darr ((g7 + 1)) 3 ((l8 ++ [.agg [dI n2, dI 0, dI 0]]))) ∧ Q (vI (W ((((((l8 ++ [.agg [dI n2, dI 0, dI 0]]) : List D).length) : Nat) : Int) - 1))) (Heap.put (Heap.put h4 c6 (some (.darr ((g7 + 1)) 3 ((l8 ++ [.agg [dI n2, dI 0, dI 0]]))))) i1 (some (.var (.agg [.ptr (.he i5 0) 0 3 0, .sl (.he c6 ((g7 + 1))) 3 none]))))))))))))))) :
    Wc PP AA F16 [.ptr (.he i1 0) 0 2 0, vI n2, .d (.slice 0 l3)] h4 Q := by
  rcases icase 0 (((l3.length : Nat) : Int)) with q0f | q0f
  · replace h0 := h0.1 q0f
    obtain ⟨n5, q2, h0⟩ := h0
    rcases icase 1 (((l3.length : Nat) : Int)) with q3f | q3f
    · replace h0 := h0.1 q3f
      obtain ⟨n6, q5, h0⟩ := h0
      obtain ⟨i7, c8, g9, q6, h0⟩ := h0
      obtain ⟨l10, q7, h0⟩ := h0
      rcases icase 400 (((l10.length : Nat) : Int)) with q8f | q8f
      · replace h0 := h0.1 q8f
        exact ent_ret (fs := [tt q0f, rq, fd q2, tt q3f, rq, fd q5, fo q6, fo q7, tg q8f, fo q6, fo q7]) p16 a16 (by kernel_rfl) h0
      · replace h0 := h0.2 q8f
        obtain ⟨q11, h0⟩ := h0
        obtain ⟨q12, h0⟩ := h0
        obtain ⟨q13, h0⟩ := h0
        obtain ⟨q14, h0⟩ := h0
        exact ent_ret (fs := [tt q0f, rq, fd q2, tt q3f, rq, fd q5, fo q6, fo q7, tt q8f, fo q6, fo q7, rt (Nat.ble_eq_true_of_le q11), fo q12, fo q13, fo q14]) p16 a16 (by kernel_rfl) h0
    · replace h0 := h0.2 q3f
      obtain ⟨i6, c7, g8, q4, h0⟩ := h0
      obtain ⟨l9, q5, h0⟩ := h0
      rcases icase 400 (((l9.length : Nat) : Int)) with q6f | q6f
      · replace h0 := h0.1 q6f
        exact ent_ret (fs := [tt q0f, rq, fd q2, tl q3f, fo q4, fo q5, tg q6f, fo q4, fo q5]) p16 a16 (by kernel_rfl) h0
      · replace h0 := h0.2 q6f
        obtain ⟨q9, h0⟩ := h0
        obtain ⟨q10, h0⟩ := h0
        obtain ⟨q11, h0⟩ := h0
        obtain ⟨q12, h0⟩ := h0
        exact ent_ret (fs := [tt q0f, rq, fd q2, tl q3f, fo q4, fo q5, tt q6f, fo q4, fo q5, rt (Nat.ble_eq_true_of_le q9), fo q10, fo q11, fo q12]) p16 a16 (by kernel_rfl) h0
  · replace h0 := h0.2 q0f
    have q1 : ((l3.length : Nat) : Int) ≤ 1 := by omega
    obtain ⟨i5, c6, g7, q2, h0⟩ := h0
    obtain ⟨l8, q3, h0⟩ := h0
    rcases icase 400 (((l8.length : Nat) : Int)) with q4f | q4f
    · replace h0 := h0.1 q4f
      exact ent_ret (fs := [tl q0f, tl q1, fo q2, fo q3, tg q4f, fo q2, fo q3]) p16 a16 (by kernel_rfl) h0
    · replace h0 := h0.2 q4f
      obtain ⟨q7, h0⟩ := h0
      obtain ⟨q8, h0⟩ := h0
      obtain ⟨q9, h0⟩ := h0
      obtain ⟨q10, h0⟩ := h0
      exact ent_ret (fs := [tl q0f, tl q1, fo q2, fo q3, tt q4f, fo q2, fo q3, rt (Nat.ble_eq_true_of_le q7), fo q8, fo q9, fo q10]) p16 a16 (by kernel_rfl) h0

/- selvage/gen.place[int] -/
noncomputable abbrev PF17 := Tryz.f18

theorem p17 : AA.prim F17 = none := by kernel_rfl
theorem a17 : AA.alone F17 = false := by kernel_rfl

theorem w17 {j1 : Nat} {n2 : Int} {h3 : Heap} {Q : V → Heap → Prop}
    (h0 : (∃ (l4 : List D) (c5 : Nat) (g6 : Nat) (c7 : Nat) (g8 : Nat), hpAt h3 j1 0 = some (.var (.agg [.d (.slice 5 l4), .sl (.he c5 g6) 0 none, .sl (.he c7 g8) 0 none])) ∧ (Wn PP AA F35 [.sl (.he c5 g6) 0 none, vI n2] h3 fun v => ∃ (n9 : Int), v = vI n9 ∧ ((n9 < 0 → (∃ (l10 : List D), hpAt h3 c5 g6 = some (.darr g6 0 l10) ∧ ((l10.length + 1) ≤ 274877906944 ∧ (hpAt (Heap.put h3 c5 (some (.darr ((g6 + 1)) 0 ((l10 ++ [dI n2]))))) j1 0 = some (.var (.agg [.d (.slice 5 l4), .sl (.he c5 g6) 0 none, .sl (.he c7 g8) 0 none])) ∧ Q (vI ((l10.length : Nat) : Int)) (Heap.put (Heap.put h3 c5 (some (.darr ((g6 + 1)) 0 ((l10 ++ [dI n2]))))) j1 (some (.var (.agg [.d (.slice 5 l4), .sl (.he c5 ((g6 + 1))) 0 none, .sl (.he c7 g8) 0 none])))))))) ∧ ((0 : Int) ≤ n9 → Q (vI n9) h3))))) :
    Wc PP AA F17 [.ptr (.he j1 0) 0 3 1, vI n2] h3 Q := by
  obtain ⟨l4, c5, g6, c7, g8, q0, h0⟩ := h0
  obtain ⟨v, r1, n9, e, h0⟩ := h0
  subst e
  rcases icase n9 0 with q2f | q2f
  · replace h0 := h0.1 q2f
    obtain ⟨l10, q4, h0⟩ := h0
    obtain ⟨q7, h0⟩ := h0
    obtain ⟨q8, h0⟩ := h0
    exact ent_ret (fs := [fo q0, fr r1, tt q2f, fo q0, fo q4, fo q0, fo q4, rt (Nat.ble_eq_true_of_le q7), fo q8]) p17 a17 (by kernel_rfl) h0
  · replace h0 := h0.2 q2f
    exact ent_ret (fs := [fo q0, fr r1, tl q2f]) p17 a17 (by kernel_rfl) h0

/- selvage/gen.place[string] -/
noncomputable abbrev PF18 := Tryz.f19

theorem p18 : AA.prim F18 = none := by kernel_rfl
theorem a18 : AA.alone F18 = false := by kernel_rfl

theorem w18 {j1 : Nat} {s2 : ByteArray} {h3 : Heap} {Q : V → Heap → Prop}
    (h0 : (∃ (l4 : List D) (c5 : Nat) (g6 : Nat) (c7 : Nat) (g8 : Nat), hpAt h3 j1 0 = some (.var (.agg [.d (.slice 5 l4), .sl (.he c5 g6) 0 none, .sl (.he c7 g8) 0 none])) ∧ (Wn PP AA F36 [.sl (.he c7 g8) 0 none, .d (dS s2)] h3 fun v => ∃ (n9 : Int), v = vI n9 ∧ ((n9 < 0 → (∃ (l10 : List D), hpAt h3 c7 g8 = some (.darr g8 0 l10) ∧ ((l10.length + 1) ≤ 274877906944 ∧ (hpAt (Heap.put h3 c7 (some (.darr ((g8 + 1)) 0 ((l10 ++ [dS s2]))))) j1 0 = some (.var (.agg [.d (.slice 5 l4), .sl (.he c5 g6) 0 none, .sl (.he c7 g8) 0 none])) ∧ Q (vI ((l10.length : Nat) : Int)) (Heap.put (Heap.put h3 c7 (some (.darr ((g8 + 1)) 0 ((l10 ++ [dS s2]))))) j1 (some (.var (.agg [.d (.slice 5 l4), .sl (.he c5 g6) 0 none, .sl (.he c7 ((g8 + 1))) 0 none])))))))) ∧ ((0 : Int) ≤ n9 → Q (vI n9) h3))))) :
    Wc PP AA F18 [.ptr (.he j1 0) 0 3 2, .d (dS s2)] h3 Q := by
  obtain ⟨l4, c5, g6, c7, g8, q0, h0⟩ := h0
  obtain ⟨v, r1, n9, e, h0⟩ := h0
  subst e
  rcases icase n9 0 with q2f | q2f
  · replace h0 := h0.1 q2f
    obtain ⟨l10, q4, h0⟩ := h0
    obtain ⟨q7, h0⟩ := h0
    obtain ⟨q8, h0⟩ := h0
    exact ent_ret (fs := [fo q0, fr r1, tt q2f, fo q0, fo q4, fo q0, fo q4, rt (Nat.ble_eq_true_of_le q7), fo q8]) p18 a18 (by kernel_rfl) h0
  · replace h0 := h0.2 q2f
    exact ent_ret (fs := [fo q0, fr r1, tl q2f]) p18 a18 (by kernel_rfl) h0

/- (*selvage/gen.writer).either -/
noncomputable abbrev PF19 := Tryz.f20

theorem p19 : AA.prim F19 = none := by kernel_rfl
theorem a19 : AA.alone F19 = false := by kernel_rfl

theorem w19 {i1 : Nat} {n2 : Int} {n3 : Int} {s4 : ByteArray} {l5 : List D} {n6 : Int} {l7 : List D} {l8 : List D} {l9 : List D} {l10 : List D} {n11 : Int} {n12 : Int} {b13 : Bool} {h14 : Heap} {Q : V → Heap → Prop}
    (h0 : (Wc PP AA F16 [.ptr (.he i1 0) 0 2 0, vI n11, .d (.slice 0 ([]))] h14 fun v H16 => ∃ (n15 : Int), v = vI n15 ∧ (Wa PP AA F20 [.s 9 (.agg [dI n2, dI n3, dS s4, .slice 9 l5, dI n6, .slice 0 l7, .slice 6 l8, .slice 4 l9, .slice 0 l10]), vI 0] fun v => ∃ (n17 : Int) (n18 : Int) (s19 : ByteArray) (l20 : List D) (n21 : Int) (l22 : List D) (l23 : List D) (l24 : List D) (l25 : List D), v = .s 9 (.agg [dI n17, dI n18, dS s19, .slice 9 l20, dI n21, .slice 0 l22, .slice 6 l23, .slice 4 l24, .slice 0 l25]) ∧ (Wc PP AA F8 [.ptr (.he i1 0) 0 2 0, .s 9 (.agg [dI n17, dI n18, dS s19, .slice 9 l20, dI n21, .slice 0 l22, .slice 6 l23, .slice 4 l24, .slice 0 l25]), vBool false] H16 fun v H26 => v = .tuple [] ∧ (Wc PP AA F16 [.ptr (.he i1 0) 0 2 0, vI n12, .d (.slice 0 ([]))] H26 fun v H28 => ∃ (n27 : Int), v = vI n27 ∧ (Wc PP AA F16 [.ptr (.he i1 0) 0 2 0, vI 16, .d (.slice 0 ([]))] H28 fun v H30 => ∃ (n29 : Int), v = vI n29 ∧ (Wc PP AA F37 [.ptr (.he i1 0) 0 2 0, .d (.slice 0 ([dI n15]))] H30 fun v H31 => v = .tuple [] ∧ ((b13 = true → (Wc PP AA F16 [.ptr (.he i1 0) 0 2 0, vI 7, .d (.slice 0 ([dI n3]))] H31 fun v H33 => ∃ (n32 : Int), v = vI n32 ∧ (Wa PP AA F20 [.s 9 (.agg [dI n2, dI n3, dS s4, .slice 9 l5, dI n6, .slice 0 l7, .slice 6 l8, .slice 4 l9, .slice 0 l10]), vI 1] fun v => ∃ (n34 : Int) (n35 : Int) (s36 : ByteArray) (l37 : List D) (n38 : Int) (l39 : List D) (l40 : List D) (l41 : List D) (l42 : List D), v = .s 9 (.agg [dI n34, dI n35, dS s36, .slice 9 l37, dI n38, .slice 0 l39, .slice 6 l40, .slice 4 l41, .slice 0 l42]) ∧ (Wc PP AA F8 [.ptr (.he i1 0) 0 2 0, .s 9 (.agg [dI n34, dI n35, dS s36, .slice 9 l37, dI n38, .slice 0 l39, .slice 6 l40, .slice 4 l41, .slice 0 l42]), vBool false] H33 fun v H43 => v = .tuple [] ∧ (Wc PP AA F37 [.ptr (.he i1 0) 0 2 0, .d (.slice 0 ([dI n29]))] H43 fun v H44 => v = .tuple [] ∧ Q (.tuple []) H44))))) ∧ (b13 = false → (Wa PP AA F20 [.s 9 (.agg [dI n2, dI n3, dS s4, .slice 9 l5, dI n6, .slice 0 l7, .slice 6 l8, .slice 4 l9, .slice 0 l10]), vI 1] fun v => ∃ (n32 : Int) (n33 : Int) (s34 : ByteArray) (l35 : List D) (n36 : Int) (l37 : List D) (l38 : List D) (l39 : List D) (l40 : List D), v = .s 9 (.agg [dI n32, dI n33, dS s34, .slice 9 l35, dI n36, .slice 0 l37, .slice 6 l38, .slice 4 l39, .slice 0 l40]) ∧ (Wc PP AA F8 [.ptr (.he i1 0) 0 2 0, .s 9 (.agg [dI n32, dI n33, dS s34, .slice 9 l35, dI n36, .slice 0 l37, .slice 6 l38, .slice 4 l39, .slice 0 l40]), vBool false] H31 fun v H41 => v = .tuple [] ∧ (Wc PP AA F37 [.ptr (.he i1 0) 0 2 0, .d (.slice 0 ([dI n29]))] H41 fun v H42 => v = .tuple [] ∧ Q (.tuple []) H42)))))))))))) :
    Wc PP AA F19 [.ptr (.he i1 0) 0 2 0, .s 9 (.agg [dI n2, dI n3, dS s4, .slice 9 l5, dI n6, .slice 0 l7, .slice 6 l8, .slice 4 l9, .slice 0 l10]), vI n11, vI n12, vBool b13] h14 Q := by
  obtain ⟨v, H16, r0, n15, e, h0⟩ := h0
  subst e
  obtain ⟨v, r1, n17, n18, s19, l20, n21, l22, l23, l24, l25, e, h0⟩ := h0
  subst e
  obtain ⟨v, H26, r2, e, h0⟩ := h0
  subst e
  obtain ⟨v, H28, r3, n27, e, h0⟩ := h0
  subst e
  obtain ⟨v, H30, r4, n29, e, h0⟩ := h0
  subst e
  obtain ⟨v, H31, r5, e, h0⟩ := h0
  subst e
  rcases bcase b13 with e | e
  · replace h0 := h0.1 e
    subst e
    obtain ⟨v, H33, r7, n32, e, h0⟩ := h0
    subst e
    obtain ⟨v, r8, n34, n35, s36, l37, n38, l39, l40, l41, l42, e, h0⟩ := h0
    subst e
    obtain ⟨v, H43, r9, e, h0⟩ := h0
    subst e
    obtain ⟨v, H44, r10, e, h0⟩ := h0
    subst e
    exact ent_ret (fs := [fr r0, fr (r1 H16), fr r2, fr r3, fr r4, fr r5, bT, fr r7, fr (r8 H33), fr r9, fr r10]) p19 a19 (by kernel_rfl) h0
  · replace h0 := h0.2 e
    subst e
    obtain ⟨v, r7, n32, n33, s34, l35, n36, l37, l38, l39, l40, e, h0⟩ := h0
    subst e
    obtain ⟨v, H41, r8, e, h0⟩ := h0
    subst e
    obtain ⟨v, H42, r9, e, h0⟩ := h0
    subst e
    exact ent_ret (fs := [fr r0, fr (r1 H16), fr r2, fr r3, fr r4, fr r5, bF, fr (r7 H31), fr r8, fr r9]) p19 a19 (by kernel_rfl) h0

end Am
