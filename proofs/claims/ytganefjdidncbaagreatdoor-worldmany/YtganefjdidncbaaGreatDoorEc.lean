/- This text proves no statement of the seat: it is part 2 of the ideal machine, on which functions of the program are run, and of the proof that the model does what it does. No conditions. -/
import Derived.Test.YtganefjdidncbaaGreatDoorEb
import Derived.Laws.Sem
import Derived.Orders
import GoSem.ClaimChange
set_option linter.unusedVariables false
set_option linter.unusedSimpArgs false
/- The ideal machine, part Zf: functions. -/
namespace Go.Ideal
variable {P : Program} {C : Ctx} {ρ : Ren} {μ : Lam} {A A' : IA} {H H' : IHeap} {a : Act} {w : World}

/-! ### Whatever the limit -/
theorem iwant_keeps_any {E : Env} {pr : Prm} {lim : Nat} {q : Bool} {W : List Nat} {o : Oper} (hE : EnvOK P E) (h : iwant P E pr lim q W o A H = some (A', H')) : Keeps lim H H' := by
  rcases iwant_inv h with ⟨r, h1, h2⟩ | ⟨c, fv, fid, first, cap, vs, g, v, _, _, _, _, hg, hr, _⟩
  · cases r with
    | tv x => simp [R1.finK] at h2; obtain ⟨_, rfl⟩ := h2; exact Keeps.refl _ _
    | loc x t cs =>
      simp only [R1.finK] at h2
      rcases cond_some h2 with ⟨_, h⟩ | ⟨_, h⟩
      · simp at h; obtain ⟨_, rfl⟩ := h; exact Keeps.refl _ _
      · simp at h
    | heap x H1 => simp [R1.finK] at h2; obtain ⟨_, rfl⟩ := h2; exact iop_keeps h1
  · obtain ⟨k1, k2, k3⟩ := (hE _ _ hg).keeps _ _ _ _ _ hr
    refine ⟨k1, fun b b1 b2 => k2 b ?_ b2, k3⟩
    cases (q && !E.wr.elem fid)
    · exact b1
    · exact b2
theorem iseq_keeps_any {E : Env} (hE : EnvOK P E) {pr : Prm} {lim : Nat} {q : Bool} {W : List Nat} {σ : Type} {k : IA → IHeap → Option σ} {r : σ} : ∀ (l : List Oper) {A : IA} {H : IHeap}, iseq P E pr lim q W l A H k = some r →
    ∃ A1 H1, k A1 H1 = some r ∧ Keeps lim H H1
  | [], A, H, h => ⟨A, H, h, Keeps.refl _ _⟩
  | o :: l, A, H, h => by
    simp only [iseq] at h
    rw [iwantK_bind] at h
    obtain ⟨⟨A1, H1⟩, h1, h⟩ := Option.bind_eq_some_iff.1 h
    have k1 := iwant_keeps_any hE h1
    obtain ⟨A2, H2, h2, k2⟩ := iseq_keeps_any hE l h
    exact ⟨A2, H2, h2, k1.trans k2⟩
theorem istep_keeps_any {E : Env} {pr : Prm} {lim : Nat} {q : Bool} {W : List Nat} {ops : Array Oper} {o : Oper} (hE : EnvOK P E) (h : istep P E pr lim q W ops o A H = some (A', H')) : Keeps lim H H' := by
  unfold istep at h
  obtain ⟨b, _, h⟩ := Option.bind_eq_some_iff.1 h
  rcases cond_some h with ⟨_, h⟩ | ⟨_, h⟩
  · exact iwant_keeps_any hE h
  · simp at h; obtain ⟨_, rfl⟩ := h; exact Keeps.refl _ _
theorem Chain.keeps_any {E : Env} {pr : Prm} {lim : Nat} {q : Bool} {W : List Nat} {ops : Array Oper} (hE : EnvOK P E) {l : List Oper} (h : Chain P E pr lim q W ops l A H A' H') : Keeps lim H H' := by
  induction h with
  | nil => exact Keeps.refl _ _
  | weak _ _ ih => exact ih
  | cons a _ ih => exact (istep_keeps_any hE a).trans ih
theorem iloop_keeps_any {lim : Nat} {body : List Value → IHeap → Option (J × IHeap)} (hb : ∀ vs H j H1, body vs H = some (j, H1) → Keeps lim H H1) {r : J × IHeap} :
    ∀ (n : Nat) (vs : List Value) (H : IHeap), iloop body n vs H = some r → Keeps lim H r.2
  | 0, vs, H, h => by rw [iloop_zero] at h; simp at h
  | n + 1, vs, H, h => by
    rw [iloop_succ] at h
    obtain ⟨j, H1, h1, h2⟩ := joinK_inv h
    have k1 := hb vs H j H1 h1
    rcases h2 with ⟨vs', rfl, h2⟩ | ⟨_, rfl⟩
    · exact k1.trans (iloop_keeps_any hb n _ _ h2)
    · exact k1
section
variable {E : Env} (hE : EnvOK P E) {pr : Prm} {N : Nat} {ok : Ok}
include hE
theorem icode_keeps_any {lim : Nat} {rs : List ResultVar} : ∀ (c : Code) {ann : Ann} {bo : BO} {W : List Nat} {A : IA} {H : IHeap} {k : IA → IHeap → Option (J × IHeap)} {r : J × IHeap},
    icode P E pr N ok lim rs c ann bo W A H k = some r → (∀ A' H', k A' H' = some r → Keeps lim H' r.2) → Keeps lim H r.2 := by
  intro c
  induction c with
  | skip =>
    intro ann bo W A H k r h hk
    cases ann <;> simp only [icode] at h <;> first | exact hk _ _ h | simp at h
  | region id ops q =>
    intro ann bo W A H k r h hk
    cases ann <;> simp only [icode] at h <;> try (simp at h; done)
    · rcases cond_some h with ⟨_, h⟩ | ⟨_, h⟩
      · simp at h
      obtain ⟨A1, H1, c1, c2, _⟩ := gsegs_chain (ops := ops) _ (segs_guard ops.toList) h
      have k1 := c1.keeps_any hE
      exact k1.trans (hk A1 H1 c2)
    · rcases cond_some h with ⟨_, h⟩ | ⟨_, h⟩
      · simp at h
      split at h
      · obtain ⟨A1, H1, h, k1⟩ := iseq_keeps_any hE _ h
        rw [iwantK_bind] at h
        obtain ⟨⟨A2, H2⟩, h2, h⟩ := Option.bind_eq_some_iff.1 h
        have k2 := iwant_keeps_any hE h2
        obtain ⟨A3, H3, h, k3⟩ := iseq_keeps_any hE _ h
        rcases cond_some h with ⟨_, h⟩ | ⟨_, h⟩
        · exact (k1.trans (k2.trans k3)).trans (hk _ _ h)
        · simp at h
      · simp at h
    · rcases cond_some h with ⟨_, h⟩ | ⟨_, h⟩
      · simp at h
      obtain ⟨t, _, h⟩ := Option.bind_eq_some_iff.1 h
      obtain ⟨⟨ag, z⟩, _, h⟩ := Option.bind_eq_some_iff.1 h
      obtain ⟨A1, es, h⟩ := litK_inv _ h
      exact (Keeps.push lim H (.fmap ag es)).trans (hk _ _ h)
  | seq x y ihx ihy =>
    intro ann bo W A H k r h hk
    cases ann <;> simp only [icode] at h <;> try (simp at h; done)
    exact ihx h fun A' H' h' => ihy h' hk
  | cond c x y ihx ihy =>
    intro ann bo W A H k r h hk
    cases ann <;> simp only [icode] at h <;> try (simp at h; done)
    · split at h
      · obtain ⟨b, _, h⟩ := boolK_inv h
        rcases cond_some h with ⟨_, h⟩ | ⟨_, h⟩
        · exact ihx h hk
        · exact ihy h hk
      · simp at h
    · rcases cond_some h with ⟨_, h⟩ | ⟨_, h⟩
      · simp at h
      split at h
      · obtain ⟨j, H1, h1, h2⟩ := joinK_inv h
        have k1 : Keeps lim H H1 := by
          obtain ⟨b, _, h1⟩ := boolK_inv h1
          rcases cond_some h1 with ⟨_, h1⟩ | ⟨_, h1⟩
          · exact ihx h1 fun A' H' h' => by
              obtain ⟨vs, e, _⟩ := packK_inv h'
              simp at e; rw [e.2]; exact Keeps.refl _ _
          · exact ihy h1 fun A' H' h' => by
              obtain ⟨vs, e, _⟩ := packK_inv h'
              simp at e; rw [e.2]; exact Keeps.refl _ _
        rcases h2 with ⟨vs, rfl, h2⟩ | ⟨_, rfl⟩
        · exact k1.trans (hk _ _ h2)
        · exact k1
      · simp at h
  | block id x ih =>
    intro ann bo W A H k r h hk
    cases ann <;> simp only [icode] at h <;> try (simp at h; done)
    rcases cond_some h with ⟨_, h⟩ | ⟨_, h⟩
    · simp at h
    obtain ⟨j, H1, h1, h2⟩ := catchK_inv h
    have k1 : Keeps lim H H1 := ih h1 fun A' H' h' => by
      obtain ⟨vs, e, _⟩ := packK_inv h'
      simp at e; rw [e.2]; exact Keeps.refl _ _
    rcases h2 with ⟨vs, _, h2⟩ | ⟨_, _, rfl⟩
    · exact k1.trans (hk _ _ h2)
    · exact k1
  | loop x ih =>
    intro ann bo W A H k r h hk
    cases ann <;> simp only [icode] at h <;> try (simp at h; done)
    rcases cond_some h with ⟨_, h⟩ | ⟨_, h⟩
    · simp at h
    obtain ⟨vs0, h, _⟩ := packK_inv h
    refine iloop_keeps_any (fun vs H j H1 h1 => ?_) N vs0 H h
    exact ih h1 fun A' H' h' => by
      obtain ⟨vs, e, _⟩ := packK_inv h'
      simp at e; rw [e.2]; exact Keeps.refl _ _
  | exit id =>
    intro ann bo W A H k r h hk
    cases ann <;> simp only [icode] at h <;> try (simp at h; done)
    obtain ⟨⟨outs, louts⟩, _, h⟩ := Option.bind_eq_some_iff.1 h
    obtain ⟨vs, e, _⟩ := packK_inv h
    have e := Option.some.inj e
    subst e
    exact Keeps.refl _ _
  | ret =>
    intro ann bo W A H k r h hk
    cases ann <;> simp only [icode] at h <;> try (simp at h; done)
    rw [iresultsK_bind] at h
    obtain ⟨l, _, e⟩ := Option.bind_eq_some_iff.1 h
    have e := Option.some.inj e
    subst e
    exact Keeps.refl _ _
  | _ =>
    intro ann bo W A H k r h hk
    cases ann <;> simp [icode] at h
end

/-- One result. -/
def oneRes (tmps : Array Value) : ResultVar → Sem Value
  | .tmp t => pure (tmps.getD t undef)
  | .cell a t => do loadVar t (← asAddr (tmps.getD a undef))

theorem iresults_sim (hF : Fr C ρ μ A H a w) : ∀ {rs : List ResultVar} {l : List Value}, iresultsK P A H rs some = some l → ∃ l', (rs.mapM (oneRes a.tmps)).run P w = .ok l' w ∧ VRs ρ l l'
  | [], l, h => by
    simp only [iresultsK] at h
    have h := Option.some.inj h
    subst h
    exact ⟨[], by simp [List.mapM_nil], .nil⟩
  | .tmp t :: rs, l, h => by
    simp only [iresultsK] at h
    split at h
    · rename_i x hx
      rw [iresultsK_bind] at h
      obtain ⟨l1, h1, h⟩ := Option.bind_eq_some_iff.1 h
      have h := Option.some.inj h
      subst h
      obtain ⟨l', e1, e2⟩ := iresults_sim hF h1
      have := hF.tmp t
      rw [hx] at this
      refine ⟨a.tmps.getD t undef :: l', ?_, .cons this e2⟩
      rw [List.mapM_cons]
      simp only [oneRes, Sem.run_bind, Sem.run_pure, Result.andThen_ok, e1]
    · simp at h
  | .cell t ty :: rs, l, h => by
    simp only [iresultsK] at h
    rcases cond_some h with ⟨_, h⟩ | ⟨ht, h⟩
    · simp at h
    have ht : okT P ty = true := by simpa using ht
    have fin : ∀ (v : Value), (∃ v', (oneRes a.tmps (.cell t ty)).run P w = .ok v' w ∧ VR ρ v v') → (iresultsK P A H rs fun l => some (v :: l)) = some l → ∃ l', ((ResultVar.cell t ty :: rs).mapM (oneRes a.tmps)).run P w = .ok l' w ∧ VRs ρ l l' := by
      intro v ⟨v', e1, e2⟩ h
      rw [iresultsK_bind] at h
      obtain ⟨l1, h1, h⟩ := Option.bind_eq_some_iff.1 h
      have h := Option.some.inj h
      subst h
      obtain ⟨l', q1, q2⟩ := iresults_sim hF h1
      refine ⟨v' :: l', ?_, .cons e2 q2⟩
      rw [List.mapM_cons]
      simp only [Sem.run_bind, Sem.run_pure, Result.andThen_ok, e1, q1]
    have hv := hF.tmp t
    split at h
    · rename_i x hx
      rw [hx] at hv
      obtain ⟨v, h1, h⟩ := Option.bind_eq_some_iff.1 h
      refine fin v ?_ h
      obtain ⟨b, o, rfl, h1⟩ := ptr_of h1
      obtain ⟨⟨cs, fl⟩, hc, h1⟩ := Option.bind_eq_some_iff.1 h1
      obtain ⟨r, δ, z, hb, hv⟩ := VR.ptr_inv hv
      obtain ⟨c, tt, fr, hw, hz, hs⟩ := hF.rel.toR.row hb (hcells_eq hc)
      obtain ⟨v', e, hv'⟩ := iload_sim hw hs ht h1
      exact ⟨v', by simp only [oneRes, hv, asAddr, Sem.run_bind, Sem.run_pure, Result.andThen_ok, e], hv'⟩
    · rename_i u o hx
      rw [hx] at hv
      obtain ⟨cs, hcs, h⟩ := Option.bind_eq_some_iff.1 h
      obtain ⟨v, h1, h⟩ := Option.bind_eq_some_iff.1 h
      refine fin v ?_ h
      obtain ⟨r', hμ, hy⟩ := hv
      obtain ⟨r2, hμ2, hL⟩ := hF.loc u cs hcs
      rw [hμ] at hμ2; simp at hμ2; subst hμ2
      obtain ⟨c, tt, hw, hvs, h1'⟩ := hL
      have hs : Seg ρ cs c 0 := ⟨fun i v hi => by obtain ⟨v', e', q⟩ := hvs.get hi; exact ⟨v', by simpa using e', q⟩, h1'⟩
      obtain ⟨v', e, hv'⟩ := iload_sim hw hs ht h1
      exact ⟨v', by simp only [oneRes, hy, asAddr, Sem.run_bind, Sem.run_pure, Result.andThen_ok]; simpa using e, hv'⟩
    · simp at h

theorem itup_sim {l l' : List Value} (h : VRs ρ l l') : VR ρ (itup l) (if h : l'.toArray.size = 1 then l'.toArray[0] else .tuple l'.toArray) := by
  cases h with
  | nil => exact VR.tuple .nil
  | cons a k =>
    cases k with
    | nil => simpa [itup] using a
    | cons b k => simpa [itup] using VR.tuple (.cons a (.cons b k))

theorem results_sim (hF : Fr C ρ μ A H a w) {fn : Func} {l : List Value} (h : iresultsK P A H fn.results.toList some = some l) : ∃ v, (results fn a.tmps).run P w = .ok v w ∧ VR ρ (itup l) v := by
  obtain ⟨l', e1, e2⟩ := iresults_sim hF h
  refine ⟨_, ?_, itup_sim e2⟩
  have he : results fn a.tmps = (do
      let vs ← fn.results.mapM (oneRes a.tmps)
      pure (if h : vs.size = 1 then vs[0] else .tuple vs)) := by
    unfold results
    congr 2
  rw [he, Array.mapM_eq_mapM_toList]
  simp only [Sem.run_bind, map_eq_pure_bind, e1, Result.andThen_ok, Sem.run_pure]

theorem argsT_eq {ρ : Ren} (μ : Lam) : ∀ {l l' : List Value} (h : VRs ρ l l') (n t : Nat), TR ρ μ (argsT l t) ((l'.toArray ++ Array.replicate n undef).getD t undef) := by
  intro l
  induction l with
  | nil => intro l' h n t; cases t <;> exact trivial
  | cons v l ih =>
    intro l' h n t
    cases h with
    | @cons _ b _ m a k =>
      cases t with
      | zero =>
        have : (((b :: m).toArray ++ Array.replicate n undef).getD 0 undef) = b := by
          simp only [Array.getD_eq_getD_getElem?, ← Array.getElem?_toList]
          simp
        rw [this]
        exact a
      | succ t =>
        have e : (((b :: m).toArray ++ Array.replicate n undef).getD (t + 1) undef) = ((m.toArray ++ Array.replicate n undef).getD t undef) := by
          simp only [Array.getD_eq_getD_getElem?, ← Array.getElem?_toList]
          simp
        rw [e]
        exact ih k n t

theorem enters_of {P : Program} {f : FuncId} {fn : Func} (hf : P.funcs[f]? = some fn) (hn : (fn.name == "runtime.NumGoroutine") = false) (hb : fn.body.isNone = false) : Enters P f := by
  intro args w
  simp only [callFunc, Sem.run_bind, program, Sem.run, hf, Result.andThen_ok, hn, hb, Bool.false_eq_true, if_false]
  rfl

/-- A function. -/
theorem ifun_sim {E : Env} (hE : EnvOK P E) {pr : Prm} {N : Nat} {ok : Ok} (hok : DrawSound P E pr ok) {f : FuncId} {fn : Func} (ann : Ann) (hf : P.funcs[f]? = some fn) (hn : (fn.name == "runtime.NumGoroutine") = false) :
    fn.body.isNone = false → SimF P f (ifun P E pr N ok fn ann) := by
  intro hbody
  cases hb : fn.body with
  | none => rw [hb] at hbody; simp at hbody
  | some c =>
  refine ⟨enters_of hf hn hbody, ?_, ?_⟩
  · intro lim args H v H' h
    unfold ifun at h
    rw [hb] at h
    rcases cond_some h with ⟨_, h⟩ | ⟨_, h⟩
    · unfold retK at h
      obtain ⟨⟨j, H1⟩, h1, h⟩ := Option.bind_eq_some_iff.1 h
      have e : H1 = H' := by
        split at h
        · have h := Option.some.inj h
          exact (Prod.mk.inj h).2
        · simp at h
      subst e
      have hf' : ∀ (A' : IA) (H' : IHeap), (iresultsK P A' H' fn.results.toList fun l => some (J.ret (itup l), H')) = some (j, H1) → H' = H1 := by
        intro A' H' h'
        rw [iresultsK_bind] at h'
        obtain ⟨l, _, e⟩ := Option.bind_eq_some_iff.1 h'
        have e := Option.some.inj e
        exact (Prod.mk.inj e).2
      have := icode_keeps_any (lim := lim) hE c h1 fun A' H' h' => by rw [hf' A' H' h']; exact Keeps.refl _ _
      exact this
    · simp at h
  · intro lim args H v H' ρ w args' h hl hR hfree hargs
    unfold ifun at h
    rw [hb] at h
    rcases cond_some h with ⟨hc, h⟩ | ⟨_, h⟩
    · simp only [Bool.and_eq_true, decide_eq_true_eq, beq_iff_eq, List.all_eq_true] at hc
      obtain ⟨⟨hc1, hc2⟩, hc3⟩ := hc
      unfold retK at h
      obtain ⟨⟨j, H1⟩, h1, h⟩ := Option.bind_eq_some_iff.1 h
      have e : j = .ret v ∧ H1 = H' := by
        split at h
        · rename_i u hu
          have h := Option.some.inj h
          obtain ⟨rfl, rfl⟩ := Prod.mk.inj h
          exact ⟨hu, rfl⟩
        · simp at h
      obtain ⟨rfl, rfl⟩ := e
      have hlen := hargs.length
      let C : Ctx := { lim := lim, n0 := H.next, ρ0 := ρ, w0 := w, sz := fn.ntmps }
      have hF : Fr C ρ (fun _ => none) { tmp := fun t => argsT args t, loc := fun _ => none } H { tmps := args'.toArray ++ Array.replicate (fn.ntmps - args'.toArray.size) undef, defers := [] } w :=
        { rel := hR
          tmp := fun t => argsT_eq _ hargs _ t
          loc := fun u cs e => by simp at e
          priv := fun u r e => by simp at e
          ext := Ext.refl _ _ _ _
          size := by simp [C]; omega
          defers := rfl
          next := Nat.le_refl _
          lim := hl }
      have hres : ∀ (A2 : IA) ρ2 μ2 a2 w2 l, iresultsK P A2 H1 fn.results.toList some = some l → v = itup l → Fr C ρ2 μ2 A2 H1 a2 w2 →
          a2.defers = [] ∧ ∃ v', (results fn a2.tmps).run P w2 = .ok v' w2 ∧ ∃ v'' ρ', Ending.returned v' = .returned v'' ∧ VR ρ' v v'' ∧ Rel ρ' H1 w2 ∧ Ext lim H.next H1.next ρ ρ' w w2 := by
        intro A2 ρ2 μ2 a2 w2 l hl hv hF2
        obtain ⟨v', e1, e2⟩ := results_sim hF2 hl
        exact ⟨hF2.defers, v', e1, v', ρ2, rfl, by rw [hv]; exact e2, hF2.rel, hF2.ext⟩
      refine calls_of_wp hf hb ?_
      refine icode_sound (C := C) hE hok c h1 hF hfree hc2 (fun A' H' h' _ => ?_) (fun A2 H2 ρ2 μ2 a2 w2 h2 hF2 _ => ?_) fun e a2 w2 he => ?_
      · rw [iresultsK_bind] at h'
        obtain ⟨l, _, e⟩ := Option.bind_eq_some_iff.1 h'
        have e := Option.some.inj e
        have e := (Prod.mk.inj e).2
        subst e; exact Keeps.refl _ _
      · rw [iresultsK_bind] at h2
        obtain ⟨l, hl2, e⟩ := Option.bind_eq_some_iff.1 h2
        have e := Option.some.inj e
        obtain ⟨e1, e2⟩ := Prod.mk.inj e
        subst e2
        simp at e1
        exact hres A2 ρ2 μ2 a2 w2 l hl2 e1.symm hF2
      · cases e with
        | ret =>
          obtain ⟨l, A2, ρ2, μ2, q1, q2, q3⟩ := he
          simp at q2
          exact hres A2 ρ2 μ2 a2 w2 l q1 q2 q3
        | exit id =>
          obtain ⟨_, _, _, _, _, _, q, _⟩ := he
          simp [BO.find] at q
        | _ => exact he.elim
    · simp at h
end Go.Ideal
/- The ideal machine, part Zg: what an operation may touch, told by its text. -/
namespace Go.Ideal

/-- The local variable to which a slot points. -/
def lclOf : TV → Option Nat
  | .lp u _ => some u
  | .ls u _ => some u
  | _ => none
abbrev Sig := Nat → Option Nat
def opLcl (σ : Sig) : Operand → Option Nat
  | .tmp t => σ t
  | _ => none
/-- ... to which the result points. -/
def dstLcl (pr : Prm) (σ : Sig) (o : Oper) : Option Nat :=
  match o.op with
  | .move x | .assign x | .nilCheck x => opLcl σ x
  | .fieldAddr _ x _ => opLcl σ x
  | .indexAddr _ x _ => opLcl σ x
  | .alloc _ | .box _ _ | .buildSlice _ _ _ => isPromo pr o.dst
  | _ => none
/-- The local variable that is made or stored to. -/
def lwrite (pr : Prm) (σ : Sig) (o : Oper) : Option Nat :=
  match o.op with
  | .alloc _ | .box _ _ | .buildSlice _ _ _ => isPromo pr o.dst
  | .store _ a _ => opLcl σ a
  | _ => none

/-- pure: not the heap; rd: reads; qt: makes what is new; wr: writes. -/
inductive HC where | pure | rd | qt | wr
def HC.isPure : HC → Bool | .pure => true | _ => false
def HC.isWr : HC → Bool | .wr => true | _ => false

def isNilS : Operand → Bool
  | .const (.slice none n c) => n == 0 && c == 0
  | _ => false

def hclass (P : Program) (pr : Prm) (wr : List FuncId) (σ : Sig) (o : Oper) : HC :=
  match o.op with
  | .load _ x => bif (opLcl σ x).isSome then .pure else .rd
  | .lookup _ _ _ _ => .rd
  | .store _ a _ => bif (opLcl σ a).isSome then .pure else .wr
  | .alloc _ | .box _ _ | .buildSlice _ _ _ => bif (isPromo pr o.dst).isSome then .pure else .qt
  | .makeMap _ _ | .makeSlice _ _ _ => .qt
  | .mapUpdate _ _ _ _ | .mapEntry _ _ _ | .entryStore _ _ _ _ => .wr
  | .call c => match c.callee with
    | .builtin b => match b with
      | .len => (match c.argTypes.toList with
        | [t] => (match P.underlying t with | some (.map _ _) => .rd | _ => .pure)
        | _ => .wr)
      | .min | .max => .pure
      | .append => (match c.args.toList with | [s, _] => bif isNilS s then .qt else .wr | _ => .wr)
      | _ => .wr
    | .value (.func f) => bif wr.elem f then .wr else .qt
    | _ => .wr
  | _ => .pure

/-- What is told of the slots is true, where anything is known. -/
def Snd (σ : Sig) (A : IA) : Prop := ∀ t, A.tmp t = .bot ∨ lclOf (A.tmp t) = σ t ∨ A.tmp t = unitV
theorem Snd.le {σ : Sig} {A B : IA} (h : Snd σ B) (k : A.le B) : Snd σ A := fun t => by
  rcases k.tmp t with e | e
  · exact .inl e
  · rw [e]; exact h t
theorem Snd.ev {σ : Sig} {A : IA} (h : Snd σ A) (x : Operand) : A.ev x = .bot ∨ lclOf (A.ev x) = opLcl σ x ∨ A.ev x = unitV := by
  cases x with
  | tmp t => exact h t
  | const c =>
    simp only [IA.ev]
    cases cst c
    · exact .inl rfl
    · exact .inr (.inl rfl)
  | global g => exact .inl rfl
  | func f => exact .inr (.inl rfl)
theorem Snd.v {σ : Sig} {A : IA} (h : Snd σ A) {x : Operand} {v : Value} (e : A.ev x = .v v) : opLcl σ x = none ∨ v = .tuple #[] := by
  rcases h.ev x with q | q | q
  · rw [e] at q; simp at q
  · rw [e] at q; exact .inl q.symm
  · rw [e] at q; simp at q; exact .inr q
theorem Snd.lp {σ : Sig} {A : IA} (h : Snd σ A) {x : Operand} {u o : Nat} (e : A.ev x = .lp u o) : opLcl σ x = some u := by
  rcases h.ev x with q | q | q
  · rw [e] at q; simp at q
  · rw [e] at q; exact q.symm
  · rw [e] at q; simp at q
theorem Snd.ls {σ : Sig} {A : IA} (h : Snd σ A) {x : Operand} {u o : Nat} (e : A.ev x = .ls u o) : opLcl σ x = some u := by
  rcases h.ev x with q | q | q
  · rw [e] at q; simp at q
  · rw [e] at q; exact q.symm
  · rw [e] at q; simp at q

section
variable (P : Program) (pr : Prm) (wr : List FuncId) (lim : Nat) (A : IA) (H : IHeap) (σ : Sig) (o : Oper)
/-- What a result is, by the operation's text. -/
def Stat : R1 → Prop
  | .tv x => (x = .bot ∨ lclOf x = dstLcl pr σ o ∨ x = unitV) ∧ (hclass P pr wr σ o = .pure → opReads A o.op = true → ∀ H0, iopK P pr lim A H0 o.dst o.op some = some (.tv x))
  | .loc x u _ => (x = .bot ∨ lclOf x = dstLcl pr σ o ∨ x = unitV) ∧ lwrite pr σ o = some u
  | .heap x H1 => (x = .bot ∨ lclOf x = dstLcl pr σ o ∨ x = unitV) ∧ (hclass P pr wr σ o = .wr ∨ hclass P pr wr σ o = .qt ∧ ∀ lim', iopK P pr lim' A H o.dst o.op some = some (.heap x H1))
end

theorem kv_any {f : Option Value} {r : R1} (h : kv f some = some r) : ∃ v, f = some v ∧ r = .tv (.v v) := by
  obtain ⟨v, hv, h⟩ := Option.bind_eq_some_iff.1 h
  simp at h; exact ⟨v, hv, h.symm⟩
theorem kh_any {f : Option IHeap} {r : R1} (h : kh f some = some r) : ∃ H, f = some H ∧ r = .heap unitV H := by
  obtain ⟨v, hv, h⟩ := Option.bind_eq_some_iff.1 h
  simp at h; exact ⟨v, hv, h.symm⟩
theorem kvh_any {f : Option (Value × IHeap)} {r : R1} (h : kvh f some = some r) : ∃ v H, f = some (v, H) ∧ r = .heap (.v v) H := by
  obtain ⟨⟨v, H⟩, hv, h⟩ := Option.bind_eq_some_iff.1 h
  simp at h; exact ⟨v, H, hv, h.symm⟩
theorem ifillK_any {σ : Type} {pl : Nat → Option (Nat × Nat × Bool)} {k : List Value → Option σ} {l : List (Nat × Value)} {cs : List Value} {r : σ} (h : ifillK pl cs l k = some r) : ∃ cs', k cs' = some r := by
  rw [ifillK_bind] at h
  obtain ⟨cs', _, h⟩ := Option.bind_eq_some_iff.1 h
  exact ⟨cs', h⟩
theorem irowK_any {A : IA} {H : IHeap} {size : Nat} {x : TV} {σ : Type} {k : Nat → List Value → Option σ} {r : σ} (h : irowK A H size x k = some r) : ∃ m new, k m new = some r := by
  unfold irowK at h
  split at h
  · obtain ⟨r, _, h⟩ := Option.bind_eq_some_iff.1 h; exact ⟨_, _, h⟩
  · obtain ⟨cs, _, h⟩ := Option.bind_eq_some_iff.1 h
    obtain ⟨r, _, h⟩ := Option.bind_eq_some_iff.1 h; exact ⟨_, _, h⟩
  · simp at h

variable {P : Program} {pr : Prm} {wr : List FuncId} {lim : Nat} {A : IA} {H : IHeap} {σ : Sig} {o : Oper}

theorem Stat.kv {f : Option Value} {r : R1} (hd : dstLcl pr σ o = none) (hr : opReads A o.op = false ∨ hclass P pr wr σ o = .rd) (h : kv f some = some r) : Stat P pr wr lim A H σ o r := by
  obtain ⟨v, _, rfl⟩ := kv_any h
  refine ⟨.inr (.inl hd.symm), fun h1 h2 => ?_⟩
  rcases hr with hr | hr
  · rw [hr] at h2; simp at h2
  · rw [hr] at h1; simp at h1
theorem Stat.add {n : Nat} {x : Operand} {r : R1} (hS : Snd σ A) (hd : dstLcl pr σ o = opLcl σ x) (hr : opReads A o.op = false) (h : iaddK n (A.ev x) some = some r) : Stat P pr wr lim A H σ o r := by
  unfold iaddK at h
  split at h
  · rename_i v e
    obtain ⟨v', hv, rfl⟩ := kv_any h
    refine ⟨.inr (.inl ?_), fun _ h2 => by rw [hr] at h2; simp at h2⟩
    rcases hS.v e with q | rfl
    · rw [hd, q]; rfl
    · simp [paddr] at hv
  · rename_i u q e
    have h := Option.some.inj h
    subst h
    exact ⟨.inr (.inl (by rw [hd, hS.lp e]; rfl)), fun _ h2 => by rw [hr] at h2; simp at h2⟩
  · simp at h
theorem Stat.new {cs : List Value} {r : R1} (hd : dstLcl pr σ o = isPromo pr o.dst) (hw : lwrite pr σ o = isPromo pr o.dst) (hc : hclass P pr wr σ o = bif (isPromo pr o.dst).isSome then .pure else .qt) (hl : ∀ lim', iopK P pr lim' A H o.dst o.op some = some r)
    (h : inew pr H o.dst cs some = some r) : Stat P pr wr lim A H σ o r := by
  unfold inew at h
  cases hp : isPromo pr o.dst with
  | some t =>
    rw [hp] at h
    have h := Option.some.inj h
    subst h
    exact ⟨.inr (.inl (by rw [hd, hp]; rfl)), by rw [hw, hp]⟩
  | none =>
    rw [hp] at h
    have h := Option.some.inj h
    subst h
    exact ⟨.inr (.inl (by rw [hd, hp]; rfl)), .inr ⟨by rw [hc, hp]; rfl, hl⟩⟩
theorem Stat.kh {f : Option IHeap} {r : R1} (hc : hclass P pr wr σ o = .wr) (h : kh f some = some r) : Stat P pr wr lim A H σ o r := by
  obtain ⟨H1, _, rfl⟩ := kh_any h
  exact ⟨.inr (.inr rfl), .inl hc⟩
theorem Stat.kvh {f : Option (Value × IHeap)} {r : R1} (hd : dstLcl pr σ o = none) (hc : hclass P pr wr σ o = .wr) (h : kvh f some = some r) : Stat P pr wr lim A H σ o r := by
  obtain ⟨v, H1, _, rfl⟩ := kvh_any h
  exact ⟨.inr (.inl hd.symm), .inl hc⟩

theorem iappend_nil {share : Bool} {size bytes l1 l2 m : Nat} {new : List Value} : iappend share size bytes l1 H (.slice none 0 0) m new = iappend share size bytes l2 H (.slice none 0 0) m new := rfl

theorem iop_static (hS : Snd σ A) {r : R1} (h : iopK P pr lim A H o.dst o.op some = some r) : Stat P pr wr lim A H σ o r := by
  have h0 := h
  unfold iopK at h
  split at h
  · -- move
    rename_i y hop
    have h := Option.some.inj h
    subst h
    exact ⟨by rcases hS.ev y with q | q | q
              · exact .inl q
              · exact .inr (.inl (by rw [q]; simp [dstLcl, hop]))
              · exact .inr (.inr q), fun _ h2 => by simp [opReads, hop] at h2⟩
  · -- assign
    rename_i y hop
    have h := Option.some.inj h
    subst h
    exact ⟨by rcases hS.ev y with q | q | q
              · exact .inl q
              · exact .inr (.inl (by rw [q]; simp [dstLcl, hop]))
              · exact .inr (.inr q), fun _ h2 => by simp [opReads, hop] at h2⟩
  · -- pick
    rename_i hop
    obtain ⟨_, _, h⟩ := Option.bind_eq_some_iff.1 h
    obtain ⟨_, _, h⟩ := Option.bind_eq_some_iff.1 h
    obtain ⟨_, _, h⟩ := Option.bind_eq_some_iff.1 h
    exact .kv (by simp [dstLcl, hop]) (by simp [opReads, hop]) h
  · -- alloc
    rename_i t hop
    obtain ⟨cs, hcs, h⟩ := Option.bind_eq_some_iff.1 h
    exact .new (by simp [dstLcl, hop]) (by simp [lwrite, hop]) (by simp [hclass, hop]) (fun lim' => by rw [hop] at h0 ⊢; exact h0) h
  · -- box
    rename_i t y hop
    obtain ⟨v, _, h⟩ := Option.bind_eq_some_iff.1 h
    obtain ⟨cs, hcs, h⟩ := Option.bind_eq_some_iff.1 h
    exact .new (by simp [dstLcl, hop]) (by simp [lwrite, hop]) (by simp [hclass, hop]) (fun lim' => by rw [hop] at h0 ⊢; exact h0) h
  · -- build
    rename_i t parts hop
    obtain ⟨_, _, h⟩ := Option.bind_eq_some_iff.1 h
    obtain ⟨_, _, h⟩ := Option.bind_eq_some_iff.1 h
    obtain ⟨_, _, h⟩ := Option.bind_eq_some_iff.1 h
    obtain ⟨cs', h⟩ := ifillK_any h
    have h := Option.some.inj h
    subst h
    exact ⟨.inr (.inl (by simp [dstLcl, hop, lclOf])), fun _ h2 => by simp [opReads, hop] at h2⟩
  · -- buildSlice
    rename_i t len parts hop
    obtain ⟨_, _, h⟩ := Option.bind_eq_some_iff.1 h
    obtain ⟨_, _, h⟩ := Option.bind_eq_some_iff.1 h
    obtain ⟨_, _, h⟩ := Option.bind_eq_some_iff.1 h
    rcases cond_some h with ⟨_, h⟩ | ⟨_, h⟩
    · simp at h
    obtain ⟨cs', h⟩ := ifillK_any h
    cases hp : isPromo pr o.dst with
    | some u =>
      rw [hp] at h
      have h := Option.some.inj h
      subst h
      exact ⟨.inr (.inl (by simp [dstLcl, hop, lclOf, hp])), by simp [lwrite, hop, hp]⟩
    | none =>
      rw [hp] at h
      have h := Option.some.inj h
      subst h
      exact ⟨.inr (.inl (by simp [dstLcl, hop, lclOf, hp])), .inr ⟨by simp [hclass, hop, hp], fun lim' => by rw [hop] at h0 ⊢; exact h0⟩⟩
  · -- load
    rename_i t y hop
    unfold iloadK at h
    rcases cond_some h with ⟨_, h⟩ | ⟨_, h⟩
    · simp at h
    split at h
    · rename_i v e
      rcases hS.v e with q | rfl
      · exact .kv (by simp [dstLcl, hop]) (.inr (by simp [hclass, hop, q])) h
      · obtain ⟨v', hv, _⟩ := kv_any h
        simp [hload] at hv
    · rename_i u off e
      obtain ⟨cs, _, h⟩ := Option.bind_eq_some_iff.1 h
      exact .kv (by simp [dstLcl, hop]) (.inl (by simp [opReads, hop, e])) h
    · simp at h
  · -- store
    rename_i t y x' hop
    obtain ⟨v, _, h⟩ := Option.bind_eq_some_iff.1 h
    unfold istoreK at h
    rcases cond_some h with ⟨_, h⟩ | ⟨_, h⟩
    · simp at h
    split at h
    · rename_i v' e
      rcases hS.v e with q | rfl
      · exact .kh (by simp [hclass, hop, q]) h
      · obtain ⟨H1, hv, _⟩ := kh_any h
        simp [hstore] at hv
    · rename_i u off e
      obtain ⟨cs, _, h⟩ := Option.bind_eq_some_iff.1 h
      obtain ⟨cs', _, h⟩ := Option.bind_eq_some_iff.1 h
      have h := Option.some.inj h
      subst h
      exact ⟨.inr (.inr rfl), by simp [lwrite, hop, hS.lp e]⟩
    · simp at h
  · -- nilCheck
    rename_i y hop
    split at h
    · rename_i v e
      obtain ⟨v', hv, rfl⟩ := kv_any h
      rcases hS.v e with q | rfl
      · exact ⟨.inr (.inl (by simp [dstLcl, hop, q, lclOf])), fun _ h2 => by simp [opReads, hop] at h2⟩
      · simp [inilc] at hv
    · rename_i u off e
      have h := Option.some.inj h
      subst h
      exact ⟨.inr (.inl (by simp [dstLcl, hop, hS.lp e, lclOf])), fun _ h2 => by simp [opReads, hop] at h2⟩
    · simp at h
  · -- binOp
    rename_i hop
    obtain ⟨_, _, h⟩ := Option.bind_eq_some_iff.1 h
    obtain ⟨_, _, h⟩ := Option.bind_eq_some_iff.1 h
    exact .kv (by simp [dstLcl, hop]) (by simp [opReads, hop]) h
  · -- unOp
    rename_i hop
    obtain ⟨_, _, h⟩ := Option.bind_eq_some_iff.1 h
    exact .kv (by simp [dstLcl, hop]) (by simp [opReads, hop]) h
  · -- convert
    rename_i hop
    split at h
    · rcases cond_some h with ⟨_, h⟩ | ⟨_, h⟩
      · simp at h
      obtain ⟨_, _, h⟩ := Option.bind_eq_some_iff.1 h
      exact .kv (by simp [dstLcl, hop]) (by simp [opReads, hop]) h
    · simp at h
  · -- makeFunc
    rename_i hop
    obtain ⟨_, _, h⟩ := Option.bind_eq_some_iff.1 h
    obtain ⟨_, _, h⟩ := Option.bind_eq_some_iff.1 h
    have h := Option.some.inj h
    subst h
    exact ⟨.inr (.inl (by simp [dstLcl, hop, lclOf])), fun _ h2 => by simp [opReads, hop] at h2⟩
  · -- makeMap
    rename_i t hop
    obtain ⟨_, _, h⟩ := Option.bind_eq_some_iff.1 h
    have h := Option.some.inj h
    subst h
    exact ⟨.inr (.inl (by simp [dstLcl, hop, lclOf])), .inr ⟨by simp [hclass, hop], fun lim' => by rw [hop] at h0 ⊢; exact h0⟩⟩
  · -- makeSlice
    rename_i t l c hop
    obtain ⟨_, _, h⟩ := Option.bind_eq_some_iff.1 h
    obtain ⟨_, _, h⟩ := Option.bind_eq_some_iff.1 h
    obtain ⟨_, _, h⟩ := Option.bind_eq_some_iff.1 h
    obtain ⟨_, _, h⟩ := Option.bind_eq_some_iff.1 h
    obtain ⟨v, H1, _, rfl⟩ := kvh_any h
    exact ⟨.inr (.inl (by simp [dstLcl, hop, lclOf])), .inr ⟨by simp [hclass, hop], fun lim' => by rw [hop] at h0 ⊢; exact h0⟩⟩
  · -- slice
    rename_i hop
    obtain ⟨_, _, h⟩ := Option.bind_eq_some_iff.1 h
    obtain ⟨_, _, h⟩ := Option.bind_eq_some_iff.1 h
    obtain ⟨_, _, h⟩ := Option.bind_eq_some_iff.1 h
    obtain ⟨_, _, h⟩ := Option.bind_eq_some_iff.1 h
    split at h
    · rcases cond_some h with ⟨_, h⟩ | ⟨_, h⟩
      · simp at h
      exact .kv (by simp [dstLcl, hop]) (by simp [opReads, hop]) h
    · exact .kv (by simp [dstLcl, hop]) (by simp [opReads, hop]) h
    · simp at h
  · -- fieldAddr
    rename_i s y f hop
    split at h
    · obtain ⟨g, _, h⟩ := Option.bind_eq_some_iff.1 h
      rcases cond_some h with ⟨_, h⟩ | ⟨_, h⟩
      · simp at h
      exact .add hS (by simp [dstLcl, hop]) (by simp [opReads, hop]) h
    · simp at h
  · -- field
    rename_i hop
    split at h
    · obtain ⟨g, _, h⟩ := Option.bind_eq_some_iff.1 h
      rcases cond_some h with ⟨_, h⟩ | ⟨_, h⟩
      · simp at h
      obtain ⟨_, _, h⟩ := Option.bind_eq_some_iff.1 h
      exact .kv (by simp [dstLcl, hop]) (by simp [opReads, hop]) h
    · simp at h
  · -- indexAddr
    rename_i t y i hop
    obtain ⟨_, _, h⟩ := Option.bind_eq_some_iff.1 h
    split at h
    · rcases cond_some h with ⟨_, h⟩ | ⟨_, h⟩
      · simp at h
      obtain ⟨v, hv, h⟩ := Option.bind_eq_some_iff.1 h
      obtain ⟨v', hv', rfl⟩ := kv_any h
      rcases hS.v (evd_eq hv) with q | rfl
      · exact ⟨.inr (.inl (by simp [dstLcl, hop, q, lclOf])), fun _ h2 => by simp [opReads, hop] at h2⟩
      · simp [iidx] at hv'
    · rcases cond_some h with ⟨_, h⟩ | ⟨_, h⟩
      · simp at h
      obtain ⟨_, _, h⟩ := Option.bind_eq_some_iff.1 h
      exact .add hS (by simp [dstLcl, hop]) (by simp [opReads, hop]) h
    · simp at h
  · -- index
    rename_i hop
    obtain ⟨_, _, h⟩ := Option.bind_eq_some_iff.1 h
    obtain ⟨_, _, h⟩ := Option.bind_eq_some_iff.1 h
    split at h
    · rcases cond_some h with ⟨_, h⟩ | ⟨_, h⟩
      · simp at h
      exact .kv (by simp [dstLcl, hop]) (by simp [opReads, hop]) h
    · exact .kv (by simp [dstLcl, hop]) (by simp [opReads, hop]) h
    · simp at h
  · -- lookup
    rename_i hop
    obtain ⟨_, _, h⟩ := Option.bind_eq_some_iff.1 h
    obtain ⟨_, _, h⟩ := Option.bind_eq_some_iff.1 h
    obtain ⟨_, _, h⟩ := Option.bind_eq_some_iff.1 h
    exact .kv (by simp [dstLcl, hop]) (.inr (by simp [hclass, hop])) h
  · -- mapUpdate
    rename_i hop
    obtain ⟨_, _, h⟩ := Option.bind_eq_some_iff.1 h
    obtain ⟨_, _, h⟩ := Option.bind_eq_some_iff.1 h
    obtain ⟨_, _, h⟩ := Option.bind_eq_some_iff.1 h
    obtain ⟨_, _, h⟩ := Option.bind_eq_some_iff.1 h
    exact .kh (by simp [hclass, hop]) h
  · -- mapEntry
    rename_i hop
    obtain ⟨_, _, h⟩ := Option.bind_eq_some_iff.1 h
    obtain ⟨_, _, h⟩ := Option.bind_eq_some_iff.1 h
    obtain ⟨_, _, h⟩ := Option.bind_eq_some_iff.1 h
    exact .kvh (by simp [dstLcl, hop]) (by simp [hclass, hop]) h
  · -- entryStore
    rename_i hop
    obtain ⟨_, _, h⟩ := Option.bind_eq_some_iff.1 h
    obtain ⟨_, _, h⟩ := Option.bind_eq_some_iff.1 h
    obtain ⟨_, _, h⟩ := Option.bind_eq_some_iff.1 h
    exact .kh (by simp [hclass, hop]) h
  · -- extract
    rename_i hop
    obtain ⟨_, _, h⟩ := Option.bind_eq_some_iff.1 h
    exact .kv (by simp [dstLcl, hop]) (by simp [opReads, hop]) h
  · -- call
    rename_i c hop
    have hd : dstLcl pr σ o = none := by simp [dstLcl, hop]
    split at h
    · rename_i b hb
      split at h
      · -- len
        rename_i t x e1 e2
        obtain ⟨v, hv, h⟩ := Option.bind_eq_some_iff.1 h
        split at h
        · rename_i e hu
          obtain ⟨v', hv', rfl⟩ := kv_any h
          refine ⟨.inr (.inl hd.symm), fun _ _ H0 => ?_⟩
          rw [hop]
          simp only [iopK, hb, e1, e2, hv, hu, Option.bind_some, Ideal.kv, hv']
        · rename_i hu
          obtain ⟨v', hv', rfl⟩ := kv_any h
          refine ⟨.inr (.inl hd.symm), fun _ _ H0 => ?_⟩
          rw [hop]
          simp only [iopK, hb, e1, e2, hv, hu, Option.bind_some, Ideal.kv, hv']
        · rename_i k e hu
          exact .kv hd (.inr (by simp [hclass, hop, hb, e1, hu])) h
        · simp at h
      · obtain ⟨_, _, h⟩ := Option.bind_eq_some_iff.1 h
        exact .kv hd (.inl (by simp [opReads, hop, hb])) h
      · obtain ⟨_, _, h⟩ := Option.bind_eq_some_iff.1 h
        exact .kv hd (.inl (by simp [opReads, hop, hb])) h
      · -- append
        rename_i t u s y e1 e2
        split at h
        · rename_i e e' he he'
          rcases cond_some h with ⟨_, h⟩ | ⟨hz, h⟩
          · simp at h
          obtain ⟨v, hv, h⟩ := Option.bind_eq_some_iff.1 h
          cases hn : isNilS s with
          | false =>
            obtain ⟨m, new, h⟩ := irowK_any h
            exact .kvh hd (by simp [hclass, hop, hb, e2, hn]) h
          | true =>
            have hvn : v = .slice none 0 0 := by
              unfold isNilS at hn
              split at hn
              · simp at hn
                obtain ⟨rfl, rfl⟩ := hn
                simp [IA.evd, IA.ev, cst, TV.data] at hv
                exact hv.symm
              · simp at hn
            subst hvn
            obtain ⟨m, new, h2⟩ := irowK_any h
            obtain ⟨v', H1, _, rfl⟩ := kvh_any h2
            refine ⟨.inr (.inl (by rw [hd]; rfl)), .inr ⟨by simp [hclass, hop, hb, e2, hn], fun lim' => ?_⟩⟩
            rw [hop]
            simp only [iopK, hb, e1, e2, he, he', hz, cond_false, hv, Option.bind_some]
            exact h
        · simp at h
      · obtain ⟨_, _, h⟩ := Option.bind_eq_some_iff.1 h
        obtain ⟨_, _, h⟩ := Option.bind_eq_some_iff.1 h
        obtain ⟨m, new, h⟩ := irowK_any h
        exact .kvh hd (by simp [hclass, hop, hb]) h
      · obtain ⟨_, _, h⟩ := Option.bind_eq_some_iff.1 h
        obtain ⟨_, _, h⟩ := Option.bind_eq_some_iff.1 h
        obtain ⟨_, _, h⟩ := Option.bind_eq_some_iff.1 h
        exact .kh (by simp [hclass, hop, hb]) h
      · obtain ⟨_, _, h⟩ := Option.bind_eq_some_iff.1 h
        obtain ⟨_, _, h⟩ := Option.bind_eq_some_iff.1 h
        obtain ⟨_, _, h⟩ := Option.bind_eq_some_iff.1 h
        exact .kh (by simp [hclass, hop, hb]) h
      · simp at h
    · simp at h
  · simp at h
end Go.Ideal
/- The ideal machine, part Zh: a region that draws its order: what is looked at ahead. -/
namespace Go.Ideal

structure Info where
  reads : List Nat
  dst : Option Nat
  hc : HC
  lrd : List Nat
  lwr : Option Nat

section
variable (P : Program) (pr : Prm) (wr : List FuncId) (ops : Array Oper)
def infoOf (σ : Sig) (o : Oper) : Info :=
  { reads := o.looksAt ops, dst := o.dst, hc := hclass P pr wr σ o, lrd := (o.looksAt ops).filterMap σ, lwr := lwrite pr σ o }
def sigNext (σ : Sig) (o : Oper) : Sig :=
  match o.dst with
  | some d => fun t => bif t == d then dstLcl pr σ o else σ t
  | none => σ
def infos (σ : Sig) : List Oper → List Info
  | [] => []
  | o :: r => infoOf P pr wr ops σ o :: infos (sigNext pr σ o) r
end

def befs1 (acc : List Nat) (o : Oper) : Nat := o.after.toList.foldl (fun s e => bif Region.binds .any e then s ||| (2 ^ e.on ||| acc.getD e.on 0) else s) 0
def befs (acc : List Nat) : List Oper → List Nat
  | [] => acc
  | o :: r => befs (acc ++ [befs1 acc o]) r

def apart (I J : Info) : Bool :=
  (match I.dst with | some d => !J.reads.elem d && !(J.dst == some d) | none => true) &&
  (match J.dst with | some d => !I.reads.elem d | none => true) &&
  (!I.hc.isWr || J.hc.isPure) && (!J.hc.isWr || I.hc.isPure) &&
  (match I.lwr with | some u => !J.lrd.elem u && !(J.lwr == some u) | none => true) &&
  (match J.lwr with | some u => !I.lrd.elem u | none => true)

/-- ... but for the heap. -/
def sApart (I J : Info) : Bool := apart { I with hc := .pure } { J with hc := .pure }

def rowOk (X : Nat → Bool) (b : Nat) (J : Info) : Nat → List Info → Bool
  | _, [] => true
  | i, I :: r => (b.testBit i || apart I J || (X i && sApart I J)) && rowOk X b J (i + 1) r
def pairsOk (X : Nat → Nat → Bool) (j : Nat) (done : List Info) : List Info → List Nat → Bool
  | [], _ => true
  | J :: r, bs => rowOk (fun i => X i j) (bs.headD 0) J 0 done && pairsOk X (j + 1) (done ++ [J]) r bs.tail

def pass (md : Region.Mode) : List Oper → Nat → Nat → Nat
  | [], _, S => S
  | o :: r, i, S => pass md r (i + 1) (bif o.after.toList.all (fun e => !Region.binds md e || S.testBit e.on) then S ||| 2 ^ i else S)
def passes (md : Region.Mode) (l : List Oper) : Nat → Nat → Nat
  | 0, S => S
  | f + 1, S => passes md l f (pass md l 0 S)
def bitsAll (S : Nat) : Nat → Bool
  | 0 => true
  | n + 1 => S.testBit n && bitsAll S n
def topo (md : Region.Mode) (l : List Oper) : Bool := bitsAll (passes md l 4 0) l.length

/-- May a region's order be drawn? -/
def okDraw (P : Program) (pr : Prm) (wr : List FuncId) (A : IA) (ops : Array Oper) : Bool :=
  pairsOk (fun _ _ => false) 0 [] (infos P pr wr ops (fun t => lclOf (A.tmp t)) ops.toList) (befs [] ops.toList) && topo .any ops.toList && topo .text ops.toList && topo .gc ops.toList

def lateX (j : Nat) (is : List Nat) (a b : Nat) : Bool := (a == j && is.elem b) || (b == j && is.elem a)
def HC.isRd : HC → Bool | .rd => true | _ => false
/-- ... of a region with a call j that writes beside the loads is? -/
def okLate (P : Program) (pr : Prm) (wr : List FuncId) (A : IA) (ops : Array Oper) (j : Nat) (is : List Nat) : Bool :=
  pairsOk (lateX j is) 0 [] (infos P pr wr ops (fun t => lclOf (A.tmp t)) ops.toList) (befs [] ops.toList) && topo .any ops.toList && topo .text ops.toList && topo .gc ops.toList &&
  ops.toList.all (fun o => o.guard.isNone) && nodup (dsts ops.toList) &&
  is.all fun i => (match ops.toList[i]? with
    | some o => (match o.op with | .load _ (.tmp x) => !(dsts (ops.toList.drop i)).elem x | _ => false)
    | none => false) && (match (infos P pr wr ops (fun t => lclOf (A.tmp t)) ops.toList)[i]? with | some I => I.hc.isRd | none => false)

/-! ### What the look tells -/
theorem bitsAll_spec {S : Nat} : ∀ {n : Nat}, bitsAll S n = true → ∀ i, i < n → S.testBit i = true
  | 0, _, i, hi => by omega
  | n + 1, h, i, hi => by
    simp only [bitsAll, Bool.and_eq_true] at h
    by_cases e : i = n
    · subst e; exact h.1
    · exact bitsAll_spec h.2 i (by omega)

/-- Where nothing is ready all is listed. -/
theorem pass_spec {md : Region.Mode} {L : Nat → Prop} : ∀ (l : List Oper) (i S : Nat) (h : ∀ k o, l[k]? = some o → (∀ e ∈ o.after, Region.binds md e = true → L e.on) → L (i + k)),
    (∀ k, S.testBit k = true → L k) → ∀ k, (pass md l i S).testBit k = true → L k
  | [], i, S, h, hS => hS
  | o :: r, i, S, h, hS => by
    simp only [pass]
    refine pass_spec r (i + 1) _ (fun k o' hk he => ?_) ?_
    · have := h (k + 1) o' (by simpa using hk) he
      rw [show i + 1 + k = i + (k + 1) by omega]; exact this
    · intro k hk
      cases hc : o.after.toList.all (fun e => !Region.binds md e || S.testBit e.on) with
      | false => rw [hc, cond_false] at hk; exact hS k hk
      | true =>
        rw [hc, cond_true, Nat.testBit_or, Bool.or_eq_true] at hk
        rcases hk with hk | hk
        · exact hS k hk
        · rw [Nat.testBit_two_pow] at hk
          have : i = k := by simpa using hk
          subst this
          refine h 0 o rfl fun e he hb => hS _ ?_
          have := List.all_eq_true.1 hc e (by simpa using he)
          simpa [hb] using this
theorem passes_spec {md : Region.Mode} {L : Nat → Prop} {l : List Oper} (h : ∀ k o, l[k]? = some o → (∀ e ∈ o.after, Region.binds md e = true → L e.on) → L k) :
    ∀ (f S : Nat), (∀ k, S.testBit k = true → L k) → ∀ k, (passes md l f S).testBit k = true → L k
  | 0, S, hS => hS
  | f + 1, S, hS => by
    simp only [passes]
    exact passes_spec h f _ (pass_spec l 0 S (by simpa using h) hS)
theorem topo_spec {md : Region.Mode} {L : Nat → Prop} {l : List Oper} (ht : topo md l = true) (h : ∀ k o, l[k]? = some o → (∀ e ∈ o.after, Region.binds md e = true → L e.on) → L k) : ∀ k, k < l.length → L k :=
  fun k hk => passes_spec h 4 0 (by simp) k (bitsAll_spec ht k hk)

/-- A set of operations that has with each one those behind which it stands. -/
def Closed (l : List Oper) (D : Nat → Prop) : Prop := ∀ k, D k → ∀ o, l[k]? = some o → ∀ e ∈ o.after, Region.binds .any e = true → D e.on
/-- i stands ahead of j. -/
def Ord (l : List Oper) (i j : Nat) : Prop := ∀ D, Closed l D → ∀ o, l[j]? = some o → (∀ e ∈ o.after, Region.binds .any e = true → D e.on) → D i

theorem befs1_spec {l : List Oper} {acc : List Nat} (h : ∀ j i, (acc.getD j 0).testBit i = true → Ord l i j) {o : Oper} {i : Nat} (hb : (befs1 acc o).testBit i = true) :
    ∀ D, Closed l D → (∀ e ∈ o.after, Region.binds .any e = true → D e.on) → (∀ j, D j → j < acc.length → ∃ o, l[j]? = some o) → D i := by
  intro D hD he hlt
  unfold befs1 at hb
  have key : ∀ (es : List Edge) (s : Nat), (∀ e ∈ es, e ∈ o.after) → (∀ i, s.testBit i = true → D i) → ∀ i, (es.foldl (fun s e => bif Region.binds .any e then s ||| (2 ^ e.on ||| acc.getD e.on 0) else s) s).testBit i = true → D i := by
    intro es
    induction es with
    | nil => intro s _ hs i hi; exact hs i hi
    | cons e es ih =>
      intro s hes hs i hi
      refine ih _ (fun e he => hes e (by simp [he])) ?_ i hi
      intro i hi
      replace hi : (bif Region.binds .any e then s ||| (2 ^ e.on ||| acc.getD e.on 0) else s).testBit i = true := hi
      cases hbd : Region.binds .any e with
      | false => rw [hbd, cond_false] at hi; exact hs i hi
      | true =>
        rw [hbd, cond_true, Nat.testBit_or, Nat.testBit_or, Bool.or_eq_true, Bool.or_eq_true] at hi
        have hon := he e (hes e (by simp)) hbd
        rcases hi with hi | hi | hi
        · exact hs i hi
        · rw [Nat.testBit_two_pow] at hi
          have : e.on = i := by simpa using hi
          rw [← this]; exact hon
        · have hlen : e.on < acc.length := by
            rcases Nat.lt_or_ge e.on acc.length with q | q
            · exact q
            · rw [List.getD_eq_getElem?_getD, List.getElem?_eq_none q] at hi
              simp at hi
          obtain ⟨o', ho'⟩ := hlt e.on hon hlen
          exact h _ _ hi D hD o' ho' (hD e.on hon o' ho')
  exact key _ 0 (fun e he => by simpa using he) (by simp) i hb

theorem befs_spec {l : List Oper} : ∀ (r : List Oper) (acc : List Nat), l.drop acc.length = r → (∀ j i, (acc.getD j 0).testBit i = true → Ord l i j) → ∀ j i, ((befs acc r).getD j 0).testBit i = true → Ord l i j
  | [], acc, hl, h => h
  | o :: r, acc, hl, h => by
    simp only [befs]
    have hlt : acc.length < l.length := by
      have := congrArg List.length hl
      simp at this; omega
    have ho : l[acc.length]? = some o := by
      have := congrArg (·[0]?) hl
      simpa using this
    refine befs_spec r _ (by simp; rw [← List.tail_drop, hl]; rfl) ?_
    intro j i hi
    by_cases hj : j < acc.length
    · refine h j i ?_
      rw [List.getD_eq_getElem?_getD, List.getElem?_append_left hj] at hi
      rw [List.getD_eq_getElem?_getD]; exact hi
    · by_cases hj2 : j = acc.length
      · subst hj2
        have hi : (befs1 acc o).testBit i = true := by simpa [List.getD_eq_getElem?_getD] using hi
        intro D hD o' ho' he
        rw [ho] at ho'
        have e := Option.some.inj ho'
        subst e
        exact befs1_spec h hi D hD he fun k _ hk => ⟨l[k], List.getElem?_eq_getElem (by omega)⟩
      · rw [List.getD_eq_getElem?_getD, List.getElem?_eq_none (by simp; omega)] at hi
        simp at hi

theorem rowOk_spec {X : Nat → Bool} {b : Nat} {J : Info} : ∀ {l : List Info} {i : Nat}, rowOk X b J i l = true → ∀ k I, l[k]? = some I → b.testBit (i + k) = true ∨ apart I J = true ∨ (X (i + k) = true ∧ sApart I J = true)
  | [], i, h, k, I, hk => by simp at hk
  | I0 :: r, i, h, k, I, hk => by
    simp only [rowOk, Bool.and_eq_true, Bool.or_eq_true] at h
    cases k with
    | zero => simp at hk; subst hk; rw [or_assoc] at h; exact h.1
    | succ k =>
      have := rowOk_spec h.2 k I (by simpa using hk)
      rw [show i + (k + 1) = i + 1 + k by omega]; exact this

theorem pairsOk_spec {X : Nat → Nat → Bool} : ∀ {r done : List Info} {bs : List Nat} {n : Nat}, pairsOk X n done r bs = true → ∀ i j I J, i < done.length + j → (done ++ r)[i]? = some I → r[j]? = some J → (bs.getD j 0).testBit i = true ∨ apart I J = true ∨ (X i (n + j) = true ∧ sApart I J = true)
  | [], done, bs, n, h, i, j, I, J, hij, hi, hj => by simp at hj
  | J0 :: r, done, bs, n, h, i, j, I, J, hij, hi, hj => by
    simp only [pairsOk, Bool.and_eq_true] at h
    cases j with
    | zero =>
      simp at hj; subst hj
      rw [List.getElem?_append_left (by omega)] at hi
      have := rowOk_spec h.1 i I hi
      rw [Nat.zero_add] at this
      have e : bs.headD 0 = bs.getD 0 0 := by cases bs <;> rfl
      rw [← e]; exact this
    | succ j =>
      have := pairsOk_spec h.2 i j I J (by simp; omega) (by simpa using hi) (by simpa using hj)
      have e : bs.tail.getD j 0 = bs.getD (j + 1) 0 := by cases bs <;> simp
      rw [← e, show n + (j + 1) = n + 1 + j by omega]; exact this

/-- The signs ahead of each operation. -/
def sigs (pr : Prm) (σ : Sig) : List Oper → Nat → Sig
  | _, 0 => σ
  | [], _ + 1 => σ
  | o :: r, i + 1 => sigs pr (sigNext pr σ o) r i
theorem infos_get {P : Program} {pr : Prm} {wr : List FuncId} {ops : Array Oper} : ∀ {l : List Oper} {σ : Sig} {i : Nat} {o : Oper}, l[i]? = some o → (infos P pr wr ops σ l)[i]? = some (infoOf P pr wr ops (sigs pr σ l i) o)
  | [], σ, i, o, h => by simp at h
  | o0 :: r, σ, 0, o, h => by simp at h; subst h; rfl
  | o0 :: r, σ, i + 1, o, h => by
    simp only [infos, sigs]
    rw [List.getElem?_cons_succ]
    exact infos_get (by simpa using h)
theorem sigs_succ {pr : Prm} : ∀ {l : List Oper} {σ : Sig} {i : Nat} {o : Oper}, l[i]? = some o → sigs pr σ l (i + 1) = sigNext pr (sigs pr σ l i) o
  | [], σ, i, o, h => by simp at h
  | o0 :: r, σ, 0, o, h => by simp at h; subst h; cases r <;> rfl
  | o0 :: r, σ, i + 1, o, h => by
    show sigs pr (sigNext pr σ o0) r (i + 1) = sigNext pr (sigs pr (sigNext pr σ o0) r i) o
    exact sigs_succ (by simpa using h)

/-- Any two operations stand one ahead of the other, or are apart. -/
theorem okDraw_sep {P : Program} {pr : Prm} {wr : List FuncId} {A : IA} {ops : Array Oper} (h : okDraw P pr wr A ops = true) {i j : Nat} {oi oj : Oper} (hij : i < j) (hi : ops.toList[i]? = some oi) (hj : ops.toList[j]? = some oj) :
    Ord ops.toList i j ∨ apart (infoOf P pr wr ops (sigs pr (fun t => lclOf (A.tmp t)) ops.toList i) oi) (infoOf P pr wr ops (sigs pr (fun t => lclOf (A.tmp t)) ops.toList j) oj) = true := by
  unfold okDraw at h
  simp only [Bool.and_eq_true] at h
  have := pairsOk_spec h.1.1.1 i j _ _ (by simpa using hij) (by simpa using infos_get hi) (infos_get hj)
  rcases this with q | q | ⟨q, _⟩
  · exact .inl (befs_spec ops.toList [] (by simp) (fun j i q => by simp at q) j i q)
  · exact .inr q
  · simp at q
theorem okLate_sep {P : Program} {pr : Prm} {wr : List FuncId} {A : IA} {ops : Array Oper} {jl : Nat} {is : List Nat} (h : okLate P pr wr A ops jl is = true) {i j : Nat} {oi oj : Oper} (hij : i < j) (hi : ops.toList[i]? = some oi) (hj : ops.toList[j]? = some oj) :
    Ord ops.toList i j ∨ apart (infoOf P pr wr ops (sigs pr (fun t => lclOf (A.tmp t)) ops.toList i) oi) (infoOf P pr wr ops (sigs pr (fun t => lclOf (A.tmp t)) ops.toList j) oj) = true ∨
      ((i = jl ∧ j ∈ is ∨ j = jl ∧ i ∈ is) ∧ sApart (infoOf P pr wr ops (sigs pr (fun t => lclOf (A.tmp t)) ops.toList i) oi) (infoOf P pr wr ops (sigs pr (fun t => lclOf (A.tmp t)) ops.toList j) oj) = true) := by
  unfold okLate at h
  simp only [Bool.and_eq_true] at h
  have := pairsOk_spec h.1.1.1.1.1.1 i j _ _ (by simpa using hij) (by simpa using infos_get hi) (infos_get hj)
  rcases this with q | q | ⟨q, q2⟩
  · exact .inl (befs_spec ops.toList [] (by simp) (fun j i q => by simp at q) j i q)
  · exact .inr (.inl q)
  · refine .inr (.inr ⟨?_, q2⟩)
    simpa [lateX] using q

/-! ### The states between the steps -/
theorem sub_nodup {pr : Prm} : ∀ (l : List Oper) (h : (wipes pr l).Nodup) (i j : Nat) (oi oj : Oper), i ≠ j → l[i]? = some oi → l[j]? = some oj → ∀ u, u ∈ wipes pr [oi] → u ∉ wipes pr [oj]
  | [], h, i, j, oi, oj, hij, hi, hj, u, hu => by simp at hi
  | o :: r, h, i, j, oi, oj, hij, hi, hj, u, hu => by
    have mem : ∀ {k : Nat} {o' : Oper}, r[k]? = some o' → ∀ u, u ∈ wipes pr [o'] → u ∈ wipes pr r := by
      intro k o' hk u hu
      have hm := List.mem_of_getElem? hk
      obtain ⟨l1, l2, rfl⟩ := List.append_of_mem hm
      have app : ∀ (a b : List Oper), wipes pr (a ++ b) = wipes pr a ++ wipes pr b := by
        intro a b
        induction a with
        | nil => rfl
        | cons x a ih => rw [List.cons_append, wipes_cons, ih, wipes_cons pr x a]; simp
      rw [app, wipes_cons]
      simp [hu]
    rw [wipes_cons] at h
    obtain ⟨n1, n2, n3⟩ := List.nodup_append.1 h
    cases i with
    | zero =>
      cases j with
      | zero => exact absurd rfl hij
      | succ j =>
        simp at hi; subst hi
        intro hu'
        exact n3 u hu u (mem (by simpa using hj) u hu') rfl
    | succ i =>
      cases j with
      | zero =>
        simp at hj; subst hj
        intro hu'
        exact n3 u hu' u (mem (by simpa using hi) u hu) rfl
      | succ j => exact sub_nodup r n2 i j oi oj (by omega) (by simpa using hi) (by simpa using hj) u hu

theorem Chain.seq {P : Program} {E : Env} {pr : Prm} {lim : Nat} {q : Bool} {W : List Nat} {ops : Array Oper} {l : List Oper} {A A' : IA} {H H' : IHeap} (h : Chain P E pr lim q W ops l A H A' H') :
    ∃ (F : Nat → IA) (Hs : Nat → IHeap), (F 0).le A ∧ Hs 0 = H ∧ F l.length = A' ∧ Hs l.length = H' ∧ ∀ i o, l[i]? = some o → ∃ A1, istep P E pr lim q W ops o (F i) (Hs i) = some (A1, Hs (i + 1)) ∧ (F (i + 1)).le A1 := by
  induction h with
  | nil =>
    rename_i A H
    exact ⟨fun _ => A, fun _ => H, A.le_refl, rfl, rfl, rfl, fun i o h => by simp at h⟩
  | weak e _ ih =>
    obtain ⟨F, Hs, h1, h2⟩ := ih
    exact ⟨F, Hs, IA.le_trans h1 e, h2⟩
  | @cons o r A A1 A' H H1 H' hs _ ih =>
    obtain ⟨F, Hs, h1, h2, h3, h4, h5⟩ := ih
    refine ⟨fun i => match i with | 0 => A | i + 1 => F i, fun i => match i with | 0 => H | i + 1 => Hs i, A.le_refl, rfl, h3, h4, fun i o' hi => ?_⟩
    cases i with
    | zero =>
      simp at hi; subst hi
      exact ⟨A1, by simp only [h2]; exact hs, h1⟩
    | succ i => exact h5 i o' (by simpa using hi)

/-- What a step is. -/
theorem istep_inv {P : Program} {E : Env} {pr : Prm} {lim : Nat} {q : Bool} {W : List Nat} {ops : Array Oper} {o : Oper} {A A1 : IA} {H H1 : IHeap} (h : istep P E pr lim q W ops o A H = some (A1, H1)) :
    (iguard ops A o.guard = some false ∧ A1 = A.put o.dst unitV ∧ H1 = H) ∨
    (iguard ops A o.guard = some true ∧ (
      (∃ x, iopK P pr lim A H o.dst o.op some = some (.tv x) ∧ A1 = A.put o.dst x ∧ H1 = H) ∨
      (∃ x u cs, iopK P pr lim A H o.dst o.op some = some (.loc x u cs) ∧ A1 = (A.putLoc u cs).put o.dst x ∧ H1 = H) ∨
      (∃ x, iopK P pr lim A H o.dst o.op some = some (.heap x H1) ∧ A1 = A.put o.dst x) ∨
      ∃ c fv fid first cap vs g v, o.op = .call c ∧ c.callee = .value fv ∧ A.evd fv = some (.func (.func fid) first cap) ∧ evs A c.args.toList = some vs ∧ E.fn fid = some g ∧
        g (bif q && !E.wr.elem fid then H.next else lim) (first.toList ++ vs ++ cap.toList) H = some (v, H1) ∧ A1 = A.put o.dst (.v v))) := by
  unfold istep at h
  obtain ⟨b, hb, h⟩ := Option.bind_eq_some_iff.1 h
  rcases cond_some h with ⟨rfl, h⟩ | ⟨rfl, h⟩
  · refine .inr ⟨hb, ?_⟩
    rcases iwant_inv h with ⟨r, h1, h2⟩ | h
    · cases r with
      | tv x => simp [R1.finK] at h2; obtain ⟨rfl, rfl⟩ := h2; exact .inl ⟨x, h1, rfl, rfl⟩
      | loc x u cs =>
        simp only [R1.finK] at h2
        rcases cond_some h2 with ⟨_, h2⟩ | ⟨_, h2⟩
        · simp at h2; obtain ⟨rfl, rfl⟩ := h2; exact .inr (.inl ⟨x, u, cs, h1, rfl, rfl⟩)
        · simp at h2
      | heap x H2 => simp [R1.finK] at h2; obtain ⟨rfl, rfl⟩ := h2; exact .inr (.inr (.inl ⟨x, h1, rfl⟩))
    · exact .inr (.inr (.inr h))
  · simp at h; obtain ⟨rfl, rfl⟩ := h
    exact .inl ⟨hb, rfl, rfl⟩

section
variable {P : Program} {E : Env} (hE : EnvOK P E) {pr : Prm} {lim : Nat} {W : List Nat} {ops : Array Oper} {o : Oper} {A A1 : IA} {H H1 : IHeap} {σ : Sig}

theorem dstLcl_call {c : Call} (h : o.op = .call c) : dstLcl pr σ o = none := by simp [dstLcl, h]
theorem lwrite_call {c : Call} (h : o.op = .call c) : lwrite pr σ o = none := by simp [lwrite, h]

theorem snd_put {d : Option Tmp} {x : TV} (hS : Snd σ A) (hd : o.dst = d) (hx : x = .bot ∨ lclOf x = dstLcl pr σ o ∨ x = unitV) : Snd (sigNext pr σ o) (A.put d x) := by
  intro t
  unfold sigNext
  rw [hd]
  cases d with
  | none => exact hS t
  | some d =>
    simp only [IA.put]
    cases e : t == d with
    | true => simp only [cond_true]; exact hx
    | false => simp only [cond_false]; exact hS t

theorem istep_snd {q : Bool} (hS : Snd σ A) (h : istep P E pr lim q W ops o A H = some (A1, H1)) : Snd (sigNext pr σ o) A1 := by
  rcases istep_inv h with ⟨_, rfl, _⟩ | ⟨_, ⟨x, h1, rfl, _⟩ | ⟨x, u, cs, h1, rfl, _⟩ | ⟨x, h1, rfl⟩ | ⟨c, fv, fid, first, cap, vs, g, v, hop, _, _, _, _, _, rfl⟩⟩
  · exact snd_put hS rfl (.inr (.inr rfl))
  · exact snd_put hS rfl (iop_static (wr := []) hS h1).1
  · exact snd_put (A := A.putLoc u cs) hS rfl (iop_static (wr := []) hS h1).1
  · exact snd_put hS rfl (iop_static (wr := []) hS h1).1
  · exact snd_put hS rfl (.inr (.inl (by rw [dstLcl_call hop]; rfl)))

theorem istep_tmp {q : Bool} (h : istep P E pr lim q W ops o A H = some (A1, H1)) {t : Nat} (ht : o.dst ≠ some t) : A1.tmp t = A.tmp t := by
  rcases istep_inv h with ⟨_, rfl, _⟩ | ⟨_, ⟨x, h1, rfl, _⟩ | ⟨x, u, cs, h1, rfl, _⟩ | ⟨x, h1, rfl⟩ | ⟨c, fv, fid, first, cap, vs, g, v, hop, _, _, _, _, _, rfl⟩⟩
  · exact put_tmp_ne ht
  · exact put_tmp_ne ht
  · exact (put_tmp_ne ht).trans rfl
  · exact put_tmp_ne ht
  · exact put_tmp_ne ht

theorem istep_locs {q : Bool} (hS : Snd σ A) (h : istep P E pr lim q W ops o A H = some (A1, H1)) {u : Nat} (hu : lwrite pr σ o ≠ some u) : A1.loc u = A.loc u := by
  rcases istep_inv h with ⟨_, rfl, _⟩ | ⟨_, ⟨x, h1, rfl, _⟩ | ⟨x, u', cs, h1, rfl, _⟩ | ⟨x, h1, rfl⟩ | ⟨c, fv, fid, first, cap, vs, g, v, hop, _, _, _, _, _, rfl⟩⟩
  · rw [put_loc]
  · rw [put_loc]
  · rw [put_loc]
    have := (iop_static (wr := []) hS h1).2
    have hne : (u == u') = false := by
      simp; intro e; subst e; exact hu this
    simp [IA.putLoc, hne]
  · rw [put_loc]
  · rw [put_loc]

include hE in
/-- A step that doesn't write leaves all blocks. -/
theorem istep_quiet (hS : Snd σ A) (h : istep P E pr lim true W ops o A H = some (A1, H1)) (hc : hclass P pr E.wr σ o ≠ .wr) : Keeps H.next H H1 := by
  rcases istep_inv h with ⟨_, _, rfl⟩ | ⟨_, ⟨x, h1, _, rfl⟩ | ⟨x, u', cs, h1, _, rfl⟩ | ⟨x, h1, _⟩ | ⟨c, fv, fid, first, cap, vs, g, v, hop, hcl, hfv, _, hg, hr, _⟩⟩
  · exact Keeps.refl _ _
  · exact Keeps.refl _ _
  · exact Keeps.refl _ _
  · rcases (iop_static (wr := E.wr) hS h1).2 with q | ⟨_, q⟩
    · exact absurd q hc
    · exact iop_keeps (q H.next)
  · have hwr : (!E.wr.elem fid) = true := by
      cases hw : E.wr.elem fid with
      | false => rfl
      | true =>
        exfalso
        apply hc
        cases fv with
        | func f =>
          simp [IA.evd, IA.ev, TV.data] at hfv
          obtain ⟨rfl, _⟩ := hfv
          have hw' : f ∈ E.wr := by simpa using hw
          simp [hclass, hop, hcl, hw']
        | _ => simp [hclass, hop, hcl]
    rw [Bool.true_and, hwr, cond_true] at hr
    exact (hE _ _ hg).keeps _ _ _ _ _ hr
end
end Go.Ideal
/- The ideal machine, part Zi: a region whose order is drawn. -/
namespace Go.Ideal
variable {P : Program} {E : Env} {pr : Prm} {C : Ctx} {W : List Nat} {ops : Array Oper} {F : Nat → IA} {Hs : Nat → IHeap} {σs : Nat → Sig} {ρ : Ren} {μ : Lam} {a : Act} {w : World} {D : Nat → Prop} {jl : Nat} {Lt : Nat → Prop}

/-- Two operations that must be ordered. -/
def Clash (jl : Nat) (Lt : Nat → Prop) (i : Nat) (I : Info) (j : Nat) (J : Info) : Prop := apart I J = false ∧ ((i = jl ∧ Lt j ∨ j = jl ∧ Lt i) → sApart I J = false)

/-- The run in the order of the text. -/
structure Text (P : Program) (E : Env) (pr : Prm) (C : Ctx) (W : List Nat) (ops : Array Oper) (F : Nat → IA) (Hs : Nat → IHeap) (σs : Nat → Sig) (jl : Nat) (Lt : Nat → Prop) : Prop where
  hE : EnvOK P E
  step : ∀ i o, ops.toList[i]? = some o → ∃ A1, istep P E pr C.lim true W ops o (F i) (Hs i) = some (A1, Hs (i + 1)) ∧ (F (i + 1)).le A1
  snd : ∀ i o, ops.toList[i]? = some o → Snd (σs i) (F i)
  sep : ∀ i j oi oj, i < j → ops.toList[i]? = some oi → ops.toList[j]? = some oj → Ord ops.toList i j ∨ apart (infoOf P pr E.wr ops (σs i) oi) (infoOf P pr E.wr ops (σs j) oj) = true ∨
    ((i = jl ∧ Lt j ∨ j = jl ∧ Lt i) ∧ sApart (infoOf P pr E.wr ops (σs i) oi) (infoOf P pr E.wr ops (σs j) oj) = true)
  late : ∀ i o, Lt i → ops.toList[i]? = some o → hclass P pr E.wr (σs i) o = .rd ∧ ∀ x, iopK P pr C.lim (F i) (Hs i) o.dst o.op some = some (.tv x) →
    (jl < i → iopK P pr C.lim (F i) (Hs jl) o.dst o.op some = some (.tv x)) ∧ (i < jl → iopK P pr C.lim (F i) (Hs (jl + 1)) o.dst o.op some = some (.tv x))
  nodup : (wipes pr ops.toList).Nodup
  dst : ∀ t ∈ dsts ops.toList, t < C.sz
  lim : C.lim ≤ (Hs 0).next

/-- m cuts what has run, as far as p goes. -/
def Cut (ops : Array Oper) (D : Nat → Prop) (p : Nat → Oper → Prop) (m : Nat) : Prop := m ≤ ops.toList.length ∧ ∀ i o, ops.toList[i]? = some o → p i o → (D i ↔ i < m)
abbrev wrS (t : Nat) : Nat → Oper → Prop := fun _ o => o.dst = some t
abbrev isW (P : Program) (E : Env) (pr : Prm) (σs : Nat → Sig) : Nat → Oper → Prop := fun i o => hclass P pr E.wr (σs i) o = .wr
abbrev lwr (pr : Prm) (σs : Nat → Sig) (u : Nat) : Nat → Oper → Prop := fun i o => lwrite pr (σs i) o = some u

/-- What is true when the operations of D have run. -/
structure DInv (P : Program) (E : Env) (pr : Prm) (C : Ctx) (ops : Array Oper) (F : Nat → IA) (Hs : Nat → IHeap) (σs : Nat → Sig) (D : Nat → Prop) (ρ : Ren) (μ : Lam) (a : Act) (w : World) : Prop where
  closed : Closed ops.toList D
  slot : ∀ t m, Cut ops D (wrS t) m → TR ρ μ ((F m).tmp t) (a.tmps.getD t undef)
  loc : ∀ u m, Cut ops D (lwr pr σs u) m → ∀ cs, (F m).loc u = some cs → ∃ r, μ u = some r ∧ LocR ρ cs w r
  heap : ∀ m, Cut ops D (isW P E pr σs) m → Rel ρ (Hs m) w
  dom : ∀ b r x, ρ b = some (r, x) → r < w.heap.size
  free : ∀ i o, ops.toList[i]? = some o → ¬ D i → ∀ b, (Hs i).next ≤ b → b < (Hs (i + 1)).next → ρ b = none
  mu : ∀ i o, ops.toList[i]? = some o → ¬ D i → ∀ u ∈ wipes pr [o], μ u = none
  priv : ∀ u r, μ u = some r → C.w0.heap.size ≤ r ∧ r < w.heap.size ∧ (∀ b x, ρ b ≠ some (r, x)) ∧ ∀ u', μ u' = some r → u' = u
  ext : Ext C.lim C.n0 (Hs ops.toList.length).next C.ρ0 ρ C.w0 w
  f0 : Free C.ρ0 C.n0 (Hs ops.toList.length).next
  n0 : C.n0 ≤ (Hs 0).next
  size : a.tmps.size = C.sz
  defers : a.defers = []

theorem Text.mono (hT : Text P E pr C W ops F Hs σs jl Lt) {j : Nat} : ∀ {m : Nat}, j ≤ m → m ≤ ops.toList.length → (Hs j).next ≤ (Hs m).next
  | 0, h, _ => by have : j = 0 := by omega
                  subst this; exact Nat.le_refl _
  | m + 1, h, hm => by
    by_cases e : j = m + 1
    · subst e; exact Nat.le_refl _
    · obtain ⟨A1, h1, _⟩ := hT.step m _ (List.getElem?_eq_getElem (by omega))
      exact Nat.le_trans (hT.mono (by omega) (by omega)) (istep_keeps_any hT.hE h1).le

/-- Between steps that write the blocks stay. -/
theorem Text.still (hT : Text P E pr C W ops F Hs σs jl Lt) {j : Nat} : ∀ {m : Nat}, j ≤ m → m ≤ ops.toList.length → (∀ i o, j ≤ i → i < m → ops.toList[i]? = some o → hclass P pr E.wr (σs i) o ≠ .wr) →
    (∀ b, b < (Hs j).next → (Hs m).get b = (Hs j).get b) ∧ ((∀ b, (Hs j).next ≤ b → (Hs j).get b = none) → ∀ b, (Hs m).next ≤ b → (Hs m).get b = none)
  | 0, h, _, _ => by have : j = 0 := by omega
                     subst this; exact ⟨fun _ _ => rfl, fun h => h⟩
  | m + 1, h, hm, hw => by
    by_cases e : j = m + 1
    · subst e; exact ⟨fun _ _ => rfl, fun h => h⟩
    · have ho : ops.toList[m]? = some ops.toList[m] := List.getElem?_eq_getElem (by omega)
      obtain ⟨A1, h1, _⟩ := hT.step m _ ho
      obtain ⟨k1, k2⟩ := hT.still (j := j) (m := m) (by omega) (by omega) fun i o q1 q2 q3 => hw i o q1 (by omega) q3
      have k := istep_quiet hT.hE (hT.snd m _ ho) h1 (hw m _ (by omega) (by omega) ho)
      have hmm := hT.mono (j := j) (m := m) (by omega) (by omega)
      exact ⟨fun b hb => by rw [k.get b (by omega) (by omega), k1 b hb], fun q => k.wf (k2 q)⟩

theorem Text.slotStill (hT : Text P E pr C W ops F Hs σs jl Lt) {t j : Nat} : ∀ {m : Nat}, j ≤ m → m ≤ ops.toList.length → (∀ i o, j ≤ i → i < m → ops.toList[i]? = some o → o.dst ≠ some t) → (F m).tmp t = .bot ∨ (F m).tmp t = (F j).tmp t
  | 0, h, _, _ => by have : j = 0 := by omega
                     subst this; exact .inr rfl
  | m + 1, h, hm, hw => by
    by_cases e : j = m + 1
    · subst e; exact .inr rfl
    · have ho : ops.toList[m]? = some ops.toList[m] := List.getElem?_eq_getElem (by omega)
      obtain ⟨A1, h1, hle⟩ := hT.step m _ ho
      rcases hle.tmp t with q | q
      · exact .inl q
      · rw [q, istep_tmp h1 (hw m _ (by omega) (by omega) ho)]
        exact hT.slotStill (by omega) (by omega) fun i o q1 q2 q3 => hw i o q1 (by omega) q3
theorem Text.locStill (hT : Text P E pr C W ops F Hs σs jl Lt) {u j : Nat} : ∀ {m : Nat}, j ≤ m → m ≤ ops.toList.length → (∀ i o, j ≤ i → i < m → ops.toList[i]? = some o → lwrite pr (σs i) o ≠ some u) → (F m).loc u = none ∨ (F m).loc u = (F j).loc u
  | 0, h, _, _ => by have : j = 0 := by omega
                     subst this; exact .inr rfl
  | m + 1, h, hm, hw => by
    by_cases e : j = m + 1
    · subst e; exact .inr rfl
    · have ho : ops.toList[m]? = some ops.toList[m] := List.getElem?_eq_getElem (by omega)
      obtain ⟨A1, h1, hle⟩ := hT.step m _ ho
      rcases hle.loc u with q | q
      · exact .inl q
      · rw [q, istep_locs (hT.snd m _ ho) h1 (hw m _ (by omega) (by omega) ho)]
        exact hT.locStill (by omega) (by omega) fun i o q1 q2 q3 => hw i o q1 (by omega) q3

/-- What may run next: those behind which it stands have run. -/
structure Next (ops : Array Oper) (D : Nat → Prop) (j : Nat) (o : Oper) : Prop where
  get : ops.toList[j]? = some o
  new : ¬ D j
  deps : ∀ e ∈ o.after, Region.binds .any e = true → D e.on

/-- An operation that isn't apart from the next one has run if it stands ahead, else not. -/
theorem Text.ahead (hT : Text P E pr C W ops F Hs σs jl Lt) {j i : Nat} {o oi : Oper} (hcl : Closed ops.toList D) (hj : Next ops D j o) (hi : ops.toList[i]? = some oi) (hij : i < j)
    (hc : Clash jl Lt i (infoOf P pr E.wr ops (σs i) oi) j (infoOf P pr E.wr ops (σs j) o)) : D i := by
  rcases hT.sep i j oi o hij hi hj.get with q | q | ⟨q, q2⟩
  · exact q D hcl o hj.get hj.deps
  · rw [hc.1] at q; simp at q
  · rw [hc.2 q] at q2; simp at q2
theorem Text.behind (hT : Text P E pr C W ops F Hs σs jl Lt) {j i : Nat} {o oi : Oper} (hcl : Closed ops.toList D) (hj : Next ops D j o) (hi : ops.toList[i]? = some oi) (hij : j < i)
    (hc : Clash jl Lt j (infoOf P pr E.wr ops (σs j) o) i (infoOf P pr E.wr ops (σs i) oi)) : ¬ D i := by
  intro hd
  rcases hT.sep j i o oi hij hj.get hi with q | q | ⟨q, q2⟩
  · exact hj.new (q D hcl oi hi (hcl i hd oi hi))
  · rw [hc.1] at q; simp at q
  · rw [hc.2 q] at q2; simp at q2

theorem Text.cut (hT : Text P E pr C W ops F Hs σs jl Lt) {j : Nat} {o : Oper} (hcl : Closed ops.toList D) (hj : Next ops D j o) {p : Nat → Oper → Prop}
    (hp : ∀ i oi, ops.toList[i]? = some oi → p i oi → Clash jl Lt i (infoOf P pr E.wr ops (σs i) oi) j (infoOf P pr E.wr ops (σs j) o) ∧ Clash jl Lt j (infoOf P pr E.wr ops (σs j) o) i (infoOf P pr E.wr ops (σs i) oi)) : Cut ops D p j := by
  refine ⟨Nat.le_of_lt (List.getElem?_eq_some_iff.1 hj.get).1, fun i oi hi hpi => ?_⟩
  obtain ⟨h1, h2⟩ := hp i oi hi hpi
  constructor
  · intro hd
    rcases Nat.lt_trichotomy i j with q | q | q
    · exact q
    · subst q; exact absurd hd hj.new
    · exact absurd hd (hT.behind hcl hj hi q h2)
  · intro q
    exact hT.ahead hcl hj hi q h1

/-- What is behind the next one, up to a cut behind it, and not apart from it: nothing. -/
theorem Text.gap (hT : Text P E pr C W ops F Hs σs jl Lt) {j : Nat} {o : Oper} (hcl : Closed ops.toList D) (hj : Next ops D j o) {p : Nat → Oper → Prop} {m : Nat} (hm : Cut ops (fun k => D k ∨ k = j) p m)
    (hp : ∀ i oi, ops.toList[i]? = some oi → p i oi → Clash jl Lt j (infoOf P pr E.wr ops (σs j) o) i (infoOf P pr E.wr ops (σs i) oi)) : ∀ i oi, j + 1 ≤ i → i < m → ops.toList[i]? = some oi → ¬ p i oi := by
  intro i oi h1 h2 hi hpi
  rcases (hm.2 i oi hi hpi).2 h2 with hd | e
  · exact hT.behind hcl hj hi (by omega) (hp i oi hi hpi) hd
  · omega

theorem Cut.other {p : Nat → Oper → Prop} {j m : Nat} {o : Oper} (hj : ops.toList[j]? = some o) (hp : ¬ p j o) (h : Cut ops (fun k => D k ∨ k = j) p m) : Cut ops D p m := by
  refine ⟨h.1, fun i oi hi hpi => ?_⟩
  have hne : i ≠ j := by
    intro e; subst e
    rw [hi] at hj
    have := Option.some.inj hj
    subst this
    exact hp hpi
  rw [← h.2 i oi hi hpi]
  simp [hne]

theorem Rel.same {H H' : IHeap} (h : Rel ρ H w) (hwf : ∀ b, H'.next ≤ b → H'.get b = none) (hg : ∀ b x, ρ b = some x → H'.get b = H.get b) : Rel ρ H' w where
  wf := hwf
  dom := h.dom
  obj := fun b r δ z o e g => h.obj b r δ z o e (by rw [← hg b _ e]; exact g)
  sep := fun b1 b2 r x1 x2 o1 o2 e1 e2 g1 g2 => h.sep b1 b2 r x1 x2 o1 o2 e1 e2 (by rw [← hg _ _ e1]; exact g1) (by rw [← hg _ _ e2]; exact g2)
  last := fun b1 b2 r d1 d2 z1 z2 c1 c2 fl e1 e2 g1 g2 => h.last b1 b2 r d1 d2 z1 z2 c1 c2 fl e1 e2 (by rw [← hg _ _ e1]; exact g1) (by rw [← hg _ _ e2]; exact g2)

/-- What only makes blocks, on a heap that has others besides. -/
theorem Rel.glue {H H1 : IHeap} {n n1 : Nat} {ρ' : Ren} {w' : World} (hm : Rel ρ H w) (hR : Rel ρ' H1 w') (hE : Ext n n n1 ρ ρ' w w') (hg : ∀ b, n ≤ b → b < n1 → ∀ o, H.get b = some o → H1.get b = some o) : Rel ρ' H w' := by
  have old : ∀ {b r x}, ρ b = some (r, x) → r < w.heap.size ∧ w'.heap[r]? = w.heap[r]? := fun e => by
    have := hm.dom _ _ _ e
    exact ⟨this, hE.kept _ this fun b0 x0 _ h1 h2 => by omega⟩
  have new : ∀ {b r x}, ρ' b = some (r, x) → ρ b = none → w.heap.size ≤ r ∧ n ≤ b ∧ b < n1 := fun e e0 => by
    obtain ⟨h1, h2, h3⟩ := hE.fresh _ _ _ e e0
    rcases h3 with h3 | ⟨b0, x0, _, h4, h5⟩
    · exact ⟨h3, h1, h2⟩
    · omega
  have both : ∀ {b x}, ρ' b = some x → ρ b = some x ∨ ρ b = none := fun {b x} e => by
    cases e0 : ρ b with
    | none => exact .inr rfl
    | some y => have := hE.mono _ _ e0; rw [e] at this; exact .inl this.symm
  have gn : ∀ {b r x o}, ρ' b = some (r, x) → ρ b = none → H.get b = some o → H1.get b = some o := fun e e0 g => by
    obtain ⟨_, h1, h2⟩ := new e e0
    exact hg _ h1 h2 _ g
  refine ⟨hm.wf, hR.dom, ?_, ?_, ?_⟩
  · intro b r δ z o e g
    rcases both e with e0 | e0
    · have := hm.obj b r δ z o e0 g
      rw [(old e0).2]; exact this.mono hE.mono
    · exact hR.obj b r δ z o e (gn e e0 g)
  · intro b1 b2 r x1 x2 o1 o2 e1 e2 g1 g2 l1 l2 hne
    rcases both e1 with q1 | q1
    · rcases both e2 with q2 | q2
      · exact hm.sep b1 b2 r x1 x2 o1 o2 q1 q2 g1 g2 l1 l2 hne
      · have := (old q1).1; have := (new e2 q2).1; omega
    · rcases both e2 with q2 | q2
      · have := (old q2).1; have := (new e1 q1).1; omega
      · exact hR.sep b1 b2 r x1 x2 o1 o2 e1 e2 (gn e1 q1 g1) (gn e2 q2 g2) l1 l2 hne
  · intro b1 b2 r d1 d2 z1 z2 c1 c2 fl e1 e2 g1 g2
    rcases both e1 with q1 | q1
    · rcases both e2 with q2 | q2
      · exact hm.last b1 b2 r d1 d2 z1 z2 c1 c2 fl q1 q2 g1 g2
      · have := (old q1).1; have := (new e2 q2).1; omega
    · rcases both e2 with q2 | q2
      · have := (old q2).1; have := (new e1 q1).1; omega
      · exact hR.last b1 b2 r d1 d2 z1 z2 c1 c2 fl e1 e2 (gn e1 q1 g1) (gn e2 q2 g2)

/-- Steps inside of a span. -/
theorem Ext.inside {lim n N m m' : Nat} {ρ ρ1 ρ2 : Ren} {w w1 w2 : World} (hn : n ≤ m) (hN : m' ≤ N) (hf : Free ρ n N) (hmm : m ≤ m') (h : Ext lim n N ρ ρ1 w w1) (k : Ext lim m m' ρ1 ρ2 w1 w2) :
    Ext lim n N ρ ρ2 w w2 where
  mono := Ren.le_trans h.mono k.mono
  size := Nat.le_trans h.size k.size
  os := k.os.trans h.os
  tape := k.tape.trans h.tape
  output := k.output.trans h.output
  kept := by
    intro r hr hno
    rw [k.kept r (Nat.lt_of_lt_of_le hr h.size) ?_, h.kept r hr hno]
    intro b δ e hl hb
    cases hx : ρ b with
    | some x =>
      have := h.mono _ _ hx
      rw [e] at this; simp at this; subst this
      by_cases hbn : b < n
      · exact hno _ _ hx hl hbn
      · have := hf b (by omega) (by omega); rw [hx] at this; simp at this
    | none =>
      obtain ⟨_, _, h3 | ⟨b0, δ0, e0, h4, h5⟩⟩ := h.fresh _ _ _ e hx
      · omega
      · exact hno _ _ e0 h4 h5
  fresh := by
    intro b r δ e hx
    cases h1 : ρ1 b with
    | some x =>
      have := k.mono _ _ h1
      rw [e] at this; simp at this; subst this
      exact h.fresh _ _ _ h1 hx
    | none =>
      obtain ⟨a, b', c⟩ := k.fresh _ _ _ e h1
      refine ⟨by omega, by omega, ?_⟩
      rcases c with c | ⟨b0, δ0, e0, h4, h5⟩
      · left; have := h.size; omega
      · cases h0 : ρ b0 with
        | some x =>
          have := h.mono _ _ h0
          rw [e0] at this; simp at this; subst this
          right
          by_cases hbn : b0 < n
          · exact ⟨b0, _, h0, h4, hbn⟩
          · have := hf b0 (by omega) (by omega); rw [h0] at this; simp at this
        | none =>
          obtain ⟨_, _, c⟩ := h.fresh _ _ _ e0 h0
          exact c
theorem Ext.wide {lim n N N' : Nat} {ρ ρ1 : Ren} {w w1 : World} (hN : N ≤ N') (h : Ext lim n N ρ ρ1 w w1) : Ext lim n N' ρ ρ1 w w1 where
  mono := h.mono
  size := h.size
  os := h.os
  tape := h.tape
  output := h.output
  kept := h.kept
  fresh := fun b r x e q => let ⟨a, b', c⟩ := h.fresh b r x e q; ⟨a, by omega, c⟩
end Go.Ideal
/- The ideal machine, part Zj: a step of a region whose order is drawn. -/
namespace Go.Ideal
variable {P : Program} {E : Env} {pr : Prm} {C : Ctx} {W : List Nat} {ops : Array Oper} {F : Nat → IA} {Hs : Nat → IHeap} {σs : Nat → Sig} {ρ : Ren} {μ : Lam} {a : Act} {w : World} {D : Nat → Prop} {jl : Nat} {Lt : Nat → Prop}

theorem apart_parts {I J : Info} (h : apart I J = true) : (∀ d, I.dst = some d → d ∉ J.reads ∧ J.dst ≠ some d) ∧ (∀ d, J.dst = some d → d ∉ I.reads) ∧ (I.hc = .wr → J.hc = .pure) ∧ (J.hc = .wr → I.hc = .pure) ∧
    (∀ u, I.lwr = some u → u ∉ J.lrd ∧ J.lwr ≠ some u) ∧ (∀ u, J.lwr = some u → u ∉ I.lrd) := by
  simp only [apart, Bool.and_eq_true] at h
  obtain ⟨⟨⟨⟨⟨h1, h2⟩, h3⟩, h4⟩, h5⟩, h6⟩ := h
  refine ⟨fun d e => ?_, fun d e => ?_, fun e => ?_, fun e => ?_, fun u e => ?_, fun u e => ?_⟩
  · rw [e] at h1; simpa using h1
  · rw [e] at h2; simpa using h2
  · rw [e] at h3
    cases hj : J.hc <;> rw [hj] at h3 <;> first | rfl | simp [HC.isWr, HC.isPure] at h3
  · rw [e] at h4
    cases hj : I.hc <;> rw [hj] at h4 <;> first | rfl | simp [HC.isWr, HC.isPure] at h4
  · rw [e] at h5; simpa using h5
  · rw [e] at h6; simpa using h6

theorem apart_no {I J : Info} (h : apart I J = true → False) : apart I J = false := by
  cases e : apart I J with
  | false => rfl
  | true => exact (h e).elim
theorem apart_slot {I J : Info} {t : Nat} (h1 : I.dst = some t) (h2 : t ∈ J.reads) : apart I J = false ∧ apart J I = false :=
  ⟨apart_no fun h => ((apart_parts h).1 t h1).1 h2, apart_no fun h => (apart_parts h).2.1 t h1 h2⟩
theorem apart_dst {I J : Info} {t : Nat} (h1 : I.dst = some t) (h2 : J.dst = some t) : apart I J = false := apart_no fun h => ((apart_parts h).1 t h1).2 h2
theorem apart_wr {I J : Info} (h1 : I.hc = .wr) (h2 : J.hc ≠ .pure) : apart I J = false ∧ apart J I = false :=
  ⟨apart_no fun h => h2 ((apart_parts h).2.2.1 h1), apart_no fun h => h2 ((apart_parts h).2.2.2.1 h1)⟩
theorem apart_lrd {I J : Info} {u : Nat} (h1 : I.lwr = some u) (h2 : u ∈ J.lrd) : apart I J = false ∧ apart J I = false :=
  ⟨apart_no fun h => ((apart_parts h).2.2.2.2.1 u h1).1 h2, apart_no fun h => (apart_parts h).2.2.2.2.2 u h1 h2⟩
theorem apart_lwr {I J : Info} {u : Nat} (h1 : I.lwr = some u) (h2 : J.lwr = some u) : apart I J = false := apart_no fun h => ((apart_parts h).2.2.2.2.1 u h1).2 h2

section
variable {i j : Nat} {I J : Info}
theorem clash_slot {t : Nat} (h1 : I.dst = some t) (h2 : t ∈ J.reads) : Clash jl Lt i I j J ∧ Clash jl Lt j J i I :=
  ⟨⟨(apart_slot h1 h2).1, fun _ => (apart_slot (I := { I with hc := .pure }) (J := { J with hc := .pure }) h1 h2).1⟩, ⟨(apart_slot h1 h2).2, fun _ => (apart_slot (I := { I with hc := .pure }) (J := { J with hc := .pure }) h1 h2).2⟩⟩
theorem clash_dst {t : Nat} (h1 : I.dst = some t) (h2 : J.dst = some t) : Clash jl Lt i I j J := ⟨apart_dst h1 h2, fun _ => apart_dst (I := { I with hc := .pure }) (J := { J with hc := .pure }) h1 h2⟩
theorem clash_lrd {u : Nat} (h1 : I.lwr = some u) (h2 : u ∈ J.lrd) : Clash jl Lt i I j J ∧ Clash jl Lt j J i I :=
  ⟨⟨(apart_lrd h1 h2).1, fun _ => (apart_lrd (I := { I with hc := .pure }) (J := { J with hc := .pure }) h1 h2).1⟩, ⟨(apart_lrd h1 h2).2, fun _ => (apart_lrd (I := { I with hc := .pure }) (J := { J with hc := .pure }) h1 h2).2⟩⟩
theorem clash_lwr {u : Nat} (h1 : I.lwr = some u) (h2 : J.lwr = some u) : Clash jl Lt i I j J := ⟨apart_lwr h1 h2, fun _ => apart_lwr (I := { I with hc := .pure }) (J := { J with hc := .pure }) h1 h2⟩
theorem clash_wr (h1 : I.hc = .wr) (h2 : J.hc ≠ .pure) (hi : ¬ Lt i) (hj : ¬ Lt j) : Clash jl Lt i I j J ∧ Clash jl Lt j J i I :=
  ⟨⟨(apart_wr h1 h2).1, fun q => by rcases q with ⟨_, q⟩ | ⟨_, q⟩; exact absurd q hj; exact absurd q hi⟩, ⟨(apart_wr h1 h2).2, fun q => by rcases q with ⟨_, q⟩ | ⟨_, q⟩; exact absurd q hi; exact absurd q hj⟩⟩
end
theorem Text.notLate (hT : Text P E pr C W ops F Hs σs jl Lt) {i : Nat} {o : Oper} (hi : ops.toList[i]? = some o) (h : hclass P pr E.wr (σs i) o ≠ .rd) : ¬ Lt i := fun q => h (hT.late i o q hi).1

theorem lwrite_pure {wr : List FuncId} {σ : Sig} {o : Oper} {u : Nat} (h : lwrite pr σ o = some u) : hclass P pr wr σ o = .pure := by
  unfold lwrite at h
  unfold hclass
  cases ho : o.op <;> simp only [ho] at h ⊢ <;> first | (simp at h; done) | (rw [h]; rfl)

section
variable {j : Nat} {o : Oper}
theorem DInv.slotCut (hT : Text P E pr C W ops F Hs σs jl Lt) (h : DInv P E pr C ops F Hs σs D ρ μ a w) (hj : Next ops D j o) {t : Nat} (ht : t ∈ o.looksAt ops) : Cut ops D (wrS t) j :=
  hT.cut h.closed hj fun i oi hi hp => clash_slot (I := infoOf P pr E.wr ops (σs i) oi) (J := infoOf P pr E.wr ops (σs j) o) hp ht
theorem DInv.heapCut (hT : Text P E pr C W ops F Hs σs jl Lt) (h : DInv P E pr C ops F Hs σs D ρ μ a w) (hj : Next ops D j o) (hc : hclass P pr E.wr (σs j) o ≠ .pure) (hnl : ¬ Lt j) : Cut ops D (isW P E pr σs) j :=
  hT.cut h.closed hj fun i oi hi hp => clash_wr (I := infoOf P pr E.wr ops (σs i) oi) (J := infoOf P pr E.wr ops (σs j) o) hp hc (hT.notLate hi (by rw [hp]; simp)) hnl
theorem DInv.lrdCut (hT : Text P E pr C W ops F Hs σs jl Lt) (h : DInv P E pr C ops F Hs σs D ρ μ a w) (hj : Next ops D j o) {t u : Nat} (ht : t ∈ o.looksAt ops) (hu : σs j t = some u) : Cut ops D (lwr pr σs u) j :=
  hT.cut h.closed hj fun i oi hi hp => clash_lrd (I := infoOf P pr E.wr ops (σs i) oi) (J := infoOf P pr E.wr ops (σs j) o) hp (List.mem_filterMap.2 ⟨t, ht, hu⟩)
theorem DInv.lwrCut (hT : Text P E pr C W ops F Hs σs jl Lt) (h : DInv P E pr C ops F Hs σs D ρ μ a w) (hj : Next ops D j o) {u : Nat} (hu : lwrite pr (σs j) o = some u) : Cut ops D (lwr pr σs u) j :=
  hT.cut h.closed hj fun i oi hi hp => ⟨clash_lwr (I := infoOf P pr E.wr ops (σs i) oi) (J := infoOf P pr E.wr ops (σs j) o) hp hu, clash_lwr (I := infoOf P pr E.wr ops (σs j) o) (J := infoOf P pr E.wr ops (σs i) oi) hu hp⟩

theorem mem_looks {t : Nat} (h : Operand.tmp t ∈ o.op.operands) : t ∈ o.looksAt ops :=
  List.mem_append_left _ (List.mem_filterMap.2 ⟨.tmp t, by simpa using h, rfl⟩)
theorem guard_looks {g : Nat} {wv : Bool} {d : Nat} (h : o.guard = some (g, wv)) (hd : (ops[g]?).bind (·.dst) = some d) : d ∈ o.looksAt ops := by
  unfold Oper.looksAt
  refine List.mem_append_right _ ?_
  rw [h]
  simp [hd]

theorem DInv.opIn (hT : Text P E pr C W ops F Hs σs jl Lt) (h : DInv P E pr C ops F Hs σs D ρ μ a w) (hj : Next ops D j o) : OpIn ρ μ (F j) a w o.op := by
  have hS := hT.snd j o hj.get
  refine ⟨fun x hx => ?_, fun x hx u off e cs hcs => ?_, fun x hx u off e cs hcs => ?_⟩
  · cases x with
    | tmp t => exact h.slot t j (h.slotCut hT hj (mem_looks hx))
    | const c =>
      simp only [IA.ev, Act.eval]
      cases hc : cst c with
      | true => exact VR.cst hc
      | false => exact trivial
    | global g => exact trivial
    | func f => exact VR.func .nil .nil
  · have hu := hS.lp e
    cases x with
    | tmp t => exact h.loc u j (h.lrdCut hT hj (mem_looks hx) hu) cs hcs
    | _ => simp [opLcl] at hu
  · have hu := hS.ls e
    cases x with
    | tmp t => exact h.loc u j (h.lrdCut hT hj (mem_looks hx) hu) cs hcs
    | _ => simp [opLcl] at hu

/-- Behind a step. -/
theorem DInv.next (hT : Text P E pr C W ops F Hs σs jl Lt) (h : DInv P E pr C ops F Hs σs D ρ μ a w) (hj : Next ops D j o) {A1 : IA} {x : TV} {y : Value} {ρ' : Ren} {μ' : Lam} {w' : World} (wl : Option Nat)
    (hle : (F (j + 1)).le A1) (hA : ∀ t, o.dst = some t → A1.tmp t = x) (hmono : ∀ X Y, TR ρ μ X Y → TR ρ' μ' X Y) (hxy : TR ρ' μ' x y)
    (hwl : ∀ u, wl = some u → lwrite pr (σs j) o = some u) (hA2 : ∀ u, wl ≠ some u → A1.loc u = (F j).loc u)
    (hkeep : ∀ u r cs, wl ≠ some u → μ u = some r → LocR ρ cs w r → μ' u = some r ∧ LocR ρ' cs w' r)
    (hlocN : ∀ u, wl = some u → ∀ cs, A1.loc u = some cs → ∃ r, μ' u = some r ∧ LocR ρ' cs w' r)
    (hheap : ∀ m, Cut ops (fun k => D k ∨ k = j) (isW P E pr σs) m → Rel ρ' (Hs m) w') (hdom : ∀ b r x, ρ' b = some (r, x) → r < w'.heap.size)
    (hfresh : ∀ b x, ρ' b = some x → ρ b = none → (Hs j).next ≤ b ∧ b < (Hs (j + 1)).next) (hmu : ∀ u, u ∉ wipes pr [o] → μ' u = μ u)
    (hpriv : ∀ u r, μ' u = some r → C.w0.heap.size ≤ r ∧ r < w'.heap.size ∧ (∀ b x, ρ' b ≠ some (r, x)) ∧ ∀ u', μ' u' = some r → u' = u)
    (hext : Ext C.lim C.n0 (Hs ops.toList.length).next C.ρ0 ρ' C.w0 w') : DInv P E pr C ops F Hs σs (fun k => D k ∨ k = j) ρ' μ' (a.put o.dst y) w' := by
  have hjn : j < ops.toList.length := (List.getElem?_eq_some_iff.1 hj.get).1
  have hdlt : ∀ t, o.dst = some t → t < a.tmps.size := by
    intro t e
    rw [h.size]
    refine hT.dst t ?_
    have hm := List.mem_of_getElem? hj.get
    obtain ⟨l1, l2, e2⟩ := List.append_of_mem hm
    rw [e2, dsts_append]
    simp [dsts, e]
  refine ⟨?_, ?_, ?_, hheap, hdom, ?_, ?_, hpriv, hext, h.f0, h.n0, by rw [put_size]; exact h.size, by rw [put_defers]; exact h.defers⟩
  · intro k hk ok hok e he hb
    rcases hk with hk | rfl
    · exact .inl (h.closed k hk ok hok e he hb)
    · rw [hj.get] at hok
      have := Option.some.inj hok
      subst this
      exact .inl (hj.deps e he hb)
  · intro t m hm
    by_cases ht : o.dst = some t
    · have hjm : j < m := (hm.2 j o hj.get ht).1 (.inr rfl)
      have hg := hT.gap h.closed hj hm fun i oi hi hp => clash_dst (I := infoOf P pr E.wr ops (σs j) o) (J := infoOf P pr E.wr ops (σs i) oi) ht hp
      have e1 : (a.put o.dst y).tmps.getD t undef = y := by
        rw [ht]; simp [Act.put, hdlt t ht]
      rw [e1]
      rcases hT.slotStill (t := t) (j := j + 1) (by omega) hm.1 hg with q | q
      · rw [q]; exact trivial
      · rw [q]
        rcases hle.tmp t with q2 | q2
        · rw [q2]; exact trivial
        · rw [q2, hA t ht]; exact hxy
    · have e1 : (a.put o.dst y).tmps.getD t undef = a.tmps.getD t undef := by
        cases hd : o.dst with
        | none => rfl
        | some d =>
          simp only [Act.put, Array.getD_eq_getD_getElem?, Array.getElem?_setIfInBounds]
          rw [if_neg (fun q => ht (by rw [hd, q]))]
      rw [e1]
      exact hmono _ _ (h.slot t m (hm.other hj.get ht))
  · intro u m hm cs hcs
    by_cases hu : lwrite pr (σs j) o = some u
    · have hjm : j < m := (hm.2 j o hj.get hu).1 (.inr rfl)
      have hg := hT.gap h.closed hj hm fun i oi hi hp => clash_lwr (I := infoOf P pr E.wr ops (σs j) o) (J := infoOf P pr E.wr ops (σs i) oi) hu hp
      have hA1 : A1.loc u = some cs := by
        rcases hT.locStill (u := u) (j := j + 1) (by omega) hm.1 hg with q | q
        · rw [q] at hcs; simp at hcs
        · rw [q] at hcs
          rcases hle.loc u with q2 | q2
          · rw [q2] at hcs; simp at hcs
          · rw [← q2]; exact hcs
      by_cases hw : wl = some u
      · exact hlocN u hw cs hA1
      · rw [hA2 u hw] at hA1
        obtain ⟨r, h1, h2⟩ := h.loc u j (h.lwrCut hT hj hu) cs hA1
        exact ⟨r, hkeep u r cs hw h1 h2⟩
    · obtain ⟨r, h1, h2⟩ := h.loc u m (hm.other hj.get hu) cs hcs
      exact ⟨r, hkeep u r cs (fun q => hu (hwl u q)) h1 h2⟩
  · intro i oi hi hni b h1 h2
    simp only [not_or] at hni
    have h0 := h.free i oi hi hni.1 b h1 h2
    have hin : i < ops.toList.length := (List.getElem?_eq_some_iff.1 hi).1
    cases e : ρ' b with
    | none => rfl
    | some x =>
      exfalso
      obtain ⟨h3, h4⟩ := hfresh b x e h0
      rcases Nat.lt_or_gt_of_ne hni.2 with q | q
      · have := hT.mono (j := i + 1) (m := j) (by omega) (by omega); omega
      · have := hT.mono (j := j + 1) (m := i) (by omega) (by omega); omega
  · intro i oi hi hni u hu
    simp only [not_or] at hni
    rw [hmu u (sub_nodup _ hT.nodup i j oi o hni.2 hi hj.get u hu)]
    exact h.mu i oi hi hni.1 u hu

/-- A step that turns the heap. -/
theorem DInv.turn (hT : Text P E pr C W ops F Hs σs jl Lt) (h : DInv P E pr C ops F Hs σs D ρ μ a w) (hj : Next ops D j o) {x : TV} {y : Value} {ρ' : Ren} {w' : World} {lim' : Nat}
    (hle : (F (j + 1)).le ((F j).put o.dst x)) (hxy : TR ρ' μ x y) (hnl : ¬ Lt j) (hc : hclass P pr E.wr (σs j) o ≠ .pure) (hl : hclass P pr E.wr (σs j) o ≠ .wr → lim' = (Hs j).next) (hl2 : C.lim ≤ lim')
    (hR : Rel ρ' (Hs (j + 1)) w') (hE : Ext lim' (Hs j).next (Hs (j + 1)).next ρ ρ' w w') : DInv P E pr C ops F Hs σs (fun k => D k ∨ k = j) ρ' μ (a.put o.dst y) w' := by
  have hjn : j < ops.toList.length := (List.getElem?_eq_some_iff.1 hj.get).1
  have m0 := hT.mono (j := 0) (m := j) (by omega) (by omega)
  have m1 := hT.mono (j := j) (m := j + 1) (by omega) (by omega)
  have m2 := hT.mono (j := j + 1) (m := ops.toList.length) (by omega) (Nat.le_refl _)
  have kept : ∀ u r, μ u = some r → w'.heap[r]? = w.heap[r]? := by
    intro u r hu
    obtain ⟨_, h2, h3, _⟩ := h.priv u r hu
    exact hE.kept r h2 fun b x e _ _ => h3 b x e
  refine h.next hT hj none hle (fun t ht => by rw [ht]; simp [IA.put]) (fun X Y q => q.mono hE.mono) hxy (fun u e => by simp at e) (fun u _ => by rw [put_loc])
    (fun u r cs _ e q => ⟨e, q.mono hE.mono (kept u r e)⟩) (fun u e => by simp at e) ?_ hR.dom ?_ (fun _ _ => rfl) ?_ ?_
  · intro m hm
    by_cases hw : hclass P pr E.wr (σs j) o = .wr
    · have hjm : j < m := (hm.2 j o hj.get hw).1 (.inr rfl)
      have hg := hT.gap h.closed hj hm fun i oi hi hp => (clash_wr (I := infoOf P pr E.wr ops (σs j) o) (J := infoOf P pr E.wr ops (σs i) oi) hw (by
        show hclass P pr E.wr (σs i) oi ≠ .pure
        rw [hp]; simp) (hT.notLate hj.get (by rw [hw]; simp)) (hT.notLate hi (by rw [hp]; simp))).1
      obtain ⟨s1, s2⟩ := hT.still (j := j + 1) (m := m) (by omega) hm.1 hg
      refine hR.same (s2 hR.wf) fun b x hb => ?_
      by_cases hlt : b < (Hs (j + 1)).next
      · exact s1 b hlt
      · rw [hR.wf b (by omega)]
        by_cases hlm : (Hs m).next ≤ b
        · exact s2 hR.wf b hlm
        · exfalso
          -- the block of an operation that has not run
          have find : ∀ k, j + 1 ≤ k → k ≤ m → b < (Hs k).next → ∃ i, j + 1 ≤ i ∧ i < k ∧ (Hs i).next ≤ b ∧ b < (Hs (i + 1)).next := by
            intro k
            induction k with
            | zero => intro h1; omega
            | succ k ih =>
              intro h1 h2 h3
              by_cases e : j + 1 = k + 1
              · have : k = j := by omega
                subst this; omega
              · by_cases q : b < (Hs k).next
                · obtain ⟨i, q1, q2, q3⟩ := ih (by omega) (by omega) q
                  exact ⟨i, q1, by omega, q3⟩
                · exact ⟨k, by omega, by omega, by omega, h3⟩
          obtain ⟨i, q1, q2, q3, q4⟩ := find m (by omega) (Nat.le_refl _) (by omega)
          have hin : i < ops.toList.length := Nat.lt_of_lt_of_le q2 hm.1
          have ho : ops.toList[i]? = some ops.toList[i] := List.getElem?_eq_getElem hin
          have hnp : hclass P pr E.wr (σs i) ops.toList[i] = .wr ∨ hclass P pr E.wr (σs i) ops.toList[i] = .qt := by
            obtain ⟨A2, hs2, _⟩ := hT.step i _ ho
            have no : Hs (i + 1) = Hs i → hclass P pr E.wr (σs i) ops.toList[i] = .wr ∨ hclass P pr E.wr (σs i) ops.toList[i] = .qt := fun e => by rw [e] at q4; omega
            rcases istep_inv hs2 with ⟨_, _, e⟩ | ⟨_, ⟨x, h1, _, e⟩ | ⟨x, u', cs, h1, _, e⟩ | ⟨x, h1, _⟩ | ⟨c, fv, fid, first, cap, vs, g, v, hop, hcl, _⟩⟩
            · exact no e
            · exact no e
            · exact no e
            · rcases (iop_static (wr := E.wr) (hT.snd i _ ho) h1).2 with q | ⟨q, _⟩
              · exact .inl q
              · exact .inr q
            · simp only [hclass, hop, hcl]
              split
              · rename_i e; simp at e
              · rename_i f e; cases hwf : E.wr.elem f <;> simp
              · simp
          have hnd : ¬ D i := hT.behind h.closed hj ho (by omega) (clash_wr (I := infoOf P pr E.wr ops (σs j) o) (J := infoOf P pr E.wr ops (σs i) ops.toList[i]) hw (by
            show hclass P pr E.wr (σs i) ops.toList[i] ≠ .pure
            rcases hnp with q | q <;> rw [q] <;> simp) hnl (hT.notLate ho (by rcases hnp with q | q <;> rw [q] <;> simp))).1
          have h0 := h.free i _ ho hnd b q3 q4
          obtain ⟨r, x⟩ := x
          have := (hE.fresh _ _ _ hb h0).2.1
          omega
    · have hl' := hl hw
      subst hl'
      have hm' := hm.other hj.get hw
      refine Rel.glue (h.heap m hm') hR hE fun b b1 b2 ob hob => ?_
      have hjm : j < m := by
        rcases Nat.lt_or_ge j m with q | q
        · exact q
        · have := (h.heap m hm').wf b (by have := hT.mono (j := m) (m := j) q (by omega); omega)
          rw [this] at hob; simp at hob
      have hg := hT.gap h.closed hj hm fun i oi hi hp => (clash_wr (I := infoOf P pr E.wr ops (σs i) oi) (J := infoOf P pr E.wr ops (σs j) o) hp hc (hT.notLate hi (by rw [hp]; simp)) hnl).2
      obtain ⟨s1, _⟩ := hT.still (j := j + 1) (m := m) (by omega) hm.1 hg
      rw [← s1 b b2]; exact hob
  · intro b x e e0
    obtain ⟨r, x⟩ := x
    obtain ⟨q1, q2, _⟩ := hE.fresh _ _ _ e e0
    exact ⟨q1, q2⟩
  · intro u r hu
    obtain ⟨h1, h2, h3, h4⟩ := h.priv u r hu
    refine ⟨h1, Nat.lt_of_lt_of_le h2 hE.size, fun b x e => ?_, h4⟩
    cases hb : ρ b with
    | some z =>
      have := hE.mono _ _ hb
      rw [e] at this
      exact h3 b x (by rw [hb, this])
    | none =>
      obtain ⟨_, _, k⟩ := hE.fresh _ _ _ e hb
      rcases k with k | ⟨b0, x0, k, _⟩
      · omega
      · exact h3 _ _ k
  · exact Ext.inside (by have := h.n0; omega) m2 h.f0 m1 h.ext (hE.weaken hl2)

/-- Where a load stands that a call writes beside. -/
theorem DInv.lateCut (hT : Text P E pr C W ops F Hs σs jl Lt) (h : DInv P E pr C ops F Hs σs D ρ μ a w) (hj : Next ops D j o) (hl : Lt j) :
    Cut ops D (isW P E pr σs) j ∨ (jl < j ∧ Cut ops D (isW P E pr σs) jl) ∨ (j < jl ∧ Cut ops D (isW P E pr σs) (jl + 1)) := by
  have hjn : j < ops.toList.length := (List.getElem?_eq_some_iff.1 hj.get).1
  have hrd := (hT.late j o hl hj.get).1
  have hnp : hclass P pr E.wr (σs j) o ≠ .pure := by rw [hrd]; simp
  -- those that write, but for the call
  have nl : ∀ i oi, ops.toList[i]? = some oi → isW P E pr σs i oi → ¬ Lt i := fun i oi hi hp => hT.notLate hi (by rw [hp]; simp)
  have cl : ∀ i oi, ops.toList[i]? = some oi → isW P E pr σs i oi → i ≠ jl → Clash jl Lt i (infoOf P pr E.wr ops (σs i) oi) j (infoOf P pr E.wr ops (σs j) o) ∧ Clash jl Lt j (infoOf P pr E.wr ops (σs j) o) i (infoOf P pr E.wr ops (σs i) oi) := by
    intro i oi hi hp hne
    have hni := nl i oi hi hp
    have q := apart_wr (I := infoOf P pr E.wr ops (σs i) oi) (J := infoOf P pr E.wr ops (σs j) o) hp hnp
    refine ⟨⟨q.1, fun e => ?_⟩, ⟨q.2, fun e => ?_⟩⟩
    · rcases e with ⟨e, _⟩ | ⟨_, e⟩
      · exact absurd e hne
      · exact absurd e hni
    · rcases e with ⟨_, e⟩ | ⟨e, _⟩
      · exact absurd e hni
      · exact absurd e hne
  have lo : ∀ i oi, ops.toList[i]? = some oi → isW P E pr σs i oi → i ≠ jl → i < j → D i := fun i oi hi hp hne q => hT.ahead h.closed hj hi q (cl i oi hi hp hne).1
  have hi' : ∀ i oi, ops.toList[i]? = some oi → isW P E pr σs i oi → i ≠ jl → j < i → ¬ D i := fun i oi hi hp hne q => hT.behind h.closed hj hi q (cl i oi hi hp hne).2
  have nj : ∀ i oi, ops.toList[i]? = some oi → isW P E pr σs i oi → i ≠ j := by
    intro i oi hi hp e
    subst e
    rw [hj.get] at hi
    have := Option.some.inj hi
    subst this
    have hp : hclass P pr E.wr (σs i) o = .wr := hp
    rw [hrd] at hp; simp at hp
  -- two that write
  have ww : ∀ i k oi ok, ops.toList[i]? = some oi → ops.toList[k]? = some ok → isW P E pr σs i oi → isW P E pr σs k ok → i < k → D k → D i := by
    intro i k oi ok hi hk hpi hpk hik hd
    have q := apart_wr (I := infoOf P pr E.wr ops (σs i) oi) (J := infoOf P pr E.wr ops (σs k) ok) hpi (by show hclass P pr E.wr (σs k) ok ≠ .pure; rw [hpk]; simp)
    rcases hT.sep i k oi ok hik hi hk with e | e | ⟨e, _⟩
    · exact e D h.closed ok hk (h.closed k hd ok hk)
    · rw [q.1] at e; simp at e
    · rcases e with ⟨_, e⟩ | ⟨_, e⟩
      · exact absurd e (nl k ok hk hpk)
      · exact absurd e (nl i oi hi hpi)
  have plainCut : (∀ oi, ops.toList[jl]? = some oi → isW P E pr σs jl oi → (D jl ↔ jl < j)) → Cut ops D (isW P E pr σs) j := by
    intro hq
    refine ⟨Nat.le_of_lt hjn, fun i oi hi hp => ?_⟩
    by_cases e : i = jl
    · subst e; exact hq oi hi hp
    · constructor
      · intro hd
        rcases Nat.lt_trichotomy i j with q | q | q
        · exact q
        · exact absurd q (nj i oi hi hp)
        · exact absurd hd (hi' i oi hi hp e q)
      · exact lo i oi hi hp e
  by_cases hex : ∃ ol, ops.toList[jl]? = some ol ∧ isW P E pr σs jl ol
  · obtain ⟨ol, hol, hpl⟩ := hex
    have hjl : jl < ops.toList.length := (List.getElem?_eq_some_iff.1 hol).1
    have hne := nj jl ol hol hpl
    by_cases hd : D jl
    · by_cases hlt : jl < j
      · exact .inl (plainCut fun _ _ _ => ⟨fun _ => hlt, fun _ => hd⟩)
      · refine .inr (.inr ⟨by omega, by omega, fun i oi hi hp => ?_⟩)
        constructor
        · intro hdi
          by_cases e : i ≤ jl
          · omega
          · exact absurd hdi (hi' i oi hi hp (by omega) (by omega))
        · intro q
          by_cases e : i = jl
          · subst e; exact hd
          · exact ww i jl oi ol hi hol hp hpl (by omega) hd
    · by_cases hlt : jl < j
      · refine .inr (.inl ⟨hlt, by omega, fun i oi hi hp => ?_⟩)
        constructor
        · intro hdi
          rcases Nat.lt_trichotomy i jl with q | q | q
          · exact q
          · subst q; exact absurd hdi hd
          · exact absurd (ww jl i ol oi hol hi hpl hp q hdi) hd
        · intro q
          exact lo i oi hi hp (by omega) (by omega)
      · exact .inl (plainCut fun _ _ _ => ⟨fun q => absurd q hd, fun q => absurd q hlt⟩)
  · exact .inl (plainCut fun oi hi hp => absurd ⟨oi, hi, hp⟩ hex)

theorem RelR.empty (n : Nat) : RelR ρ ⟨n, .nil⟩ w := ⟨fun _ _ _ _ _ _ g => by simp [IHeap.get, Tr.get] at g⟩

/-- One step. -/
theorem DInv.wpOp (hT : Text P E pr C W ops F Hs σs jl Lt) (h : DInv P E pr C ops F Hs σs D ρ μ a w) (hj : Next ops D j o) {K : Act → World → Prop} {Q : Exit → Act → World → Prop}
    (hK : ∀ ρ' μ' a' w', DInv P E pr C ops F Hs σs (fun k => D k ∨ k = j) ρ' μ' a' w' → K a' w') : wpOp P ops Q j K a w := by
  obtain ⟨A1, hs, hle⟩ := hT.step j o hj.get
  have hS := hT.snd j o hj.get
  have hin := h.opIn hT hj
  have hjn : j < ops.toList.length := (List.getElem?_eq_some_iff.1 hj.get).1
  have hoi : ops[j]? = some o := by rw [← Array.getElem?_toList]; exact hj.get
  have hgTR : ∀ g wv, o.guard = some (g, wv) → ∀ d, (ops[g]?).bind (·.dst) = some d → TR ρ μ ((F j).tmp d) (a.tmps.getD d undef) := fun g wv e d hd => h.slot d j (h.slotCut hT hj (guard_looks e hd))
  -- where only a slot turns
  have plain : ∀ {x y}, A1 = (F j).put o.dst x → Hs (j + 1) = Hs j → TR ρ μ x y → DInv P E pr C ops F Hs σs (fun k => D k ∨ k = j) ρ μ (a.put o.dst y) w := by
    intro x y e1 e2 hxy
    subst e1
    refine h.next hT hj none hle (fun t ht => by rw [ht]; simp [IA.put]) (fun _ _ q => q) hxy (fun u e => by simp at e) (fun u _ => by rw [put_loc]) (fun u r cs _ e q => ⟨e, q⟩) (fun u e => by simp at e) ?_ h.dom
      (fun b x e e0 => by rw [e] at e0; simp at e0) (fun _ _ => rfl) h.priv h.ext
    intro m hm
    by_cases hw : hclass P pr E.wr (σs j) o = .wr
    · have hjm : j < m := (hm.2 j o hj.get hw).1 (.inr rfl)
      have hg := hT.gap h.closed hj hm fun i oi hi hp => (clash_wr (I := infoOf P pr E.wr ops (σs j) o) (J := infoOf P pr E.wr ops (σs i) oi) hw (by
        show hclass P pr E.wr (σs i) oi ≠ .pure
        rw [hp]; simp) (hT.notLate hj.get (by rw [hw]; simp)) (hT.notLate hi (by rw [hp]; simp))).1
      -- as ahead of it
      have hnl : ¬ Lt j := hT.notLate hj.get (by rw [hw]; simp)
      have hR := h.heap j (h.heapCut hT hj (by rw [hw]; simp) hnl)
      have hR1 : Rel ρ (Hs (j + 1)) w := by rw [e2]; exact hR
      have := h.turn hT hj (x := x) (y := y) (lim' := C.lim) hle hxy hnl (by rw [hw]; simp) (fun q => absurd hw q) (Nat.le_refl _) hR1 (by rw [e2]; exact Ext.refl _ _ _ _)
      exact this.heap m hm
    · exact h.heap m (hm.other hj.get hw)
  have hfree : Free ρ (Hs j).next (Hs (j + 1)).next := fun b h1 h2 => h.free j o hj.get hj.new b h1 h2
  unfold Go.wpOp
  simp only [hoi]
  rcases istep_inv hs with ⟨hg, e1, e2⟩ | ⟨hg, hx⟩
  · rw [iguard_sim hg hgTR]
    simp only [Bool.false_eq_true, if_false]
    exact hK _ _ _ _ (plain e1 e2 (VR.tuple .nil))
  · rw [iguard_sim hg hgTR]
    simp only [if_true]
    refine .inl ?_
    rcases hx with ⟨x, h1, e1, e2⟩ | ⟨x, u, cs, h1, e1, e2⟩ | ⟨x, h1, e1⟩ | ⟨c, fv, fid, first, cap, vs, g, v, hop, hcl, hfv, hvs, hg', hr, e1⟩
    · -- a slot
      have : ∃ y, (execOp a.eval o).run P w = .ok (.value y) w ∧ TR ρ μ x y := by
        by_cases hc : hclass P pr E.wr (σs j) o = .pure
        · cases hr : opReads (F j) o.op with
          | false => exact iop_tv (H := Hs j) h1 hin fun q => by rw [hr] at q; simp at q
          | true => exact iop_tv (H := ⟨0, .nil⟩) ((iop_static (wr := E.wr) hS h1).2 hc hr ⟨0, .nil⟩) hin fun _ => RelR.empty 0
        · by_cases hl : Lt j
          · obtain ⟨hrd, hval⟩ := hT.late j o hl hj.get
            obtain ⟨v1, v2⟩ := hval x h1
            rcases h.lateCut hT hj hl with q | ⟨q, qc⟩ | ⟨q, qc⟩
            · exact iop_tv h1 hin fun _ => (h.heap j q).toR
            · exact iop_tv (v1 q) hin fun _ => (h.heap _ qc).toR
            · exact iop_tv (v2 q) hin fun _ => (h.heap _ qc).toR
          · exact iop_tv h1 hin fun _ => (h.heap j (h.heapCut hT hj hc hl)).toR
      obtain ⟨y, q1, q2⟩ := this
      unfold Oper.wp
      rw [q1, Oper.upon_value]
      exact hK _ _ _ _ (plain e1 e2 q2)
    · -- a local variable
      have hlw := (iop_static (wr := E.wr) hS h1).2
      have hpure : hclass P pr E.wr (σs j) o = .pure := lwrite_pure hlw
      have hnw : hclass P pr E.wr (σs j) o ≠ .wr := by rw [hpure]; simp
      subst e1
      cases iop_loc h1 hin with
      | @new _ _ y _ c t hdst hwp hrun hv h1c hxy =>
        have hmu : μ u = none := h.mu j o hj.get hj.new u (by rw [hwp]; simp)
        have hTn := Turn.alloc w (.cells c t)
        let μ' : Lam := fun k => if k = u then some w.heap.size else μ k
        have hle' : ∀ k r, μ k = some r → μ' k = some r := by
          intro k r e
          show (if k = u then _ else _) = _
          rw [if_neg (fun q => by rw [q, hmu] at e; simp at e)]; exact e
        have hself : μ' u = some w.heap.size := by show (if u = u then _ else _) = _; rw [if_pos rfl]
        have hoth : ∀ k, k ≠ u → μ' k = μ k := fun k hk => by show (if k = u then _ else _) = _; rw [if_neg hk]
        have hfar : ∀ b x, ρ b ≠ some (w.heap.size, x) := fun b x e => by have := h.dom _ _ _ e; omega
        have hw0 : C.w0.heap.size ≤ w.heap.size := h.ext.size
        unfold Oper.wp
        rw [hrun, Oper.upon_value]
        refine hK ρ μ' _ _ (h.next hT hj (x := x) (some u) hle (fun t ht => by rw [ht]; simp [IA.put]) ?_ ?_ (fun k e => by rw [← e]; exact hlw) (fun k hk => ?_) ?_ ?_ ?_ ?_ ?_ ?_ ?_ ?_)
        · intro X Y k
          cases X with
          | v x => exact k
          | lp v o => obtain ⟨r, e, q⟩ := k; exact ⟨r, hle' v r e, q⟩
          | ls v n => obtain ⟨r, c, e, q⟩ := k; exact ⟨r, c, hle' v r e, q⟩
          | bot => exact trivial
        · rcases hxy with ⟨rfl, rfl⟩ | ⟨n, rfl, rfl⟩
          · exact ⟨_, hself, rfl⟩
          · exact ⟨_, n, hself, rfl⟩
        · rw [put_loc]
          have : (k == u) = false := by simp; intro q; exact hk (by rw [q])
          simp [IA.putLoc, this]
        · intro k r ks hk e hL
          have hne : k ≠ u := fun q => hk (by rw [q])
          obtain ⟨_, h2, _, _⟩ := h.priv k r e
          exact ⟨hle' k r e, hL.mono (Ren.le_refl ρ) (hTn.rest r h2 (by omega))⟩
        · intro k hk ks e
          have := Option.some.inj hk
          subst this
          rw [put_loc] at e
          simp [IA.putLoc] at e
          subst e
          exact ⟨_, hself, c, t, by simpa using hTn.at_, hv, h1c⟩
        · intro m hm
          exact (h.heap m (hm.other hj.get hnw)).aside hTn hfar
        · intro b r x e
          exact Nat.lt_of_lt_of_le (h.dom _ _ _ e) hTn.size
        · intro b x e e0
          rw [e] at e0; simp at e0
        · intro k hk
          rw [hwp] at hk
          exact hoth k (by simpa using hk)
        · intro k r hk
          by_cases e : k = u
          · subst e
            rw [hself] at hk; simp at hk; subst hk
            refine ⟨hw0, by simp, hfar, fun k' hk' => ?_⟩
            by_cases e' : k' = k
            · exact e'
            · rw [hoth k' e'] at hk'
              have := (h.priv _ _ hk').2.1
              omega
          · rw [hoth k e] at hk
            obtain ⟨h1, h2, h3, h4⟩ := h.priv k r hk
            refine ⟨h1, by simp; omega, h3, fun k' hq => ?_⟩
            by_cases e' : k' = u
            · subst e'
              rw [hself] at hq; simp at hq; omega
            · rw [hoth k' e'] at hq
              exact h4 _ hq
        · exact h.ext.aside hTn hw0
      | @old _ r _ c t w' hμ hrun hTn hv h1c hsz =>
        obtain ⟨p1, p2, p3, p4⟩ := h.priv u r hμ
        unfold Oper.wp
        rw [hrun, Oper.upon_skip]
        refine hK ρ μ _ _ (h.next hT hj (x := unitV) (some u) hle (fun t ht => by rw [ht]; simp [IA.put]) (fun _ _ q => q) (VR.tuple .nil) (fun k e => by rw [← e]; exact hlw) (fun k hk => ?_) ?_ ?_ ?_ ?_ ?_ (fun _ _ => rfl) ?_ ?_)
        · rw [put_loc]
          have : (k == u) = false := by simp; intro q; exact hk (by rw [q])
          simp [IA.putLoc, this]
        · intro k r' ks hk e hL
          have hne : k ≠ u := fun q => hk (by rw [q])
          obtain ⟨_, h2, _, _⟩ := h.priv k r' e
          refine ⟨e, hL.mono (Ren.le_refl ρ) (hTn.rest r' h2 (fun q => hne ?_))⟩
          subst q
          exact p4 _ e
        · intro k hk ks e
          have := Option.some.inj hk
          subst this
          rw [put_loc] at e
          simp [IA.putLoc] at e
          subst e
          exact ⟨r, hμ, c, t, hTn.at_, hv, h1c⟩
        · intro m hm
          exact (h.heap m (hm.other hj.get hnw)).aside hTn p3
        · intro b r x e
          exact Nat.lt_of_lt_of_le (h.dom _ _ _ e) hTn.size
        · intro b x e e0
          rw [e] at e0; simp at e0
        · intro k r' hk
          obtain ⟨h1, h2, h3, h4⟩ := h.priv k r' hk
          exact ⟨h1, by omega, h3, h4⟩
        · exact h.ext.aside hTn p1
    · -- the heap
      subst e1
      have hst := (iop_static (wr := E.wr) hS h1).2
      have hc : hclass P pr E.wr (σs j) o ≠ .pure := by
        rcases hst with q | ⟨q, _⟩ <;> rw [q] <;> simp
      have hnl : ¬ Lt j := hT.notLate hj.get (by rcases hst with q | ⟨q, _⟩ <;> rw [q] <;> simp)
      have hR := h.heap j (h.heapCut hT hj hc hnl)
      have hlim := Nat.le_trans hT.lim (hT.mono (j := 0) (m := j) (by omega) (by omega))
      have key : ∀ lim', (hclass P pr E.wr (σs j) o ≠ .wr → lim' = (Hs j).next) → C.lim ≤ lim' → iopK P pr lim' (F j) (Hs j) o.dst o.op some = some (.heap x (Hs (j + 1))) → o.wp P a w K Q := by
        intro lim' hl hl2 h1
        obtain ⟨ρ', w', n, y, e1, e2, e3, e4, e5⟩ := iop_heap (a := a) h1 hin hR (hfree _ (Nat.le_refl _))
        have fin := hK _ _ _ _ (h.turn hT hj hle e3 hnl hc hl hl2 e4 e5)
        unfold Oper.wp
        rw [e1]
        cases e2 with
        | value y => rw [Oper.upon_value]; exact fin
        | skip => rw [Oper.upon_skip]; exact fin
      rcases hst with q | ⟨q, q2⟩
      · exact key C.lim (fun q' => absurd q q') (Nat.le_refl _) h1
      · exact key (Hs j).next (fun _ => rfl) hlim (q2 _)
    · -- a call
      subst e1
      have hlim := Nat.le_trans hT.lim (hT.mono (j := 0) (m := j) (by omega) (by omega))
      have hc0 : hclass P pr E.wr (σs j) o = .wr ∨ hclass P pr E.wr (σs j) o = .qt := by
        simp only [hclass, hop, hcl]
        split
        · rename_i e; simp at e
        · rename_i f e; cases hwf : E.wr.elem f <;> simp
        · simp
      have hc : hclass P pr E.wr (σs j) o ≠ .pure := by rcases hc0 with q | q <;> rw [q] <;> simp
      have hnl : ¬ Lt j := hT.notLate hj.get (by rcases hc0 with q | q <;> rw [q] <;> simp)
      have hl : hclass P pr E.wr (σs j) o ≠ .wr → (bif true && !E.wr.elem fid then (Hs j).next else C.lim) = (Hs j).next := by
        intro hnw
        cases hw : E.wr.elem fid with
        | false => rfl
        | true =>
          exfalso
          apply hnw
          cases fv with
          | func f =>
            simp [IA.evd, IA.ev, TV.data] at hfv
            obtain ⟨rfl, _⟩ := hfv
            have hw' : f ∈ E.wr := by simpa using hw
            simp [hclass, hop, hcl, hw']
          | _ => simp [hclass, hop, hcl]
      have hl2 : (bif true && !E.wr.elem fid then (Hs j).next else C.lim) ≤ (Hs j).next := by
        cases (true && !E.wr.elem fid)
        · exact hlim
        · exact Nat.le_refl _
      have hl3 : C.lim ≤ (bif true && !E.wr.elem fid then (Hs j).next else C.lim) := by
        cases (true && !E.wr.elem fid)
        · exact Nat.le_refl _
        · exact hlim
      refine call_sound hT.hE hop hcl hin (h.heap j (h.heapCut hT hj hc hnl)) hfree hl2 hfv hvs hg' hr fun v' ρ' w' q1 q2 q3 => ?_
      exact hK _ _ _ _ (h.turn hT hj (x := .v v) hle q1 hnl hc hl hl3 q2 q3)
end
end Go.Ideal
/- The ideal machine, part Zk: a region whose order is drawn is sound. -/
namespace Go.Ideal
variable {P : Program} {E : Env} {pr : Prm} {C : Ctx} {W : List Nat} {ops : Array Oper} {F : Nat → IA} {Hs : Nat → IHeap} {σs : Nat → Sig} {ρ : Ren} {μ : Lam} {a : Act} {w : World} {md : Region.Mode} {jl : Nat} {Lt : Nat → Prop}

abbrev Ran (listed : Array Bool) : Nat → Prop := fun k => listed.getD k false = true

theorem binds_any {e : Edge} (h : Region.binds .any e = true) : Region.binds md e = true := by
  unfold Region.binds at *
  split at h <;> first | rfl | simp at h

theorem count_set : ∀ {l : List Bool} {i : Nat}, l[i]? = some false → (l.set i true).count false + 1 = l.count false
  | [], i, h => by simp at h
  | b :: l, 0, h => by simp at h; subst h; simp
  | b :: l, i + 1, h => by
    have := count_set (l := l) (i := i) (by simpa using h)
    simp only [List.set_cons_succ, List.count_cons]
    omega

theorem ran_set {listed : Array Bool} {i : Nat} (hi : i < listed.size) : Ran (listed.setIfInBounds i true) = fun k => Ran listed k ∨ k = i := by
  funext k
  simp only [Ran, Array.getD_eq_getD_getElem?, Array.getElem?_setIfInBounds, eq_iff_iff]
  by_cases e : i = k
  · subst e; simp [hi]
  · have e2 : ¬ k = i := fun q => e q.symm
    simp [e, e2]

theorem all_ran {listed : Array Bool} (h : listed.toList.count false = 0) (k : Nat) (hk : k < listed.size) : Ran listed k := by
  have h2 : ∀ b ∈ listed.toList, b = true := by
    intro b hb
    cases b with
    | true => rfl
    | false => exact absurd hb (List.count_eq_zero.1 h)
  have := h2 listed[k] (by simp)
  simp [Ran, Array.getD_eq_getD_getElem?, hk, this]

/-- All orders lead to the end. -/
theorem draw_any (hT : Text P E pr C W ops F Hs σs jl Lt) (ht : topo md ops.toList = true) {Q : Exit → Act → World → Prop}
    (hQ : ∀ (D : Nat → Prop) ρ μ a w, (∀ k, k < ops.toList.length → D k) → DInv P E pr C ops F Hs σs D ρ μ a w → Q .normal a w) :
    ∀ (fuel : Nat) (listed : Array Bool) (ρ : Ren) (μ : Lam) (a : Act) (w : World), listed.size = ops.size → listed.toList.count false ≤ fuel → DInv P E pr C ops F Hs σs (Ran listed) ρ μ a w → wpAny P md ops Q fuel listed a w := by
  intro fuel
  have done : ∀ (listed : Array Bool) (ρ : Ren) (μ : Lam) (a : Act) (w : World), listed.size = ops.size → DInv P E pr C ops F Hs σs (Ran listed) ρ μ a w → Region.ready md ops listed = [] → Q .normal a w := by
    intro listed ρ μ a w hs h hr
    refine hQ _ ρ μ a w ?_ h
    refine topo_spec ht fun k o hk he => ?_
    have hlt : k < listed.size := by rw [hs]; simpa using (List.getElem?_eq_some_iff.1 hk).1
    cases hc : listed.getD k false with
    | true => exact hc
    | false =>
      exfalso
      have : k ∈ Region.ready md ops listed := by
        rw [mem_ready]
        refine ⟨?_, o, by rw [← Array.getElem?_toList]; exact hk, he⟩
        simpa [Array.getD_eq_getD_getElem?, hlt] using hc
      rw [hr] at this; simp at this
  induction fuel with
  | zero =>
    intro listed ρ μ a w hs hc h
    have hall := all_ran (listed := listed) (by omega)
    have hr : Region.ready md ops listed = [] := by
      refine List.eq_nil_iff_forall_not_mem.2 fun k hk => ?_
      rw [mem_ready] at hk
      obtain ⟨h1, o, h2, _⟩ := hk
      have hlt : k < listed.size := by rw [hs]; exact (Array.getElem?_eq_some_iff.1 h2).1
      have := hall k hlt
      simp [Ran, Array.getD_eq_getD_getElem?, hlt] at this h1
      rw [this] at h1; simp at h1
    exact ⟨hr, done listed ρ μ a w hs h hr⟩
  | succ fuel ih =>
    intro listed ρ μ a w hs hc h
    refine ⟨done listed ρ μ a w hs h, fun i hi => ?_⟩
    rw [mem_ready] at hi
    obtain ⟨h1, o, h2, h3⟩ := hi
    have hlt : i < listed.size := by rw [hs]; exact (Array.getElem?_eq_some_iff.1 h2).1
    have hf : listed[i]? = some false := by
      simp [Array.getD_eq_getD_getElem?, hlt] at h1
      simp [hlt, h1]
    have hj : Next ops (Ran listed) i o := by
      refine ⟨by rw [Array.getElem?_toList]; exact h2, ?_, fun e he hb => h3 e he (binds_any hb)⟩
      simp [Ran, Array.getD_eq_getD_getElem?, hf]
    refine h.wpOp hT hj fun ρ' μ' a' w' h' => ?_
    refine ih _ ρ' μ' a' w' (by simpa using hs) ?_ (by rw [ran_set hlt]; exact h')
    have := count_set (l := listed.toList) (i := i) (by rw [Array.getElem?_toList]; exact hf)
    rw [Array.toList_setIfInBounds]
    omega

theorem Fr.drawn {A : IA} {H : IHeap} {n : Nat} (h : Fr C ρ μ A H a w) : Fr C ρ μ A H a { w with drawn := n } where
  rel := ⟨h.rel.wf, h.rel.dom, h.rel.obj, h.rel.sep, h.rel.last⟩
  tmp := h.tmp
  loc := h.loc
  priv := h.priv
  ext := ⟨h.ext.mono, h.ext.size, h.ext.os, h.ext.tape, h.ext.output, h.ext.kept, h.ext.fresh⟩
  size := h.size
  defers := h.defers
  next := h.next
  lim := h.lim

/-- A run in the order of the text tells of all orders. -/
theorem draw_text {A : IA} {H : IHeap} {id : Nat} (hT : Text P E pr C W ops F Hs σs jl Lt) (t1 : topo .any ops.toList = true) (t2 : topo .text ops.toList = true) (t3 : topo .gc ops.toList = true) (c1 : (F 0).le A) (c2 : Hs 0 = H)
    (hF : Fr C ρ μ A H a w) (hfree : Free C.ρ0 C.n0 (Hs ops.toList.length).next) (hmu : ∀ u ∈ wipes pr ops.toList, μ u = none) {Q : Exit → Act → World → Prop}
    (hQ : ∀ ρ' μ' a' w', Fr C ρ' μ' (F ops.toList.length) (Hs ops.toList.length) a' w' → Q .normal a' w') : (Code.region id ops true).wp P Q a w := by
  have hF := hF.drawn (n := w.drawn + 1)
  have kn : H.next ≤ (Hs ops.toList.length).next := by rw [← c2]; exact hT.mono (Nat.zero_le _) (Nat.le_refl _)
  have hext : Ext C.lim C.n0 H.next C.ρ0 ρ C.w0 { w with drawn := w.drawn + 1 } := hF.ext
  have hfr : Free ρ H.next (Hs ops.toList.length).next := Free.of_ext hF.next hfree hext
  -- the beginning
  have h0 : DInv P E pr C ops F Hs σs (Ran (Array.replicate ops.size false)) ρ μ a { w with drawn := w.drawn + 1 } := by
    have no : ∀ k, ¬ Ran (Array.replicate ops.size false) k := by
      intro k hk
      simp only [Ran, Array.getD_eq_getD_getElem?, Array.getElem?_replicate] at hk
      split at hk <;> simp at hk
    have cut0 : ∀ {p : Nat → Oper → Prop} {m : Nat}, Cut ops (Ran (Array.replicate ops.size false)) p m → ∀ i o, 0 ≤ i → i < m → ops.toList[i]? = some o → ¬ p i o :=
      fun {p m} hm i o _ h2 ho hp => no i ((hm.2 i o ho hp).2 h2)
    refine ⟨fun k hk => absurd hk (no k), ?_, ?_, ?_, hF.rel.dom, ?_, fun i o hi _ u hu => ?_, hF.priv, ?_, hfree, by rw [c2]; exact hF.next, hF.size, hF.defers⟩
    · intro t m hm
      rcases hT.slotStill (t := t) (Nat.zero_le m) hm.1 (cut0 hm) with q | q
      · rw [q]; exact trivial
      · rw [q]
        rcases c1.tmp t with q2 | q2
        · rw [q2]; exact trivial
        · rw [q2]; exact hF.tmp t
    · intro u m hm cs hcs
      rcases hT.locStill (u := u) (Nat.zero_le m) hm.1 (cut0 hm) with q | q
      · rw [q] at hcs; simp at hcs
      · rw [q] at hcs
        rcases c1.loc u with q2 | q2
        · rw [q2] at hcs; simp at hcs
        · rw [q2] at hcs; exact hF.loc u cs hcs
    · intro m hm
      obtain ⟨s1, s2⟩ := hT.still (Nat.zero_le m) hm.1 (cut0 hm)
      rw [c2] at s1 s2
      refine hF.rel.same (s2 hF.rel.wf) fun b x hb => ?_
      by_cases hlt : b < H.next
      · exact s1 b hlt
      · rw [hF.rel.wf b (by omega)]
        by_cases hlm : (Hs m).next ≤ b
        · exact s2 hF.rel.wf b hlm
        · exfalso
          have hmn := hT.mono (j := m) hm.1 (Nat.le_refl _)
          have := hfr b (by omega) (by omega)
          rw [this] at hb; simp at hb
    · intro i o hi _ b h1 h2
      have hlt : i < ops.toList.length := (List.getElem?_eq_some_iff.1 hi).1
      have m1 := hT.mono (j := 0) (m := i) (by omega) (by omega)
      have m2 := hT.mono (j := i + 1) (m := ops.toList.length) (by omega) (Nat.le_refl _)
      rw [c2] at m1
      exact hfr b (by omega) (by omega)
    · refine hmu u ?_
      have hm := List.mem_of_getElem? hi
      obtain ⟨l1, l2, e⟩ := List.append_of_mem hm
      have app : ∀ (a b : List Oper), wipes pr (a ++ b) = wipes pr a ++ wipes pr b := by
        intro a b
        induction a with
        | nil => rfl
        | cons x a ih => rw [List.cons_append, wipes_cons, ih, wipes_cons pr x a]; simp
      rw [e, app, wipes_cons]
      simp [hu]
    · exact hext.wide kn
  -- the end
  have hend : ∀ (D : Nat → Prop) ρ μ a w, (∀ k, k < ops.toList.length → D k) → DInv P E pr C ops F Hs σs D ρ μ a w → Q .normal a w := by
    intro D ρ' μ' a' w' hall h
    have cut : ∀ p, Cut ops D p ops.toList.length := fun p => ⟨Nat.le_refl _, fun i o hi _ => by
      have := (List.getElem?_eq_some_iff.1 hi).1
      exact ⟨fun _ => this, fun _ => hall i this⟩⟩
    refine hQ ρ' μ' a' w' ⟨?_, ?_, ?_, h.priv, ?_, h.size, h.defers, ?_, hF.lim⟩
    · exact h.heap _ (cut _)
    · intro t; exact h.slot t _ (cut _)
    · intro u cs hcs; exact h.loc u _ (cut _) cs hcs
    · exact h.ext
    · exact Nat.le_trans hF.next kn
  have hcount : (Array.replicate ops.size false).toList.count false ≤ ops.size := by
    rw [Array.toList_replicate, List.count_replicate_self]
    exact Nat.le_refl _
  have run : ∀ md, topo md ops.toList = true → ∀ t, wpOps P ops Q (Region.linearise md ops t) a { w with drawn := w.drawn + 1 } := fun md ht t =>
    wpAny_sound ops.size t _ a _ (draw_any hT ht hend ops.size _ ρ μ a _ (by simp) hcount h0)
  refine wp_region_draw fun t => ?_
  unfold Region.schedule
  split
  · exact run .any t1 t
  · split
    · exact run .text t2 _
    · exact run .gc t3 _

theorem snd_seq {A : IA} {l : List Oper} {q : Bool} {lim : Nat} (c1 : (F 0).le A) (c5 : ∀ i o, l[i]? = some o → ∃ A1, istep P E pr lim q W ops o (F i) (Hs i) = some (A1, Hs (i + 1)) ∧ (F (i + 1)).le A1) :
    ∀ i o, l[i]? = some o → Snd (sigs pr (fun t => lclOf (A.tmp t)) l i) (F i) := by
  intro i
  induction i with
  | zero =>
    intro o ho t
    rcases c1.tmp t with q | q
    · exact .inl q
    · right; left
      rw [q]
      cases l <;> rfl
  | succ i ih =>
    intro o ho
    have hlt : i < l.length := by have := (List.getElem?_eq_some_iff.1 ho).1; omega
    have hi : l[i]? = some l[i] := List.getElem?_eq_getElem hlt
    obtain ⟨A1, h1, h2⟩ := c5 i _ hi
    rw [sigs_succ hi]
    exact (istep_snd (ih _ hi) h1).le h2

theorem drawSound (hE : EnvOK P E) {A A' : IA} {H H' : IHeap} {id : Nat} {Q : Exit → Act → World → Prop} (hok : okDraw P pr E.wr A ops = true) (hF : Fr C ρ μ A H a w) (hfree : Free C.ρ0 C.n0 H'.next) (hd : ∀ t ∈ dsts ops.toList, t < C.sz)
    (hn : (wipes pr ops.toList).Nodup) (hmu : ∀ u ∈ wipes pr ops.toList, μ u = none) (hch : Chain P E pr C.lim true W ops ops.toList A H A' H') (hQ : ∀ ρ' μ' a' w', Fr C ρ' μ' A' H' a' w' → Q .normal a' w') : (Code.region id ops true).wp P Q a w := by
  obtain ⟨F, Hs, c1, c2, c3, c4, c5⟩ := hch.seq
  have hT : Text P E pr C W ops F Hs (sigs pr (fun t => lclOf (A.tmp t)) ops.toList) 0 (fun _ => False) :=
    ⟨hE, c5, snd_seq c1 c5, fun i j oi oj hij hi hj => (okDraw_sep hok hij hi hj).imp (fun q => q) .inl, fun i o h => h.elim, hn, hd, by rw [c2]; exact Nat.le_trans hF.lim hF.next⟩
  unfold okDraw at hok
  simp only [Bool.and_eq_true] at hok
  obtain ⟨⟨⟨_, t1⟩, t2⟩, t3⟩ := hok
  exact draw_text hT t1 t2 t3 c1 c2 hF (by rw [c4]; exact hfree) hmu (by rw [c3, c4]; exact hQ)
end Go.Ideal
/- The ideal machine, part Zl: a region with a call that writes beside the loads. -/
namespace Go.Ideal
variable {P : Program} {E : Env} {pr : Prm} {C : Ctx} {W : List Nat} {ops : Array Oper} {ρ : Ren} {μ : Lam} {a : Act} {w : World}

theorem natEq_eq {a b : Option Nat} (h : natEq a b = true) : a = b := by
  cases a <;> cases b <;> simp [natEq] at h <;> simp [h]
theorem rowEq_eq {a b : Option Nat} (h : rowEq a b = true) : a = b := by
  cases a <;> cases b <;> simp [rowEq] at h <;> simp [h]
theorem addrEq_eq {a b : Option Addr} (h : addrEq a b = true) : a = b := by
  unfold addrEq at h
  split at h
  · rfl
  · simp only [Bool.and_eq_true, beq_iff_eq] at h
    obtain ⟨⟨rfl, rfl⟩, h⟩ := h
    rw [rowEq_eq h]
  · simp at h
theorem veq1_eq {a b : Value} (h : veq1 a b = true) : a = b := by
  unfold veq1 at h
  split at h
  · simp at h; rw [h]
  · simp at h; rw [h]
  · rw [addrEq_eq h]
  · simp only [Bool.and_eq_true, beq_iff_eq] at h
    rw [addrEq_eq h.1.1, h.1.2, h.2]
  · rw [natEq_eq h]
  · simp at h
theorem veqs_eq : ∀ {a b : List Value}, veqs a b = true → a = b
  | [], [], _ => rfl
  | a :: l, b :: m, h => by
    simp only [veqs, Bool.and_eq_true] at h
    rw [veq1_eq h.1, veqs_eq h.2]
  | [], _ :: _, h => by simp [veqs] at h
  | _ :: _, [], h => by simp [veqs] at h
theorem veq_eq {a b : Value} (h : veq a b = true) : a = b := by
  unfold veq at h
  split at h
  · rename_i x y
    have := veqs_eq h
    rw [Array.ext' this]
  · exact veq1_eq h

/-- States between the steps of a list of operations. -/
structure SeqOf (P : Program) (E : Env) (pr : Prm) (lim : Nat) (W : List Nat) (ops : Array Oper) (l : List Oper) (A : IA) (H : IHeap) (A' : IA) (H' : IHeap) (F : Nat → IA) (Hs : Nat → IHeap) : Prop where
  z : (F 0).le A
  hz : Hs 0 = H
  e : F l.length = A'
  he : Hs l.length = H'
  step : ∀ i o, l[i]? = some o → ∃ A1, istep P E pr lim true W ops o (F i) (Hs i) = some (A1, Hs (i + 1)) ∧ (F (i + 1)).le A1

theorem SeqOf.append {lim : Nat} {l m : List Oper} {A A1 A2 : IA} {H H1 H2 : IHeap} {F1 F2 : Nat → IA} {S1 S2 : Nat → IHeap} (h1 : SeqOf P E pr lim W ops l A H A1 H1 F1 S1) (h2 : SeqOf P E pr lim W ops m A1 H1 A2 H2 F2 S2) :
    ∃ F S, SeqOf P E pr lim W ops (l ++ m) A H A2 H2 F S ∧ (∀ i, i ≤ l.length → S i = S1 i) ∧ ∀ i, S (l.length + i) = S2 i := by
  refine ⟨fun i => if i < l.length then F1 i else F2 (i - l.length), fun i => if i < l.length then S1 i else S2 (i - l.length), ⟨?_, ?_, ?_, ?_, ?_⟩, fun i hi => ?_, fun i => ?_⟩
  · by_cases h : 0 < l.length
    · simp only [h, if_true]; exact h1.z
    · have h0 : l.length = 0 := by omega
      simp only [h, if_false, Nat.zero_sub]
      have := h1.e
      rw [h0] at this
      exact IA.le_trans h2.z (by rw [← this]; exact h1.z)
  · by_cases h : 0 < l.length
    · simp only [h, if_true]; exact h1.hz
    · have h0 : l.length = 0 := by omega
      simp only [h, if_false, Nat.zero_sub]
      rw [h2.hz, ← h1.he, h0]; exact h1.hz
  · rw [List.length_append, if_neg (by omega), Nat.add_sub_cancel_left]; exact h2.e
  · rw [List.length_append, if_neg (by omega), Nat.add_sub_cancel_left]; exact h2.he
  · intro i o hi
    by_cases h : i < l.length
    · rw [List.getElem?_append_left h] at hi
      obtain ⟨B, q1, q2⟩ := h1.step i o hi
      by_cases h' : i + 1 < l.length
      · simp only [h, h', if_true]
        exact ⟨B, q1, q2⟩
      · have e1 : i + 1 = l.length := by omega
        simp only [h, if_true, h', if_false]
        rw [e1, h1.e] at q2
        rw [e1, h1.he] at q1
        rw [e1, Nat.sub_self]
        exact ⟨B, by rw [h2.hz]; exact q1, IA.le_trans h2.z q2⟩
    · rw [List.getElem?_append_right (by omega)] at hi
      obtain ⟨B, q1, q2⟩ := h2.step _ o hi
      have h' : ¬ i + 1 < l.length := by omega
      simp only [h, h', if_false]
      rw [show i + 1 - l.length = i - l.length + 1 by omega]
      exact ⟨B, q1, q2⟩
  · by_cases h : i < l.length
    · simp only [h, if_true]
    · have e : i = l.length := by omega
      subst e
      simp only [Nat.lt_irrefl, if_false, Nat.sub_self]
      rw [h2.hz, h1.he]
  · show (if l.length + i < l.length then _ else _) = _
    rw [if_neg (by omega), Nat.add_sub_cancel_left]

theorem seqOf_iseq (hE : EnvOK P E) {lim : Nat} {σ : Type} {k : IA → IHeap → Option σ} {r : σ} {l : List Oper} {A : IA} {H : IHeap} (hg : ∀ o ∈ l, o.guard = none) (h : iseq P E pr lim true W l A H k = some r) :
    ∃ A1 H1 F S, SeqOf P E pr lim W ops l A H A1 H1 F S ∧ k A1 H1 = some r ∧ (∀ t, t ∉ dsts l → A1.tmp t = A.tmp t) ∧ ∀ u, u ∉ W → A1.loc u = A.loc u := by
  obtain ⟨A1, H1, c1, c2, c3, c4⟩ := iseq_chain (ops := ops) (W := W) (fun _ h => h) none l hg (fun _ _ e => by simp at e) rfl h
  obtain ⟨F, S, q1, q2, q3, q4, q5⟩ := c1.seq
  exact ⟨A1, H1, F, S, ⟨q1, q2, q3, q4, q5⟩, c2, c3, c4⟩

theorem lateChk_spec {l : List Oper} {j : Nat} {A : IA} {H1 H2 : IHeap} : ∀ {is : List Nat}, lateChk P l j A H1 H2 is = true → ∀ i ∈ is, ∃ o t x d p v, l[i]? = some o ∧ o.op = .load t x ∧ o.dst = some d ∧ A.ev x = .v p ∧ A.tmp d = .v v ∧
    hload (tag P t) (tsz P t) (bif decide (i < j) then H2 else H1) p = some v
  | [], _, i, hi => by simp at hi
  | i0 :: is, h, i, hi => by
    simp only [lateChk, Bool.and_eq_true] at h
    rcases List.mem_cons.1 hi with rfl | hi
    · have h := h.1
      split at h
      · rename_i o ho
        split at h
        · rename_i t x d h1 h2
          split at h
          · rename_i p v h3 h4
            unfold chk1 at h
            split at h
            · rename_i v' h5
              have := veq_eq h
              subst this
              exact ⟨o, t, x, d, p, v, ho, h1, h2, h3, h4, h5⟩
            · simp at h
          · simp at h
        · simp at h
      · simp at h
    · exact lateChk_spec h.2 i hi

theorem nodup_dsts : ∀ {l : List Oper} (h : (dsts l).Nodup) {i j : Nat} {oi oj : Oper} {d : Nat}, l[i]? = some oi → l[j]? = some oj → oi.dst = some d → oj.dst = some d → i = j := by
  intro l
  induction l with
  | nil => intro h i j oi oj d hi; simp at hi
  | cons o r ih =>
    intro h i j oi oj d hi hj h1 h2
    have mem : ∀ {k : Nat} {o' : Oper}, r[k]? = some o' → o'.dst = some d → d ∈ dsts r := by
      intro k o' hk hd
      obtain ⟨l1, l2, rfl⟩ := List.append_of_mem (List.mem_of_getElem? hk)
      rw [dsts_append]; simp [dsts, hd]
    have hr : (dsts r).Nodup := by
      simp only [dsts] at h
      split at h
      · exact (List.nodup_cons.1 h).2
      · exact h
    cases i with
    | zero =>
      cases j with
      | zero => rfl
      | succ j =>
        simp at hi; subst hi
        simp only [dsts, h1] at h
        exact absurd (mem (by simpa using hj) h2) (List.nodup_cons.1 h).1
    | succ i =>
      cases j with
      | zero =>
        simp at hj; subst hj
        simp only [dsts, h2] at h
        exact absurd (mem (by simpa using hi) h1) (List.nodup_cons.1 h).1
      | succ j =>
        have := ih hr (i := i) (j := j) (oi := oi) (oj := oj) (d := d) (by simpa using hi) (by simpa using hj) h1 h2
        rw [this]

theorem lateSound (hE : EnvOK P E) {A : IA} {H : IHeap} {id j : Nat} {is : List Nat} {σ : Type} {k : IA → IHeap → Option σ} {r : σ} {Q : Exit → Act → World → Prop} {oj : Oper} {l2 : List Oper}
    (hok : okLate P pr E.wr A ops j is = true) (hF : Fr C ρ μ A H a w) (hd : ∀ t ∈ dsts ops.toList, t < C.sz) (hn : (wipes pr ops.toList).Nodup) (hmu : ∀ u ∈ wipes pr ops.toList, μ u = none) (hdrop : ops.toList.drop j = oj :: l2)
    (h : iseq P E pr C.lim true W (ops.toList.take j) A H (fun A1 H1 => iwantK P E pr C.lim true W oj A1 H1 fun A2 H2 => iseq P E pr C.lim true W l2 A2 H2 fun A3 H3 => bif lateChk P ops.toList j A3 H1 H2 is then k A3 H3 else none) = some r)
    (hk : ∀ A' H', Keeps C.lim H H' → k A' H' = some r → (∀ u, u ∉ W → A'.loc u = A.loc u) → (∀ t, t ∉ dsts ops.toList → A'.tmp t = A.tmp t) → Free C.ρ0 C.n0 H'.next ∧ ∀ ρ' μ' a' w', Fr C ρ' μ' A' H' a' w' → Q .normal a' w') : (Code.region id ops true).wp P Q a w := by
  have hsep := @okLate_sep P pr E.wr A ops j is hok
  unfold okLate at hok
  simp only [Bool.and_eq_true] at hok
  obtain ⟨⟨⟨⟨⟨⟨_, t1⟩, t2⟩, t3⟩, hgu⟩, hnd⟩, his⟩ := hok
  have hnd := nodup_of hnd
  have hgd : ∀ o ∈ ops.toList, o.guard = none := fun o ho => by
    have := List.all_eq_true.1 hgu o ho
    simpa using this
  have htake : ops.toList.take j ++ oj :: l2 = ops.toList := by rw [← hdrop, List.take_append_drop]
  have hjlt : j < ops.toList.length := by
    rcases Nat.lt_or_ge j ops.toList.length with q | q
    · exact q
    · rw [List.drop_eq_nil_of_le q] at hdrop; simp at hdrop
  have hlen1 : (ops.toList.take j).length = j := by rw [List.length_take]; omega
  -- the three parts
  obtain ⟨A1, H1, F1, S1, s1, h, d1, e1⟩ := seqOf_iseq (ops := ops) hE (fun o ho => hgd o (List.mem_of_mem_take ho)) h
  rw [iwantK_bind] at h
  obtain ⟨⟨A2, H2⟩, hw2, h⟩ := Option.bind_eq_some_iff.1 h
  have hgj : oj.guard = none := hgd oj (by rw [← htake]; simp)
  have hst : istep P E pr C.lim true W ops oj A1 H1 = some (A2, H2) := by
    unfold istep
    rw [hgj]
    exact hw2
  obtain ⟨q1, q2⟩ := iwant_dst hw2
  have s2 : SeqOf P E pr C.lim W ops [oj] A1 H1 A2 H2 (fun i => match i with | 0 => A1 | _ + 1 => A2) (fun i => match i with | 0 => H1 | _ + 1 => H2) :=
    ⟨IA.le_refl _, rfl, rfl, rfl, fun i o hi => by
      cases i with
      | zero => simp at hi; subst hi; exact ⟨A2, hst, IA.le_refl _⟩
      | succ i => simp at hi⟩
  obtain ⟨A3, H3, F3, S3, s3, h, d3, e3⟩ := seqOf_iseq (ops := ops) hE (fun o ho => hgd o (by rw [← htake]; simp [ho])) h
  obtain ⟨F4, S4, s4, a4, b4⟩ := s1.append s2
  obtain ⟨F, Hs, s5, a5, b5⟩ := s4.append s3
  have el : ops.toList.take j ++ [oj] ++ l2 = ops.toList := by rw [List.append_assoc]; exact htake
  rw [el] at s5
  have hl4 : (ops.toList.take j ++ [oj]).length = j + 1 := by simp [hlen1]
  have hHj : Hs j = H1 := by
    rw [a5 j (by rw [hl4]; omega), a4 j (by rw [hlen1]; omega), ← hlen1, s1.he]
  have hHj1 : Hs (j + 1) = H2 := by
    have := b5 0
    rw [hl4, Nat.add_zero] at this
    rw [this, s3.hz]
  rcases cond_some h with ⟨hchk, h⟩ | ⟨_, h⟩
  rotate_left
  · simp at h
  have hsnd := snd_seq (E := E) (P := P) (pr := pr) s5.z s5.step
  have hT0 : Text P E pr C W ops F Hs (sigs pr (fun t => lclOf (A.tmp t)) ops.toList) j (fun i => i ∈ is) := by
    refine ⟨hE, s5.step, hsnd, fun i k oi ok hik hi hk => hsep hik hi hk, fun i o hli hi => ?_, hn, hd, by rw [s5.hz]; exact Nat.le_trans hF.lim hF.next⟩
    -- a load
    have h1 := List.all_eq_true.1 his i hli
    simp only [Bool.and_eq_true] at h1
    obtain ⟨h1, h2⟩ := h1
    rw [infos_get hi] at h2
    have hrd : hclass P pr E.wr (sigs pr (fun t => lclOf (A.tmp t)) ops.toList i) o = .rd := by
      simp only [infoOf] at h2
      cases hq : hclass P pr E.wr (sigs pr (fun t => lclOf (A.tmp t)) ops.toList i) o <;> rw [hq] at h2 <;> first | rfl | simp [HC.isRd] at h2
    refine ⟨hrd, fun x hx => ?_⟩
    obtain ⟨o', t, y, d, p, v, g1, g2, g3, g4, g5, g6⟩ := lateChk_spec hchk i hli
    rw [hi] at g1
    have := Option.some.inj g1
    subst this
    rw [hi] at h1
    simp only [g2] at h1
    have hin : i < ops.toList.length := (List.getElem?_eq_some_iff.1 hi).1
    -- still, without Text
    have still : ∀ {s j : Nat}, ∀ {m : Nat}, j ≤ m → m ≤ ops.toList.length → (∀ i o, j ≤ i → i < m → ops.toList[i]? = some o → o.dst ≠ some s) → (F m).tmp s = .bot ∨ (F m).tmp s = (F j).tmp s := by
      intro s j m
      induction m with
      | zero => intro h _ _; have : j = 0 := by omega
                subst this; exact .inr rfl
      | succ m ih =>
        intro h hm hw
        by_cases e : j = m + 1
        · subst e; exact .inr rfl
        · have ho : ops.toList[m]? = some ops.toList[m] := List.getElem?_eq_getElem (by omega)
          obtain ⟨B, b1, hle⟩ := s5.step m _ ho
          rcases hle.tmp s with q | q
          · exact .inl q
          · rw [q, istep_tmp b1 (hw m _ (by omega) (by omega) ho)]
            exact ih (by omega) (by omega) fun i o q1 q2 q3 => hw i o q1 (by omega) q3
    -- the slot of the address
    have hy : (F i).ev y = .v p := by
      cases y with
      | tmp s =>
        simp only [Bool.not_eq_true'] at h1
        have hns : s ∉ dsts (ops.toList.drop i) := by simpa using h1
        have := still (s := s) (j := i) (m := ops.toList.length) (by omega) (Nat.le_refl _) fun k ok k1 k2 k3 k4 => hns (by
          have hk : (ops.toList.drop i)[k - i]? = some ok := by rw [List.getElem?_drop, show i + (k - i) = k by omega]; exact k3
          obtain ⟨l1, l2, e⟩ := List.append_of_mem (List.mem_of_getElem? hk)
          rw [e, dsts_append]; simp [dsts, k4])
        rw [s5.e] at this
        simp only [IA.ev] at g4 ⊢
        rw [g4] at this
        rcases this with q | q
        · simp at q
        · exact q.symm
      | const c => simp at h1
      | global g => simp at h1
      | func f => simp at h1
    -- what is loaded
    have hxv : x = .v v := by
      have := still (s := d) (j := i + 1) (m := ops.toList.length) (by omega) (Nat.le_refl _) fun k ok k1 k2 k3 k4 => by
        have := nodup_dsts hnd hi k3 g3 k4
        omega
      rw [s5.e, g5] at this
      rcases this with q | q
      · simp at q
      · obtain ⟨B, b1, hle⟩ := s5.step i o hi
        rcases hle.tmp d with q3 | q3
        · rw [q3] at q; simp at q
        · rw [q3] at q
          rcases istep_inv b1 with ⟨hgb, _⟩ | ⟨_, ⟨x', h1', e', _⟩ | ⟨x', u', cs, h1', e', _⟩ | ⟨x', h1', e'⟩ | ⟨c, fv, fid, first, cap, vs, g, v', hop, _⟩⟩
          · rw [hgd o (List.mem_of_getElem? hi)] at hgb; simp [iguard] at hgb
          · rw [hx] at h1'
            simp at h1'
            subst h1'
            rw [e', g3] at q
            simp [IA.put] at q
            exact q.symm
          · rw [hx] at h1'; simp at h1'
          · rw [hx] at h1'; simp at h1'
          · rw [g2] at hop; simp at hop
    subst hxv
    have hload2 : ∀ Ha, hload (tag P t) (tsz P t) Ha p = some v → iopK P pr C.lim (F i) Ha o.dst o.op some = some (.tv (.v v)) := by
      intro Ha hl
      rw [g2] at hx ⊢
      simp only [iopK, iloadK, hy] at hx ⊢
      rcases cond_some hx with ⟨_, q⟩ | ⟨q, _⟩
      · simp at q
      · rw [q, cond_false]; simp only [kv, hl, Option.bind_some]
    constructor
    · intro hlt
      rw [hHj]
      refine hload2 H1 ?_
      have : decide (i < j) = false := by simp; omega
      rw [this] at g6; exact g6
    · intro hlt
      rw [hHj1]
      refine hload2 H2 ?_
      have : decide (i < j) = true := by simp [hlt]
      rw [this] at g6; exact g6
  have hkeep : Keeps C.lim H H3 := by
    have : ∀ m, m ≤ ops.toList.length → Keeps C.lim H (Hs m) := by
      intro m
      induction m with
      | zero => intro _; rw [s5.hz]; exact Keeps.refl _ _
      | succ m ih =>
        intro hm
        obtain ⟨B, b1, _⟩ := s5.step m _ (List.getElem?_eq_getElem (by omega))
        exact (ih (by omega)).trans (istep_keeps_any hE b1)
    have := this _ (Nat.le_refl _)
    rw [s5.he] at this; exact this
  obtain ⟨hfree, hfin⟩ := hk A3 H3 hkeep h (fun u hu => by rw [e3 u hu, q2 u hu, e1 u hu]) (fun t ht => by
    rw [← htake, dsts_append] at ht
    simp only [List.mem_append, not_or] at ht
    have h2 : oj.dst ≠ some t ∧ t ∉ dsts l2 := by
      have := ht.2
      simp only [dsts] at this
      cases ho : oj.dst with
      | none => rw [ho] at this; exact ⟨by simp, this⟩
      | some d => rw [ho] at this; simp at this; exact ⟨by simp; exact fun e => this.1 e.symm, this.2⟩
    rw [d3 t h2.2, q1 t h2.1, d1 t ht.1])
  exact draw_text hT0 t1 t2 t3 s5.z s5.hz hF (by rw [s5.he]; exact hfree) hmu (by rw [s5.e, s5.he]; exact hfin)
end Go.Ideal
/- The ideal machine, part Zm: a region that fills a map. -/
namespace Go.Ideal
variable {P : Program} {pr : Prm} {C : Ctx} {ops : Array Oper} {ρ : Ren} {μ : Lam} {a : Act} {w : World}

def isMM (o : Oper) : Bool := match o.op with | .makeMap _ none => true | _ => false
def litOp (o : Oper) : Bool := match o.op with | .makeMap _ none | .insert _ (.tmp _) _ _ | .move _ | .assign _ | .build _ _ | .makeFunc _ _ _ => true | _ => false
def litInfo (ops : Array Oper) (o : Oper) : Info := { reads := o.looksAt ops, dst := o.dst, hc := .pure, lrd := [], lwr := none }
def isIns (o : Oper) : Bool := match o.op with | .insert _ _ _ _ => true | _ => false
/-- The first that makes a map stands ahead of all that fill it; its slot. -/
def mmDst : List Oper → Option Nat
  | [] => none
  | o :: r => bif isMM o then o.dst else bif isIns o then none else mmDst r
def insAt (m : Nat) (o : Oper) : Bool := match o.op with | .insert _ (.tmp x) _ _ => x == m | .insert _ _ _ _ => false | _ => true
/-- May a region that fills a map do so in any order? -/
def okLit (ops : Array Oper) : Bool :=
  pairsOk (fun _ _ => false) 0 [] (ops.toList.map (litInfo ops)) (befs [] ops.toList) && topo .any ops.toList && topo .text ops.toList && topo .gc ops.toList &&
  ops.toList.all (fun o => o.guard.isNone && litOp o) && (ops.toList.filter isMM).length == 1 && (match mmDst ops.toList with | some m => ops.toList.all (insAt m) | none => false)

theorem mmDst_spec : ∀ {l : List Oper} {m : Nat}, mmDst l = some m → (l.filter isMM).length = 1 → ∃ (j0 : Nat) (o0 : Oper), l[j0]? = some o0 ∧ isMM o0 = true ∧ o0.dst = some m ∧ (∀ (i : Nat) (o : Oper), l[i]? = some o → isMM o = true → i = j0) ∧ ∀ (i : Nat) (o : Oper), l[i]? = some o → isIns o = true → j0 < i
  | [], m, h, _ => by simp [mmDst] at h
  | o :: r, m, h, h1 => by
    simp only [mmDst] at h
    cases hm : isMM o with
    | true =>
      rw [hm, cond_true] at h
      have h2 : r.filter isMM = [] := by
        simp only [List.filter_cons, hm, if_true, List.length_cons] at h1
        exact List.eq_nil_of_length_eq_zero (by omega)
      refine ⟨0, o, rfl, hm, h, fun i o' hi ho' => ?_, fun i o' hi ho' => ?_⟩
      · cases i with
        | zero => rfl
        | succ i =>
          have : o' ∈ r.filter isMM := List.mem_filter.2 ⟨List.mem_of_getElem? (by simpa using hi), ho'⟩
          rw [h2] at this; simp at this
      · cases i with
        | zero =>
          simp at hi; subst hi
          unfold isMM at hm
          unfold isIns at ho'
          split at ho'
          · rename_i e; rw [e] at hm; simp at hm
          · simp at ho'
        | succ i => omega
    | false =>
      rw [hm, cond_false] at h
      cases hi : isIns o with
      | true => rw [hi] at h; simp at h
      | false =>
        rw [hi, cond_false] at h
        obtain ⟨j0, o0, q1, q2, q3, q4, q5⟩ := mmDst_spec h (by simpa [List.filter_cons, hm] using h1)
        refine ⟨j0 + 1, o0, by simpa using q1, q2, q3, fun i o' hi' ho' => ?_, fun i o' hi' ho' => ?_⟩
        · cases i with
          | zero => simp at hi'; subst hi'; rw [hm] at ho'; simp at ho'
          | succ i => rw [q4 i o' (by simpa using hi') ho']
        · cases i with
          | zero => simp at hi'; subst hi'; rw [hi] at ho'; simp at ho'
          | succ i => have := q5 i o' (by simpa using hi') ho'; omega

/-- A step of the run in the order of the text. -/
inductive LitStep (P : Program) (pr : Prm) (H : IHeap) (t : TypeId) (ag : Nat) (A : IA) (es : List Ent) (o : Oper) : IA → List Ent → Prop
  | mk {t' : TypeId} {q : Option Operand} : o.op = .makeMap t' q → LitStep P pr H t ag A es o (A.put o.dst (.v (.map (some H.next)))) es
  | ins {m x y : Operand} {kv v : Value} {l : List Int} : o.op = .insert t m x y → A.evd m = some (.map (some H.next)) → A.evd x = some kv → A.evd y = some v → ikey ag kv = some l → ifind l es = none →
      LitStep P pr H t ag A es o (A.put o.dst unitV) (es ++ [(l, v, 0)])
  | pu {x : TV} : iopK P pr 0 A H o.dst o.op some = some (.tv x) → opReads A o.op = false → isMM o = false → (∀ t m x y, o.op ≠ .insert t m x y) → LitStep P pr H t ag A es o (A.put o.dst x) es

theorem isMapAt_eq {b : Nat} {v : Value} (h : isMapAt b v = true) : v = .map (some b) := by
  unfold isMapAt at h
  split at h
  · simp at h; rw [h]
  · simp at h

theorem litSeq {H : IHeap} {t : TypeId} {ag : Nat} {σ : Type} {k : IA → List Ent → Option σ} {r : σ} : ∀ (l : List Oper) {A : IA} {es : List Ent}, litK P pr t ag H l A es k = some r →
    ∃ (F : Nat → IA) (Es : Nat → List Ent), F 0 = A ∧ Es 0 = es ∧ k (F l.length) (Es l.length) = some r ∧ ∀ i o, l[i]? = some o → LitStep P pr H t ag (F i) (Es i) o (F (i + 1)) (Es (i + 1))
  | [], A, es, h => ⟨fun _ => A, fun _ => es, rfl, rfl, h, fun i o hi => by simp at hi⟩
  | o :: l, A, es, h => by
    have fin : ∀ A1 es1, LitStep P pr H t ag A es o A1 es1 → litK P pr t ag H l A1 es1 k = some r →
        ∃ (F : Nat → IA) (Es : Nat → List Ent), F 0 = A ∧ Es 0 = es ∧ k (F (o :: l).length) (Es (o :: l).length) = some r ∧ ∀ i o', (o :: l)[i]? = some o' → LitStep P pr H t ag (F i) (Es i) o' (F (i + 1)) (Es (i + 1)) := by
      intro A1 es1 hs hl
      obtain ⟨F, Es, h1, h2, h3, h4⟩ := litSeq l hl
      refine ⟨fun i => match i with | 0 => A | i + 1 => F i, fun i => match i with | 0 => es | i + 1 => Es i, rfl, rfl, h3, fun i o' hi => ?_⟩
      cases i with
      | zero => simp at hi; subst hi; simp only [h1, h2]; exact hs
      | succ i => exact h4 i o' (by simpa using hi)
    simp only [litK] at h
    split at h
    · rename_i hop
      exact fin _ _ (.mk hop) h
    · rename_i u m x y hop
      obtain ⟨mv, h1, h⟩ := Option.bind_eq_some_iff.1 h
      obtain ⟨kv, h2, h⟩ := Option.bind_eq_some_iff.1 h
      obtain ⟨v, h3, h⟩ := Option.bind_eq_some_iff.1 h
      obtain ⟨lk, h4, h⟩ := Option.bind_eq_some_iff.1 h
      rcases cond_some h with ⟨hc, g⟩ | ⟨_, g⟩
      · simp only [Bool.and_eq_true, beq_iff_eq] at hc
        obtain ⟨⟨c1, c2⟩, c3⟩ := hc
        have := isMapAt_eq c2
        rw [this] at h1
        rw [c1] at hop
        exact fin _ _ (.ins hop h1 h2 h3 h4 (by simpa using c3)) g
      · simp at g
    · rename_i x hop
      exact fin _ _ (.pu (by rw [hop]; rfl) (by simp [opReads, hop]) (by simp [isMM, hop]) (by simp [hop])) h
    · rename_i x hop
      exact fin _ _ (.pu (by rw [hop]; rfl) (by simp [opReads, hop]) (by simp [isMM, hop]) (by simp [hop])) h
    · rename_i u parts hop
      rw [iopK_bind] at h
      obtain ⟨q, h1, h⟩ := Option.bind_eq_some_iff.1 h
      split at h
      · exact fin _ _ (.pu (by rw [hop]; exact h1) (by simp [opReads, hop]) (by simp [isMM, hop]) (by simp [hop])) h
      · simp at h
    · rename_i f x y hop
      rw [iopK_bind] at h
      obtain ⟨q, h1, h⟩ := Option.bind_eq_some_iff.1 h
      split at h
      · exact fin _ _ (.pu (by rw [hop]; exact h1) (by simp [opReads, hop]) (by simp [isMM, hop]) (by simp [hop])) h
      · simp at h
    · simp at h

/-! ### Entries -/
def Has (l : List Int) (v : Value) (es : List Ent) : Prop := ∃ n, (l, v, n) ∈ es
theorem ifind_none : ∀ {l : List Int} {es : List Ent}, ifind l es = none ↔ ∀ v, ¬ Has l v es
  | l, [] => by simp [ifind, Has]
  | l, (k, u, n) :: es => by
    cases hk : k == l with
    | true =>
      have : k = l := by simpa using hk
      subst this
      simp only [ifind, hk, cond_true]
      constructor
      · intro h; simp at h
      · intro h; exact absurd ⟨n, by simp⟩ (h u)
    | false =>
      have hne : ¬ k = l := by simpa using hk
      simp only [ifind, hk, cond_false]
      rw [ifind_none]
      constructor
      · intro h v ⟨m, hm⟩
        rcases List.mem_cons.1 hm with e | e
        · exact hne (Prod.mk.inj e).1.symm
        · exact h v ⟨m, e⟩
      · intro h v ⟨m, hm⟩
        exact h v ⟨m, by simp [hm]⟩
theorem ifind_has : ∀ {l : List Int} {es : List Ent}, (es.map (·.1)).Nodup → ∀ v, Has l v es → (ifind l es).map (·.1) = some v
  | l, [], _, v, h => by obtain ⟨n, h⟩ := h; simp at h
  | l, (k, u, n) :: es, hn, v, h => by
    simp only [List.map_cons, List.nodup_cons] at hn
    obtain ⟨m, hm⟩ := h
    cases hk : k == l with
    | true =>
      have : k = l := by simpa using hk
      subst this
      simp only [ifind, hk, cond_true, Option.map_some]
      rcases List.mem_cons.1 hm with e | e
      · simp at e; rw [e.1]
      · exact absurd (List.mem_map.2 ⟨_, e, rfl⟩) hn.1
    | false =>
      have hne : ¬ k = l := by simpa using hk
      simp only [ifind, hk, cond_false]
      rcases List.mem_cons.1 hm with e | e
      · exact absurd (Prod.mk.inj e).1.symm hne
      · exact ifind_has hn.2 v ⟨m, e⟩
theorem same_lookups {es es' : List Ent} (h1 : (es.map (·.1)).Nodup) (h2 : (es'.map (·.1)).Nodup) (h : ∀ l v, Has l v es' ↔ Has l v es) (l : List Int) : (ifind l es').map (·.1) = (ifind l es).map (·.1) := by
  cases e : ifind l es' with
  | none =>
    have := ifind_none.1 e
    rw [ifind_none.2 fun v hv => this v ((h l v).2 hv)]
  | some x =>
    have hx : ∃ v, Has l v es' := by
      apply Classical.byContradiction
      intro hno
      rw [ifind_none.2 fun v hv => hno ⟨v, hv⟩] at e
      simp at e
    obtain ⟨v, hv⟩ := hx
    rw [← e, ifind_has h2 v hv, ifind_has h1 v ((h l v).1 hv)]

section
variable {H : IHeap} {t : TypeId} {ag : Nat} {F : Nat → IA} {Es : Nat → List Ent} {D : Nat → Prop} {w0 : World}

/-- What the insertion i puts. -/
def Rec (ops : Array Oper) (F : Nat → IA) (ag i : Nat) (l : List Int) (v : Value) : Prop :=
  ∃ o u m x y kv, ops.toList[i]? = some o ∧ o.op = .insert u m x y ∧ (F i).evd x = some kv ∧ (F i).evd y = some v ∧ ikey ag kv = some l

structure LText (P : Program) (pr : Prm) (C : Ctx) (ops : Array Oper) (H : IHeap) (t : TypeId) (ag : Nat) (F : Nat → IA) (Es : Nat → List Ent) : Prop where
  step : ∀ i o, ops.toList[i]? = some o → LitStep P pr H t ag (F i) (Es i) o (F (i + 1)) (Es (i + 1))
  nil : Es 0 = []
  sep : ∀ i j oi oj, i < j → ops.toList[i]? = some oi → ops.toList[j]? = some oj → Ord ops.toList i j ∨ apart (litInfo ops oi) (litInfo ops oj) = true
  dst : ∀ t ∈ dsts ops.toList, t < C.sz
  gd : ∀ o ∈ ops.toList, o.guard = none
  lit : ∀ o ∈ ops.toList, litOp o = true
  mm : ∃ (j0 : Nat) (o0 : Oper) (m : Nat), ops.toList[j0]? = some o0 ∧ isMM o0 = true ∧ o0.dst = some m ∧ (∀ (i : Nat) (o : Oper), ops.toList[i]? = some o → isMM o = true → i = j0) ∧ ∀ (i : Nat) (o : Oper) (t' : TypeId) (m' x y : Operand), ops.toList[i]? = some o → o.op = .insert t' m' x y → j0 < i ∧ m' = .tmp m

theorem LText.put (hT : LText P pr C ops H t ag F Es) {i : Nat} {o : Oper} (hi : ops.toList[i]? = some o) : ∃ x, F (i + 1) = (F i).put o.dst x := by
  have := hT.step i o hi
  generalize F (i + 1) = A1 at this ⊢
  generalize Es (i + 1) = E1 at this
  cases this with
  | mk _ => exact ⟨_, rfl⟩
  | ins _ _ _ _ _ _ => exact ⟨_, rfl⟩
  | pu _ _ _ _ => exact ⟨_, rfl⟩

theorem LText.loc (hT : LText P pr C ops H t ag F Es) : ∀ {m : Nat}, m ≤ ops.toList.length → (F m).loc = (F 0).loc
  | 0, _ => rfl
  | m + 1, hm => by
    obtain ⟨x, e⟩ := hT.put (List.getElem?_eq_getElem (i := m) (by omega))
    rw [e, put_loc]; exact hT.loc (by omega)

theorem LText.slotStill (hT : LText P pr C ops H t ag F Es) {s j : Nat} : ∀ {m : Nat}, j ≤ m → m ≤ ops.toList.length → (∀ i o, j ≤ i → i < m → ops.toList[i]? = some o → o.dst ≠ some s) → (F m).tmp s = (F j).tmp s
  | 0, h, _, _ => by have : j = 0 := by omega
                     subst this; rfl
  | m + 1, h, hm, hw => by
    by_cases e : j = m + 1
    · subst e; rfl
    · have ho : ops.toList[m]? = some ops.toList[m] := List.getElem?_eq_getElem (by omega)
      obtain ⟨x, e⟩ := hT.put ho
      rw [e, put_tmp_ne (hw m _ (by omega) (by omega) ho)]
      exact hT.slotStill (by omega) (by omega) fun i o q1 q2 q3 => hw i o q1 (by omega) q3

theorem LText.ahead (hT : LText P pr C ops H t ag F Es) {j i : Nat} {o oi : Oper} (hcl : Closed ops.toList D) (hj : Next ops D j o) (hi : ops.toList[i]? = some oi) (hij : i < j) (hc : apart (litInfo ops oi) (litInfo ops o) = false) : D i := by
  rcases hT.sep i j oi o hij hi hj.get with q | q
  · exact q D hcl o hj.get hj.deps
  · rw [hc] at q; simp at q
theorem LText.behind (hT : LText P pr C ops H t ag F Es) {j i : Nat} {o oi : Oper} (hcl : Closed ops.toList D) (hj : Next ops D j o) (hi : ops.toList[i]? = some oi) (hij : j < i) (hc : apart (litInfo ops o) (litInfo ops oi) = false) : ¬ D i := by
  intro hd
  rcases hT.sep j i o oi hij hj.get hi with q | q
  · exact hj.new (q D hcl oi hi (hcl i hd oi hi))
  · rw [hc] at q; simp at q
theorem LText.slotCut (hT : LText P pr C ops H t ag F Es) {j s : Nat} {o : Oper} (hcl : Closed ops.toList D) (hj : Next ops D j o) (hs : s ∈ o.looksAt ops) : Cut ops D (wrS s) j := by
  refine ⟨Nat.le_of_lt (List.getElem?_eq_some_iff.1 hj.get).1, fun i oi hi hpi => ?_⟩
  obtain ⟨h1, h2⟩ := apart_slot (I := litInfo ops oi) (J := litInfo ops o) hpi hs
  constructor
  · intro hd
    rcases Nat.lt_trichotomy i j with q | q | q
    · exact q
    · subst q; exact absurd hd hj.new
    · exact absurd hd (hT.behind hcl hj hi q h2)
  · intro q
    exact hT.ahead hcl hj hi q h1

/-- What is true when the operations of D have run. -/
structure LInv (C : Ctx) (ops : Array Oper) (H : IHeap) (ag : Nat) (F : Nat → IA) (w0 : World) (ρ' : Ren) (μ : Lam) (D : Nat → Prop) (a : Act) (w : World) : Prop where
  closed : Closed ops.toList D
  slot : ∀ s m, Cut ops D (wrS s) m → TR ρ' μ ((F m).tmp s) (a.tmps.getD s undef)
  world : ((∀ i o, ops.toList[i]? = some o → isMM o = true → ¬ D i) ∧ w = w0) ∨
    ((∃ i o, ops.toList[i]? = some o ∧ isMM o = true ∧ D i) ∧ ∃ fs c es', Turn w0 w w0.heap.size (.map fs c) ∧ ER ρ' ag es' fs.toList ∧ (es'.map (·.1)).Nodup ∧
      ∀ l v, Has l v es' ↔ ∃ i, D i ∧ Rec ops F ag i l v)
  size : a.tmps.size = C.sz
  defers : a.defers = []

theorem LText.has (hT : LText P pr C ops H t ag F Es) : ∀ {m : Nat}, m ≤ ops.toList.length → ∀ l v, Has l v (Es m) ↔ ∃ i, i < m ∧ Rec ops F ag i l v
  | 0, _, l, v => by rw [hT.nil]; simp [Has]
  | m + 1, hm, l, v => by
    have ho : ops.toList[m]? = some ops.toList[m] := List.getElem?_eq_getElem (by omega)
    have ih := hT.has (m := m) (by omega) l v
    have hs := hT.step m _ ho
    have rest : ∀ (es1 : List Ent), Es (m + 1) = es1 → (Has l v es1 ↔ Has l v (Es m) ∨ Rec ops F ag m l v) → (Has l v (Es (m + 1)) ↔ ∃ i, i < m + 1 ∧ Rec ops F ag i l v) := by
      intro es1 e1 e2
      rw [e1, e2, ih]
      constructor
      · rintro (⟨i, h1, h2⟩ | h)
        · exact ⟨i, by omega, h2⟩
        · exact ⟨m, by omega, h⟩
      · rintro ⟨i, h1, h2⟩
        by_cases e : i = m
        · subst e; exact .inr h2
        · exact .inl ⟨i, by omega, h2⟩
    have norec : (∀ t' m' x y, ops.toList[m].op ≠ .insert t' m' x y) → ¬ Rec ops F ag m l v := by
      rintro hno ⟨o, u, m', x, y, kv, h1, h2, _⟩
      rw [ho] at h1
      have := Option.some.inj h1
      subst this
      exact hno _ _ _ _ h2
    generalize hA : F (m + 1) = A1 at hs
    generalize hE : Es (m + 1) = E1 at hs
    cases hs with
    | mk hop =>
      rw [← hE]
      exact rest _ hE ⟨.inl, fun q => q.resolve_right (norec fun _ _ _ _ e => by rw [hop] at e; simp at e)⟩
    | pu h1 h2 h3 h4 =>
      rw [← hE]
      exact rest _ hE ⟨.inl, fun q => q.resolve_right (norec h4)⟩
    | @ins m' x y kv v' l' hop h1 h2 h3 h4 h5 =>
      rw [← hE]
      refine rest _ hE ?_
      constructor
      · rintro ⟨n, hn⟩
        rcases List.mem_append.1 hn with q | q
        · exact .inl ⟨n, q⟩
        · simp at q
          obtain ⟨rfl, rfl, _⟩ := q
          exact .inr ⟨_, _, _, _, _, _, ho, hop, h2, h3, h4⟩
      · rintro (⟨n, q⟩ | ⟨o, u, m2, x2, y2, kv2, g1, g2, g3, g4, g5⟩)
        · exact ⟨n, by simp [q]⟩
        · rw [ho] at g1
          have := Option.some.inj g1
          subst this
          rw [hop] at g2
          simp at g2
          obtain ⟨rfl, rfl, rfl, rfl⟩ := g2
          rw [h2] at g3; simp at g3; subst g3
          rw [h3] at g4; simp at g4; subst g4
          rw [h4] at g5; simp at g5; subst g5
          exact ⟨0, by simp⟩

/-- No two put at one key. -/
theorem LText.inj (hT : LText P pr C ops H t ag F Es) {i j : Nat} {l : List Int} {v v' : Value} (h1 : Rec ops F ag i l v) (h2 : Rec ops F ag j l v') : i = j := by
  have key : ∀ {i j : Nat} {v v' : Value}, Rec ops F ag i l v → Rec ops F ag j l v' → i < j → False := by
    intro i j v v' h1 h2 hij
    obtain ⟨o, u, m, x, y, kv, g1, g2, g3, g4, g5⟩ := h2
    have hjn : j < ops.toList.length := (List.getElem?_eq_some_iff.1 g1).1
    have hh := (hT.has (m := j) (by omega) l v).2 ⟨i, hij, h1⟩
    have hs := hT.step j o g1
    generalize F (j + 1) = A1 at hs
    generalize Es (j + 1) = E1 at hs
    cases hs with
    | mk hop => rw [g2] at hop; simp at hop
    | pu _ _ _ h4 => exact h4 _ _ _ _ g2
    | @ins m' x' y' kv' v2 l' hop k1 k2 k3 k4 k5 =>
      rw [hop] at g2
      simp at g2
      obtain ⟨rfl, rfl, rfl, rfl⟩ := g2
      rw [k2] at g3; simp at g3; subst g3
      rw [k4] at g5; simp at g5; subst g5
      exact ifind_none.1 k5 v hh
  rcases Nat.lt_trichotomy i j with q | q | q
  · exact (key h1 h2 q).elim
  · exact q
  · exact (key h2 h1 q).elim

theorem LText.nodup (hT : LText P pr C ops H t ag F Es) : ∀ {m : Nat}, m ≤ ops.toList.length → ((Es m).map (·.1)).Nodup
  | 0, _ => by rw [hT.nil]; simp
  | m + 1, hm => by
    have ho : ops.toList[m]? = some ops.toList[m] := List.getElem?_eq_getElem (by omega)
    have ih := hT.nodup (m := m) (by omega)
    have hs := hT.step m _ ho
    generalize F (m + 1) = A1 at hs
    generalize Es (m + 1) = E1 at hs ⊢
    cases hs with
    | mk hop => exact ih
    | pu h1 h2 h3 h4 => exact ih
    | ins hop h1 h2 h3 h4 h5 =>
      rw [List.map_append]
      refine List.nodup_append.2 ⟨ih, by simp, fun a ha b hb => ?_⟩
      simp at hb; subst hb
      obtain ⟨e, he, rfl⟩ := List.mem_map.1 ha
      intro q
      exact ifind_none.1 h5 e.2.1 ⟨e.2.2, by rw [← q]; exact he⟩

variable {b : Nat}
/-- One step. -/
theorem LInv.wpOp {z : Value} (hT : LText P pr C ops H t ag F Es) (hz : mapTy P t = some (ag, z)) (hR0 : Rel ρ H w0) (hn : ρ H.next = none)
    (hloc : ∀ u cs, (F 0).loc u = some cs → ∃ r, μ u = some r ∧ r < w0.heap.size ∧ LocR ρ cs w0 r) (h : LInv C ops H ag F w0 (ρ.add H.next w0.heap.size 0 0) μ D a w) {j : Nat} {o : Oper} (hj : Next ops D j o) {K : Act → World → Prop} {Q : Exit → Act → World → Prop}
    (hK : ∀ a' w', LInv C ops H ag F w0 (ρ.add H.next w0.heap.size 0 0) μ (fun k => D k ∨ k = j) a' w' → K a' w') : wpOp P ops Q j K a w := by
  have hs := hT.step j o hj.get
  have hjn : j < ops.toList.length := (List.getElem?_eq_some_iff.1 hj.get).1
  have hoi : ops[j]? = some o := by rw [← Array.getElem?_toList]; exact hj.get
  have hle : ρ.le (ρ.add H.next w0.heap.size 0 0) := Ren.le_add hn
  have hev : ∀ x ∈ o.op.operands, TR (ρ.add H.next w0.heap.size 0 0) μ ((F j).ev x) (a.eval x) := by
    intro x hx
    cases x with
    | tmp s => exact h.slot s j (hT.slotCut h.closed hj (mem_looks hx))
    | const c =>
      simp only [IA.ev, Act.eval]
      cases hc : cst c with
      | true => exact VR.cst hc
      | false => exact trivial
    | global g => exact trivial
    | func f => exact VR.func .nil .nil
  have hdlt : ∀ s, o.dst = some s → s < a.tmps.size := by
    intro s e
    rw [h.size]
    refine hT.dst s ?_
    obtain ⟨l1, l2, e2⟩ := List.append_of_mem (List.mem_of_getElem? hj.get)
    rw [e2, dsts_append]
    simp [dsts, e]
  -- behind the step
  have next : ∀ {x : TV} {y : Value} {w' : World}, F (j + 1) = (F j).put o.dst x → TR (ρ.add H.next w0.heap.size 0 0) μ x y →
      ((∀ i o', ops.toList[i]? = some o' → isMM o' = true → ¬ (D i ∨ i = j)) ∧ w' = w0 ∨
        ((∃ i o', ops.toList[i]? = some o' ∧ isMM o' = true ∧ (D i ∨ i = j)) ∧ ∃ fs c es', Turn w0 w' w0.heap.size (.map fs c) ∧ ER (ρ.add H.next w0.heap.size 0 0) ag es' fs.toList ∧ (es'.map (·.1)).Nodup ∧
          ∀ l v, Has l v es' ↔ ∃ i, (D i ∨ i = j) ∧ Rec ops F ag i l v)) → K (a.put o.dst y) w' := by
    intro x y w' e hxy hw
    refine hK _ _ ⟨?_, ?_, hw, by rw [put_size]; exact h.size, by rw [put_defers]; exact h.defers⟩
    · intro k hk ok hok ed he hb
      rcases hk with hk | rfl
      · exact .inl (h.closed k hk ok hok ed he hb)
      · rw [hj.get] at hok
        have := Option.some.inj hok
        subst this
        exact .inl (hj.deps ed he hb)
    · intro s m hm
      by_cases hs : o.dst = some s
      · have hjm : j < m := (hm.2 j o hj.get hs).1 (.inr rfl)
        have hg : ∀ i oi, j + 1 ≤ i → i < m → ops.toList[i]? = some oi → oi.dst ≠ some s := by
          intro i oi h1 h2 hi hpi
          rcases (hm.2 i oi hi hpi).2 h2 with hd | e
          · exact hT.behind h.closed hj hi (by omega) (apart_dst (I := litInfo ops o) (J := litInfo ops oi) hs hpi) hd
          · omega
        have e1 : (a.put o.dst y).tmps.getD s undef = y := by
          rw [hs]; simp [Act.put, hdlt s hs]
        rw [e1, hT.slotStill (s := s) (j := j + 1) (by omega) hm.1 hg, e, hs]
        simp [IA.put]
        exact hxy
      · have e1 : (a.put o.dst y).tmps.getD s undef = a.tmps.getD s undef := by
          cases hd : o.dst with
          | none => rfl
          | some d =>
            simp only [Act.put, Array.getD_eq_getD_getElem?, Array.getElem?_setIfInBounds]
            rw [if_neg (fun q => hs (by rw [hd, q]))]
        rw [e1]
        exact h.slot s m (hm.other hj.get hs)
  -- a step that is no insertion leaves the entries
  have keep : (∀ t m x y, o.op ≠ .insert t m x y) → ∀ l v, (∃ i, D i ∧ Rec ops F ag i l v) ↔ ∃ i, (D i ∨ i = j) ∧ Rec ops F ag i l v := by
    intro hno l v
    constructor
    · rintro ⟨i, h1, h2⟩; exact ⟨i, .inl h1, h2⟩
    · rintro ⟨i, h1 | h1, h2⟩
      · exact ⟨i, h1, h2⟩
      · subst h1
        obtain ⟨o', u, m', x, y, kv, g1, g2, _⟩ := h2
        rw [hj.get] at g1
        have := Option.some.inj g1
        subst this
        exact absurd g2 (hno _ _ _ _)
  unfold Go.wpOp
  simp only [hoi]
  have hwant : Region.wanted o (yielded ops a.tmps) = true := by unfold Region.wanted; rw [hT.gd o (List.mem_of_getElem? hj.get)]
  rw [hwant]
  simp only [if_true]
  refine .inl ?_
  generalize hA : F (j + 1) = A1 at hs
  generalize hE : Es (j + 1) = E1 at hs
  cases hs with
  | @mk t' q hop =>
    have hmmo : isMM o = true := by
      have hlit := hT.lit o (List.mem_of_getElem? hj.get)
      unfold litOp at hlit
      unfold isMM
      rw [hop] at hlit ⊢
      cases q with
      | none => rfl
      | some x => simp at hlit
    have hq : q = none := by
      unfold isMM at hmmo
      rw [hop] at hmmo
      cases q with
      | none => rfl
      | some x => simp at hmmo
    subst hq
    obtain ⟨j0, o0, m, m1, m2, m3, m4, m5⟩ := hT.mm
    have hjj : j = j0 := m4 j o hj.get hmmo
    subst hjj
    have hdst : o.dst = some m := by
      rw [hj.get] at m1
      have := Option.some.inj m1
      rw [this]; exact m3
    have hw : w = w0 := by
      rcases h.world with ⟨_, e⟩ | ⟨⟨i, o', h1, h2, h3⟩, _⟩
      · exact e
      · have := m4 i o' h1 h2
        subst this
        exact absurd h3 hj.new
    subst hw
    unfold Oper.wp
    have run : (execOp a.eval o).run P w = .ok (.value (.map (some w.heap.size))) (w.alloc (.map #[] 0)) := by
      simp only [execOp, hop]
      exact exec_v (by simp [Instr.makeMap])
    rw [run, Oper.upon_value]
    refine next hA (VR.map Ren.add_self) (.inr ⟨⟨j, o, hj.get, hmmo, .inr rfl⟩, #[], 0, [], Turn.alloc _ _, .nil, by simp, fun l v => ?_⟩)
    constructor
    · rintro ⟨n, hn⟩; simp at hn
    · rintro ⟨i, hi, o', u, m', x, y, kv, g1, g2, g3, _⟩
      exfalso
      obtain ⟨hlt, rfl⟩ := m5 i o' u m' x y g1 g2
      rcases hi with hi | hi
      · have hlk : m ∈ o'.looksAt ops := mem_looks (by simp [g2, Op.operands])
        exact hT.behind h.closed hj g1 hlt (apart_slot (I := litInfo ops o) (J := litInfo ops o') hdst hlk).1 hi
      · omega
  | @pu x h1 h2 h3 h4 =>
    have hin : OpIn (ρ.add H.next w0.heap.size 0 0) μ (F j) a w o.op := by
      have hl : ∀ u cs, (F j).loc u = some cs → ∃ r, μ u = some r ∧ LocR (ρ.add H.next w0.heap.size 0 0) cs w r := by
        intro u cs hcs
        rw [hT.loc (by omega)] at hcs
        obtain ⟨r, q1, q2, q3⟩ := hloc u cs hcs
        refine ⟨r, q1, q3.mono hle ?_⟩
        rcases h.world with ⟨_, e⟩ | ⟨_, fs, c, es', hTn, _⟩
        · rw [e]
        · exact hTn.rest r q2 (by omega)
      exact ⟨hev, fun x _ u _ _ cs hcs => hl u cs hcs, fun x _ u _ _ cs hcs => hl u cs hcs⟩
    obtain ⟨y, q1, q2⟩ := iop_tv h1 hin (fun q => by rw [h2] at q; simp at q)
    unfold Oper.wp
    rw [q1, Oper.upon_value]
    refine next hA q2 ?_
    rcases h.world with ⟨w1, w2⟩ | ⟨⟨i, o', w1, w2, w3⟩, fs, c, es', e1, e2, e3, e4⟩
    · refine .inl ⟨fun i o' hi ho' hd => ?_, w2⟩
      rcases hd with hd | hd
      · exact w1 i o' hi ho' hd
      · subst hd
        rw [hj.get] at hi
        have := Option.some.inj hi
        subst this
        rw [h3] at ho'; simp at ho'
    · exact .inr ⟨⟨i, o', w1, w2, .inl w3⟩, fs, c, es', e1, e2, e3, fun l v => (e4 l v).trans (keep h4 l v)⟩
  | @ins m' x y kv v l hop h1 h2 h3 h4 h5 =>
    obtain ⟨j0, o0, m, m1, m2, m3, m4, m5⟩ := hT.mm
    obtain ⟨hlt, rfl⟩ := m5 j o t m' x y hj.get hop
    have hlk : m ∈ o.looksAt ops := mem_looks (by simp [hop, Op.operands])
    have hd0 : D j0 := hT.ahead h.closed hj m1 hlt (apart_slot (I := litInfo ops o0) (J := litInfo ops o) m3 hlk).1
    rcases h.world with ⟨w1, _⟩ | ⟨_, fs, c, es', e1, e2, e3, e4⟩
    · exact absurd hd0 (w1 j0 o0 m1 m2)
    have hno : ifind l es' = none := ifind_none.2 fun v' hv' => by
      obtain ⟨i, hi, hr⟩ := (e4 l v').1 hv'
      have := hT.inj hr ⟨o, t, .tmp m, x, y, kv, hj.get, hop, h2, h3, h4⟩
      subst this
      exact hj.new hi
    have hself : (ρ.add H.next w0.heap.size 0 0) H.next = some (w0.heap.size, 0, 0) := Ren.add_self
    have hRm : Rel (ρ.add H.next w0.heap.size 0 0) ((⟨H.next, .nil⟩ : IHeap).push (.map ag es' c)) w := by
      have hget : ∀ b o, ((⟨H.next, .nil⟩ : IHeap).push (.map ag es' c)).get b = some o → b = H.next ∧ o = .map ag es' c := by
        intro b o hb
        rw [IHeap.get_push] at hb
        split at hb
        · rename_i e; exact ⟨e, (Option.some.inj hb).symm⟩
        · simp [IHeap.get, Tr.get] at hb
      refine ⟨fun b hb => ?_, fun b r x e => ?_, fun b r δ z o e g => ?_, fun b1 b2 r x1 x2 o1 o2 _ _ g1 g2 _ _ hne => ?_, fun b1 b2 r d1 d2 z1 z2 c1 c2 fl _ _ g1 => ?_⟩
      · have hb : H.next + 1 ≤ b := hb
        rw [IHeap.get_push, if_neg (by show ¬ b = H.next; omega)]; rfl
      · by_cases hb : b = H.next
        · subst hb
          rw [hself] at e
          have := (Prod.mk.inj (Option.some.inj e)).1
          have := e1.lt
          omega
        · have : ρ b = some (r, x) := by simpa [Ren.add, hb] using e
          have := hR0.dom _ _ _ this
          have := e1.size
          omega
      · obtain ⟨rfl, rfl⟩ := hget b o g
        rw [hself] at e
        have e := Option.some.inj e
        have e5 : w0.heap.size = r := congrArg Prod.fst e
        have e6 : 0 = δ := congrArg (fun x => x.2.1) e
        have e7 : 0 = z := congrArg (fun x => x.2.2) e
        subst e5 e6 e7
        rw [e1.at_]
        exact ⟨rfl, rfl, rfl, e2⟩
      · exact absurd ((hget _ _ g1).1.trans (hget _ _ g2).1.symm) hne
      · have := (hget _ _ g1).2; simp at this
    have hup : imapUpdate ag H.next ((⟨H.next, .nil⟩ : IHeap).push (.map ag es' c)) (.map (some H.next)) kv v = some (((⟨H.next, .nil⟩ : IHeap).push (.map ag es' c)).set H.next (.map ag (es' ++ [(l, v, c)]) (c + 1))) := by
      have hg : ((⟨H.next, .nil⟩ : IHeap).push (.map ag es' c)).get H.next = some (.map ag es' c) := IHeap.get_push_self _ _
      simp only [imapUpdate, hmap, hg, Option.bind_some, beq_self_eq_true, cond_true, h4, hno, iput, Nat.le_refl, decide_true]
    have hvr : ∀ {x : Operand} {v : Value}, x ∈ o.op.operands → (F j).evd x = some v → VR (ρ.add H.next w0.heap.size 0 0) v (a.eval x) := by
      intro x v hx e
      have := hev x hx
      rw [evd_eq e] at this
      exact this
    obtain ⟨w', q1, q2, q3⟩ := imapUpdate_sim (P := P) hRm hz hup (hvr (x := .tmp m) (by simp [hop, Op.operands]) h1) (hvr (x := x) (by simp [hop, Op.operands]) h2) (hvr (x := y) (by simp [hop, Op.operands]) h3)
    unfold Oper.wp
    have run : (execOp a.eval o).run P w = .ok .skip w' := by
      simp only [execOp, hop]
      exact exec_u q1
    rw [run, Oper.upon_skip]
    have hobj := q2.obj H.next w0.heap.size 0 0 _ hself (IHeap.get_set_self _ _ _)
    have hobj : ∃ fs' c', w'.heap[w0.heap.size]? = some (.map fs' c') ∧ ER (ρ.add H.next w0.heap.size 0 0) ag (es' ++ [(l, v, c)]) fs'.toList := by
      cases hx : w'.heap[w0.heap.size]? with
      | none => rw [hx] at hobj; exact hobj.elim
      | some ob =>
        rw [hx] at hobj
        cases ob <;> first | exact hobj.elim | exact ⟨_, _, rfl, hobj.2.2.2⟩
    obtain ⟨fs', c', o1, o2⟩ := hobj
    refine next hA (VR.tuple .nil) (.inr ⟨⟨j0, o0, m1, m2, .inl hd0⟩, fs', c', _, ⟨o1, ?_, Nat.le_trans e1.size q3.size, q3.os.trans e1.os, q3.tape.trans e1.tape, q3.output.trans e1.output⟩, o2, ?_, ?_⟩)
    · intro k hk hne
      rw [q3.kept k (Nat.lt_of_lt_of_le hk e1.size) fun b x e hb1 hb2 => ?_]
      · exact e1.rest k hk hne
      · have hb : b = H.next := by simp at hb2; omega
        subst hb
        rw [hself] at e
        exact hne (Prod.mk.inj (Option.some.inj e)).1.symm
    · rw [List.map_append]
      refine List.nodup_append.2 ⟨e3, by simp, fun a ha b hb => ?_⟩
      simp at hb; subst hb
      obtain ⟨e, he, rfl⟩ := List.mem_map.1 ha
      intro q
      exact ifind_none.1 hno e.2.1 ⟨e.2.2, by rw [← q]; exact he⟩
    · intro l' v'
      constructor
      · rintro ⟨n, hn⟩
        rcases List.mem_append.1 hn with q | q
        · obtain ⟨i, g1, g2⟩ := (e4 l' v').1 ⟨n, q⟩
          exact ⟨i, .inl g1, g2⟩
        · simp at q
          obtain ⟨rfl, rfl, _⟩ := q
          exact ⟨j, .inr rfl, o, t, .tmp m, x, y, kv, hj.get, hop, h2, h3, h4⟩
      · rintro ⟨i, g1 | g1, g2⟩
        · obtain ⟨n, hn⟩ := (e4 l' v').2 ⟨i, g1, g2⟩
          exact ⟨n, by simp [hn]⟩
        · subst g1
          obtain ⟨o', u, m2', x2, y2, kv2, k1, k2, k3, k4, k5⟩ := g2
          rw [hj.get] at k1
          have := Option.some.inj k1
          subst this
          rw [hop] at k2
          simp at k2
          obtain ⟨rfl, rfl, rfl, rfl⟩ := k2
          rw [h2] at k3; simp at k3; subst k3
          rw [h3] at k4; simp at k4; subst k4
          rw [h4] at k5; simp at k5; subst k5
          exact ⟨c, by simp⟩

/-- A region that fills a map. -/
theorem litSound {A : IA} {id : Nat} {σ : Type} {k : IA → IHeap → Option σ} {r : σ} {Q : Exit → Act → World → Prop} {z : Value} (hok : okLit ops = true) (hF : Fr C ρ μ A H a w) (hd : ∀ t ∈ dsts ops.toList, t < C.sz) (hz : mapTy P t = some (ag, z))
    (h : litK P pr t ag H ops.toList A [] (fun A' es => k A' (H.push (.fmap ag es))) = some r)
    (hk : ∀ A' es, k A' (H.push (.fmap ag es)) = some r → A'.loc = A.loc → (∀ t, t ∉ dsts ops.toList → A'.tmp t = A.tmp t) → Free C.ρ0 C.n0 (H.next + 1) ∧ ∀ ρ' a' w', Fr C ρ' μ A' (H.push (.fmap ag es)) a' w' → Q .normal a' w') : (Code.region id ops true).wp P Q a w := by
  unfold okLit at hok
  simp only [Bool.and_eq_true] at hok
  obtain ⟨⟨⟨⟨⟨⟨p1, t1⟩, t2⟩, t3⟩, hall⟩, hone⟩, hmm⟩ := hok
  have hall : ∀ o ∈ ops.toList, o.guard = none ∧ litOp o = true := fun o ho => by
    have := List.all_eq_true.1 hall o ho
    simpa using this
  obtain ⟨F, Es, f1, f2, f3, f4⟩ := litSeq ops.toList h
  have hsep : ∀ i j oi oj, i < j → ops.toList[i]? = some oi → ops.toList[j]? = some oj → Ord ops.toList i j ∨ apart (litInfo ops oi) (litInfo ops oj) = true := by
    intro i j oi oj hij hi hj
    have := pairsOk_spec p1 i j (litInfo ops oi) (litInfo ops oj) (by simpa using hij) (by simp [hi]) (by simp [hj])
    rcases this with q | q | ⟨q, _⟩
    · exact .inl (befs_spec ops.toList [] (by simp) (fun j i q => by simp at q) j i q)
    · exact .inr q
    · simp at q
  have hT : LText P pr C ops H t ag F Es := by
    refine ⟨f4, f2, hsep, hd, fun o ho => (hall o ho).1, fun o ho => (hall o ho).2, ?_⟩
    split at hmm
    · rename_i m hm
      obtain ⟨j0, o0, q1, q2, q3, q4, q5⟩ := mmDst_spec hm (by simpa using hone)
      refine ⟨j0, o0, m, q1, q2, q3, q4, fun i o t' m' x y hi hop => ⟨q5 i o hi (by simp [isIns, hop]), ?_⟩⟩
      have := List.all_eq_true.1 hmm o (List.mem_of_getElem? hi)
      unfold insAt at this
      rw [hop] at this
      cases m' <;> simp at this
      rw [this]
    · simp at hmm
  obtain ⟨hfree, hfin⟩ := hk _ _ f3 (by rw [hT.loc (Nat.le_refl _), f1]) (fun s hs => by
    rw [hT.slotStill (s := s) (Nat.zero_le _) (Nat.le_refl _) fun i o _ _ hi hdst => hs (by
      obtain ⟨l1, l2, e⟩ := List.append_of_mem (List.mem_of_getElem? hi)
      rw [e, dsts_append]; simp [dsts, hdst]), f1])
  have hF := hF.drawn (n := w.drawn + 1)
  have hfr : Free ρ H.next (H.next + 1) := Free.of_ext hF.next hfree hF.ext
  have hn : ρ H.next = none := hfr _ (Nat.le_refl _) (by omega)
  generalize hw0 : ({ w with drawn := w.drawn + 1 } : World) = w0 at hF
  have hle : ρ.le (ρ.add H.next w0.heap.size 0 0) := Ren.le_add hn
  have hloc : ∀ u cs, (F 0).loc u = some cs → ∃ r, μ u = some r ∧ r < w0.heap.size ∧ LocR ρ cs w0 r := by
    intro u cs hcs
    rw [f1] at hcs
    obtain ⟨r, q1, q2⟩ := hF.loc u cs hcs
    exact ⟨r, q1, (hF.priv u r q1).2.1, q2⟩
  have no : ∀ k, ¬ Ran (Array.replicate ops.size false) k := by
    intro k hk
    simp only [Ran, Array.getD_eq_getD_getElem?, Array.getElem?_replicate] at hk
    split at hk <;> simp at hk
  have h0 : LInv C ops H ag F w0 (ρ.add H.next w0.heap.size 0 0) μ (Ran (Array.replicate ops.size false)) a w0 := by
    refine ⟨fun k hk => absurd hk (no k), fun s m hm => ?_, .inl ⟨fun i _ _ _ => no i, rfl⟩, hF.size, hF.defers⟩
    rw [hT.slotStill (s := s) (Nat.zero_le m) hm.1 fun i o _ h2 ho hp => no i ((hm.2 i o ho hp).2 h2), f1]
    exact (hF.tmp s).mono hle
  have hend : ∀ (D : Nat → Prop) a w, (∀ k, k < ops.toList.length → D k) → LInv C ops H ag F w0 (ρ.add H.next w0.heap.size 0 0) μ D a w → Q .normal a w := by
    intro D a' w' hall h
    obtain ⟨j0, o0, m, m1, m2, m3, m4, m5⟩ := hT.mm
    rcases h.world with ⟨w1, _⟩ | ⟨_, fs, c, es', e1, e2, e3, e4⟩
    · exact absurd (hall j0 (List.getElem?_eq_some_iff.1 m1).1) (w1 j0 o0 m1 m2)
    have hob : ObjR (ρ.add H.next w0.heap.size 0 0) 0 0 (.fmap ag (Es ops.toList.length)) (some (.map fs c)) := by
      refine ⟨rfl, rfl, es', e2, same_lookups (hT.nodup (Nat.le_refl _)) e3 fun l v => ?_⟩
      rw [e4, hT.has (Nat.le_refl _)]
      constructor
      · rintro ⟨i, _, q⟩
        exact ⟨i, (by obtain ⟨o, u, m, x, y, kv, g1, _⟩ := q; exact (List.getElem?_eq_some_iff.1 g1).1), q⟩
      · rintro ⟨i, q1, q2⟩
        exact ⟨i, hall i q1, q2⟩
    have hEx : Ext C.lim H.next (H.next + 1) ρ (ρ.add H.next w0.heap.size 0 0) w0 w' := Ext.push hn e1
    refine hfin (ρ.add H.next w0.heap.size 0 0) a' w' ⟨hF.rel.push hn e1 hob, fun s => ?_, fun u cs hcs => ?_, fun u r hu => ?_, ?_, h.size, h.defers, ?_, hF.lim⟩
    · exact h.slot s _ ⟨Nat.le_refl _, fun i o hi _ => by
        have := (List.getElem?_eq_some_iff.1 hi).1
        exact ⟨fun _ => this, fun _ => hall i this⟩⟩
    · rw [hT.loc (Nat.le_refl _)] at hcs
      obtain ⟨r, q1, q2, q3⟩ := hloc u cs hcs
      exact ⟨r, q1, q3.mono hle (e1.rest r q2 (by omega))⟩
    · obtain ⟨q1, q2, q3, q4⟩ := hF.priv u r hu
      refine ⟨q1, Nat.lt_of_lt_of_le q2 e1.size, fun b x e => ?_, q4⟩
      by_cases hb : b = H.next
      · subst hb
        rw [Ren.add_self] at e
        have := (Prod.mk.inj (Option.some.inj e)).1
        omega
      · exact q3 b x (by simpa [Ren.add, hb] using e)
    · simpa using hF.ext.trans hF.next (by simp) (by simpa using hfree) hEx
    · have := hF.next; simp; omega
  -- all orders
  have any : ∀ {md : Region.Mode}, topo md ops.toList = true → ∀ (fuel : Nat) (listed : Array Bool) (a : Act) (w : World), listed.size = ops.size → listed.toList.count false ≤ fuel →
      LInv C ops H ag F w0 (ρ.add H.next w0.heap.size 0 0) μ (Ran listed) a w → wpAny P md ops Q fuel listed a w := by
    intro md ht fuel
    have done : ∀ (listed : Array Bool) (a : Act) (w : World), listed.size = ops.size → LInv C ops H ag F w0 (ρ.add H.next w0.heap.size 0 0) μ (Ran listed) a w → Region.ready md ops listed = [] → Q .normal a w := by
      intro listed a w hs h hr
      refine hend _ a w ?_ h
      refine topo_spec ht fun k o hk he => ?_
      have hlt : k < listed.size := by rw [hs]; simpa using (List.getElem?_eq_some_iff.1 hk).1
      cases hc : listed.getD k false with
      | true => exact hc
      | false =>
        exfalso
        have : k ∈ Region.ready md ops listed := by
          rw [mem_ready]
          refine ⟨?_, o, by rw [← Array.getElem?_toList]; exact hk, he⟩
          simpa [Array.getD_eq_getD_getElem?, hlt] using hc
        rw [hr] at this; simp at this
    induction fuel with
    | zero =>
      intro listed a w hs hc h
      have hall := all_ran (listed := listed) (by omega)
      have hr : Region.ready md ops listed = [] := by
        refine List.eq_nil_iff_forall_not_mem.2 fun k hk => ?_
        rw [mem_ready] at hk
        obtain ⟨h1, o, h2, _⟩ := hk
        have hlt : k < listed.size := by rw [hs]; exact (Array.getElem?_eq_some_iff.1 h2).1
        have := hall k hlt
        simp [Ran, Array.getD_eq_getD_getElem?, hlt] at this h1
        rw [this] at h1; simp at h1
      exact ⟨hr, done listed a w hs h hr⟩
    | succ fuel ih =>
      intro listed a w hs hc h
      refine ⟨done listed a w hs h, fun i hi => ?_⟩
      rw [mem_ready] at hi
      obtain ⟨h1, o, h2, h3⟩ := hi
      have hlt : i < listed.size := by rw [hs]; exact (Array.getElem?_eq_some_iff.1 h2).1
      have hf : listed[i]? = some false := by
        simp [Array.getD_eq_getD_getElem?, hlt] at h1
        simp [hlt, h1]
      have hj : Next ops (Ran listed) i o := by
        refine ⟨by rw [Array.getElem?_toList]; exact h2, ?_, fun e he hb => h3 e he (binds_any hb)⟩
        simp [Ran, Array.getD_eq_getD_getElem?, hf]
      refine h.wpOp (Es := Es) (t := t) hT hz hF.rel hn hloc hj fun a' w' h' => ?_
      refine ih _ a' w' (by simpa using hs) ?_ (by rw [ran_set hlt]; exact h')
      have := count_set (l := listed.toList) (i := i) (by rw [Array.getElem?_toList]; exact hf)
      rw [Array.toList_setIfInBounds]
      omega
  have hcount : (Array.replicate ops.size false).toList.count false ≤ ops.size := by
    rw [Array.toList_replicate, List.count_replicate_self]
    exact Nat.le_refl _
  have run : ∀ md, topo md ops.toList = true → ∀ t, wpOps P ops Q (Region.linearise md ops t) a w0 := fun md ht t =>
    wpAny_sound ops.size t _ a _ (any ht ops.size _ a _ (by simp) hcount h0)
  refine wp_region_draw fun t => ?_
  rw [hw0]
  unfold Region.schedule
  split
  · exact run .any t1 t
  · split
    · exact run .text t2 _
    · exact run .gc t3 _
end
end Go.Ideal
/- The ideal machine, part Zn: what a program's functions are. -/
namespace Go.Ideal
variable {P : Program}

def okOf (P : Program) (pr : Prm) (wr : List FuncId) : Ok := { dr := okDraw P pr wr, lt := okLate P pr wr, li := okLit }

theorem okOf_sound {E : Env} (hE : EnvOK P E) (pr : Prm) : DrawSound P E pr (okOf P pr E.wr) :=
  ⟨fun h1 h2 h3 h4 h5 h6 h7 h8 => drawSound hE h1 h2 h3 h4 h5 h6 h7 h8, fun h1 h2 h3 h4 h5 h6 h7 h8 => lateSound hE h1 h2 h3 h4 h5 h6 h7 h8, fun h1 h2 h3 h4 h5 h6 h7 => litSound h1 h2 h3 h5 h6 h7⟩

theorem SimF.mono {f : FuncId} {g g' : G} (h : SimF P f g') (hg : ∀ lim args H r, g lim args H = some r → g' lim args H = some r) : SimF P f g :=
  ⟨h.enters, fun lim args H v H' e => h.keeps lim args H v H' (hg _ _ _ _ e), fun lim args H v H' ρ w args' e => h.calls lim args H v H' ρ w args' (hg _ _ _ _ e)⟩

def envOf : List (FuncId × G) → FuncId → Option G
  | [], _ => none
  | (f, g) :: r, k => bif k == f then some g else envOf r k
theorem envOf_ok : ∀ {l : List (FuncId × G)}, (∀ p ∈ l, SimF P p.1 p.2) → ∀ f g, envOf l f = some g → SimF P f g
  | [], _, f, g, h => by simp [envOf] at h
  | (f0, g0) :: r, hl, f, g, h => by
    simp only [envOf] at h
    cases e : f == f0 with
    | true =>
      rw [e, cond_true] at h
      have := Option.some.inj h
      subst this
      have : f = f0 := by simpa using e
      subst this
      exact hl (f, g0) (by simp)
    | false =>
      rw [e, cond_false] at h
      exact envOf_ok (fun p hp => hl p (by simp [hp])) f g h

theorem env_nil : ∀ p ∈ ([] : List (FuncId × G)), SimF P p.1 p.2 := fun p hp => by simp at hp
theorem env_cons {f : FuncId} {g : G} {l : List (FuncId × G)} (h : SimF P f g) (t : ∀ p ∈ l, SimF P p.1 p.2) : ∀ p ∈ (f, g) :: l, SimF P p.1 p.2 := fun p hp => by
  rcases List.mem_cons.1 hp with rfl | hp
  · exact h
  · exact t p hp

/-- A function of the program, told by a text of its own. -/
theorem SimF.gen {f : FuncId} {fn : Func} (env : List (FuncId × G)) (wr : List FuncId) (pr : Prm) (N : Nat) (ann : Ann) {g : G} (hf : P.funcs[f]? = some fn) (hn : (fn.name == "runtime.NumGoroutine") = false) (hb : fn.body.isNone = false)
    (henv : ∀ p ∈ env, SimF P p.1 p.2) (hg : ∀ lim args H r, g lim args H = some r → ifun P { fn := envOf env, wr := wr } pr N (okOf P pr wr) fn ann lim args H = some r) : SimF P f g :=
  (ifun_sim (E := { fn := envOf env, wr := wr }) (envOf_ok henv) (okOf_sound (E := { fn := envOf env, wr := wr }) (envOf_ok henv) pr) ann hf hn hb).mono hg

/-! ### Functions of so many parameters -/
abbrev RV := Option (Value × IHeap)
abbrev RF0 := Nat → IHeap → RV
def w0 (g : RF0) : G := fun lim args H => match args with | [] => g lim H | _ => none
abbrev RF1 := Nat → Value → IHeap → RV
def w1 (g : RF1) : G := fun lim args H => match args with | [a0] => g lim a0 H | _ => none
abbrev RF2 := Nat → Value → Value → IHeap → RV
def w2 (g : RF2) : G := fun lim args H => match args with | [a0, a1] => g lim a0 a1 H | _ => none
abbrev RF3 := Nat → Value → Value → Value → IHeap → RV
def w3 (g : RF3) : G := fun lim args H => match args with | [a0, a1, a2] => g lim a0 a1 a2 H | _ => none
abbrev RF4 := Nat → Value → Value → Value → Value → IHeap → RV
def w4 (g : RF4) : G := fun lim args H => match args with | [a0, a1, a2, a3] => g lim a0 a1 a2 a3 H | _ => none
abbrev RF5 := Nat → Value → Value → Value → Value → Value → IHeap → RV
def w5 (g : RF5) : G := fun lim args H => match args with | [a0, a1, a2, a3, a4] => g lim a0 a1 a2 a3 a4 H | _ => none
abbrev RF6 := Nat → Value → Value → Value → Value → Value → Value → IHeap → RV
def w6 (g : RF6) : G := fun lim args H => match args with | [a0, a1, a2, a3, a4, a5] => g lim a0 a1 a2 a3 a4 a5 H | _ => none
abbrev RF7 := Nat → Value → Value → Value → Value → Value → Value → Value → IHeap → RV
def w7 (g : RF7) : G := fun lim args H => match args with | [a0, a1, a2, a3, a4, a5, a6] => g lim a0 a1 a2 a3 a4 a5 a6 H | _ => none
abbrev RF8 := Nat → Value → Value → Value → Value → Value → Value → Value → Value → IHeap → RV
def w8 (g : RF8) : G := fun lim args H => match args with | [a0, a1, a2, a3, a4, a5, a6, a7] => g lim a0 a1 a2 a3 a4 a5 a6 a7 H | _ => none
abbrev RF9 := Nat → Value → Value → Value → Value → Value → Value → Value → Value → Value → IHeap → RV
def w9 (g : RF9) : G := fun lim args H => match args with | [a0, a1, a2, a3, a4, a5, a6, a7, a8] => g lim a0 a1 a2 a3 a4 a5 a6 a7 a8 H | _ => none
abbrev RF10 := Nat → Value → Value → Value → Value → Value → Value → Value → Value → Value → Value → IHeap → RV
def w10 (g : RF10) : G := fun lim args H => match args with | [a0, a1, a2, a3, a4, a5, a6, a7, a8, a9] => g lim a0 a1 a2 a3 a4 a5 a6 a7 a8 a9 H | _ => none
abbrev RF11 := Nat → Value → Value → Value → Value → Value → Value → Value → Value → Value → Value → Value → IHeap → RV
def w11 (g : RF11) : G := fun lim args H => match args with | [a0, a1, a2, a3, a4, a5, a6, a7, a8, a9, a10] => g lim a0 a1 a2 a3 a4 a5 a6 a7 a8 a9 a10 H | _ => none

/-- A call with plain numbers, on the empty heap. -/
theorem SimF.start {f : FuncId} {g : G} (h : SimF P f g) {args : List Value} {v : Value} {H' : IHeap} (hr : g 0 args ⟨0, .nil⟩ = some (v, H')) (ha : ∀ ρ : Ren, VRs ρ args args) (w : World) :
    Calls P f args.toArray w fun e w' => ∃ v' ρ', e = .returned v' ∧ VR ρ' v v' ∧ (∀ r, r < w.heap.size → w'.heap[r]? = w.heap[r]?) ∧ w.heap.size ≤ w'.heap.size ∧ w'.os = w.os ∧ w'.output = w.output := by
  refine (h.calls 0 args ⟨0, .nil⟩ v H' (fun _ => none) w args hr (Nat.le_refl _) ⟨fun b _ => rfl, fun b r x e => by simp at e, fun b r δ z o e => by simp at e, fun b1 b2 r x1 x2 o1 o2 e => by simp at e, fun b1 b2 r d1 d2 z1 z2 c1 c2 fl e => by simp at e⟩ (fun _ _ _ => rfl) (ha _)).mono ?_
  rintro e w' ⟨v', ρ', rfl, h1, h2, h3⟩
  exact ⟨v', ρ', rfl, h1, fun r hr => h3.kept r hr fun b x e => by simp at e, h3.size, h3.os, h3.output⟩
end Go.Ideal
/- The ideal machine, part Zo: what a call leaves, in the words of the claims. -/
namespace Go.Ideal

theorem keptBut_of {w w' : World} (h : ∀ r, r < w.heap.size → w'.heap[r]? = w.heap[r]?) (ho : w'.os = w.os) (hp : w'.output = w.output) (may : MemPlace → Prop) : w.keptBut w' may := by
  refine ⟨ho, hp, fun i hi => ?_⟩
  rw [h i hi]
  cases e : w.heap[i]? with
  | none => rfl
  | some o =>
    cases o <;> first | rfl | exact ⟨rfl, rfl, rfl, fun _ _ => rfl⟩ | exact .inr ⟨rfl, rfl⟩

/-- A call with plain numbers that answers true. -/
theorem SimF.true {P : Program} {f : FuncId} {g : G} (h : SimF P f g) {args : List Value} {H' : IHeap} (hr : g 0 args ⟨0, .nil⟩ = some (.bool true, H')) (ha : ∀ ρ : Ren, VRs ρ args args) (w : World) :
    Calls P f args.toArray w fun e w' => e = .returned (.bool true) ∧ ∀ may, w.keptBut w' may :=
  (h.start hr ha w).mono fun e w' ⟨v', ρ', e1, e2, e3, _, e4, e5⟩ => ⟨by rw [e1, bool_inv e2], keptBut_of e3 e4 e5⟩
end Go.Ideal
