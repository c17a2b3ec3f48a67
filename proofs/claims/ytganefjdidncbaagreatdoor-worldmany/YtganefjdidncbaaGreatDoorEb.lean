/- This text proves no statement of the seat: it is part 1 of the ideal machine, on which functions of the program are run, and of the proof that the model does what it does. No conditions. -/
import Derived.Test.YtganefjdidncbaaGreatDoorEa
import Derived.Calls
import Derived.Deep.LoopGhost
import Derived.MapKept
import Derived.Tactics
set_option linter.unusedVariables false
set_option linter.unusedSimpArgs false
/- The ideal machine, part Q: what is done with maps. -/
namespace Go.Ideal
variable {ρ : Ren} {H : IHeap} {w : World} {P : Program}

theorem mapTy_inv {t : TypeId} {ag : Nat} {z : Value} (h : mapTy P t = some (ag, z)) : ∃ kt et, P.underlying t = some (.map kt et) ∧ keyTy P kt = some ag ∧ tzero P et = some z ∧ ∀ ρ : Ren, VR ρ z z := by
  unfold mapTy at h
  split at h
  · rename_i kt et hu
    obtain ⟨a, ha, h⟩ := Option.bind_eq_some_iff.1 h
    obtain ⟨z0, hz, h⟩ := Option.bind_eq_some_iff.1 h
    simp at h; obtain ⟨rfl, rfl⟩ := h
    unfold zval at hz
    obtain ⟨zs, hzs, hz⟩ := Option.bind_eq_some_iff.1 hz
    obtain ⟨z1, q1, _, _, _, _, _, q7⟩ := zcells_sim hzs
    rw [hz] at q1; simp at q1; subst q1
    exact ⟨kt, et, hu, ha, hz, q7⟩
  · simp at h

theorem hmap_eq {ag r : Nat} {es : List Ent} {c : Nat} (h : hmap ag H r = some (es, c)) : H.get r = some (.map ag es c) := by
  unfold hmap at h
  obtain ⟨o, ho, h⟩ := Option.bind_eq_some_iff.1 h
  split at h
  · rename_i g es' c'
    cases hg : g == ag with
    | false => simp [hg] at h
    | true =>
      simp [hg] at h; simp only [beq_iff_eq] at hg; obtain ⟨rfl, rfl⟩ := h; subst hg; exact ho
  · simp at h

theorem hlit_eq {ag r : Nat} {es : List Ent} (h : hlit ag H r = some es) : (∃ c, H.get r = some (.map ag es c)) ∨ H.get r = some (.fmap ag es) := by
  unfold hlit at h
  obtain ⟨o, ho, h⟩ := Option.bind_eq_some_iff.1 h
  split at h
  · rename_i g es' c'
    cases hg : g == ag with
    | false => simp [hg] at h
    | true =>
      simp [hg] at h; simp only [beq_iff_eq] at hg; subst h; subst hg; exact .inl ⟨_, ho⟩
  · rename_i g es'
    cases hg : g == ag with
    | false => simp [hg] at h
    | true =>
      simp [hg] at h; simp only [beq_iff_eq] at hg; subst h; subst hg; exact .inr ho
  · simp at h

theorem VR.map_inv {b : Nat} {y : Value} (h : VR ρ (.map (some b)) y) : ∃ r, ρ b = some (r, 0, 0) ∧ y = .map (some r) := by
  cases h with | map e => exact ⟨_, e, rfl⟩

theorem run_getMap {r : Nat} {es : Array MapEntry} {clock : Nat} (hb : w.heap[r]? = some (.map es clock)) : (getObj r).run P w = .ok (.map es clock) w := by simp [getObj, Sem.run, hb]
theorem run_setMap {r : Nat} {es : Array MapEntry} {clock : Nat} (o : Obj) (hb : w.heap[r]? = some (.map es clock)) : (setObj r o).run P w = .ok () { w with heap := w.heap.setIfInBounds r o } := by simp [setObj, Sem.run, hb]

theorem ilookup_sim (hR : RelR ρ H w) {t : TypeId} {ag : Nat} {z : Value} (ht : mapTy P t = some (ag, z)) {ok : Bool} {m m' k k' v : Value} (h : ilookup ag z ok H m k = some v) (hm : VR ρ m m') (hk : VR ρ k k') :
    ∃ v', (Instr.lookup t m' k' ok).run P w = .ok v' w ∧ VR ρ v v' := by
  obtain ⟨kt, et, hu, hkt, hz, hzz⟩ := mapTy_inv ht
  unfold ilookup at h
  obtain ⟨es, hes, h⟩ := Option.bind_eq_some_iff.1 h
  obtain ⟨l, hl, h⟩ := Option.bind_eq_some_iff.1 h
  simp at h; subst h
  obtain ⟨rfl, hlen⟩ := ikey_sim hl hk
  -- the entries
  have fin : ∀ es, ∀ fs : Array MapEntry, ER ρ ag es fs.toList → (m' = .map none ∧ fs = #[] ∨ ∃ r c, m' = .map (some r) ∧ w.heap[r]? = some (.map fs c)) →
      ∃ v', (Instr.lookup t m' (mkKey ag l) ok).run P w = .ok v' w ∧ VR ρ (ilook ok z (ifind l es)) v' := by
    intro es fs hE hrun
    have hc := checkKey_sim (P := P) (w := w) hkt hlen fs.isEmpty
    rw [ifind_at l es 0]
    rcases findKey_sim (P := P) (w := w) hkt hlen hE with ⟨h1, h2⟩ | ⟨i, v, v', n, h1, h2, h3⟩
    · refine ⟨if ok then .tuple #[z, .bool false] else z, ?_, ?_⟩
      · rcases hrun with ⟨rfl, rfl⟩ | ⟨r, c, rfl, hw⟩
        · simp at hc h1
          simp [Instr.lookup, run_underlying hu, hc, h1, run_zero w hz]
        · simp [Instr.lookup, run_underlying hu, run_getMap hw, hc, h1, run_zero w hz]
      · rw [h2]
        cases ok
        · exact hzz ρ
        · exact .tuple (.cons (hzz ρ) (.cons (.bool _) .nil))
    · refine ⟨if ok then .tuple #[v', .bool true] else v', ?_, ?_⟩
      · rcases hrun with ⟨rfl, rfl⟩ | ⟨r, c, rfl, hw⟩
        · simp at hc h1
          simp [Instr.lookup, run_underlying hu, hc, h1]
        · simp [Instr.lookup, run_underlying hu, run_getMap hw, hc, h1]
      · rw [h2]
        cases ok
        · exact h3
        · exact .tuple (.cons h3 (.cons (.bool _) .nil))
  unfold ientries at hes
  split at hes
  · simp at hes; subst hes
    cases hm
    exact fin [] #[] .nil (.inl ⟨rfl, rfl⟩)
  · rename_i b
    obtain ⟨r, hb, rfl⟩ := hm.map_inv
    rcases hlit_eq hes with ⟨c, hg⟩ | hg
    · obtain ⟨fs, hw, hE⟩ := hR.map hb hg
      exact fin es fs hE (.inr ⟨r, _, rfl, hw⟩)
    · obtain ⟨fs, c, es', hw, hE, hf⟩ := hR.fmap hb hg
      have := fin es' fs hE (.inr ⟨r, c, rfl, hw⟩)
      have e : ilook ok z (ifind l es) = ilook ok z (ifind l es') := by
        have := hf l
        cases h1 : ifind l es' with
        | none => rw [h1] at this; cases h2 : ifind l es with
          | none => rfl
          | some x => rw [h2] at this; simp at this
        | some y => rw [h1] at this; cases h2 : ifind l es with
          | none => rw [h2] at this; simp at this
          | some x =>
            rw [h2] at this
            obtain ⟨x1, x2⟩ := x
            obtain ⟨y1, y2⟩ := y
            simp at this
            simp only [ilook, this]
      rw [e]; exact this
  · simp at hes

/-! ### Entries that turn -/
theorem at_shift (l : List Int) : ∀ (es : List Ent) (i j : Nat) (x : Value × Nat), at? l es (i + 1) = some (j, x) → ∃ j', j = j' + 1 ∧ at? l es i = some (j', x)
  | [], _, _, _, h => by simp [at?] at h
  | (k, v, n) :: r, i, j, x, h => by
    cases hk : k == l with
    | true => simp [at?, hk] at h ⊢; exact ⟨i, h.1.symm, rfl, h.2⟩
    | false => simp only [at?, hk, cond_false] at h ⊢; exact at_shift l r (i + 1) j x h

/-- The entry of a key. -/
theorem ER.at {ag : Nat} {l : List Int} {es : List Ent} {fs : List MapEntry} (h : ER ρ ag es fs) {i n : Nat} {v : Value} (e : at? l es 0 = some (i, v, n)) :
    ∃ v', fs[i]? = some ⟨mkKey ag l, v', n⟩ ∧ VR ρ v v' ∧ ∀ u u', VR ρ u u' → ER ρ ag (iupd l u es) (fs.modify i fun e => { e with key := mkKey ag l, val := u' }) := by
  induction h generalizing i with
  | nil => simp [at?] at e
  | @cons k v1 v1' n1 es fs hk hv hE ih =>
    cases hq : k == l with
    | true =>
      simp only [at?, hq, cond_true, Option.some.injEq, Prod.mk.injEq] at e
      obtain ⟨rfl, rfl, rfl⟩ := e
      have hq2 : k = l := by simpa using hq
      subst hq2
      refine ⟨v1', rfl, hv, fun u u' hu => ?_⟩
      simp only [iupd, beq_self_eq_true, cond_true, List.modify_zero_cons]
      exact .cons hk hu hE
    | false =>
      simp only [at?, hq, cond_false] at e
      obtain ⟨j, rfl, e2⟩ := at_shift _ _ _ _ _ e
      obtain ⟨v', h1, h2, h3⟩ := ih e2
      refine ⟨v', by simpa using h1, h2, fun u u' hu => ?_⟩
      simp only [iupd, hq, cond_false, List.modify_succ_cons]
      exact .cons hk hv (h3 u u' hu)

theorem modify_id {fs : List MapEntry} {i : Nat} {x : MapEntry} (h : fs[i]? = some x) : fs.modify i (fun e => { e with key := x.key }) = fs := by
  apply List.ext_getElem?
  intro j
  rw [List.getElem?_modify]
  by_cases hj : i = j
  · subst hj; simp [h]
  · simp [hj]

theorem ER.snoc {ag : Nat} {es : List Ent} {fs : List MapEntry} (h : ER ρ ag es fs) {l : List Int} (hl : l.length = keyLen ag) {v v' : Value} (hv : VR ρ v v') (n : Nat) : ER ρ ag (es ++ [(l, v, n)]) (fs ++ [⟨mkKey ag l, v', n⟩]) := by
  induction h with
  | nil => exact .cons hl hv .nil
  | cons a b _ ih => exact .cons a b ih

theorem ER.del {ag : Nat} {l : List Int} {es : List Ent} {fs : List MapEntry} (h : ER ρ ag es fs) {i n : Nat} {v : Value} (e : at? l es 0 = some (i, v, n)) : ER ρ ag (idel l es) (fs.eraseIdx i) := by
  induction h generalizing i with
  | nil => simp [at?] at e
  | @cons k v1 v1' n1 es fs hk hv hE ih =>
    cases hq : k == l with
    | true =>
      simp only [at?, hq, cond_true, Option.some.injEq, Prod.mk.injEq] at e
      obtain ⟨rfl, rfl, rfl⟩ := e
      simpa [idel, hq] using hE
    | false =>
      simp only [at?, hq, cond_false] at e
      obtain ⟨j, rfl, e2⟩ := at_shift _ _ _ _ _ e
      simp only [idel, hq, cond_false, List.eraseIdx_cons_succ]
      exact .cons hk hv (ih e2)
theorem del_none {l : List Int} : ∀ {es : List Ent} {i : Nat}, at? l es i = none → idel l es = es
  | [], _, _ => rfl
  | (k, v, n) :: r, i, h => by
    cases hq : k == l with
    | true => simp [at?, hq] at h
    | false => simp only [at?, hq, cond_false] at h; simp [idel, hq, del_none h]

theorem ER.stamp {ag : Nat} {es : List Ent} {fs : List MapEntry} (h : ER ρ ag es fs) {n : Int} {v v' : Value} (hv : VR ρ v v') {es' : List Ent} (e : istamp n v es = some es') :
    ∃ i, fs.findIdx? (fun e => (e.born : Int) == n) = some i ∧ ER ρ ag es' (fs.modify i fun e => { e with val := v' }) := by
  induction h generalizing es' with
  | nil => simp [istamp] at e
  | @cons k v1 v1' n1 es fs hk hv1 hE ih =>
    cases hq : (n1 : Int) == n with
    | true =>
      simp [istamp, hq] at e; subst e
      exact ⟨0, by simp [List.findIdx?_cons, hq], by simpa using ER.cons hk hv hE⟩
    | false =>
      simp only [istamp, hq, cond_false] at e
      obtain ⟨r, hr, e⟩ := Option.bind_eq_some_iff.1 e
      simp at e; subst e
      obtain ⟨i, h1, h2⟩ := ih hr
      exact ⟨i + 1, by simp [List.findIdx?_cons, hq, h1], by simpa using ER.cons hk hv1 h2⟩

theorem sameInts (m : Nat) : ∀ l : List Int, ((l.map (Value.int .i64)).zip (l.map (Value.int .i64))).all (fun (x, y) => Instr.sameBits m x y) = true
  | [] => rfl
  | a :: l => by simp [Instr.sameBits, sameInts m l]
theorem sameKey (ag : Nat) (l : List Int) : Instr.sameBits 10000 (mkKey ag l) (mkKey ag l) = true := by
  show Instr.sameBits (9999 + 1) _ _ = true
  generalize 9999 = d
  cases ag with
  | zero => simp [mkKey, Instr.sameBits]
  | succ n =>
    have := sameInts d l
    simp only [mkKey, Instr.sameBits, beq_self_eq_true, Bool.true_and]
    exact this
theorem run_stays (ag : Nat) (l : List Int) : (Instr.keyThatStays (mkKey ag l) (mkKey ag l)).run P w = .ok (mkKey ag l) w := by simp [Instr.keyThatStays, sameKey]

/-- A map is turned. -/
theorem mapset (hR : Rel ρ H w) {b r ag c : Nat} {es es' : List Ent} {fs fs' : Array MapEntry} {c' : Nat} (hb : ρ b = some (r, 0, 0)) (hg : H.get b = some (.map ag es c)) (hw : w.heap[r]? = some (.map fs c)) {lim : Nat} (hl : lim ≤ b) (hE : ER ρ ag es' fs'.toList) :
    Rel ρ (H.set b (.map ag es' c')) { w with heap := w.heap.setIfInBounds r (.map fs' c') } ∧ Ext lim H.next (H.set b (.map ag es' c')).next ρ ρ w { w with heap := w.heap.setIfInBounds r (.map fs' c') } :=
  ⟨hR.set hb hg rfl rfl (Turn.set hw) ⟨rfl, rfl, rfl, hE⟩ rfl, by simpa using Ext.set hb hl (hR.lt hg) (Turn.set hw)⟩

theorem imapUpdate_sim (hR : Rel ρ H w) {t : TypeId} {ag : Nat} {z : Value} (ht : mapTy P t = some (ag, z)) {lim : Nat} {m m' k k' v v' : Value} {H' : IHeap} (h : imapUpdate ag lim H m k v = some H') (hm : VR ρ m m') (hk : VR ρ k k') (hv : VR ρ v v') :
    ∃ w', (Instr.mapUpdate t m' k' v').run P w = .ok () w' ∧ Rel ρ H' w' ∧ Ext lim H.next H'.next ρ ρ w w' := by
  obtain ⟨kt, et, hu, hkt, hz, hzz⟩ := mapTy_inv ht
  unfold imapUpdate at h
  split at h
  · rename_i b
    obtain ⟨⟨es, c⟩, hes, h⟩ := Option.bind_eq_some_iff.1 h
    obtain ⟨l, hl, h⟩ := Option.bind_eq_some_iff.1 h
    obtain ⟨rfl, hlen⟩ := ikey_sim hl hk
    obtain ⟨r, hb, rfl⟩ := hm.map_inv
    have hg := hmap_eq hes
    obtain ⟨fs, hw, hE⟩ := hR.map hb hg
    have hc := checkKey_sim (P := P) (w := w) hkt hlen false
    cases hlim : decide (lim ≤ b) with
    | false => simp [hlim] at h
    | true =>
      simp [hlim] at h; simp only [decide_eq_true_eq] at hlim
      subst h
      rw [ifind_at l es 0]
      rcases findKey_sim (P := P) (w := w) hkt hlen hE with ⟨h1, h2⟩ | ⟨i, u, u', n, h1, h2, h3⟩
      · rw [h2]
        simp only [Option.map_none, iput]
        have hE' : ER ρ ag (es ++ [(l, v, c)]) (fs.push ⟨mkKey ag l, v', c⟩).toList := by rw [Array.toList_push]; exact hE.snoc hlen hv c
        refine ⟨_, ?_, mapset hR hb hg hw hlim hE'⟩
        unfold Instr.mapUpdate
        simp only [Sem.run_bind, run_underlying hu, Result.andThen_ok, run_getMap hw, hc, h1, run_setMap _ hw]
      · rw [h2]
        simp only [Option.map_some, iput]
        obtain ⟨q, k1, k2, k3⟩ := hE.at h2
        have hE' : ER ρ ag (iupd l v es) (fs.modify i fun e => { e with key := mkKey ag l, val := v' }).toList := by rw [Array.toList_modify]; exact k3 v v' hv
        have k1' : fs[i]? = some ⟨mkKey ag l, q, n⟩ := by rw [← Array.getElem?_toList]; exact k1
        refine ⟨_, ?_, mapset hR hb hg hw hlim hE'⟩
        unfold Instr.mapUpdate
        simp only [Sem.run_bind, run_underlying hu, Result.andThen_ok, run_getMap hw, hc, h1, k1', Option.map_some, Option.getD_some, run_stays, run_setMap _ hw]
  · simp at h

theorem imapEntry_sim (hR : Rel ρ H w) {t : TypeId} {ag : Nat} {z : Value} (ht : mapTy P t = some (ag, z)) {lim : Nat} {m m' k k' v : Value} {H' : IHeap} (h : imapEntry ag z lim H m k = some (v, H')) (hm : VR ρ m m') (hk : VR ρ k k') :
    ∃ v' w', (Instr.mapEntry t m' k').run P w = .ok v' w' ∧ VR ρ v v' ∧ Rel ρ H' w' ∧ Ext lim H.next H'.next ρ ρ w w' := by
  obtain ⟨kt, et, hu, hkt, hz, hzz⟩ := mapTy_inv ht
  unfold imapEntry at h
  split at h
  · rename_i b
    obtain ⟨⟨es, c⟩, hes, h⟩ := Option.bind_eq_some_iff.1 h
    obtain ⟨l, hl, h⟩ := Option.bind_eq_some_iff.1 h
    obtain ⟨rfl, hlen⟩ := ikey_sim hl hk
    obtain ⟨r, hb, rfl⟩ := hm.map_inv
    have hg := hmap_eq hes
    obtain ⟨fs, hw, hE⟩ := hR.map hb hg
    have hc := checkKey_sim (P := P) (w := w) hkt hlen false
    cases hlim : decide (lim ≤ b) with
    | false => simp [hlim] at h
    | true =>
      simp [hlim] at h; simp only [decide_eq_true_eq] at hlim
      obtain ⟨rfl, rfl⟩ := h
      rw [ifind_at l es 0]
      rcases findKey_sim (P := P) (w := w) hkt hlen hE with ⟨h1, h2⟩ | ⟨i, u, u', n, h1, h2, h3⟩
      · rw [h2]
        simp only [Option.map_none, iadd, ientry]
        have hE' : ER ρ ag (es ++ [(l, z, c)]) (fs.push ⟨mkKey ag l, z, c⟩).toList := by rw [Array.toList_push]; exact hE.snoc hlen (hzz ρ) c
        refine ⟨_, _, ?_, .tuple (.cons (hzz ρ) (.cons (.int _ _) .nil)), mapset hR hb hg hw hlim hE'⟩
        unfold Instr.mapEntry
        simp only [Sem.run_bind, run_underlying hu, Result.andThen_ok, run_getMap hw, hc, h1, run_zero w hz, run_setMap _ hw, Sem.run_pure, goInt]
      · rw [h2]
        simp only [Option.map_some, iadd, ientry]
        obtain ⟨q, k1, k2, k3⟩ := hE.at h2
        have k1' : fs[i]? = some ⟨mkKey ag l, q, n⟩ := by rw [← Array.getElem?_toList]; exact k1
        have hE' : ER ρ ag es (fs.modify i fun e => { e with key := mkKey ag l }).toList := by
          rw [Array.toList_modify, modify_id k1]; exact hE
        refine ⟨_, _, ?_, .tuple (.cons h3 (.cons (.int _ _) .nil)), mapset hR hb hg hw hlim hE'⟩
        unfold Instr.mapEntry
        simp only [Sem.run_bind, run_underlying hu, Result.andThen_ok, run_getMap hw, hc, h1, k1', Option.map_some, Option.getD_some, run_stays, run_setMap _ hw, Sem.run_pure, goInt]
  · simp at h

theorem ientryStore_sim (hR : Rel ρ H w) {t : TypeId} {lim : Nat} {m m' s s' v v' : Value} {H' : IHeap} (h : ientryStore lim H m s v = some H') (hm : VR ρ m m') (hs : VR ρ s s') (hv : VR ρ v v') :
    ∃ w', (Instr.entryStore t m' s' v').run P w = .ok () w' ∧ Rel ρ H' w' ∧ Ext lim H.next H'.next ρ ρ w w' := by
  unfold ientryStore at h
  split at h
  · rename_i b k n
    obtain ⟨o, hg, h⟩ := Option.bind_eq_some_iff.1 h
    split at h
    · rename_i ag es c
      cases hlim : decide (lim ≤ b) with
      | false => simp [hlim] at h
      | true =>
        simp only [hlim, cond_true] at h
        obtain ⟨es', hst, h⟩ := Option.bind_eq_some_iff.1 h
        simp at h; simp only [decide_eq_true_eq] at hlim; subst h
        rw [hs.int_inv]
        obtain ⟨r, hb, rfl⟩ := hm.map_inv
        obtain ⟨fs, hw, hE⟩ := hR.map hb hg
        obtain ⟨i, h1, h2⟩ := hE.stamp hv hst
        have h1' : fs.findIdx? (fun e => (e.born : Int) == n) = some i := by
          obtain ⟨fl⟩ := fs
          rw [← h1, List.findIdx?_toArray]
        have hE' : ER ρ ag es' (fs.modify i fun e => { e with val := v' }).toList := by rw [Array.toList_modify]; exact h2
        refine ⟨_, ?_, mapset hR hb hg hw hlim hE'⟩
        unfold Instr.entryStore
        simp only [Sem.run_bind, Result.andThen_ok, run_getMap hw, asInt, asIntOf, Sem.run_pure, h1', run_setMap _ hw]
    · simp at h
  · simp at h

theorem idelete_sim (hR : Rel ρ H w) {t u ty : TypeId} {ag : Nat} {z : Value} (ht : mapTy P t = some (ag, z)) {lim : Nat} {m m' k k' : Value} {H' : IHeap} (h : idelete ag lim H m k = some H') (hm : VR ρ m m') (hk : VR ρ k k') :
    ∃ w', (Builtin.delete_ #[t, u] ty #[m', k']).run P w = .ok (.tuple #[]) w' ∧ Rel ρ H' w' ∧ Ext lim H.next H'.next ρ ρ w w' := by
  obtain ⟨kt, et, hu, hkt, hz, hzz⟩ := mapTy_inv ht
  unfold idelete at h
  split at h
  · rename_i b
    obtain ⟨⟨es, c⟩, hes, h⟩ := Option.bind_eq_some_iff.1 h
    obtain ⟨l, hl, h⟩ := Option.bind_eq_some_iff.1 h
    obtain ⟨rfl, hlen⟩ := ikey_sim hl hk
    obtain ⟨r, hb, rfl⟩ := hm.map_inv
    have hg := hmap_eq hes
    obtain ⟨fs, hw, hE⟩ := hR.map hb hg
    have hc := checkKey_sim (P := P) (w := w) hkt hlen fs.isEmpty
    cases hlim : decide (lim ≤ b) with
    | false => simp [hlim] at h
    | true =>
      simp [hlim] at h; simp only [decide_eq_true_eq] at hlim
      subst h
      rcases findKey_sim (P := P) (w := w) hkt hlen hE with ⟨h1, h2⟩ | ⟨i, v, v', n, h1, h2, h3⟩
      · rw [del_none h2]
        refine ⟨_, ?_, mapset hR hb hg hw hlim hE⟩
        unfold Builtin.delete_
        simp [run_underlying hu, run_getMap hw, hc, h1, run_setMap _ hw]
      · have hE' : ER ρ ag (idel l es) (fs.eraseIdxIfInBounds i).toList := by rw [Array.toList_eraseIdxIfInBounds]; exact hE.del h2
        refine ⟨_, ?_, mapset hR hb hg hw hlim hE'⟩
        unfold Builtin.delete_
        simp [run_underlying hu, run_getMap hw, hc, h1, run_setMap _ hw]
  · simp at h

theorem imakeMap_sim (hR : Rel ρ H w) (hn : ρ H.next = none) {t : TypeId} (lim ag : Nat) :
    ∃ ρ' v' w', (Instr.makeMap t none).run P w = .ok v' w' ∧ VR ρ' (.map (some H.next)) v' ∧ Rel ρ' (H.push (.map ag [] 0)) w' ∧ Ext lim H.next (H.push (.map ag [] 0)).next ρ ρ' w w' := by
  refine ⟨ρ.add H.next w.heap.size 0 0, .map (some w.heap.size), w.alloc (.map #[] 0), by simp [Instr.makeMap], .map Ren.add_self, hR.push hn (Turn.alloc _ _) ⟨rfl, rfl, rfl, .nil⟩, by simpa using Ext.push hn (Turn.alloc _ _)⟩
end Go.Ideal
/- The ideal machine, part R: what is built. -/
namespace Go.Ideal
variable {ρ : Ren} {H : IHeap} {w : World} {P : Program}

theorem foldl_set (off : Nat) : ∀ (l : List Value) (k : Nat) (c : Array Value), off + k + l.length ≤ c.size →
    (l.zipIdx k).foldl (fun cs (x : Value × Nat) => cs.setIfInBounds (off + x.2) x.1) c = splice c (off + k) l
  | [], k, c, h => by simp [splice]
  | v :: l, k, c, h => by
    simp only [List.length_cons] at h
    rw [List.zipIdx_cons, List.foldl_cons, foldl_set off l (k + 1) _ (by simp; omega)]
    apply Array.ext_getElem?
    intro i
    rw [splice_get _ _ _ (by simp; omega), splice_get _ _ _ (by simp; omega), Array.getElem?_setIfInBounds]
    simp only [List.length_cons]
    by_cases h1 : i < off + k
    · rw [if_pos (by omega), if_neg (by omega), if_pos h1]
    · by_cases h2 : i = off + k
      · subst h2
        rw [if_pos (by omega), if_pos rfl, if_pos (by omega), if_neg (by omega), if_pos (by omega)]
        simp
      · rw [if_neg (by omega), if_neg h1]
        by_cases h3 : i < off + (k + 1) + l.length
        · rw [if_pos h3, if_pos (by omega)]
          rw [show i - (off + k) = (i - (off + (k + 1))) + 1 by omega, List.getElem?_cons_succ]
        · rw [if_neg h3, if_neg (by omega), if_neg (by omega)]

/-- Parts that stand to each other. -/
inductive PR (ρ : Ren) : List (Nat × Value) → List (Nat × Value) → Prop
  | nil : PR ρ [] []
  | cons {i : Nat} {v v' : Value} {l m : List (Nat × Value)} : VR ρ v v' → PR ρ l m → PR ρ ((i, v) :: l) ((i, v') :: m)

theorem fill_sim (pl : Nat → Option (Nat × Nat × Bool)) (place : Nat → Option (Nat × Nat)) (hp : ∀ i o s g, pl i = some (o, s, g) → place i = some (o, s)) :
    ∀ {parts parts' : List (Nat × Value)}, PR ρ parts parts' → ∀ {cs cs' : List Value} {c : Array Value}, VRs ρ cs c.toList → (∀ v ∈ cs, v.oneCell = true) → ifillK pl cs parts some = some cs' →
      ∃ c', Instr.fill place c parts' = some c' ∧ VRs ρ cs' c'.toList ∧ (∀ v ∈ cs', v.oneCell = true) ∧ c'.size = c.size := by
  intro parts parts' hP
  induction hP with
  | nil =>
    intro cs cs' c hv h1 h
    simp [ifillK] at h; subst h
    exact ⟨c, rfl, hv, h1, rfl⟩
  | @cons i v v' l m hv' _ ih =>
    intro cs cs' c hv h1 h
    simp only [ifillK] at h
    obtain ⟨⟨o, s, g⟩, hpl, h⟩ := Option.bind_eq_some_iff.1 h
    simp only at h
    obtain ⟨cs1, hst, h⟩ := Option.bind_eq_some_iff.1 h
    obtain ⟨k1, k2, k3, l', k4, k5, k6, rfl⟩ := istore_sim hst hv'
    have hlen : c.size = cs.length := by rw [← Array.length_toList, ← hv.length]
    have hll : v'.cells.toList.length = s := by rw [Array.length_toList, k1]
    have hb : o + v'.cells.toList.length ≤ c.size := by omega
    have step : (v'.cells.zipIdx.foldl (fun cs (x : Value × Nat) => cs.setIfInBounds (o + x.2) x.1) c) = splice c o v'.cells.toList := by
      rw [← Array.foldl_toList, Array.toList_zipIdx]
      exact foldl_set o _ 0 c (by omega)
    have hv2 : VRs ρ (cs.take o ++ l' ++ cs.drop (o + s)) (splice c o v'.cells.toList).toList := by
      simp only [splice, hll]
      exact ((hv.take o).append k4).append (hv.drop (o + s))
    have h2 : ∀ v ∈ cs.take o ++ l' ++ cs.drop (o + s), v.oneCell = true := by
      intro v hv
      simp only [List.mem_append] at hv
      rcases hv with (hv | hv) | hv
      · exact h1 v (List.mem_of_mem_take hv)
      · exact k5 v hv
      · exact h1 v (List.mem_of_mem_drop hv)
    obtain ⟨c', e1, e2, e3, e4⟩ := ih hv2 h2 h
    refine ⟨c', ?_, e2, e3, by rw [e4, splice_size c o _ hb]⟩
    rw [Instr.fill, hp i o s g hpl]
    simp only
    rw [if_neg (by simp [k1]; omega)]
    exact (congrArg (fun c => Instr.fill place c m) step).trans e1

/-- The places of a type's parts. -/
theorem iplaces_sim {t : TypeId} {pl : Nat → Option (Nat × Nat × Bool)} (h : iplaces P t = some pl) {z : Value} (hz : tzero P t = some z) {zs : List Value} (hzs : z.cells.toList = zs) (hv : VRs ρ zs zs) (h1 : ∀ v ∈ zs, v.oneCell = true)
    {parts parts' : List (Nat × Value)} (hP : PR ρ parts parts') {cs : List Value} (hf : ifillK pl zs parts some = some cs) :
    ∃ v', (Instr.build t parts'.toArray).run P w = .ok v' w ∧ VR ρ (.agg ⟨cs⟩) v' := by
  unfold iplaces at h
  split at h
  · rename_i fields hu
    cases ha : fields.toList.all (fun f => okT P f.type) with
    | false => simp [ha] at h
    | true =>
      simp only [ha, cond_true, Option.some.injEq] at h
      subst h
      have hm : (fields.mapM fun f => (do pure (f.offset, ← sizeOf f.type) : Sem (Nat × Nat))).run P w = .ok (fields.map fun f => (f.offset, tsz P f.type)) w := by
        rw [← Array.toArray_toList (xs := fields)]
        generalize fields.toList = l at ha
        rw [List.mapM_toArray]
        have : (l.mapM fun f => (do pure (f.offset, ← sizeOf f.type) : Sem (Nat × Nat))).run P w = .ok (l.map fun f => (f.offset, tsz P f.type)) w := by
          induction l with
          | nil => simp
          | cons f l ih =>
            simp only [List.all_cons, Bool.and_eq_true] at ha
            have ih := ih ha.2
            simp only [List.mapM_cons, Sem.run_bind, run_size w ha.1, Result.andThen_ok, Sem.run_pure, ih, List.map_cons]
        rw [map_eq_pure_bind, Sem.run_bind, this]
        simp
      obtain ⟨c', e1, e2, e3, _⟩ := fill_sim (ρ := ρ) _ (fun i => (fields.map fun f => (f.offset, tsz P f.type))[i]?) (by
        intro i o s g hi
        simp only [Option.map_eq_some_iff] at hi
        obtain ⟨f, hf, hi⟩ := hi
        simp at hi
        obtain ⟨rfl, rfl, rfl⟩ := hi
        simp [hf]) hP (c := z.cells) (by rw [hzs]; exact hv) h1 hf
      refine ⟨.agg c', ?_, ?_⟩
      · unfold Instr.build
        simp only [Sem.run_bind, run_zero w hz, Result.andThen_ok, run_underlying hu]
        erw [hm]
        simp only [Result.andThen_ok]
        erw [e1]
        simp
      · obtain ⟨c'⟩ := c'; exact .agg e2 e3
  · rename_i n e hu
    cases ho : okT P e with
    | false => simp [ho] at h
    | true =>
      simp [ho] at h
      subst h
      obtain ⟨c', e1, e2, e3, _⟩ := fill_sim (ρ := ρ) _ (fun i => some (i * tsz P e, tsz P e)) (by
        intro i o s g hi
        simp at hi
        obtain ⟨rfl, rfl, rfl⟩ := hi
        rfl) hP (c := z.cells) (by rw [hzs]; exact hv) h1 hf
      refine ⟨.agg c', ?_, ?_⟩
      · unfold Instr.build
        simp only [Sem.run_bind, run_zero w hz, Result.andThen_ok, run_underlying hu, run_size w ho]
        erw [e1]
        simp
      · obtain ⟨c'⟩ := c'; exact .agg e2 e3
  · simp at h

/-- A list that is built: its cells, laid in a new row. -/
theorem buildSlice_sim {t e : TypeId} (ht : P.underlying t = some (.slice e)) {zs : List Value} (hz : zcells P e = some zs) {len : Nat} (hl : len * tsz P e ≤ 16777216)
    {parts parts' : List (Nat × Value)} (hP : PR ρ parts parts') {cs : List Value} (hf : ifillK (fun i => some (i * tsz P e, tsz P e, tag P e)) (List.replicate len zs).flatten parts some = some cs) :
    ∃ c', (Instr.buildSlice t len parts'.toArray).run P w = .ok (.slice (some ⟨w.heap.size, 0, none⟩) len len) (w.alloc (.cells c' e)) ∧ VRs ρ cs c'.toList ∧ (∀ v ∈ cs, v.oneCell = true) ∧ c'.size = len * tsz P e := by
  obtain ⟨z, z1, z2, z3, z4, z5, z6, z7⟩ := zcells_sim hz
  have hsz : z.cells.size = tsz P e := by rw [← Array.length_toList, z2, z4]
  have hzero : ∃ zc : Array Value, ((len * tsz P e = 0 ∧ zc = #[]) ∨ (len * tsz P e ≠ 0 ∧ zc = z.cells)) ∧ ((Array.range (len * tsz P e)).map (zc[· % zc.size]!)).toList = (List.replicate len zs).flatten := by
    by_cases h0 : len * tsz P e = 0
    · refine ⟨#[], .inl ⟨h0, rfl⟩, ?_⟩
      have : (List.replicate len zs).flatten = [] := List.eq_nil_of_length_eq_zero (by rw [flatten_rep, z4, h0])
      rw [this, h0, map_range_zero]
    · refine ⟨z.cells, .inr ⟨h0, rfl⟩, ?_⟩
      rw [← hsz, rep_range, z2]
  obtain ⟨zc, q1, q2⟩ := hzero
  obtain ⟨c', e1, e2, e3, e4⟩ := fill_sim (ρ := ρ) _ (fun i => some (i * tsz P e, tsz P e)) (by
    intro i o s g hi
    simp at hi
    obtain ⟨rfl, rfl, rfl⟩ := hi
    rfl) hP (c := (Array.range (len * tsz P e)).map (zc[· % zc.size]!)) (by rw [q2]; exact (z6 ρ).rep len) (by
      intro v hv
      simp only [List.mem_flatten, List.mem_replicate] at hv
      obtain ⟨l, ⟨_, rfl⟩, hv⟩ := hv
      exact z3 v hv) hf
  refine ⟨c', ?_, e2, e3, by rw [e4]; simp⟩
  unfold Instr.buildSlice
  simp only [Sem.run_bind, run_underlying ht, Result.andThen_ok, run_size w z5]
  rw [if_neg (by omega)]
  rcases q1 with ⟨h0, rfl⟩ | ⟨h0, rfl⟩
  · rw [if_pos h0]
    simp only [Sem.run_bind, Sem.run_pure, Result.andThen_ok]
    erw [e1]
    simp [newRow]
  · rw [if_neg h0]
    simp only [Sem.run_bind, Sem.run_pure, Result.andThen_ok, run_zero w z1]
    erw [e1]
    simp [newRow]
end Go.Ideal
/- The ideal machine, part S: one operation that changes nothing that others read. -/
namespace Go.Ideal
variable {ρ : Ren} {μ : Lam} {H : IHeap} {w : World} {P : Program} {A : IA} {a : Act}

theorem evd_eq {x : Operand} {v : Value} (h : A.evd x = some v) : A.ev x = .v v := by
  unfold IA.evd TV.data at h
  split at h
  · rename_i y e; simp at h; subst h; exact e
  · simp at h

/-- What the operation's operands stand for. -/
structure OpIn (ρ : Ren) (μ : Lam) (A : IA) (a : Act) (w : World) (op : Op) : Prop where
  tr : ∀ x ∈ op.operands, TR ρ μ (A.ev x) (a.eval x)
  lp : ∀ x ∈ op.operands, ∀ u o, A.ev x = .lp u o → ∀ cs, A.loc u = some cs → ∃ r, μ u = some r ∧ LocR ρ cs w r
  ls : ∀ x ∈ op.operands, ∀ u n, A.ev x = .ls u n → ∀ cs, A.loc u = some cs → ∃ r, μ u = some r ∧ LocR ρ cs w r

theorem OpIn.vr {op : Op} (h : OpIn ρ μ A a w op) {x : Operand} (hx : x ∈ op.operands) {v : Value} (e : A.evd x = some v) : VR ρ v (a.eval x) := by
  have := h.tr x hx
  rw [evd_eq e] at this
  exact this

theorem evs_sim {l : List Operand} : ∀ {vs : List Value}, evs A l = some vs → (∀ x ∈ l, TR ρ μ (A.ev x) (a.eval x)) → VRs ρ vs (l.map a.eval) := by
  induction l with
  | nil => intro vs h _; simp [evs] at h; subst h; exact .nil
  | cons x l ih =>
    intro vs h k
    simp only [evs] at h
    obtain ⟨v, hv, h⟩ := Option.bind_eq_some_iff.1 h
    obtain ⟨vs', hvs, h⟩ := Option.bind_eq_some_iff.1 h
    simp at h; subst h
    have := k x (by simp)
    rw [evd_eq hv] at this
    exact .cons this (ih hvs fun y hy => k y (by simp [hy]))

theorem evParts_sim {l : List (Nat × Operand)} : ∀ {vs : List (Nat × Value)}, evParts A l = some vs → (∀ x ∈ l.map (·.2), TR ρ μ (A.ev x) (a.eval x)) → PR ρ vs (l.map fun (i, x) => (i, a.eval x)) := by
  induction l with
  | nil => intro vs h _; simp [evParts] at h; subst h; exact .nil
  | cons x l ih =>
    intro vs h k
    obtain ⟨i, x⟩ := x
    simp only [evParts] at h
    obtain ⟨v, hv, h⟩ := Option.bind_eq_some_iff.1 h
    obtain ⟨vs', hvs, h⟩ := Option.bind_eq_some_iff.1 h
    simp at h; subst h
    have := k x (by simp)
    rw [evd_eq hv] at this
    exact .cons this (ih hvs fun y hy => k y (by simp at hy ⊢; exact .inr hy))

theorem evOpt_sim {x : Option Operand} {v : Option Value} (h : evOpt A x = some v) (k : ∀ y, x = some y → TR ρ μ (A.ev y) (a.eval y)) : VRo ρ v (x.map a.eval) := by
  cases x with
  | none => simp [evOpt] at h; subst h; trivial
  | some x =>
    simp only [evOpt] at h
    obtain ⟨u, hu, h⟩ := Option.bind_eq_some_iff.1 h
    simp at h; subst h
    have := k x rfl
    rw [evd_eq hu] at this
    exact this

theorem exec_v {s : Sem Value} {y : Value} {w w' : World} (h : s.run P w = .ok y w') : ((do pure (.value (← s))) : Sem Next).run P w = .ok (.value y) w' := by simp [h]
theorem exec_u {s : Sem Unit} {w w' : World} (h : s.run P w = .ok () w') : ((do s; pure .skip) : Sem Next).run P w = .ok .skip w' := by simp [h]

/-- Does the operation read the heap? -/
def opReads (A : IA) : Op → Bool
  | .load _ x => match A.ev x with | .v _ => true | _ => false
  | .lookup _ _ _ _ => true
  | .call c => match c.callee with | .builtin .len => true | _ => false
  | _ => false

theorem kv_tv {o : Option Value} {x : TV} (h : kv o some = some (.tv x)) : ∃ v, o = some v ∧ x = .v v := by
  obtain ⟨v, hv, h⟩ := Option.bind_eq_some_iff.1 h
  simp at h; exact ⟨v, hv, h.symm⟩
theorem kh_tv {o : Option IHeap} {x : TV} (h : kh o some = some (.tv x)) : False := by
  obtain ⟨v, hv, h⟩ := Option.bind_eq_some_iff.1 h
  simp at h
theorem kvh_tv {o : Option (Value × IHeap)} {x : TV} (h : kvh o some = some (.tv x)) : False := by
  obtain ⟨v, hv, h⟩ := Option.bind_eq_some_iff.1 h
  simp at h
theorem inew_tv {pr : Prm} {d : Option Tmp} {cs : List Value} {x : TV} (h : inew pr H d cs some = some (.tv x)) : False := by
  unfold inew at h; split at h <;> simp at h

theorem pickK_sim {t x y v t' x' y' : Value} (h : pickK t x y = some v) (h1 : VR ρ t t') (h2 : VR ρ x x') (h3 : VR ρ y y') : ∃ b, t' = .bool b ∧ VR ρ v (if b = true then x' else y') := by
  cases t <;> simp [pickK] at h
  rename_i b
  subst h
  cases h1
  refine ⟨b, rfl, ?_⟩
  cases b
  · exact h3
  · exact h2

theorem iop_tv {pr : Prm} {lim : Nat} {o : Oper} {x : TV} (h : iopK P pr lim A H o.dst o.op some = some (.tv x)) (hin : OpIn ρ μ A a w o.op) (hR : opReads A o.op = true → RelR ρ H w) :
    ∃ y, (execOp a.eval o).run P w = .ok (.value y) w ∧ TR ρ μ x y := by
  unfold iopK at h
  split at h
  · -- move
    rename_i y hop
    simp at h; subst h
    rw [hop] at hin
    exact ⟨a.eval y, by simp [execOp, hop], hin.tr y (by simp [Op.operands])⟩
  · rename_i y hop
    simp at h; subst h
    rw [hop] at hin
    exact ⟨a.eval y, by simp [execOp, hop], hin.tr y (by simp [Op.operands])⟩
  · -- pick
    rename_i c b e hop
    rw [hop] at hin
    obtain ⟨t, ht, h⟩ := Option.bind_eq_some_iff.1 h
    obtain ⟨u, hu, h⟩ := Option.bind_eq_some_iff.1 h
    obtain ⟨v, hv, h⟩ := Option.bind_eq_some_iff.1 h
    obtain ⟨r, hr, rfl⟩ := kv_tv h
    have h1 := hin.vr (by simp [Op.operands]) ht
    have h2 := hin.vr (by simp [Op.operands]) hu
    have h3 := hin.vr (by simp [Op.operands]) hv
    obtain ⟨q, hc, h4⟩ := pickK_sim hr h1 h2 h3
    exact ⟨_, by simp [execOp, hop, hc, asBool], h4⟩
  · -- alloc
    obtain ⟨cs, _, h⟩ := Option.bind_eq_some_iff.1 h
    exact (inew_tv h).elim
  · obtain ⟨v, _, h⟩ := Option.bind_eq_some_iff.1 h
    obtain ⟨cs, _, h⟩ := Option.bind_eq_some_iff.1 h
    exact (inew_tv h).elim
  · -- build
    rename_i t parts hop
    rw [hop] at hin
    obtain ⟨l, hl, h⟩ := Option.bind_eq_some_iff.1 h
    obtain ⟨pl, hpl, h⟩ := Option.bind_eq_some_iff.1 h
    obtain ⟨zs, hzs, h⟩ := Option.bind_eq_some_iff.1 h
    rw [ifillK_bind] at h
    obtain ⟨cs, hcs, h⟩ := Option.bind_eq_some_iff.1 h
    simp at h; subst h
    obtain ⟨z, z1, z2, z3, z4, z5, z6, z7⟩ := zcells_sim hzs
    have hP := evParts_sim (ρ := ρ) (a := a) hl (fun x hx => hin.tr x (by simp only [Op.operands, List.mem_toArray]; exact hx))
    obtain ⟨v', e1, e2⟩ := iplaces_sim (w := w) hpl z1 z2 (z6 ρ) z3 hP hcs
    refine ⟨v', ?_, e2⟩
    have e3 : (parts.map fun (i, x) => (i, a.eval x)) = (parts.toList.map fun (i, x) => (i, a.eval x)).toArray := Array.ext' (by rw [Array.toList_map])
    simp only [execOp, hop, e3]
    exact exec_v e1
  · -- buildSlice
    rename_i t len parts hop
    obtain ⟨e, _, h⟩ := Option.bind_eq_some_iff.1 h
    obtain ⟨zs, _, h⟩ := Option.bind_eq_some_iff.1 h
    obtain ⟨l, _, h⟩ := Option.bind_eq_some_iff.1 h
    cases hd : !decide (len * tsz P e ≤ 16777216) with
    | true => simp [hd] at h
    | false =>
      simp only [hd, cond_false] at h
      rw [ifillK_bind] at h
      obtain ⟨cs, hcs, h⟩ := Option.bind_eq_some_iff.1 h
      split at h <;> simp at h
  · -- load
    rename_i t y hop
    rw [hop] at hin hR
    unfold iloadK at h
    cases hk : okT P t with
    | false => simp [hk] at h
    | true =>
      simp only [hk, Bool.not_true, cond_false] at h
      split at h
      · rename_i v e
        obtain ⟨r, hr, rfl⟩ := kv_tv h
        have hv := hin.tr y (by simp [Op.operands])
        rw [e] at hv
        obtain ⟨v', e1, e2⟩ := hload_sim (hR (by simp [opReads, e])) hk hr hv
        exact ⟨v', by simp only [execOp, hop]; exact exec_v e1, e2⟩
      · rename_i u off e
        obtain ⟨cs, hcs, h⟩ := Option.bind_eq_some_iff.1 h
        obtain ⟨r, hr, rfl⟩ := kv_tv h
        have hv := hin.tr y (by simp [Op.operands])
        rw [e] at hv
        obtain ⟨r', hμ, hy⟩ := hv
        obtain ⟨r2, hμ2, hL⟩ := hin.lp y (by simp [Op.operands]) u off e cs hcs
        rw [hμ] at hμ2; simp at hμ2; subst hμ2
        obtain ⟨c, tt, hw, hvs, h1⟩ := hL
        have hs : Seg ρ cs c 0 := ⟨fun i v hi => by obtain ⟨v', e', q⟩ := hvs.get hi; exact ⟨v', by simpa using e', q⟩, h1⟩
        obtain ⟨v', e1, e2⟩ := iload_sim hw hs hk hr
        refine ⟨v', ?_, e2⟩
        simp only [execOp, hop, hy]
        exact exec_v (by simpa [Instr.loadAt, Instr.sureAddr] using e1)
      · simp at h
  · -- store
    rename_i t y x' hop
    obtain ⟨v, _, h⟩ := Option.bind_eq_some_iff.1 h
    unfold istoreK at h
    cases hk : okT P t with
    | false => simp [hk] at h
    | true =>
      simp only [hk, Bool.not_true, cond_false] at h
      split at h
      · exact (kh_tv h).elim
      · obtain ⟨_, _, h⟩ := Option.bind_eq_some_iff.1 h
        obtain ⟨_, _, h⟩ := Option.bind_eq_some_iff.1 h
        simp at h
      · simp at h
  · -- nilCheck
    rename_i y hop
    rw [hop] at hin
    split at h
    · rename_i v e
      obtain ⟨r, hr, rfl⟩ := kv_tv h
      have hv := hin.tr y (by simp [Op.operands])
      rw [e] at hv
      obtain ⟨e1, e2⟩ := inilc_sim (w := w) hr hv a o y hop rfl
      exact ⟨_, e1, e2⟩
    · rename_i u off e
      simp at h; subst h
      have hv := hin.tr y (by simp [Op.operands])
      rw [e] at hv
      obtain ⟨r', hμ, hy⟩ := hv
      refine ⟨a.eval y, ?_, r', hμ, hy⟩
      simp only [execOp, hop, hy]
      simp
    · simp at h
  · -- binOp
    rename_i op t y z yt hop
    rw [hop] at hin
    obtain ⟨u, hu, h⟩ := Option.bind_eq_some_iff.1 h
    obtain ⟨v, hv, h⟩ := Option.bind_eq_some_iff.1 h
    obtain ⟨r, hr, rfl⟩ := kv_tv h
    obtain ⟨e1, e2⟩ := ibin_sim (w := w) hr (hin.vr (by simp [Op.operands]) hu) (hin.vr (by simp [Op.operands]) hv) y z
    exact ⟨r, by simp only [execOp, hop]; exact exec_v e1, e2⟩
  · -- unOp
    rename_i op t y hop
    rw [hop] at hin
    obtain ⟨u, hu, h⟩ := Option.bind_eq_some_iff.1 h
    obtain ⟨r, hr, rfl⟩ := kv_tv h
    obtain ⟨e1, e2⟩ := iun_sim (P := P) (w := w) hr (hin.vr (by simp [Op.operands]) hu)
    exact ⟨r, by simp only [execOp, hop]; exact exec_v e1, e2⟩
  · -- convert
    rename_i s t y hop
    rw [hop] at hin
    split at h
    · rename_i ik ht
      cases hk : okT P s with
      | false => simp [hk] at h
      | true =>
        simp only [hk, Bool.not_true, cond_false] at h
        obtain ⟨u, hu, h⟩ := Option.bind_eq_some_iff.1 h
        obtain ⟨r, hr, rfl⟩ := kv_tv h
        obtain ⟨e1, e2⟩ := iconv_sim (w := w) ht hk hr (hin.vr (by simp [Op.operands]) hu)
        exact ⟨r, by simp only [execOp, hop]; exact exec_v e1, e2⟩
    · simp at h
  · -- makeFunc
    rename_i fn first cap hop
    rw [hop] at hin
    obtain ⟨f, hf, h⟩ := Option.bind_eq_some_iff.1 h
    obtain ⟨c, hc, h⟩ := Option.bind_eq_some_iff.1 h
    simp at h; subst h
    have e1 := evs_sim (ρ := ρ) (a := a) hf (fun x hx => hin.tr x (by simp [Op.operands]; exact .inl (by simpa using hx)))
    have e2 := evs_sim (ρ := ρ) (a := a) hc (fun x hx => hin.tr x (by simp [Op.operands]; exact .inr (by simpa using hx)))
    refine ⟨.func fn (first.map a.eval) (cap.map a.eval), by simp [execOp, hop, Instr.makeFunc], ?_⟩
    have e3 : first.map a.eval = ⟨first.toList.map a.eval⟩ := Array.ext' (by rw [Array.toList_map])
    have e4 : cap.map a.eval = ⟨cap.toList.map a.eval⟩ := Array.ext' (by rw [Array.toList_map])
    rw [e3, e4]
    exact .func e1 e2
  · -- makeMap
    obtain ⟨⟨ag, z⟩, _, h⟩ := Option.bind_eq_some_iff.1 h
    simp at h
  · -- makeSlice
    obtain ⟨_, _, h⟩ := Option.bind_eq_some_iff.1 h
    obtain ⟨_, _, h⟩ := Option.bind_eq_some_iff.1 h
    obtain ⟨_, _, h⟩ := Option.bind_eq_some_iff.1 h
    obtain ⟨_, _, h⟩ := Option.bind_eq_some_iff.1 h
    exact (kvh_tv h).elim
  · -- slice
    rename_i t y lo hi mx hop
    rw [hop] at hin
    obtain ⟨v, hv, h⟩ := Option.bind_eq_some_iff.1 h
    obtain ⟨l, hl, h⟩ := Option.bind_eq_some_iff.1 h
    obtain ⟨h', hh, h⟩ := Option.bind_eq_some_iff.1 h
    obtain ⟨m, hm, h⟩ := Option.bind_eq_some_iff.1 h
    have q1 := hin.vr (by simp [Op.operands]) hv
    have q2 := evOpt_sim (ρ := ρ) (a := a) hl (fun x hx => hin.tr x (by simp [Op.operands, hx]))
    have q3 := evOpt_sim (ρ := ρ) (a := a) hh (fun x hx => hin.tr x (by simp [Op.operands, hx]))
    have q4 := evOpt_sim (ρ := ρ) (a := a) hm (fun x hx => hin.tr x (by simp [Op.operands, hx]))
    split at h
    · rename_i _ _ e ht
      cases hk : okT P e with
      | false => simp [hk] at h
      | true =>
        simp only [hk, Bool.not_true, cond_false] at h
        obtain ⟨r, hr, rfl⟩ := kv_tv h
        obtain ⟨v', e1, e2⟩ := isliceS_sim (w := w) ht hk hr q1 q2 q3 q4
        exact ⟨v', by simp only [execOp, hop]; exact exec_v e1, e2⟩
    · rename_i ht
      obtain ⟨r, hr, rfl⟩ := kv_tv h
      cases mx with
      | some x =>
        simp only [evOpt] at hm
        obtain ⟨_, _, hm⟩ := Option.bind_eq_some_iff.1 hm
        simp at hm
      | none =>
        obtain ⟨e1, e2⟩ := isliceT_sim (w := w) ht hr q1 q2 q3
        exact ⟨_, by simp only [execOp, hop]; exact exec_v e1, e2⟩
    · simp at h
  · -- fieldAddr
    rename_i t y f hop
    rw [hop] at hin
    split at h
    · rename_i fields ht
      obtain ⟨g, hg, h⟩ := Option.bind_eq_some_iff.1 h
      cases hz : tsz P g.type == 0 with
      | true => simp [hz] at h
      | false =>
        simp only [hz, cond_false] at h
        unfold iaddK at h
        split at h
        · rename_i v e
          obtain ⟨r, hr, rfl⟩ := kv_tv h
          have hv := hin.tr y (by simp [Op.operands])
          rw [e] at hv
          obtain ⟨ad, ea, q⟩ := paddr_sim hr hv
          refine ⟨_, ?_, q⟩
          simp only [execOp, hop, ea]
          exact exec_v (run_fieldAt ht hg hz ad)
        · rename_i u off e
          simp at h; subst h
          have hv := hin.tr y (by simp [Op.operands])
          rw [e] at hv
          obtain ⟨r', hμ, hy⟩ := hv
          refine ⟨_, ?_, r', hμ, rfl⟩
          simp only [execOp, hop, hy]
          exact exec_v (by rw [run_fieldAt ht hg hz, add_plain])
        · simp at h
    · simp at h
  · -- field
    rename_i t y f hop
    rw [hop] at hin
    split at h
    · rename_i fields ht
      obtain ⟨g, hg, h⟩ := Option.bind_eq_some_iff.1 h
      cases hk : okT P g.type with
      | false => simp [hk] at h
      | true =>
        simp only [hk, Bool.not_true, cond_false] at h
        obtain ⟨v, hv, h⟩ := Option.bind_eq_some_iff.1 h
        obtain ⟨r, hr, rfl⟩ := kv_tv h
        obtain ⟨v', e1, e2⟩ := ifield_sim (w := w) ht hg hk hr (hin.vr (by simp [Op.operands]) hv)
        exact ⟨v', by simp only [execOp, hop]; exact exec_v e1, e2⟩
    · simp at h
  · -- indexAddr
    rename_i t y i hop
    rw [hop] at hin
    obtain ⟨n, hn, h⟩ := Option.bind_eq_some_iff.1 h
    have q1 := hin.vr (by simp [Op.operands]) hn
    split at h
    · rename_i e ht
      cases hk : okT P e with
      | false => simp [hk] at h
      | true =>
        simp only [hk, Bool.not_true, cond_false] at h
        obtain ⟨v, hv, h⟩ := Option.bind_eq_some_iff.1 h
        obtain ⟨r, hr, rfl⟩ := kv_tv h
        obtain ⟨v', e1, e2⟩ := iidx_sim (w := w) ht hk hr (hin.vr (by simp [Op.operands]) hv) q1
        exact ⟨v', by simp only [execOp, hop]; exact exec_v e1, e2⟩
    · rename_i len e ht
      cases hk : okT P e with
      | false => simp [hk] at h
      | true =>
        simp only [hk, Bool.not_true, cond_false] at h
        obtain ⟨off, hoff, h⟩ := Option.bind_eq_some_iff.1 h
        unfold iaddK at h
        split at h
        · rename_i v ev
          obtain ⟨r, hr, rfl⟩ := kv_tv h
          have hv := hin.tr y (by simp [Op.operands])
          rw [ev] at hv
          obtain ⟨ad, ea, q⟩ := paddr_sim hr hv
          obtain ⟨ki, ni, hi, h0, h1, rfl⟩ := iidxA_sim hoff q1
          refine ⟨_, ?_, q⟩
          simp only [execOp, hop, ea, hi]
          exact exec_v (run_indexAt_array ht hk ki h0 h1 ad)
        · rename_i u off2 ev
          simp at h; subst h
          have hv := hin.tr y (by simp [Op.operands])
          rw [ev] at hv
          obtain ⟨r', hμ, hy⟩ := hv
          obtain ⟨ki, ni, hi, h0, h1, rfl⟩ := iidxA_sim hoff q1
          refine ⟨_, ?_, r', hμ, rfl⟩
          simp only [execOp, hop, hy, hi]
          exact exec_v (by rw [run_indexAt_array ht hk ki h0 h1, add_plain])
        · simp at h
    · simp at h
  · -- index
    rename_i t y i hop
    rw [hop] at hin
    obtain ⟨v, hv, h⟩ := Option.bind_eq_some_iff.1 h
    obtain ⟨n, hn, h⟩ := Option.bind_eq_some_iff.1 h
    have q1 := hin.vr (by simp [Op.operands]) hv
    have q2 := hin.vr (by simp [Op.operands]) hn
    split at h
    · rename_i len e ht
      cases hk : okT P e with
      | false => simp [hk] at h
      | true =>
        simp only [hk, Bool.not_true, cond_false] at h
        obtain ⟨r, hr, rfl⟩ := kv_tv h
        obtain ⟨v', e1, e2⟩ := iindexA_sim (w := w) ht hk hr q1 q2
        exact ⟨v', by simp only [execOp, hop]; exact exec_v e1, e2⟩
    · rename_i ht
      obtain ⟨r, hr, rfl⟩ := kv_tv h
      obtain ⟨e1, e2⟩ := iindexS_sim (w := w) ht hr q1 q2
      exact ⟨_, by simp only [execOp, hop]; exact exec_v e1, e2⟩
    · simp at h
  · -- lookup
    rename_i t y i ok hop
    rw [hop] at hin hR
    obtain ⟨⟨ag, z⟩, ht, h⟩ := Option.bind_eq_some_iff.1 h
    obtain ⟨v, hv, h⟩ := Option.bind_eq_some_iff.1 h
    obtain ⟨n, hn, h⟩ := Option.bind_eq_some_iff.1 h
    obtain ⟨r, hr, rfl⟩ := kv_tv h
    obtain ⟨v', e1, e2⟩ := ilookup_sim (hR rfl) ht hr (hin.vr (by simp [Op.operands]) hv) (hin.vr (by simp [Op.operands]) hn)
    exact ⟨v', by simp only [execOp, hop]; exact exec_v e1, e2⟩
  · -- mapUpdate
    obtain ⟨⟨ag, z⟩, _, h⟩ := Option.bind_eq_some_iff.1 h
    obtain ⟨_, _, h⟩ := Option.bind_eq_some_iff.1 h
    obtain ⟨_, _, h⟩ := Option.bind_eq_some_iff.1 h
    obtain ⟨_, _, h⟩ := Option.bind_eq_some_iff.1 h
    exact (kh_tv h).elim
  · obtain ⟨⟨ag, z⟩, _, h⟩ := Option.bind_eq_some_iff.1 h
    obtain ⟨_, _, h⟩ := Option.bind_eq_some_iff.1 h
    obtain ⟨_, _, h⟩ := Option.bind_eq_some_iff.1 h
    exact (kvh_tv h).elim
  · obtain ⟨_, _, h⟩ := Option.bind_eq_some_iff.1 h
    obtain ⟨_, _, h⟩ := Option.bind_eq_some_iff.1 h
    obtain ⟨_, _, h⟩ := Option.bind_eq_some_iff.1 h
    exact (kh_tv h).elim
  · -- extract
    rename_i y i hop
    rw [hop] at hin
    obtain ⟨v, hv, h⟩ := Option.bind_eq_some_iff.1 h
    obtain ⟨r, hr, rfl⟩ := kv_tv h
    obtain ⟨v', e1, e2⟩ := iextract_sim (P := P) (w := w) hr (hin.vr (by simp [Op.operands]) hv)
    exact ⟨v', by simp only [execOp, hop]; exact exec_v e1, e2⟩
  · -- call
    rename_i c hop
    rw [hop] at hin hR
    split at h
    · rename_i b hb
      have hops : ∀ x, x ∈ c.args.toList → x ∈ (Op.call c).operands := by
        intro x hx
        simp only [Op.operands, Call.operands, hb]
        simpa using hx
      have exb : execOp a.eval o = builtin b c.argTypes o.type (c.args.map fun | .const _ => true | _ => false) (c.args.map a.eval) := by
        simp only [execOp, hop, resolve, hb]
        rfl
      have hargs : c.args.map a.eval = ⟨c.args.toList.map a.eval⟩ := Array.ext' (by rw [Array.toList_map])
      split at h
      · -- len
        rename_i t x htys hxs
        obtain ⟨v, hv, h⟩ := Option.bind_eq_some_iff.1 h
        have q1 := hin.vr (hops x (by rw [hxs]; simp)) hv
        have hreads := hR (by simp [opReads, hb])
        rw [exb, hargs, hxs]
        split at h
        · rename_i e ht
          obtain ⟨r, hr, rfl⟩ := kv_tv h
          obtain ⟨e1, e2⟩ := ilenS_sim (w := w) ht hr q1 o.type c.argTypes htys
          exact ⟨r, exec_v e1, e2⟩
        · rename_i ht
          obtain ⟨r, hr, rfl⟩ := kv_tv h
          obtain ⟨e1, e2⟩ := ilenT_sim (w := w) ht hr q1 o.type c.argTypes htys
          exact ⟨r, exec_v e1, e2⟩
        · rename_i k e ht
          obtain ⟨r, hr, rfl⟩ := kv_tv h
          obtain ⟨e1, e2⟩ := ilenM_sim ht hreads hr q1 o.type c.argTypes htys
          exact ⟨r, exec_v e1, e2⟩
        · simp at h
      · -- min
        obtain ⟨vs, hvs, h⟩ := Option.bind_eq_some_iff.1 h
        obtain ⟨r, hr, rfl⟩ := kv_tv h
        have q := evs_sim (ρ := ρ) (a := a) hvs (fun x hx => hin.tr x (hops x hx))
        obtain ⟨e1, e2⟩ := iminmax_sim (P := P) (w := w) true hr q c.argTypes o.type
        rw [exb, hargs]
        exact ⟨r, exec_v e1, e2⟩
      · obtain ⟨vs, hvs, h⟩ := Option.bind_eq_some_iff.1 h
        obtain ⟨r, hr, rfl⟩ := kv_tv h
        have q := evs_sim (ρ := ρ) (a := a) hvs (fun x hx => hin.tr x (hops x hx))
        obtain ⟨e1, e2⟩ := iminmax_sim (P := P) (w := w) false hr q c.argTypes o.type
        rw [exb, hargs]
        exact ⟨r, exec_v e1, e2⟩
      · -- append
        split at h
        · rename_i e _ _ _
          cases hk : (zcells P e).isNone with
          | true => simp [hk] at h
          | false =>
            simp only [hk, cond_false] at h
            obtain ⟨_, _, h⟩ := Option.bind_eq_some_iff.1 h
            unfold irowK at h
            split at h
            · obtain ⟨_, _, h⟩ := Option.bind_eq_some_iff.1 h
              exact (kvh_tv h).elim
            · obtain ⟨_, _, h⟩ := Option.bind_eq_some_iff.1 h
              obtain ⟨_, _, h⟩ := Option.bind_eq_some_iff.1 h
              exact (kvh_tv h).elim
            · simp at h
        · simp at h
      · obtain ⟨_, _, h⟩ := Option.bind_eq_some_iff.1 h
        obtain ⟨_, _, h⟩ := Option.bind_eq_some_iff.1 h
        unfold irowK at h
        split at h
        · obtain ⟨_, _, h⟩ := Option.bind_eq_some_iff.1 h
          exact (kvh_tv h).elim
        · obtain ⟨_, _, h⟩ := Option.bind_eq_some_iff.1 h
          obtain ⟨_, _, h⟩ := Option.bind_eq_some_iff.1 h
          exact (kvh_tv h).elim
        · simp at h
      · obtain ⟨_, _, h⟩ := Option.bind_eq_some_iff.1 h
        obtain ⟨_, _, h⟩ := Option.bind_eq_some_iff.1 h
        obtain ⟨_, _, h⟩ := Option.bind_eq_some_iff.1 h
        exact (kh_tv h).elim
      · obtain ⟨⟨ag, z⟩, _, h⟩ := Option.bind_eq_some_iff.1 h
        obtain ⟨_, _, h⟩ := Option.bind_eq_some_iff.1 h
        obtain ⟨_, _, h⟩ := Option.bind_eq_some_iff.1 h
        exact (kh_tv h).elim
      · simp at h
    · simp at h
  · simp at h
end Go.Ideal
/- The ideal machine, part T: one operation that turns a local variable. -/
namespace Go.Ideal
variable {ρ : Ren} {μ : Lam} {H : IHeap} {w : World} {P : Program} {A : IA} {a : Act}

theorem kv_loc {o : Option Value} {x : TV} {u : Nat} {cs : List Value} (h : kv o some = some (.loc x u cs)) : False := by
  obtain ⟨v, hv, h⟩ := Option.bind_eq_some_iff.1 h
  simp at h
theorem kh_loc {o : Option IHeap} {x : TV} {u : Nat} {cs : List Value} (h : kh o some = some (.loc x u cs)) : False := by
  obtain ⟨v, hv, h⟩ := Option.bind_eq_some_iff.1 h
  simp at h
theorem kvh_loc {o : Option (Value × IHeap)} {x : TV} {u : Nat} {cs : List Value} (h : kvh o some = some (.loc x u cs)) : False := by
  obtain ⟨v, hv, h⟩ := Option.bind_eq_some_iff.1 h
  simp at h
theorem inew_loc {pr : Prm} {d : Option Tmp} {cs cs' : List Value} {x : TV} {u : Nat} (h : inew pr H d cs some = some (.loc x u cs')) : isPromo pr d = some u ∧ x = .lp u 0 ∧ cs' = cs := by
  unfold inew at h
  split at h
  · rename_i t e
    simp at h; obtain ⟨rfl, rfl, rfl⟩ := h; exact ⟨e, rfl, rfl⟩
  · simp at h
theorem isPromo_dst {pr : Prm} {d : Option Tmp} {u : Nat} (h : isPromo pr d = some u) : d = some u := by
  unfold isPromo at h
  split at h
  · rename_i t
    cases hp : pr.promo.elem t <;> simp only [hp, cond_true, cond_false, reduceCtorEq, Option.some.injEq] at h
    rw [h]
  · simp at h

/-- What an operation on a local variable does: one anew; one stored to. -/
inductive LocStep (pr : Prm) (ρ : Ren) (μ : Lam) (P : Program) (w : World) (o : Oper) (a : Act) : TV → Nat → List Value → Prop
  | new {u : Nat} {x : TV} {y : Value} {cs : List Value} {c : Array Value} {t : TypeId} : o.dst = some u → wipes pr [o] = [u] → (execOp a.eval o).run P w = .ok (.value y) (w.alloc (.cells c t)) → VRs ρ cs c.toList → (∀ v ∈ cs, v.oneCell = true) →
      (x = .lp u 0 ∧ y = Ideal.ptr w.heap.size 0 ∨ ∃ n, x = .ls u n ∧ y = .slice (some ⟨w.heap.size, 0, none⟩) n n) → LocStep pr ρ μ P w o a x u cs
  | old {u r : Nat} {cs : List Value} {c : Array Value} {t : TypeId} {w' : World} : μ u = some r → (execOp a.eval o).run P w = .ok .skip w' → Turn w w' r (.cells c t (0, 0)) → VRs ρ cs c.toList → (∀ v ∈ cs, v.oneCell = true) →
      w'.heap.size = w.heap.size → LocStep pr ρ μ P w o a unitV u cs

theorem iop_loc {pr : Prm} {lim : Nat} {o : Oper} {x : TV} {u : Nat} {cs : List Value} (h : iopK P pr lim A H o.dst o.op some = some (.loc x u cs)) (hin : OpIn ρ μ A a w o.op) :
    LocStep pr ρ μ P w o a x u cs := by
  unfold iopK at h
  split at h
  · simp at h
  · simp at h
  · obtain ⟨_, _, h⟩ := Option.bind_eq_some_iff.1 h
    obtain ⟨_, _, h⟩ := Option.bind_eq_some_iff.1 h
    obtain ⟨_, _, h⟩ := Option.bind_eq_some_iff.1 h
    exact (kv_loc h).elim
  · -- alloc
    rename_i t hop
    obtain ⟨zs, hzs, h⟩ := Option.bind_eq_some_iff.1 h
    obtain ⟨hp, rfl, rfl⟩ := inew_loc h
    obtain ⟨z, z1, z2, z3, z4, z5, z6, z7⟩ := zcells_sim hzs
    refine .new (y := Ideal.ptr w.heap.size 0) (c := z.cells) (t := t) (isPromo_dst hp) (by simp [wipes, hop, hp]) ?_ (by rw [z2]; exact z6 ρ) z3 (.inl ⟨rfl, rfl⟩)
    simp only [execOp, hop]
    exact exec_v (by simp [Instr.alloc, run_zero w z1, newVar, newRow])
  · -- box
    rename_i t y hop
    rw [hop] at hin
    obtain ⟨v, hv, h⟩ := Option.bind_eq_some_iff.1 h
    obtain ⟨zs, hzs, h⟩ := Option.bind_eq_some_iff.1 h
    obtain ⟨hp, rfl, rfl⟩ := inew_loc h
    obtain ⟨k1, k2, _⟩ := cellsOf_sim hzs (hin.vr (by simp [Op.operands]) hv)
    refine .new (y := Ideal.ptr w.heap.size 0) (t := t) (isPromo_dst hp) (by simp [wipes, hop, hp]) ?_ k1 k2 (.inl ⟨rfl, rfl⟩)
    simp only [execOp, hop]
    exact exec_v (by simp [Instr.box, newVar, newRow])
  · -- build
    obtain ⟨l, hl, h⟩ := Option.bind_eq_some_iff.1 h
    obtain ⟨pl, hpl, h⟩ := Option.bind_eq_some_iff.1 h
    obtain ⟨zs, hzs, h⟩ := Option.bind_eq_some_iff.1 h
    rw [ifillK_bind] at h
    obtain ⟨cs, hcs, h⟩ := Option.bind_eq_some_iff.1 h
    simp at h
  · -- buildSlice
    rename_i t len parts hop
    rw [hop] at hin
    obtain ⟨e, he, h⟩ := Option.bind_eq_some_iff.1 h
    obtain ⟨zs, hzs, h⟩ := Option.bind_eq_some_iff.1 h
    obtain ⟨l, hl, h⟩ := Option.bind_eq_some_iff.1 h
    cases hd : !decide (len * tsz P e ≤ 16777216) with
    | true => simp [hd] at h
    | false =>
      simp only [hd, cond_false] at h
      simp at hd
      rw [ifillK_bind] at h
      obtain ⟨cs, hcs, h⟩ := Option.bind_eq_some_iff.1 h
      split at h
      · rename_i t' hp
        simp at h; obtain ⟨rfl, rfl, rfl⟩ := h
        have hP := evParts_sim (ρ := ρ) (a := a) hl (fun x hx => hin.tr x (by simp only [Op.operands, List.mem_toArray]; exact hx))
        have het : P.underlying t = some (.slice e) := by
          unfold elemT at he
          split at he
          · rename_i e' hu
            cases hk : okT P e' <;> simp [hk] at he
            subst he; exact hu
          · simp at he
        obtain ⟨c', e1, e2, e3, e4⟩ := buildSlice_sim (w := w) het hzs hd hP hcs
        refine .new (t := e) (y := .slice (some ⟨w.heap.size, 0, none⟩) len len) (isPromo_dst hp) (by simp [wipes, hop, hp]) ?_ e2 e3 (.inr ⟨len, rfl, rfl⟩)
        have e5 : (parts.map fun (i, x) => (i, a.eval x)) = (parts.toList.map fun (i, x) => (i, a.eval x)).toArray := Array.ext' (by rw [Array.toList_map])
        simp only [execOp, hop, e5]
        exact exec_v e1
      · simp at h
  · -- load
    unfold iloadK at h
    rename_i t y hop
    cases hk : okT P t with
    | false => simp [hk] at h
    | true =>
      simp only [hk, Bool.not_true, cond_false] at h
      split at h
      · exact (kv_loc h).elim
      · obtain ⟨_, _, h⟩ := Option.bind_eq_some_iff.1 h
        exact (kv_loc h).elim
      · simp at h
  · -- store
    rename_i t y x' hop
    rw [hop] at hin
    obtain ⟨v, hv, h⟩ := Option.bind_eq_some_iff.1 h
    have q := hin.vr (by simp [Op.operands]) hv
    unfold istoreK at h
    cases hk : okT P t with
    | false => simp [hk] at h
    | true =>
      simp only [hk, Bool.not_true, cond_false] at h
      split at h
      · exact (kh_loc h).elim
      · rename_i u' off e
        obtain ⟨cs0, hcs0, h⟩ := Option.bind_eq_some_iff.1 h
        obtain ⟨cs1, hst, h⟩ := Option.bind_eq_some_iff.1 h
        simp at h
        obtain ⟨rfl, rfl, rfl⟩ := h
        have hy := hin.tr y (by simp [Op.operands])
        rw [e] at hy
        obtain ⟨r', hμ, hy⟩ := hy
        obtain ⟨r2, hμ2, hL⟩ := hin.lp y (by simp [Op.operands]) u' off e cs0 hcs0
        rw [hμ] at hμ2; simp at hμ2; subst hμ2
        obtain ⟨c, tt, hw, hvs, h1⟩ := hL
        obtain ⟨k1, k2, k3, l, k4, k5, k6, rfl⟩ := istore_sim hst q
        have hcl := hvs.length
        have hll := k4.length
        have hb2 : off + (a.eval x').cells.toList.length ≤ c.size := by
          rw [Array.length_toList, k1]; simp at hcl; omega
        have run := run_storeRow P w r' off (a.eval x').cells.toList c tt (0, 0) hw rfl hb2 k3
        refine .old (c := splice c off (a.eval x').cells.toList) (t := tt) hμ ?_ (Turn.row hw) ?_ ?_ (by simp)
        · simp only [execOp, hop, hy]
          refine exec_u ?_
          simp only [Instr.storeAt, Instr.sureAddr, Sem.run_bind, Sem.run_pure, Result.andThen_ok, storeVar, run_size w hk, k1, ne_eq, not_true_eq_false, if_false]
          exact run
        · simp only [splice]
          have : (a.eval x').cells.toList.length = tsz P t := by rw [Array.length_toList, k1]
          rw [this]
          exact ((hvs.take off).append k4).append (hvs.drop _)
        · intro v hv
          simp only [List.mem_append] at hv
          rcases hv with (hv | hv) | hv
          · exact h1 v (List.mem_of_mem_take hv)
          · exact k5 v hv
          · exact h1 v (List.mem_of_mem_drop hv)
      · simp at h
  · split at h
    · exact (kv_loc h).elim
    · simp at h
    · simp at h
  · obtain ⟨_, _, h⟩ := Option.bind_eq_some_iff.1 h
    obtain ⟨_, _, h⟩ := Option.bind_eq_some_iff.1 h
    exact (kv_loc h).elim
  · obtain ⟨_, _, h⟩ := Option.bind_eq_some_iff.1 h
    exact (kv_loc h).elim
  · rename_i s t y hop
    split at h
    · cases hk : okT P s with
      | false => simp [hk] at h
      | true =>
        simp only [hk, Bool.not_true, cond_false] at h
        obtain ⟨_, _, h⟩ := Option.bind_eq_some_iff.1 h
        exact (kv_loc h).elim
    · simp at h
  · obtain ⟨_, _, h⟩ := Option.bind_eq_some_iff.1 h
    obtain ⟨_, _, h⟩ := Option.bind_eq_some_iff.1 h
    simp at h
  · obtain ⟨⟨ag, z⟩, _, h⟩ := Option.bind_eq_some_iff.1 h
    simp at h
  · obtain ⟨_, _, h⟩ := Option.bind_eq_some_iff.1 h
    obtain ⟨_, _, h⟩ := Option.bind_eq_some_iff.1 h
    obtain ⟨_, _, h⟩ := Option.bind_eq_some_iff.1 h
    obtain ⟨_, _, h⟩ := Option.bind_eq_some_iff.1 h
    exact (kvh_loc h).elim
  · obtain ⟨_, _, h⟩ := Option.bind_eq_some_iff.1 h
    obtain ⟨_, _, h⟩ := Option.bind_eq_some_iff.1 h
    obtain ⟨_, _, h⟩ := Option.bind_eq_some_iff.1 h
    obtain ⟨_, _, h⟩ := Option.bind_eq_some_iff.1 h
    split at h
    · rename_i e ht _
      cases hk : okT P e with
      | false => simp [hk] at h
      | true => simp only [hk, Bool.not_true, cond_false] at h; exact (kv_loc h).elim
    · exact (kv_loc h).elim
    · simp at h
  · split at h
    · obtain ⟨g, _, h⟩ := Option.bind_eq_some_iff.1 h
      cases hz : tsz P g.type == 0 with
      | true => simp [hz] at h
      | false =>
        simp only [hz, cond_false] at h
        unfold iaddK at h
        split at h
        · exact (kv_loc h).elim
        · simp at h
        · simp at h
    · simp at h
  · split at h
    · obtain ⟨g, _, h⟩ := Option.bind_eq_some_iff.1 h
      cases hk : okT P g.type with
      | false => simp [hk] at h
      | true =>
        simp only [hk, Bool.not_true, cond_false] at h
        obtain ⟨_, _, h⟩ := Option.bind_eq_some_iff.1 h
        exact (kv_loc h).elim
    · simp at h
  · obtain ⟨_, _, h⟩ := Option.bind_eq_some_iff.1 h
    split at h
    · rename_i e ht
      cases hk : okT P e with
      | false => simp [hk] at h
      | true =>
        simp only [hk, Bool.not_true, cond_false] at h
        obtain ⟨_, _, h⟩ := Option.bind_eq_some_iff.1 h
        exact (kv_loc h).elim
    · rename_i len e ht
      cases hk : okT P e with
      | false => simp [hk] at h
      | true =>
        simp only [hk, Bool.not_true, cond_false] at h
        obtain ⟨_, _, h⟩ := Option.bind_eq_some_iff.1 h
        unfold iaddK at h
        split at h
        · exact (kv_loc h).elim
        · simp at h
        · simp at h
    · simp at h
  · obtain ⟨_, _, h⟩ := Option.bind_eq_some_iff.1 h
    obtain ⟨_, _, h⟩ := Option.bind_eq_some_iff.1 h
    split at h
    · rename_i len e ht
      cases hk : okT P e with
      | false => simp [hk] at h
      | true => simp only [hk, Bool.not_true, cond_false] at h; exact (kv_loc h).elim
    · exact (kv_loc h).elim
    · simp at h
  · obtain ⟨⟨ag, z⟩, _, h⟩ := Option.bind_eq_some_iff.1 h
    obtain ⟨_, _, h⟩ := Option.bind_eq_some_iff.1 h
    obtain ⟨_, _, h⟩ := Option.bind_eq_some_iff.1 h
    exact (kv_loc h).elim
  · obtain ⟨⟨ag, z⟩, _, h⟩ := Option.bind_eq_some_iff.1 h
    obtain ⟨_, _, h⟩ := Option.bind_eq_some_iff.1 h
    obtain ⟨_, _, h⟩ := Option.bind_eq_some_iff.1 h
    obtain ⟨_, _, h⟩ := Option.bind_eq_some_iff.1 h
    exact (kh_loc h).elim
  · obtain ⟨⟨ag, z⟩, _, h⟩ := Option.bind_eq_some_iff.1 h
    obtain ⟨_, _, h⟩ := Option.bind_eq_some_iff.1 h
    obtain ⟨_, _, h⟩ := Option.bind_eq_some_iff.1 h
    exact (kvh_loc h).elim
  · obtain ⟨_, _, h⟩ := Option.bind_eq_some_iff.1 h
    obtain ⟨_, _, h⟩ := Option.bind_eq_some_iff.1 h
    obtain ⟨_, _, h⟩ := Option.bind_eq_some_iff.1 h
    exact (kh_loc h).elim
  · obtain ⟨_, _, h⟩ := Option.bind_eq_some_iff.1 h
    exact (kv_loc h).elim
  · split at h
    · split at h
      · obtain ⟨_, _, h⟩ := Option.bind_eq_some_iff.1 h
        split at h <;> first | exact (kv_loc h).elim | simp at h
      · obtain ⟨_, _, h⟩ := Option.bind_eq_some_iff.1 h
        exact (kv_loc h).elim
      · obtain ⟨_, _, h⟩ := Option.bind_eq_some_iff.1 h
        exact (kv_loc h).elim
      · split at h
        · rename_i e _ _ _
          cases hk : (zcells P e).isNone with
          | true => simp [hk] at h
          | false =>
            simp only [hk, cond_false] at h
            obtain ⟨_, _, h⟩ := Option.bind_eq_some_iff.1 h
            unfold irowK at h
            split at h
            · obtain ⟨_, _, h⟩ := Option.bind_eq_some_iff.1 h
              exact (kvh_loc h).elim
            · obtain ⟨_, _, h⟩ := Option.bind_eq_some_iff.1 h
              obtain ⟨_, _, h⟩ := Option.bind_eq_some_iff.1 h
              exact (kvh_loc h).elim
            · simp at h
        · simp at h
      · obtain ⟨_, _, h⟩ := Option.bind_eq_some_iff.1 h
        obtain ⟨_, _, h⟩ := Option.bind_eq_some_iff.1 h
        unfold irowK at h
        split at h
        · obtain ⟨_, _, h⟩ := Option.bind_eq_some_iff.1 h
          exact (kvh_loc h).elim
        · obtain ⟨_, _, h⟩ := Option.bind_eq_some_iff.1 h
          obtain ⟨_, _, h⟩ := Option.bind_eq_some_iff.1 h
          exact (kvh_loc h).elim
        · simp at h
      · obtain ⟨_, _, h⟩ := Option.bind_eq_some_iff.1 h
        obtain ⟨_, _, h⟩ := Option.bind_eq_some_iff.1 h
        obtain ⟨_, _, h⟩ := Option.bind_eq_some_iff.1 h
        exact (kh_loc h).elim
      · obtain ⟨⟨ag, z⟩, _, h⟩ := Option.bind_eq_some_iff.1 h
        obtain ⟨_, _, h⟩ := Option.bind_eq_some_iff.1 h
        obtain ⟨_, _, h⟩ := Option.bind_eq_some_iff.1 h
        exact (kh_loc h).elim
      · simp at h
    · simp at h
  · simp at h
end Go.Ideal
/- The ideal machine, part U: one operation that turns the heap. -/
namespace Go.Ideal
variable {ρ : Ren} {μ : Lam} {H H' : IHeap} {w : World} {P : Program} {A : IA} {a : Act}

theorem kv_heap {o : Option Value} {x : TV} (h : kv o some = some (.heap x H')) : False := by
  obtain ⟨v, hv, h⟩ := Option.bind_eq_some_iff.1 h
  simp at h
theorem kh_heap {o : Option IHeap} {x : TV} (h : kh o some = some (.heap x H')) : o = some H' ∧ x = unitV := by
  obtain ⟨v, hv, h⟩ := Option.bind_eq_some_iff.1 h
  simp at h; obtain ⟨rfl, rfl⟩ := h; exact ⟨hv, rfl⟩
theorem kvh_heap {o : Option (Value × IHeap)} {x : TV} (h : kvh o some = some (.heap x H')) : ∃ v, o = some (v, H') ∧ x = .v v := by
  obtain ⟨⟨v, H1⟩, hv, h⟩ := Option.bind_eq_some_iff.1 h
  simp at h; obtain ⟨rfl, rfl⟩ := h; exact ⟨v, hv, rfl⟩
theorem inew_heap {pr : Prm} {d : Option Tmp} {cs : List Value} {x : TV} (h : inew pr H d cs some = some (.heap x H')) : x = .v (Ideal.ptr H.next 0) ∧ H' = H.push (.cells cs 0) := by
  unfold inew at h
  split at h
  · simp at h
  · simp at h; obtain ⟨rfl, rfl⟩ := h; exact ⟨rfl, rfl⟩

/-- A step's value. -/
inductive NextV : Next → Value → Prop
  | value (y : Value) : NextV (.value y) y
  | skip : NextV .skip (.tuple #[])

/-- What an operation on the heap does. -/
def HeapStep (ρ : Ren) (μ : Lam) (P : Program) (lim : Nat) (H H' : IHeap) (w : World) (o : Oper) (a : Act) (x : TV) : Prop :=
  ∃ ρ' w' n y, (execOp a.eval o).run P w = .ok n w' ∧ NextV n y ∧ TR ρ' μ x y ∧ Rel ρ' H' w' ∧ Ext lim H.next H'.next ρ ρ' w w'

/-- A new variable's row. -/
theorem newcells (hR : Rel ρ H w) (hn : ρ H.next = none) {lim : Nat} {cs : List Value} {c : Array Value} (t : TypeId) (hv : VRs ρ cs c.toList) (h1 : ∀ v ∈ cs, v.oneCell = true) :
    ∃ ρ', ρ' H.next = some (w.heap.size, 0, c.size) ∧ Rel ρ' (H.push (.cells cs 0)) (w.alloc (.cells c t)) ∧ Ext lim H.next (H.push (.cells cs 0)).next ρ ρ' w (w.alloc (.cells c t)) := by
  have hT := Turn.alloc w (.cells c t)
  refine ⟨ρ.add H.next w.heap.size 0 c.size, Ren.add_self, hR.push hn hT ⟨rfl, ⟨?_, h1⟩, fun _ => rfl⟩, by simpa using Ext.push hn hT⟩
  intro i v hi
  obtain ⟨v', e', q⟩ := hv.get hi
  exact ⟨v', by simpa using e', q.mono (Ren.le_add hn)⟩

theorem row_sim {op : Op} (hR : Rel ρ H w) (hin : OpIn ρ μ A a w op) {x : Operand} (hx : x ∈ op.operands) {size : Nat} {σ : Type} {k : Nat → List Value → Option σ} {r : σ} (h : irowK A H size (A.ev x) k = some r) :
    ∃ m new, k m new = some r ∧ SrcR ρ P w size m new (a.eval x) := by
  unfold irowK at h
  have ht := hin.tr x hx
  split at h
  · rename_i v e
    obtain ⟨⟨m, new⟩, hr, h⟩ := Option.bind_eq_some_iff.1 h
    rw [e] at ht
    exact ⟨m, new, h, ⟨hrow_sim hR.toR hr ht⟩⟩
  · rename_i u n e
    obtain ⟨cs, hcs, h⟩ := Option.bind_eq_some_iff.1 h
    obtain ⟨⟨m, new⟩, hr, h2⟩ := Option.bind_eq_some_iff.1 h
    rw [e] at ht
    obtain ⟨r', c, hμ, hy⟩ := ht
    obtain ⟨r2, hμ2, hL⟩ := hin.ls x hx u n e cs hcs
    rw [hμ] at hμ2; simp at hμ2; subst hμ2
    obtain ⟨new', e1, e2, e3, e4, e5⟩ := lrow_sim (P := P) (c := c) hL hr
    subst e1
    exact ⟨m, new, h2, ⟨_, _, new', hy, e2, e3, e4, by rw [hy]; exact e5⟩⟩
  · simp at h

theorem elemT_inv {t e : TypeId} (he : elemT P t = some e) : P.underlying t = some (.slice e) ∧ okT P e = true := by
  unfold elemT at he
  split at he
  · rename_i e' hu
    cases hk : okT P e' <;> simp [hk] at he
    subst he; exact ⟨hu, hk⟩
  · simp at he

theorem iop_heap {pr : Prm} {lim : Nat} {o : Oper} {x : TV} (h : iopK P pr lim A H o.dst o.op some = some (.heap x H')) (hin : OpIn ρ μ A a w o.op) (hR : Rel ρ H w) (hn : H.next < H'.next → ρ H.next = none) :
    HeapStep ρ μ P lim H H' w o a x := by
  unfold iopK at h
  split at h
  · simp at h
  · simp at h
  · obtain ⟨_, _, h⟩ := Option.bind_eq_some_iff.1 h
    obtain ⟨_, _, h⟩ := Option.bind_eq_some_iff.1 h
    obtain ⟨_, _, h⟩ := Option.bind_eq_some_iff.1 h
    exact (kv_heap h).elim
  · -- alloc
    rename_i t hop
    obtain ⟨zs, hzs, h⟩ := Option.bind_eq_some_iff.1 h
    obtain ⟨rfl, rfl⟩ := inew_heap h
    obtain ⟨z, z1, z2, z3, z4, z5, z6, z7⟩ := zcells_sim hzs
    obtain ⟨ρ', q1, q2, q3⟩ := newcells (lim := lim) hR (hn (by simp)) (c := z.cells) t (by rw [z2]; exact z6 ρ) z3
    refine ⟨ρ', _, .value (Ideal.ptr w.heap.size 0), _, ?_, .value _, VR.ptr 0 q1, q2, q3⟩
    simp only [execOp, hop]
    exact exec_v (by simp [Instr.alloc, run_zero w z1, newVar, newRow])
  · -- box
    rename_i t y hop
    rw [hop] at hin
    obtain ⟨v, hv, h⟩ := Option.bind_eq_some_iff.1 h
    obtain ⟨zs, hzs, h⟩ := Option.bind_eq_some_iff.1 h
    obtain ⟨rfl, rfl⟩ := inew_heap h
    obtain ⟨k1, k2, _⟩ := cellsOf_sim hzs (hin.vr (by simp [Op.operands]) hv)
    obtain ⟨ρ', q1, q2, q3⟩ := newcells (lim := lim) hR (hn (by simp)) t k1 k2
    refine ⟨ρ', _, .value (Ideal.ptr w.heap.size 0), _, ?_, .value _, VR.ptr 0 q1, q2, q3⟩
    simp only [execOp, hop]
    exact exec_v (by simp [Instr.box, newVar, newRow])
  · -- build
    obtain ⟨l, hl, h⟩ := Option.bind_eq_some_iff.1 h
    obtain ⟨pl, hpl, h⟩ := Option.bind_eq_some_iff.1 h
    obtain ⟨zs, hzs, h⟩ := Option.bind_eq_some_iff.1 h
    rw [ifillK_bind] at h
    obtain ⟨cs, hcs, h⟩ := Option.bind_eq_some_iff.1 h
    simp at h
  · -- buildSlice
    rename_i t len parts hop
    rw [hop] at hin
    obtain ⟨e, he, h⟩ := Option.bind_eq_some_iff.1 h
    obtain ⟨zs, hzs, h⟩ := Option.bind_eq_some_iff.1 h
    obtain ⟨l, hl, h⟩ := Option.bind_eq_some_iff.1 h
    cases hd : !decide (len * tsz P e ≤ 16777216) with
    | true => simp [hd] at h
    | false =>
      simp only [hd, cond_false] at h
      simp at hd
      rw [ifillK_bind] at h
      obtain ⟨cs, hcs, h⟩ := Option.bind_eq_some_iff.1 h
      split at h
      · simp at h
      · simp at h; obtain ⟨rfl, rfl⟩ := h
        have hP := evParts_sim (ρ := ρ) (a := a) hl (fun x hx => hin.tr x (by simp only [Op.operands, List.mem_toArray]; exact hx))
        obtain ⟨c', e1, e2, e3, e4⟩ := buildSlice_sim (w := w) (elemT_inv he).1 hzs hd hP hcs
        obtain ⟨ρ', q1, q2, q3⟩ := newcells (lim := lim) hR (hn (by simp)) e e2 e3
        have q4 : VR ρ' (Ideal.slc (tsz P e) H.next 0 len (len + 1)) (.slice (some ⟨w.heap.size, 0, none⟩) len len) := by
          have := VR.slc (ρ := ρ') (s := tsz P e) (o := 0) (n := len) (c := len + 1) (c' := len) q1 (by omega) (by omega) (by omega)
          simpa using this
        refine ⟨ρ', _, .value _, _, ?_, .value _, q4, q2, q3⟩
        have e5 : (parts.map fun (i, x) => (i, a.eval x)) = (parts.toList.map fun (i, x) => (i, a.eval x)).toArray := Array.ext' (by rw [Array.toList_map])
        simp only [execOp, hop, e5]
        exact exec_v e1
  · -- load
    unfold iloadK at h
    rename_i t y hop
    cases hk : okT P t with
    | false => simp [hk] at h
    | true =>
      simp only [hk, Bool.not_true, cond_false] at h
      split at h
      · exact (kv_heap h).elim
      · obtain ⟨_, _, h⟩ := Option.bind_eq_some_iff.1 h
        exact (kv_heap h).elim
      · simp at h
  · -- store
    rename_i t y x' hop
    rw [hop] at hin
    obtain ⟨v, hv, h⟩ := Option.bind_eq_some_iff.1 h
    have q := hin.vr (by simp [Op.operands]) hv
    unfold istoreK at h
    cases hk : okT P t with
    | false => simp [hk] at h
    | true =>
      simp only [hk, Bool.not_true, cond_false] at h
      split at h
      · rename_i v' e
        obtain ⟨hs, rfl⟩ := kh_heap h
        have hy := hin.tr y (by simp [Op.operands])
        rw [e] at hy
        obtain ⟨w', e1, e2, e3, _⟩ := hstore_sim hR hk hs hy q
        refine ⟨ρ, w', .skip, _, ?_, .skip, VR.tuple .nil, e2, e3⟩
        simp only [execOp, hop]
        exact exec_u e1
      · obtain ⟨_, _, h⟩ := Option.bind_eq_some_iff.1 h
        obtain ⟨_, _, h⟩ := Option.bind_eq_some_iff.1 h
        simp at h
      · simp at h
  · split at h
    · exact (kv_heap h).elim
    · simp at h
    · simp at h
  · obtain ⟨_, _, h⟩ := Option.bind_eq_some_iff.1 h
    obtain ⟨_, _, h⟩ := Option.bind_eq_some_iff.1 h
    exact (kv_heap h).elim
  · obtain ⟨_, _, h⟩ := Option.bind_eq_some_iff.1 h
    exact (kv_heap h).elim
  · rename_i s t y hop
    split at h
    · cases hk : okT P s with
      | false => simp [hk] at h
      | true =>
        simp only [hk, Bool.not_true, cond_false] at h
        obtain ⟨_, _, h⟩ := Option.bind_eq_some_iff.1 h
        exact (kv_heap h).elim
    · simp at h
  · obtain ⟨_, _, h⟩ := Option.bind_eq_some_iff.1 h
    obtain ⟨_, _, h⟩ := Option.bind_eq_some_iff.1 h
    simp at h
  · -- makeMap
    rename_i t hop
    obtain ⟨⟨ag, z⟩, _, h⟩ := Option.bind_eq_some_iff.1 h
    simp at h; obtain ⟨rfl, rfl⟩ := h
    obtain ⟨ρ', v', w', e1, e2, e3, e4⟩ := imakeMap_sim (P := P) hR (hn (by simp)) (t := t) lim ag
    refine ⟨ρ', w', .value v', _, ?_, .value _, e2, e3, e4⟩
    simp only [execOp, hop]
    exact exec_v e1
  · -- makeSlice
    rename_i t l c hop
    rw [hop] at hin
    obtain ⟨e, he, h⟩ := Option.bind_eq_some_iff.1 h
    obtain ⟨zs, hzs, h⟩ := Option.bind_eq_some_iff.1 h
    obtain ⟨n, hn', h⟩ := Option.bind_eq_some_iff.1 h
    obtain ⟨m, hm, h⟩ := Option.bind_eq_some_iff.1 h
    obtain ⟨v, hv, rfl⟩ := kvh_heap h
    obtain ⟨ρ', v', w', e1, e2, e3, e4⟩ := imake_sim (lim := lim) hR (elemT_inv he).1 hzs hn hv (hin.vr (by simp [Op.operands]) hn') (hin.vr (by simp [Op.operands]) hm)
    refine ⟨ρ', w', .value v', _, ?_, .value _, e2, e3, e4⟩
    simp only [execOp, hop]
    exact exec_v e1
  · obtain ⟨_, _, h⟩ := Option.bind_eq_some_iff.1 h
    obtain ⟨_, _, h⟩ := Option.bind_eq_some_iff.1 h
    obtain ⟨_, _, h⟩ := Option.bind_eq_some_iff.1 h
    obtain ⟨_, _, h⟩ := Option.bind_eq_some_iff.1 h
    split at h
    · rename_i e ht _
      cases hk : okT P e with
      | false => simp [hk] at h
      | true => simp only [hk, Bool.not_true, cond_false] at h; exact (kv_heap h).elim
    · exact (kv_heap h).elim
    · simp at h
  · split at h
    · obtain ⟨g, _, h⟩ := Option.bind_eq_some_iff.1 h
      cases hz : tsz P g.type == 0 with
      | true => simp [hz] at h
      | false =>
        simp only [hz, cond_false] at h
        unfold iaddK at h
        split at h
        · exact (kv_heap h).elim
        · simp at h
        · simp at h
    · simp at h
  · split at h
    · obtain ⟨g, _, h⟩ := Option.bind_eq_some_iff.1 h
      cases hk : okT P g.type with
      | false => simp [hk] at h
      | true =>
        simp only [hk, Bool.not_true, cond_false] at h
        obtain ⟨_, _, h⟩ := Option.bind_eq_some_iff.1 h
        exact (kv_heap h).elim
    · simp at h
  · obtain ⟨_, _, h⟩ := Option.bind_eq_some_iff.1 h
    split at h
    · rename_i e ht
      cases hk : okT P e with
      | false => simp [hk] at h
      | true =>
        simp only [hk, Bool.not_true, cond_false] at h
        obtain ⟨_, _, h⟩ := Option.bind_eq_some_iff.1 h
        exact (kv_heap h).elim
    · rename_i len e ht
      cases hk : okT P e with
      | false => simp [hk] at h
      | true =>
        simp only [hk, Bool.not_true, cond_false] at h
        obtain ⟨_, _, h⟩ := Option.bind_eq_some_iff.1 h
        unfold iaddK at h
        split at h
        · exact (kv_heap h).elim
        · simp at h
        · simp at h
    · simp at h
  · obtain ⟨_, _, h⟩ := Option.bind_eq_some_iff.1 h
    obtain ⟨_, _, h⟩ := Option.bind_eq_some_iff.1 h
    split at h
    · rename_i len e ht
      cases hk : okT P e with
      | false => simp [hk] at h
      | true => simp only [hk, Bool.not_true, cond_false] at h; exact (kv_heap h).elim
    · exact (kv_heap h).elim
    · simp at h
  · obtain ⟨⟨ag, z⟩, _, h⟩ := Option.bind_eq_some_iff.1 h
    obtain ⟨_, _, h⟩ := Option.bind_eq_some_iff.1 h
    obtain ⟨_, _, h⟩ := Option.bind_eq_some_iff.1 h
    exact (kv_heap h).elim
  · -- mapUpdate
    rename_i t m i y hop
    rw [hop] at hin
    obtain ⟨⟨ag, z⟩, ht, h⟩ := Option.bind_eq_some_iff.1 h
    obtain ⟨mv, hm, h⟩ := Option.bind_eq_some_iff.1 h
    obtain ⟨kk, hk, h⟩ := Option.bind_eq_some_iff.1 h
    obtain ⟨v, hv, h⟩ := Option.bind_eq_some_iff.1 h
    obtain ⟨hs, rfl⟩ := kh_heap h
    obtain ⟨w', e1, e2, e3⟩ := imapUpdate_sim hR ht hs (hin.vr (by simp [Op.operands]) hm) (hin.vr (by simp [Op.operands]) hk) (hin.vr (by simp [Op.operands]) hv)
    refine ⟨ρ, w', .skip, _, ?_, .skip, VR.tuple .nil, e2, e3⟩
    simp only [execOp, hop]
    exact exec_u e1
  · -- mapEntry
    rename_i t m i hop
    rw [hop] at hin
    obtain ⟨⟨ag, z⟩, ht, h⟩ := Option.bind_eq_some_iff.1 h
    obtain ⟨mv, hm, h⟩ := Option.bind_eq_some_iff.1 h
    obtain ⟨kk, hk, h⟩ := Option.bind_eq_some_iff.1 h
    obtain ⟨v, hs, rfl⟩ := kvh_heap h
    obtain ⟨v', w', e1, e2, e3, e4⟩ := imapEntry_sim hR ht hs (hin.vr (by simp [Op.operands]) hm) (hin.vr (by simp [Op.operands]) hk)
    refine ⟨ρ, w', .value v', _, ?_, .value _, e2, e3, e4⟩
    simp only [execOp, hop]
    exact exec_v e1
  · -- entryStore
    rename_i t m s y hop
    rw [hop] at hin
    obtain ⟨mv, hm, h⟩ := Option.bind_eq_some_iff.1 h
    obtain ⟨sv, hsv, h⟩ := Option.bind_eq_some_iff.1 h
    obtain ⟨v, hv, h⟩ := Option.bind_eq_some_iff.1 h
    obtain ⟨hs, rfl⟩ := kh_heap h
    obtain ⟨w', e1, e2, e3⟩ := ientryStore_sim (P := P) (t := t) hR hs (hin.vr (by simp [Op.operands]) hm) (hin.vr (by simp [Op.operands]) hsv) (hin.vr (by simp [Op.operands]) hv)
    refine ⟨ρ, w', .skip, _, ?_, .skip, VR.tuple .nil, e2, e3⟩
    simp only [execOp, hop]
    exact exec_u e1
  · obtain ⟨_, _, h⟩ := Option.bind_eq_some_iff.1 h
    exact (kv_heap h).elim
  · -- call
    rename_i c hop
    rw [hop] at hin
    split at h
    · rename_i b hb
      have hops : ∀ x, x ∈ c.args.toList → x ∈ (Op.call c).operands := by
        intro x hx
        simp only [Op.operands, Call.operands, hb]
        simpa using hx
      have exb : execOp a.eval o = builtin b c.argTypes o.type (c.args.map fun | .const _ => true | _ => false) (c.args.map a.eval) := by
        simp only [execOp, hop, resolve, hb]
        rfl
      have hargs : c.args.map a.eval = ⟨c.args.toList.map a.eval⟩ := Array.ext' (by rw [Array.toList_map])
      have htys : c.argTypes = ⟨c.argTypes.toList⟩ := rfl
      split at h
      · obtain ⟨_, _, h⟩ := Option.bind_eq_some_iff.1 h
        split at h <;> first | exact (kv_heap h).elim | simp at h
      · obtain ⟨_, _, h⟩ := Option.bind_eq_some_iff.1 h
        exact (kv_heap h).elim
      · obtain ⟨_, _, h⟩ := Option.bind_eq_some_iff.1 h
        exact (kv_heap h).elim
      · -- append
        rename_i t u s y e1 e2
        split at h
        · rename_i e e' he he'
          cases hk : zcells P e with
          | none => simp [hk] at h
          | some zs =>
            simp only [hk, Option.isNone_some, cond_false] at h
            obtain ⟨v, hv, h⟩ := Option.bind_eq_some_iff.1 h
            obtain ⟨m, new, h, hsrc⟩ := row_sim (P := P) hR hin (hops y (by rw [e2]; simp)) h
            obtain ⟨v2, hs, rfl⟩ := kvh_heap h
            obtain ⟨ρ', v', w', q1, q2, q3, q4⟩ := iappend_sim (ty := o.type) hR (elemT_inv he).1 (elemT_inv he').1 hk hn hs (hin.vr (hops s (by rw [e2]; simp)) hv) hsrc
            refine ⟨ρ', w', .value v', _, ?_, .value _, q2, q3, q4⟩
            rw [exb, hargs, e2, htys, e1]
            exact exec_v q1
        · simp at h
      · -- copy
        rename_i t u s y e1 e2
        obtain ⟨e, he, h⟩ := Option.bind_eq_some_iff.1 h
        obtain ⟨v, hv, h⟩ := Option.bind_eq_some_iff.1 h
        obtain ⟨m, new, h, hsrc⟩ := row_sim (P := P) hR hin (hops y (by rw [e2]; simp)) h
        obtain ⟨v2, hs, rfl⟩ := kvh_heap h
        obtain ⟨v', w', q1, q2, q3, q4⟩ := icopy_sim (u := u) (ty := o.type) hR (elemT_inv he).1 (elemT_inv he).2 hs (hin.vr (hops s (by rw [e2]; simp)) hv) hsrc
        refine ⟨ρ, w', .value v', _, ?_, .value _, q2, q3, q4⟩
        rw [exb, hargs, e2, htys, e1]
        exact exec_v q1
      · -- clear
        rename_i t s e1 e2
        obtain ⟨e, he, h⟩ := Option.bind_eq_some_iff.1 h
        obtain ⟨zs, hzs, h⟩ := Option.bind_eq_some_iff.1 h
        obtain ⟨v, hv, h⟩ := Option.bind_eq_some_iff.1 h
        obtain ⟨hs, rfl⟩ := kh_heap h
        obtain ⟨w', q1, q2, q3⟩ := iclear_sim (ty := o.type) hR (elemT_inv he).1 hzs hs (hin.vr (hops s (by rw [e2]; simp)) hv)
        refine ⟨ρ, w', .value _, _, ?_, .value _, VR.tuple .nil, q2, q3⟩
        rw [exb, hargs, e2, htys, e1]
        exact exec_v q1
      · -- delete
        rename_i t u m i e1 e2
        obtain ⟨⟨ag, z⟩, ht, h⟩ := Option.bind_eq_some_iff.1 h
        obtain ⟨mv, hm, h⟩ := Option.bind_eq_some_iff.1 h
        obtain ⟨kk, hk, h⟩ := Option.bind_eq_some_iff.1 h
        obtain ⟨hs, rfl⟩ := kh_heap h
        obtain ⟨w', q1, q2, q3⟩ := idelete_sim (u := u) (ty := o.type) hR ht hs (hin.vr (hops m (by rw [e2]; simp)) hm) (hin.vr (hops i (by rw [e2]; simp)) hk)
        refine ⟨ρ, w', .value _, _, ?_, .value _, VR.tuple .nil, q2, q3⟩
        rw [exb, hargs, e2, htys, e1]
        exact exec_v q1
      · simp at h
    · simp at h
  · simp at h
end Go.Ideal
/- The ideal machine, part V: one step of a frame. -/
namespace Go.Ideal
variable {P : Program}

/-- No block below the limit has turned, none is gone. -/
structure Keeps (lim : Nat) (H H' : IHeap) : Prop where
  le : H.next ≤ H'.next
  get : ∀ b, b < lim → b < H.next → H'.get b = H.get b
  wf : (∀ b, H.next ≤ b → H.get b = none) → ∀ b, H'.next ≤ b → H'.get b = none
theorem Keeps.refl (lim : Nat) (H : IHeap) : Keeps lim H H := ⟨Nat.le_refl _, fun _ _ _ => rfl, fun h => h⟩
theorem Keeps.trans {lim : Nat} {H H1 H2 : IHeap} (h : Keeps lim H H1) (k : Keeps lim H1 H2) : Keeps lim H H2 :=
  ⟨Nat.le_trans h.le k.le, fun b h1 h2 => by rw [k.get b h1 (Nat.lt_of_lt_of_le h2 h.le), h.get b h1 h2], fun q => k.wf (h.wf q)⟩
theorem Keeps.set {lim b : Nat} (H : IHeap) (o : IObj) (h : lim ≤ b) (hg : H.get b ≠ none) : Keeps lim H (H.set b o) :=
  ⟨Nat.le_refl _, fun c h1 _ => by rw [IHeap.get_set, if_neg (by omega)], fun q c hc => by
    rw [IHeap.get_set]
    split
    · rename_i e; subst e; exact absurd (q c hc) hg
    · exact q c hc⟩
theorem Keeps.push (lim : Nat) (H : IHeap) (o : IObj) : Keeps lim H (H.push o) :=
  ⟨by simp, fun c h1 h2 => by rw [IHeap.get_push, if_neg (by omega)], fun q c hc => by
    rw [IHeap.next_push] at hc
    rw [IHeap.get_push, if_neg (by omega)]
    exact q c (by omega)⟩
theorem Keeps.weaken {lim lim' : Nat} {H H' : IHeap} (hl : lim ≤ lim') (h : Keeps lim' H H') : Keeps lim H H' := ⟨h.le, fun b h1 h2 => h.get b (by omega) h2, h.wf⟩

/-- What a function is, on the ideal machine. -/
def Enters (P : Program) (f : FuncId) : Prop := ∀ (args : Array Value) (w : World), (callFunc f args).run P w = .ok (.enter f args) w
structure SimF (P : Program) (f : FuncId) (g : G) : Prop where
  enters : Enters P f
  keeps : ∀ lim args H v H', g lim args H = some (v, H') → Keeps lim H H'
  calls : ∀ lim args H v H' ρ w args', g lim args H = some (v, H') → lim ≤ H.next → Rel ρ H w → Free ρ H.next H'.next → VRs ρ args args' →
    Calls P f args'.toArray w fun e w' => ∃ v' ρ', e = .returned v' ∧ VR ρ' v v' ∧ Rel ρ' H' w' ∧ Ext lim H.next H'.next ρ ρ' w w'

/-- A call's surroundings: what may be written, the world at its entry, the number of its slots. -/
structure Ctx where
  lim : Nat
  n0 : Nat
  ρ0 : Ren
  w0 : World
  sz : Nat

/-- A frame on the ideal machine and one of the model's. -/
structure Fr (C : Ctx) (ρ : Ren) (μ : Lam) (A : IA) (H : IHeap) (a : Act) (w : World) : Prop where
  rel : Rel ρ H w
  tmp : ∀ t, TR ρ μ (A.tmp t) (a.tmps.getD t undef)
  loc : ∀ u cs, A.loc u = some cs → ∃ r, μ u = some r ∧ LocR ρ cs w r
  priv : ∀ u r, μ u = some r → C.w0.heap.size ≤ r ∧ r < w.heap.size ∧ (∀ b x, ρ b ≠ some (r, x)) ∧ ∀ u', μ u' = some r → u' = u
  ext : Ext C.lim C.n0 H.next C.ρ0 ρ C.w0 w
  size : a.tmps.size = C.sz
  defers : a.defers = []
  next : C.n0 ≤ H.next
  lim : C.lim ≤ C.n0

variable {C : Ctx} {ρ : Ren} {μ : Lam} {A : IA} {H H' : IHeap} {a : Act} {w : World}

theorem Fr.ev (h : Fr C ρ μ A H a w) (x : Operand) : TR ρ μ (A.ev x) (a.eval x) := by
  cases x with
  | tmp t => exact h.tmp t
  | const c =>
    simp only [IA.ev, Act.eval]
    cases hc : cst c with
    | true => exact VR.cst hc
    | false => exact trivial
  | global g => exact trivial
  | func f => exact VR.func .nil .nil

theorem Fr.opIn (h : Fr C ρ μ A H a w) (op : Op) : OpIn ρ μ A a w op where
  tr := fun x _ => h.ev x
  lp := fun x _ u o _ cs hl => h.loc u cs hl
  ls := fun x _ u n _ cs hl => h.loc u cs hl

theorem put_size (a : Act) (d : Option Tmp) (v : Value) : (a.put d v).tmps.size = a.tmps.size := by cases d <;> simp [Act.put]
theorem put_defers (a : Act) (d : Option Tmp) (v : Value) : (a.put d v).defers = a.defers := by cases d <;> rfl

/-- A slot is set. -/
theorem put_tmp {A : IA} {a : Act} {d : Option Tmp} {x : TV} {y : Value} (hd : ∀ t, d = some t → t < a.tmps.size) (h : ∀ t, TR ρ μ (A.tmp t) (a.tmps.getD t undef)) (hx : TR ρ μ x y) :
    ∀ t, TR ρ μ ((A.put d x).tmp t) ((a.put d y).tmps.getD t undef) := by
  intro t
  cases d with
  | none => exact h t
  | some d =>
    have hlt := hd d rfl
    simp only [IA.put, Act.put]
    by_cases e : t = d
    · subst e
      simp [hlt]
      exact hx
    · have e1 : (t == d) = false := by simpa using e
      have e2 : (a.tmps.setIfInBounds d y).getD t undef = a.tmps.getD t undef := by
        simp only [Array.getD_eq_getD_getElem?, Array.getElem?_setIfInBounds]
        rw [if_neg (fun q => e q.symm)]
      rw [e1, cond_false, e2]
      exact h t
theorem put_loc (A : IA) (d : Option Tmp) (x : TV) : (A.put d x).loc = A.loc := by cases d <;> rfl

theorem LocR.mono {ρ ρ' : Ren} {cs : List Value} {w w' : World} {r : Nat} (h : LocR ρ cs w r) (hm : ρ.le ρ') (hw : w'.heap[r]? = w.heap[r]?) : LocR ρ' cs w' r := by
  obtain ⟨c, t, h1, h2, h3⟩ := h
  exact ⟨c, t, hw.trans h1, h2.mono hm, h3⟩

/-- The heap has turned, the slot is set. -/
theorem Fr.heap {ρ' : Ren} {w' : World} {d : Option Tmp} {x : TV} {y : Value} (h : Fr C ρ μ A H a w) (hd : ∀ t, d = some t → t < C.sz) (hR : Rel ρ' H' w') (hE : Ext C.lim H.next H'.next ρ ρ' w w') (hx : TR ρ' μ x y) (hn : H.next ≤ H'.next)
    (hf : Free C.ρ0 C.n0 H'.next) : Fr C ρ' μ (A.put d x) H' (a.put d y) w' := by
  have kept : ∀ u r, μ u = some r → w'.heap[r]? = w.heap[r]? := by
    intro u r hu
    obtain ⟨_, h2, h3, _⟩ := h.priv u r hu
    exact hE.kept r h2 fun b x e _ _ => h3 b x e
  refine ⟨hR, ?_, ?_, ?_, h.ext.trans h.next hn hf hE, by rw [put_size]; exact h.size, by rw [put_defers]; exact h.defers, Nat.le_trans h.next hn, h.lim⟩
  · exact put_tmp (by rw [h.size]; exact hd) (fun t => (h.tmp t).mono hE.mono) hx
  · intro u cs e
    rw [put_loc] at e
    obtain ⟨r, hr, hL⟩ := h.loc u cs e
    exact ⟨r, hr, hL.mono hE.mono (kept u r hr)⟩
  · intro u r hu
    obtain ⟨h1, h2, h3, h4⟩ := h.priv u r hu
    refine ⟨h1, Nat.lt_of_lt_of_le h2 hE.size, fun b x e => ?_, h4⟩
    cases hb : ρ b with
    | some z =>
      have := hE.mono _ _ hb
      rw [e] at this
      exact h3 b x (by rw [hb, this])
    | none =>
      obtain ⟨_, _, k⟩ := hE.fresh _ _ _ e hb
      rcases k with k | ⟨b0, x0, k, _⟩
      · omega
      · exact h3 _ _ k

/-- A slot is set, all else stays. -/
theorem Fr.put {d : Option Tmp} {x : TV} {y : Value} (h : Fr C ρ μ A H a w) (hd : ∀ t, d = some t → t < C.sz) (hx : TR ρ μ x y) : Fr C ρ μ (A.put d x) H (a.put d y) w where
  rel := h.rel
  tmp := put_tmp (by rw [h.size]; exact hd) h.tmp hx
  loc := fun u cs e => h.loc u cs (by rw [put_loc] at e; exact e)
  priv := h.priv
  ext := h.ext
  size := by rw [put_size]; exact h.size
  defers := by rw [put_defers]; exact h.defers
  next := h.next
  lim := h.lim

/-- A world that turns where nothing of the ideal heap lies. -/
theorem Rel.aside {w' : World} {r : Nat} {x : Obj} (h : Rel ρ H w) (hT : Turn w w' r x) (hr : ∀ b y, ρ b ≠ some (r, y)) : Rel ρ H w' where
  wf := h.wf
  dom := fun b r' y e => Nat.lt_of_lt_of_le (h.dom _ _ _ e) hT.size
  obj := fun b r' δ z o e g => by
    rw [hT.rest r' (h.dom _ _ _ e) (fun q => hr b _ (by rw [e, q]))]
    exact h.obj _ _ _ _ _ e g
  sep := h.sep
  last := h.last
theorem Ext.aside {lim n n' : Nat} {ρ0 : Ren} {w0 w' : World} {r : Nat} {x : Obj} (h : Ext lim n n' ρ0 ρ w0 w) (hT : Turn w w' r x) (hr : w0.heap.size ≤ r) : Ext lim n n' ρ0 ρ w0 w' where
  mono := h.mono
  size := Nat.le_trans h.size hT.size
  os := hT.os.trans h.os
  tape := hT.tape.trans h.tape
  output := hT.output.trans h.output
  kept := fun k hk hno => by
    rw [hT.rest k (Nat.lt_of_lt_of_le hk h.size) (by omega)]
    exact h.kept k hk hno
  fresh := h.fresh

/-- A local variable's step. -/
theorem Fr.local {o : Oper} {x : TV} {u : Nat} {cs : List Value} (h : Fr C ρ μ A H a w) (hd : ∀ t, o.dst = some t → t < C.sz) {pr : Prm} (hs : LocStep pr ρ μ P w o a x u cs) (hnew : ∀ u ∈ wipes pr [o], μ u = none) :
    ∃ μ' w' n y, (execOp a.eval o).run P w = .ok n w' ∧ NextV n y ∧ Fr C ρ μ' ((A.putLoc u cs).put o.dst x) H (a.put o.dst y) w' ∧ (∀ k, k ∉ wipes pr [o] → μ' k = μ k) := by
  cases hs with
  | @new _ _ y _ c t hdst hwp hrun hv h1 hxy =>
    have hmu : μ u = none := hnew u (by rw [hwp]; simp)
    have hT := Turn.alloc w (.cells c t)
    let μ' : Lam := fun k => if k = u then some w.heap.size else μ k
    have hle : ∀ k r, μ k = some r → μ' k = some r := by
      intro k r e
      show (if k = u then _ else _) = _
      rw [if_neg (fun q => by rw [q, hmu] at e; simp at e)]; exact e
    have htr : ∀ x y, TR ρ μ x y → TR ρ μ' x y := by
      intro x y k
      cases x with
      | v x => exact k
      | lp v o => obtain ⟨r, e, q⟩ := k; exact ⟨r, hle v r e, q⟩
      | ls v n => obtain ⟨r, c, e, q⟩ := k; exact ⟨r, c, hle v r e, q⟩
      | bot => exact trivial
    have hself : μ' u = some w.heap.size := by show (if u = u then _ else _) = _; rw [if_pos rfl]
    have hfar : ∀ b x, ρ b ≠ some (w.heap.size, x) := fun b x e => by have := h.rel.dom _ _ _ e; omega
    have hw0 : C.w0.heap.size ≤ w.heap.size := h.ext.size
    refine ⟨μ', _, .value y, y, hrun, .value y, ⟨h.rel.aside hT hfar, ?_, ?_, ?_, h.ext.aside hT hw0, by rw [put_size]; exact h.size, by rw [put_defers]; exact h.defers, h.next, h.lim⟩, ?_⟩
    · refine put_tmp (A := A.putLoc u cs) (by rw [h.size]; exact hd) (fun t => htr _ _ (h.tmp t)) ?_
      rcases hxy with ⟨rfl, rfl⟩ | ⟨n, rfl, rfl⟩
      · exact ⟨_, hself, rfl⟩
      · exact ⟨_, n, hself, rfl⟩
    · intro k ks e
      rw [put_loc] at e
      simp only [IA.putLoc] at e
      by_cases hk : k = u
      · subst hk
        simp at e; subst e
        exact ⟨_, hself, c, t, by simpa using hT.at_, hv, h1⟩
      · have e1 : (k == u) = false := by simpa using hk
        rw [e1, cond_false] at e
        obtain ⟨r, hr, hL⟩ := h.loc k ks e
        obtain ⟨_, h2, _, _⟩ := h.priv k r hr
        exact ⟨r, hle k r hr, hL.mono (Ren.le_refl ρ) (hT.rest r h2 (by omega))⟩
    · intro k r hk
      by_cases e : k = u
      · subst e
        rw [hself] at hk; simp at hk; subst hk
        refine ⟨hw0, by simp, hfar, fun k' hk' => ?_⟩
        by_cases e' : k' = k
        · exact e'
        · have : μ k' = some w.heap.size := by
            have hk' : (if k' = k then some w.heap.size else μ k') = some w.heap.size := hk'
            rw [if_neg e'] at hk'; exact hk'
          have := (h.priv _ _ this).2.1
          omega
      · have hk' : μ k = some r := by
          have hk : (if k = u then some w.heap.size else μ k) = some r := hk
          rw [if_neg e] at hk; exact hk
        obtain ⟨h1, h2, h3, h4⟩ := h.priv k r hk'
        refine ⟨h1, by simp; omega, h3, fun k' hq => ?_⟩
        by_cases e' : k' = u
        · subst e'
          rw [hself] at hq; simp at hq; omega
        · have hq : (if k' = u then some w.heap.size else μ k') = some r := hq
          rw [if_neg e'] at hq
          exact h4 _ hq
    · intro k hk
      rw [hwp] at hk
      show (if k = u then _ else _) = _; rw [if_neg (by simpa using hk)]
  | @old _ r _ c t w' hμ hrun hT hv h1 hsz =>
    obtain ⟨p1, p2, p3, p4⟩ := h.priv u r hμ
    refine ⟨μ, w', .skip, .tuple #[], hrun, .skip, ⟨h.rel.aside hT p3, ?_, ?_, ?_, h.ext.aside hT p1, by rw [put_size]; exact h.size, by rw [put_defers]; exact h.defers, h.next, h.lim⟩, fun _ _ => rfl⟩
    · exact put_tmp (A := A.putLoc u cs) (by rw [h.size]; exact hd) h.tmp (VR.tuple .nil)
    · intro k ks e
      rw [put_loc] at e
      simp only [IA.putLoc] at e
      by_cases hk : k = u
      · subst hk
        simp at e; subst e
        exact ⟨r, hμ, c, t, hT.at_, hv, h1⟩
      · have e1 : (k == u) = false := by simpa using hk
        rw [e1, cond_false] at e
        obtain ⟨r', hr, hL⟩ := h.loc k ks e
        obtain ⟨_, h2, _, _⟩ := h.priv k r' hr
        refine ⟨r', hr, hL.mono (Ren.le_refl ρ) (hT.rest r' h2 (fun q => hk ?_))⟩
        subst q
        exact p4 _ hr
    · intro k r' hk
      obtain ⟨h1, h2, h3, h4⟩ := h.priv k r' hk
      exact ⟨h1, by omega, h3, h4⟩
end Go.Ideal
/- The ideal machine, part W: what an operation leaves as it is. -/
namespace Go.Ideal
variable {P : Program} {H H' : IHeap} {A : IA}

theorem hcells_some {b : Nat} {x : List Value × Nat} (h : hcells H b = some x) : H.get b ≠ none := by
  intro e; simp [hcells, e] at h
theorem hmap_some {ag b : Nat} {x : List Ent × Nat} (h : hmap ag H b = some x) : H.get b ≠ none := by
  intro e; simp [hmap, e] at h

theorem hstore_keeps {ag : Bool} {size lim : Nat} {x v : Value} (h : hstore ag size lim H x v = some H') : Keeps lim H H' := by
  obtain ⟨b, o, rfl, h⟩ := ptr_of h
  obtain ⟨⟨cs, fl⟩, hc, h⟩ := Option.bind_eq_some_iff.1 h
  simp only at h
  cases hcond : decide (lim ≤ b) && fl == 0 with
  | false => simp [hcond] at h
  | true =>
    simp only [hcond, cond_true] at h
    obtain ⟨cs', hst, h⟩ := Option.bind_eq_some_iff.1 h
    simp at h hcond
    subst h
    exact Keeps.set H _ hcond.1 (hcells_some hc)

theorem cond_some {α : Type} {c : Bool} {x y : Option α} {z : α} (h : (bif c then x else y) = some z) : (c = true ∧ x = some z) ∨ (c = false ∧ y = some z) := by
  cases c
  · exact .inr ⟨rfl, h⟩
  · exact .inl ⟨rfl, h⟩

theorem iappend_keeps {share : Bool} {size bytes lim m : Nat} {s v : Value} {new : List Value} (h : iappend share size bytes lim H s m new = some (v, H')) : Keeps lim H H' := by
  unfold iappend at h
  rcases cond_some h with ⟨_, h⟩ | ⟨_, h⟩
  · split at h
    · simp at h; obtain ⟨_, rfl⟩ := h; exact Keeps.refl _ _
    · simp at h
  · split at h
    · rcases cond_some h with ⟨_, h⟩ | ⟨_, h⟩ <;> simp at h
      obtain ⟨_, rfl⟩ := h; exact Keeps.push _ _ _
    · rename_i b o sp n c
      rcases cond_some h with ⟨_, h⟩ | ⟨_, h⟩
      · simp at h
      · rcases cond_some h with ⟨_, h⟩ | ⟨_, h⟩
        · simp at h; obtain ⟨_, rfl⟩ := h; exact Keeps.push _ _ _
        · obtain ⟨⟨cs, fl⟩, hc, h⟩ := Option.bind_eq_some_iff.1 h
          simp only at h
          rcases cond_some h with ⟨_, h⟩ | ⟨hl, h⟩
          · simp at h
          · simp at hl
            rcases cond_some h with ⟨_, h⟩ | ⟨_, h⟩ <;> rcases cond_some h with ⟨_, h⟩ | ⟨_, h⟩ <;> simp at h <;> obtain ⟨_, rfl⟩ := h <;> exact (Keeps.set H _ hl.1 (hcells_some hc)).trans (Keeps.push _ _ _)
    · simp at h

theorem icopy_keeps {size lim m : Nat} {s v : Value} {new : List Value} (h : icopy size lim H s m new = some (v, H')) : Keeps lim H H' := by
  unfold icopy at h
  split at h
  · simp at h; obtain ⟨_, rfl⟩ := h; exact Keeps.refl _ _
  · rename_i b o sp n c
    rcases cond_some h with ⟨_, h⟩ | ⟨_, h⟩
    · simp at h; obtain ⟨_, rfl⟩ := h; exact Keeps.refl _ _
    · obtain ⟨⟨cs, fl⟩, hc, h⟩ := Option.bind_eq_some_iff.1 h
      simp only at h
      rcases cond_some h with ⟨_, h⟩ | ⟨hl, h⟩
      · simp at h
      · simp at hl h; obtain ⟨_, rfl⟩ := h
        exact Keeps.set H _ hl.1.1 (hcells_some hc)
  · simp at h

theorem iclear_keeps {lim : Nat} {zs : List Value} {s : Value} (h : iclear zs lim H s = some H') : Keeps lim H H' := by
  unfold iclear at h
  split at h
  · simp at h; subst h; exact Keeps.refl _ _
  · rename_i b o sp n c
    rcases cond_some h with ⟨_, h⟩ | ⟨_, h⟩
    · simp at h; subst h; exact Keeps.refl _ _
    · obtain ⟨⟨cs, fl⟩, hc, h⟩ := Option.bind_eq_some_iff.1 h
      simp only at h
      rcases cond_some h with ⟨_, h⟩ | ⟨hl, h⟩
      · simp at h
      · simp at hl h; subst h
        exact Keeps.set H _ hl.1.1 (hcells_some hc)
  · simp at h

theorem imake_keeps {bytes lim : Nat} {zs : List Value} {l c v : Value} (h : imake bytes zs H l c = some (v, H')) : Keeps lim H H' := by
  unfold imake at h
  split at h
  · split at h
    · simp at h; obtain ⟨_, rfl⟩ := h; exact Keeps.push _ _ _
    · simp at h
  · simp at h

theorem imapUpdate_keeps {ag lim : Nat} {m k v : Value} (h : imapUpdate ag lim H m k v = some H') : Keeps lim H H' := by
  unfold imapUpdate at h
  split at h
  · obtain ⟨⟨es, c⟩, hc, h⟩ := Option.bind_eq_some_iff.1 h
    obtain ⟨l, _, h⟩ := Option.bind_eq_some_iff.1 h
    rcases cond_some h with ⟨hl, h⟩ | ⟨_, h⟩
    · simp at hl h; subst h; exact Keeps.set H _ hl (hmap_some hc)
    · simp at h
  · simp at h
theorem imapEntry_keeps {ag lim : Nat} {z m k v : Value} (h : imapEntry ag z lim H m k = some (v, H')) : Keeps lim H H' := by
  unfold imapEntry at h
  split at h
  · obtain ⟨⟨es, c⟩, hc, h⟩ := Option.bind_eq_some_iff.1 h
    obtain ⟨l, _, h⟩ := Option.bind_eq_some_iff.1 h
    rcases cond_some h with ⟨hl, h⟩ | ⟨_, h⟩
    · simp at hl h; obtain ⟨_, rfl⟩ := h; exact Keeps.set H _ hl (hmap_some hc)
    · simp at h
  · simp at h
theorem ientryStore_keeps {lim : Nat} {m k v : Value} (h : ientryStore lim H m k v = some H') : Keeps lim H H' := by
  unfold ientryStore at h
  split at h
  · obtain ⟨o, ho, h⟩ := Option.bind_eq_some_iff.1 h
    split at h
    · rcases cond_some h with ⟨hl, h⟩ | ⟨_, h⟩
      · obtain ⟨es, _, h⟩ := Option.bind_eq_some_iff.1 h
        simp at hl h; subst h; exact Keeps.set H _ hl (by rw [ho]; simp)
      · simp at h
    · simp at h
  · simp at h
theorem idelete_keeps {ag lim : Nat} {m k : Value} (h : idelete ag lim H m k = some H') : Keeps lim H H' := by
  unfold idelete at h
  split at h
  · obtain ⟨⟨es, c⟩, hc, h⟩ := Option.bind_eq_some_iff.1 h
    obtain ⟨l, _, h⟩ := Option.bind_eq_some_iff.1 h
    rcases cond_some h with ⟨hl, h⟩ | ⟨_, h⟩
    · simp at hl h; subst h; exact Keeps.set H _ hl (hmap_some hc)
    · simp at h
  · simp at h

theorem iop_keeps {pr : Prm} {lim : Nat} {o : Oper} {x : TV} (h : iopK P pr lim A H o.dst o.op some = some (.heap x H')) : Keeps lim H H' := by
  unfold iopK at h
  split at h
  · simp at h
  · simp at h
  · obtain ⟨_, _, h⟩ := Option.bind_eq_some_iff.1 h
    obtain ⟨_, _, h⟩ := Option.bind_eq_some_iff.1 h
    obtain ⟨_, _, h⟩ := Option.bind_eq_some_iff.1 h
    exact (kv_heap h).elim
  · -- alloc
    rename_i t hop
    obtain ⟨zs, hzs, h⟩ := Option.bind_eq_some_iff.1 h
    obtain ⟨rfl, rfl⟩ := inew_heap h
    exact Keeps.push _ _ _
  · -- box
    rename_i t y hop
    obtain ⟨v, hv, h⟩ := Option.bind_eq_some_iff.1 h
    obtain ⟨zs, hzs, h⟩ := Option.bind_eq_some_iff.1 h
    obtain ⟨rfl, rfl⟩ := inew_heap h
    exact Keeps.push _ _ _
  · -- build
    obtain ⟨l, hl, h⟩ := Option.bind_eq_some_iff.1 h
    obtain ⟨pl, hpl, h⟩ := Option.bind_eq_some_iff.1 h
    obtain ⟨zs, hzs, h⟩ := Option.bind_eq_some_iff.1 h
    rw [ifillK_bind] at h
    obtain ⟨cs, hcs, h⟩ := Option.bind_eq_some_iff.1 h
    simp at h
  · -- buildSlice
    rename_i t len parts hop
    obtain ⟨e, he, h⟩ := Option.bind_eq_some_iff.1 h
    obtain ⟨zs, hzs, h⟩ := Option.bind_eq_some_iff.1 h
    obtain ⟨l, hl, h⟩ := Option.bind_eq_some_iff.1 h
    cases hd : !decide (len * tsz P e ≤ 16777216) with
    | true => simp [hd] at h
    | false =>
      simp only [hd, cond_false] at h
      simp at hd
      rw [ifillK_bind] at h
      obtain ⟨cs, hcs, h⟩ := Option.bind_eq_some_iff.1 h
      split at h
      · simp at h
      · simp at h; obtain ⟨rfl, rfl⟩ := h
        exact Keeps.push _ _ _
  · -- load
    unfold iloadK at h
    rename_i t y hop
    cases hk : okT P t with
    | false => simp [hk] at h
    | true =>
      simp only [hk, Bool.not_true, cond_false] at h
      split at h
      · exact (kv_heap h).elim
      · obtain ⟨_, _, h⟩ := Option.bind_eq_some_iff.1 h
        exact (kv_heap h).elim
      · simp at h
  · -- store
    rename_i t y x' hop
    obtain ⟨v, hv, h⟩ := Option.bind_eq_some_iff.1 h
    unfold istoreK at h
    cases hk : okT P t with
    | false => simp [hk] at h
    | true =>
      simp only [hk, Bool.not_true, cond_false] at h
      split at h
      · rename_i v' e
        obtain ⟨hs, rfl⟩ := kh_heap h
        exact hstore_keeps hs
      · obtain ⟨_, _, h⟩ := Option.bind_eq_some_iff.1 h
        obtain ⟨_, _, h⟩ := Option.bind_eq_some_iff.1 h
        simp at h
      · simp at h
  · split at h
    · exact (kv_heap h).elim
    · simp at h
    · simp at h
  · obtain ⟨_, _, h⟩ := Option.bind_eq_some_iff.1 h
    obtain ⟨_, _, h⟩ := Option.bind_eq_some_iff.1 h
    exact (kv_heap h).elim
  · obtain ⟨_, _, h⟩ := Option.bind_eq_some_iff.1 h
    exact (kv_heap h).elim
  · rename_i s t y hop
    split at h
    · cases hk : okT P s with
      | false => simp [hk] at h
      | true =>
        simp only [hk, Bool.not_true, cond_false] at h
        obtain ⟨_, _, h⟩ := Option.bind_eq_some_iff.1 h
        exact (kv_heap h).elim
    · simp at h
  · obtain ⟨_, _, h⟩ := Option.bind_eq_some_iff.1 h
    obtain ⟨_, _, h⟩ := Option.bind_eq_some_iff.1 h
    simp at h
  · -- makeMap
    rename_i t hop
    obtain ⟨⟨ag, z⟩, _, h⟩ := Option.bind_eq_some_iff.1 h
    simp at h; obtain ⟨rfl, rfl⟩ := h
    exact Keeps.push _ _ _
  · -- makeSlice
    rename_i t l c hop
    obtain ⟨e, he, h⟩ := Option.bind_eq_some_iff.1 h
    obtain ⟨zs, hzs, h⟩ := Option.bind_eq_some_iff.1 h
    obtain ⟨n, hn', h⟩ := Option.bind_eq_some_iff.1 h
    obtain ⟨m, hm, h⟩ := Option.bind_eq_some_iff.1 h
    obtain ⟨v, hv, rfl⟩ := kvh_heap h
    exact imake_keeps hv
  · obtain ⟨_, _, h⟩ := Option.bind_eq_some_iff.1 h
    obtain ⟨_, _, h⟩ := Option.bind_eq_some_iff.1 h
    obtain ⟨_, _, h⟩ := Option.bind_eq_some_iff.1 h
    obtain ⟨_, _, h⟩ := Option.bind_eq_some_iff.1 h
    split at h
    · rename_i e ht _
      cases hk : okT P e with
      | false => simp [hk] at h
      | true => simp only [hk, Bool.not_true, cond_false] at h; exact (kv_heap h).elim
    · exact (kv_heap h).elim
    · simp at h
  · split at h
    · obtain ⟨g, _, h⟩ := Option.bind_eq_some_iff.1 h
      cases hz : tsz P g.type == 0 with
      | true => simp [hz] at h
      | false =>
        simp only [hz, cond_false] at h
        unfold iaddK at h
        split at h
        · exact (kv_heap h).elim
        · simp at h
        · simp at h
    · simp at h
  · split at h
    · obtain ⟨g, _, h⟩ := Option.bind_eq_some_iff.1 h
      cases hk : okT P g.type with
      | false => simp [hk] at h
      | true =>
        simp only [hk, Bool.not_true, cond_false] at h
        obtain ⟨_, _, h⟩ := Option.bind_eq_some_iff.1 h
        exact (kv_heap h).elim
    · simp at h
  · obtain ⟨_, _, h⟩ := Option.bind_eq_some_iff.1 h
    split at h
    · rename_i e ht
      cases hk : okT P e with
      | false => simp [hk] at h
      | true =>
        simp only [hk, Bool.not_true, cond_false] at h
        obtain ⟨_, _, h⟩ := Option.bind_eq_some_iff.1 h
        exact (kv_heap h).elim
    · rename_i len e ht
      cases hk : okT P e with
      | false => simp [hk] at h
      | true =>
        simp only [hk, Bool.not_true, cond_false] at h
        obtain ⟨_, _, h⟩ := Option.bind_eq_some_iff.1 h
        unfold iaddK at h
        split at h
        · exact (kv_heap h).elim
        · simp at h
        · simp at h
    · simp at h
  · obtain ⟨_, _, h⟩ := Option.bind_eq_some_iff.1 h
    obtain ⟨_, _, h⟩ := Option.bind_eq_some_iff.1 h
    split at h
    · rename_i len e ht
      cases hk : okT P e with
      | false => simp [hk] at h
      | true => simp only [hk, Bool.not_true, cond_false] at h; exact (kv_heap h).elim
    · exact (kv_heap h).elim
    · simp at h
  · obtain ⟨⟨ag, z⟩, _, h⟩ := Option.bind_eq_some_iff.1 h
    obtain ⟨_, _, h⟩ := Option.bind_eq_some_iff.1 h
    obtain ⟨_, _, h⟩ := Option.bind_eq_some_iff.1 h
    exact (kv_heap h).elim
  · -- mapUpdate
    rename_i t m i y hop
    obtain ⟨⟨ag, z⟩, ht, h⟩ := Option.bind_eq_some_iff.1 h
    obtain ⟨mv, hm, h⟩ := Option.bind_eq_some_iff.1 h
    obtain ⟨kk, hk, h⟩ := Option.bind_eq_some_iff.1 h
    obtain ⟨v, hv, h⟩ := Option.bind_eq_some_iff.1 h
    obtain ⟨hs, rfl⟩ := kh_heap h
    exact imapUpdate_keeps hs
  · -- mapEntry
    rename_i t m i hop
    obtain ⟨⟨ag, z⟩, ht, h⟩ := Option.bind_eq_some_iff.1 h
    obtain ⟨mv, hm, h⟩ := Option.bind_eq_some_iff.1 h
    obtain ⟨kk, hk, h⟩ := Option.bind_eq_some_iff.1 h
    obtain ⟨v, hs, rfl⟩ := kvh_heap h
    exact imapEntry_keeps hs
  · -- entryStore
    rename_i t m s y hop
    obtain ⟨mv, hm, h⟩ := Option.bind_eq_some_iff.1 h
    obtain ⟨sv, hsv, h⟩ := Option.bind_eq_some_iff.1 h
    obtain ⟨v, hv, h⟩ := Option.bind_eq_some_iff.1 h
    obtain ⟨hs, rfl⟩ := kh_heap h
    exact ientryStore_keeps hs
  · obtain ⟨_, _, h⟩ := Option.bind_eq_some_iff.1 h
    exact (kv_heap h).elim
  · -- call
    rename_i c hop
    split at h
    · rename_i b hb
      split at h
      · obtain ⟨_, _, h⟩ := Option.bind_eq_some_iff.1 h
        split at h <;> first | exact (kv_heap h).elim | simp at h
      · obtain ⟨_, _, h⟩ := Option.bind_eq_some_iff.1 h
        exact (kv_heap h).elim
      · obtain ⟨_, _, h⟩ := Option.bind_eq_some_iff.1 h
        exact (kv_heap h).elim
      · -- append
        rename_i t u s y e1 e2
        split at h
        · rename_i e e' he he'
          cases hk : zcells P e with
          | none => simp [hk] at h
          | some zs =>
            simp only [hk, Option.isNone_some, cond_false] at h
            obtain ⟨v, hv, h⟩ := Option.bind_eq_some_iff.1 h
            unfold irowK at h
            split at h
            · obtain ⟨_, _, h⟩ := Option.bind_eq_some_iff.1 h
              obtain ⟨v2, hs, rfl⟩ := kvh_heap h
              exact iappend_keeps hs
            · obtain ⟨_, _, h⟩ := Option.bind_eq_some_iff.1 h
              obtain ⟨_, _, h⟩ := Option.bind_eq_some_iff.1 h
              obtain ⟨v2, hs, rfl⟩ := kvh_heap h
              exact iappend_keeps hs
            · simp at h
        · simp at h
      · -- copy
        rename_i t u s y e1 e2
        obtain ⟨e, he, h⟩ := Option.bind_eq_some_iff.1 h
        obtain ⟨v, hv, h⟩ := Option.bind_eq_some_iff.1 h
        unfold irowK at h
        split at h
        · obtain ⟨_, _, h⟩ := Option.bind_eq_some_iff.1 h
          obtain ⟨v2, hs, rfl⟩ := kvh_heap h
          exact icopy_keeps hs
        · obtain ⟨_, _, h⟩ := Option.bind_eq_some_iff.1 h
          obtain ⟨_, _, h⟩ := Option.bind_eq_some_iff.1 h
          obtain ⟨v2, hs, rfl⟩ := kvh_heap h
          exact icopy_keeps hs
        · simp at h
      · -- clear
        rename_i t s e1 e2
        obtain ⟨e, he, h⟩ := Option.bind_eq_some_iff.1 h
        obtain ⟨zs, hzs, h⟩ := Option.bind_eq_some_iff.1 h
        obtain ⟨v, hv, h⟩ := Option.bind_eq_some_iff.1 h
        obtain ⟨hs, rfl⟩ := kh_heap h
        exact iclear_keeps hs
      · -- delete
        rename_i t u m i e1 e2
        obtain ⟨⟨ag, z⟩, ht, h⟩ := Option.bind_eq_some_iff.1 h
        obtain ⟨mv, hm, h⟩ := Option.bind_eq_some_iff.1 h
        obtain ⟨kk, hk, h⟩ := Option.bind_eq_some_iff.1 h
        obtain ⟨hs, rfl⟩ := kh_heap h
        exact idelete_keeps hs
      · simp at h
    · simp at h
  · simp at h
end Go.Ideal
/- The ideal machine, part X: a step of a frame, whatever it is. -/
namespace Go.Ideal
variable {P : Program} {C : Ctx} {ρ : Ren} {μ : Lam} {A A' : IA} {H H' : IHeap} {a : Act} {w : World}

def EnvOK (P : Program) (E : Env) : Prop := ∀ f g, E.fn f = some g → SimF P f g

/-- What an operation that is wanted may be. -/
theorem iwant_inv {E : Env} {pr : Prm} {lim : Nat} {q : Bool} {W : List Nat} {o : Oper} (h : iwant P E pr lim q W o A H = some (A', H')) :
    (∃ r, iopK P pr lim A H o.dst o.op some = some r ∧ r.finK W A H o.dst (fun A' H' => some (A', H')) = some (A', H')) ∨
    ∃ c fv fid first cap vs g v, o.op = .call c ∧ c.callee = .value fv ∧ A.evd fv = some (.func (.func fid) first cap) ∧ evs A c.args.toList = some vs ∧ E.fn fid = some g ∧
      g (bif q && !E.wr.elem fid then H.next else lim) (first.toList ++ vs ++ cap.toList) H = some (v, H') ∧ A' = A.put o.dst (.v v) := by
  unfold iwant iwantK at h
  split at h
  · rename_i c hop
    split at h
    · rw [iopK_bind] at h
      left
      obtain ⟨r, h1, h2⟩ := Option.bind_eq_some_iff.1 h
      exact ⟨r, h1, h2⟩
    · rename_i fv hc
      right
      obtain ⟨x, hx, h⟩ := Option.bind_eq_some_iff.1 h
      obtain ⟨vs, hvs, h⟩ := Option.bind_eq_some_iff.1 h
      unfold funcK at h
      split at h
      · rename_i fid first cap _
        obtain ⟨g, hg, h⟩ := Option.bind_eq_some_iff.1 h
        unfold callK at h
        obtain ⟨⟨v, H1⟩, hr, h⟩ := Option.bind_eq_some_iff.1 h
        simp at h
        obtain ⟨rfl, rfl⟩ := h
        exact ⟨c, fv, fid, first, cap, vs, g, v, hop, hc, hx, hvs, hg, hr, rfl⟩
      · simp at h
    · simp at h
  · left
    rw [iopK_bind] at h
    obtain ⟨r, h1, h2⟩ := Option.bind_eq_some_iff.1 h
    exact ⟨r, h1, h2⟩

theorem iwant_keeps {E : Env} {pr : Prm} {lim : Nat} {q : Bool} {W : List Nat} {o : Oper} (hE : EnvOK P E) (hl : lim ≤ H.next) (h : iwant P E pr lim q W o A H = some (A', H')) : Keeps lim H H' := by
  rcases iwant_inv h with ⟨r, h1, h2⟩ | ⟨c, fv, fid, first, cap, vs, g, v, _, _, _, _, hg, hr, _⟩
  · cases r with
    | tv x => simp [R1.finK] at h2; obtain ⟨_, rfl⟩ := h2; exact Keeps.refl _ _
    | loc x t cs =>
      simp only [R1.finK] at h2
      rcases cond_some h2 with ⟨_, h⟩ | ⟨_, h⟩
      · simp at h; obtain ⟨_, rfl⟩ := h; exact Keeps.refl _ _
      · simp at h
    | heap x H1 => simp [R1.finK] at h2; obtain ⟨_, rfl⟩ := h2; exact iop_keeps h1
  · have : Keeps (bif q && !E.wr.elem fid then H.next else lim) H H' := (hE _ _ hg).keeps _ _ _ _ _ hr
    refine this.weaken ?_
    cases (q && !E.wr.elem fid)
    · exact Nat.le_refl _
    · exact hl

/-- A step that a call is. -/
theorem call_sound {E : Env} (hE : EnvOK P E) {o : Oper} {c : Call} {fv : Operand} {fid : FuncId} {first cap : Array Value} {vs : List Value} {g : G} {v : Value} {lim : Nat}
    (hop : o.op = .call c) (hc : c.callee = .value fv) (hin : OpIn ρ μ A a w o.op) (hR : Rel ρ H w) (hfree : Free ρ H.next H'.next) (hl : lim ≤ H.next)
    (hx : A.evd fv = some (.func (.func fid) first cap)) (hvs : evs A c.args.toList = some vs) (hg : E.fn fid = some g) (hr : g lim (first.toList ++ vs ++ cap.toList) H = some (v, H'))
    {next : Act → World → Prop} {Q : Exit → Act → World → Prop} (hnext : ∀ v' ρ' w', VR ρ' v v' → Rel ρ' H' w' → Ext lim H.next H'.next ρ ρ' w w' → next (a.put o.dst v') w') :
    o.wp P a w next Q := by
  rw [hop] at hin
  have hops : ∀ x, x ∈ c.args.toList → x ∈ (Op.call c).operands := by
    intro x hx
    simp only [Op.operands, Call.operands, hc]
    simp; exact .inr (by simpa using hx)
  have hf := hin.vr (x := fv) (by simp [Op.operands, Call.operands, hc]) hx
  have ha := evs_sim (ρ := ρ) (a := a) hvs (fun x hx => hin.tr x (hops x hx))
  obtain ⟨f1⟩ := first
  obtain ⟨f2⟩ := cap
  generalize hfe : a.eval fv = fval at hf
  cases hf with
  | @func _ _ _ c1 c2 k1 k2 =>
    have hargs : c.args.map a.eval = ⟨c.args.toList.map a.eval⟩ := Array.ext' (by rw [Array.toList_map])
    have run : (execOp a.eval o).run P w = .ok (.enter fid (c1 ++ c.args.toList.map a.eval ++ c2).toArray) w := by
      simp only [execOp, hop, resolve, hc, hfe, Deferred.ofValue, hargs, Sem.run_bind, Sem.run_pure, Result.andThen_ok, invoke]
      have := (hE _ _ hg).enters (⟨c1⟩ ++ ⟨c.args.toList.map a.eval⟩ ++ ⟨c2⟩) w
      simpa using this
    have hcalls := (hE _ _ hg).calls lim _ H v H' ρ w (c1 ++ c.args.toList.map a.eval ++ c2) hr hl hR hfree ((k1.append ha).append k2)
    unfold Oper.wp
    rw [run, Oper.upon_enter]
    refine hcalls.mono ?_
    rintro e w' ⟨v', ρ', rfl, q1, q2, q3⟩
    exact hnext v' ρ' w' q1 q2 q3

/-- A wanted step of a frame. -/
theorem iwant_sound {E : Env} (hE : EnvOK P E) {pr : Prm} {q : Bool} {W : List Nat} {o : Oper} (hF : Fr C ρ μ A H a w) (hfree : Free C.ρ0 C.n0 H'.next) (hd : ∀ t, o.dst = some t → t < C.sz)
    (hw : ∀ u ∈ wipes pr [o], μ u = none) (h : iwant P E pr C.lim q W o A H = some (A', H')) {next : Act → World → Prop} {Q : Exit → Act → World → Prop}
    (hnext : ∀ ρ' μ' a' w', Fr C ρ' μ' A' H' a' w' → (∀ k, k ∉ wipes pr [o] → μ' k = μ k) → next a' w') : o.wp P a w next Q := by
  have hlim : C.lim ≤ H.next := Nat.le_trans hF.lim hF.next
  have hk := iwant_keeps hE hlim h
  have hfr : Free ρ H.next H'.next := Free.of_ext hF.next hfree hF.ext
  rcases iwant_inv h with ⟨r, h1, h2⟩ | ⟨c, fv, fid, first, cap, vs, g, v, hop, hc, hx, hvs, hg, hr, rfl⟩
  · cases r with
    | tv x =>
      simp [R1.finK] at h2; obtain ⟨rfl, rfl⟩ := h2
      obtain ⟨y, e1, e2⟩ := iop_tv h1 (hF.opIn _) (fun _ => hF.rel.toR)
      unfold Oper.wp
      rw [e1, Oper.upon_value]
      exact hnext ρ μ _ w (hF.put hd e2) fun _ _ => rfl
    | loc x u cs =>
      simp only [R1.finK] at h2
      rcases cond_some h2 with ⟨_, h2⟩ | ⟨_, h2⟩
      · simp at h2; obtain ⟨rfl, rfl⟩ := h2
        have hs := iop_loc h1 (hF.opIn (w := w) o.op)
        obtain ⟨μ', w', n, y, e1, e2, e3, e4⟩ := hF.local hd hs hw
        unfold Oper.wp
        rw [e1]
        have fin : next (a.put o.dst y) w' := by
          exact hnext ρ μ' _ w' e3 e4
        cases e2 with
        | value y => rw [Oper.upon_value]; exact fin
        | skip => rw [Oper.upon_skip]; exact fin
      · simp at h2
    | heap x H1 =>
      simp [R1.finK] at h2; obtain ⟨rfl, rfl⟩ := h2
      obtain ⟨ρ', w', n, y, e1, e2, e3, e4, e5⟩ := iop_heap (a := a) h1 (hF.opIn _) hF.rel (hfr _ (Nat.le_refl _))
      have fin := hnext ρ' μ _ w' (hF.heap hd e4 e5 e3 hk.le hfree) fun _ _ => rfl
      unfold Oper.wp
      rw [e1]
      cases e2 with
      | value y => rw [Oper.upon_value]; exact fin
      | skip => rw [Oper.upon_skip]; exact fin
  · have hl2 : (bif q && !E.wr.elem fid then H.next else C.lim) ≤ H.next := by
      cases (q && !E.wr.elem fid)
      · exact hlim
      · exact Nat.le_refl _
    have hl3 : C.lim ≤ (bif q && !E.wr.elem fid then H.next else C.lim) := by
      cases (q && !E.wr.elem fid)
      · exact Nat.le_refl _
      · exact hlim
    refine call_sound hE hop hc (hF.opIn _) hF.rel hfr hl2 hx hvs hg hr fun v' ρ' w' q1 q2 q3 => ?_
    exact hnext ρ' μ _ w' (hF.heap hd q2 (q3.weaken hl3) q1 hk.le hfree) fun _ _ => rfl
end Go.Ideal
/- The ideal machine, part Y: a region, one operation behind the other. -/
namespace Go.Ideal
variable {P : Program} {C : Ctx} {ρ : Ren} {μ : Lam} {A A' : IA} {H H' : IHeap} {a : Act} {w : World}

theorem wipes_cons (pr : Prm) (o : Oper) (r : List Oper) : wipes pr (o :: r) = wipes pr [o] ++ wipes pr r := by
  simp only [wipes]
  split <;> first | rfl | (split <;> simp)

theorem bool_inv {c : Bool} {y : Value} (h : VR ρ (.bool c) y) : y = .bool c := by cases h; rfl
theorem tuple_inv {l : Array Value} {y : Value} (h : VR ρ (.tuple l) y) : ∃ m, y = .tuple m := by cases h; exact ⟨_, rfl⟩
/-- A guard. -/
theorem iguard_sim {ops : Array Oper} {o : Oper} {b : Bool} (h : iguard ops A o.guard = some b) (ht : ∀ j wv, o.guard = some (j, wv) → ∀ d, (ops[j]?).bind (·.dst) = some d → TR ρ μ (A.tmp d) (a.tmps.getD d undef)) :
    Region.wanted o (yielded ops a.tmps) = b := by
  unfold iguard at h
  unfold Region.wanted
  cases hg : o.guard with
  | none => rw [hg] at h; simp at h; subst h; rfl
  | some g =>
    obtain ⟨j, wv⟩ := g
    rw [hg] at h
    simp only at h ⊢
    unfold yielded
    cases hd : (ops[j]?).bind (·.dst) with
    | none => rw [hd] at h; simp at h; subst h; simp
    | some d =>
      rw [hd] at h
      have hT := ht j wv hg d hd
      simp only at h
      simp only [Option.bind_some]
      have hget : a.tmps.getD d undef = (a.tmps[d]?).getD undef := by simp [Array.getD_eq_getD_getElem?]
      split at h
      · rename_i x hx
        rw [hx] at hT
        unfold gval at h
        split at h
        · rename_i c
          simp at h; subst h
          have : a.tmps.getD d undef = .bool c := bool_inv hT
          rw [hget] at this
          cases hv : a.tmps[d]? with
          | none => rw [hv] at this; simp [undef] at this
          | some y => rw [hv] at this; simp at this; subst this; cases c <;> cases wv <;> rfl
        · rename_i l
          have hl : l.size = 0 := by
            rcases cond_some h with ⟨hc, _⟩ | ⟨_, h⟩
            · simpa using hc
            · simp at h
          have hb : b = false := by simp [hl] at h; exact h
          subst hb
          have : ∃ m, a.tmps.getD d undef = .tuple m := tuple_inv hT
          obtain ⟨m, this⟩ := this
          rw [hget] at this
          cases hv : a.tmps[d]? with
          | none => simp
          | some y => rw [hv] at this; simp at this; subst this; simp
        · simp at h
      · simp at h

theorem istep_keeps {E : Env} {pr : Prm} {lim : Nat} {q : Bool} {W : List Nat} {ops : Array Oper} {o : Oper} (hE : EnvOK P E) (hl : lim ≤ H.next) (h : istep P E pr lim q W ops o A H = some (A', H')) : Keeps lim H H' := by
  unfold istep at h
  obtain ⟨b, _, h⟩ := Option.bind_eq_some_iff.1 h
  rcases cond_some h with ⟨_, h⟩ | ⟨_, h⟩
  · exact iwant_keeps hE hl h
  · simp at h; obtain ⟨_, rfl⟩ := h; exact Keeps.refl _ _
theorem irun_keeps {E : Env} {pr : Prm} {lim : Nat} {q : Bool} {W : List Nat} {ops : Array Oper} (hE : EnvOK P E) : ∀ {l : List Oper} {A : IA} {H : IHeap}, lim ≤ H.next → irun P E pr lim q W ops l A H = some (A', H') → Keeps lim H H'
  | [], A, H, hl, h => by simp [irun] at h; obtain ⟨_, rfl⟩ := h; exact Keeps.refl _ _
  | o :: r, A, H, hl, h => by
    simp only [irun] at h
    obtain ⟨⟨A1, H1⟩, h1, h⟩ := Option.bind_eq_some_iff.1 h
    have k := istep_keeps hE hl h1
    exact k.trans (irun_keeps hE (Nat.le_trans hl k.le) h)

/-- The operations of a region, in the order of the text. -/
theorem irun_sound {E : Env} (hE : EnvOK P E) {pr : Prm} {q : Bool} {W : List Nat} {ops : Array Oper} {Q : Exit → Act → World → Prop} :
    ∀ (rest : List Oper) (i : Nat) {ρ : Ren} {μ : Lam} {A : IA} {H : IHeap} {a : Act} {w : World}, ops.toList.drop i = rest → Fr C ρ μ A H a w → Free C.ρ0 C.n0 H'.next → (∀ t ∈ dsts rest, t < C.sz) →
      (wipes pr rest).Nodup → (∀ u ∈ wipes pr rest, μ u = none) → irun P E pr C.lim q W ops rest A H = some (A', H') →
      (∀ ρ' μ' a' w', Fr C ρ' μ' A' H' a' w' → (∀ k, k ∉ wipes pr rest → μ' k = μ k) → Q .normal a' w') → wpOps P ops Q (List.range' i rest.length) a w
  | [], i, ρ, μ, A, H, a, w, hi, hF, hfree, hd, hn, hw, h, hnext => by
    simp [irun] at h; obtain ⟨rfl, rfl⟩ := h
    simp only [List.length_nil, List.range'_zero, wpOps]
    exact hnext ρ μ a w hF fun _ _ => rfl
  | o :: r, i, ρ, μ, A, H, a, w, hi, hF, hfree, hd, hn, hw, h, hnext => by
    simp only [irun] at h
    obtain ⟨⟨A1, H1⟩, h1, h⟩ := Option.bind_eq_some_iff.1 h
    have hlim : C.lim ≤ H.next := Nat.le_trans hF.lim hF.next
    have k1 := istep_keeps hE hlim h1
    have k2 := irun_keeps hE (Nat.le_trans hlim k1.le) h
    have hfree1 : Free C.ρ0 C.n0 H1.next := fun b h1 h2 => hfree b h1 (Nat.lt_of_lt_of_le h2 k2.le)
    have hoi : ops[i]? = some o := by
      have := congrArg (·[0]?) hi
      simpa using this
    have hr : ops.toList.drop (i + 1) = r := by rw [← List.tail_drop, hi]; rfl
    have hdo : ∀ t, o.dst = some t → t < C.sz := fun t e => hd t (by simp [dsts, e])
    have hdr : ∀ t ∈ dsts r, t < C.sz := fun t ht => hd t (by
      simp only [dsts]
      split
      · exact List.mem_cons_of_mem _ ht
      · exact ht)
    rw [wipes_cons] at hn hw
    obtain ⟨n1, n2, n3⟩ := List.nodup_append.1 hn
    -- what is left, behind this one
    have tail : ∀ ρ' μ' a' w', Fr C ρ' μ' A1 H1 a' w' → (∀ k, k ∉ wipes pr [o] → μ' k = μ k) → wpOps P ops Q (List.range' (i + 1) r.length) a' w' := by
      intro ρ' μ' a' w' hF' hmu
      refine irun_sound hE r (i + 1) hr hF' hfree hdr n2 (fun u hu => ?_) h fun ρ2 μ2 a2 w2 hF2 hmu2 => ?_
      · rw [hmu u (fun q => n3 u q u hu rfl)]
        exact hw u (List.mem_append.2 (.inr hu))
      · refine hnext ρ2 μ2 a2 w2 hF2 fun k hk => ?_
        rw [wipes_cons] at hk
        simp only [List.mem_append, not_or] at hk
        rw [hmu2 k hk.2, hmu k hk.1]
    simp only [List.length_cons, List.range'_succ, wpOps, hoi]
    unfold istep at h1
    obtain ⟨b, hb, h1⟩ := Option.bind_eq_some_iff.1 h1
    rw [iguard_sim hb (fun j wv _ d _ => hF.tmp d)]
    rcases cond_some h1 with ⟨rfl, h1⟩ | ⟨rfl, h1⟩
    · simp only [if_true]
      exact .inl (iwant_sound hE hF hfree1 hdo (fun u hu => hw u (List.mem_append.2 (.inl hu))) h1 tail)
    · simp at h1; obtain ⟨rfl, rfl⟩ := h1
      simp only [Bool.false_eq_true, if_false]
      exact tail ρ μ _ w (hF.put hdo (VR.tuple .nil)) fun _ _ => rfl
end Go.Ideal
/- The ideal machine, part Z: groups of a region are a chain of steps. -/
namespace Go.Ideal
variable {P : Program} {C : Ctx} {ρ : Ren} {μ : Lam} {A A' : IA} {H H' : IHeap} {a : Act} {w : World}

/-- A knows no more than B. -/
structure IA.le (A B : IA) : Prop where
  tmp : ∀ t, A.tmp t = .bot ∨ A.tmp t = B.tmp t
  loc : ∀ u, A.loc u = none ∨ A.loc u = B.loc u
theorem IA.le_refl (A : IA) : A.le A := ⟨fun _ => .inr rfl, fun _ => .inr rfl⟩
theorem IA.le_trans {A B D : IA} (h : A.le B) (k : B.le D) : A.le D where
  tmp := fun t => by
    rcases h.tmp t with e | e
    · exact .inl e
    · rcases k.tmp t with e' | e'
      · exact .inl (e.trans e')
      · exact .inr (e.trans e')
  loc := fun t => by
    rcases h.loc t with e | e
    · exact .inl e
    · rcases k.loc t with e' | e'
      · exact .inl (e.trans e')
      · exact .inr (e.trans e')
theorem Fr.le {B : IA} (h : Fr C ρ μ B H a w) (k : A.le B) : Fr C ρ μ A H a w where
  rel := h.rel
  tmp := fun t => by
    rcases k.tmp t with e | e
    · rw [e]; exact trivial
    · rw [e]; exact h.tmp t
  loc := fun u cs e => by
    rcases k.loc u with q | q
    · rw [q] at e; simp at e
    · rw [q] at e; exact h.loc u cs e
  priv := h.priv
  ext := h.ext
  size := h.size
  defers := h.defers
  next := h.next
  lim := h.lim

/-- Steps, between which something may be forgotten. -/
inductive Chain (P : Program) (E : Env) (pr : Prm) (lim : Nat) (q : Bool) (W : List Nat) (ops : Array Oper) : List Oper → IA → IHeap → IA → IHeap → Prop
  | nil {A : IA} {H : IHeap} : Chain P E pr lim q W ops [] A H A H
  | weak {l : List Oper} {A A1 A' : IA} {H H' : IHeap} : A1.le A → Chain P E pr lim q W ops l A1 H A' H' → Chain P E pr lim q W ops l A H A' H'
  | cons {o : Oper} {r : List Oper} {A A1 A' : IA} {H H1 H' : IHeap} : istep P E pr lim q W ops o A H = some (A1, H1) → Chain P E pr lim q W ops r A1 H1 A' H' → Chain P E pr lim q W ops (o :: r) A H A' H'

theorem Chain.append {E : Env} {pr : Prm} {lim : Nat} {q : Bool} {W : List Nat} {ops : Array Oper} {l m : List Oper} {A A1 A' : IA} {H H1 H' : IHeap} (h : Chain P E pr lim q W ops l A H A1 H1) (k : Chain P E pr lim q W ops m A1 H1 A' H') :
    Chain P E pr lim q W ops (l ++ m) A H A' H' := by
  induction h with
  | nil => exact k
  | weak e _ ih => exact .weak e (ih k)
  | cons a _ ih => exact .cons a (ih k)

theorem Chain.keeps {E : Env} {pr : Prm} {lim : Nat} {q : Bool} {W : List Nat} {ops : Array Oper} (hE : EnvOK P E) {l : List Oper} (h : Chain P E pr lim q W ops l A H A' H') (hl : lim ≤ H.next) : Keeps lim H H' := by
  induction h with
  | nil => exact Keeps.refl _ _
  | weak _ _ ih => exact ih hl
  | cons a _ ih =>
    have k := istep_keeps hE hl a
    exact k.trans (ih (Nat.le_trans hl k.le))

theorem chain_sound {E : Env} (hE : EnvOK P E) {pr : Prm} {q : Bool} {W : List Nat} {ops : Array Oper} {Q : Exit → Act → World → Prop} {rest : List Oper} (h : Chain P E pr C.lim q W ops rest A H A' H') :
    ∀ (i : Nat) {ρ : Ren} {μ : Lam} {a : Act} {w : World}, ops.toList.drop i = rest → Fr C ρ μ A H a w → Free C.ρ0 C.n0 H'.next → (∀ t ∈ dsts rest, t < C.sz) →
      (wipes pr rest).Nodup → (∀ u ∈ wipes pr rest, μ u = none) →
      (∀ ρ' μ' a' w', Fr C ρ' μ' A' H' a' w' → (∀ k, k ∉ wipes pr rest → μ' k = μ k) → Q .normal a' w') → wpOps P ops Q (List.range' i rest.length) a w := by
  induction h with
  | nil =>
    intro i ρ μ a w hi hF hfree hd hn hw hnext
    simp only [List.length_nil, List.range'_zero, wpOps]
    exact hnext ρ μ a w hF fun _ _ => rfl
  | weak e _ ih =>
    intro i ρ μ a w hi hF
    exact ih i hi (hF.le e)
  | @cons o r A A1 A' H H1 H' h1 hch ih =>
    intro i ρ μ a w hi hF hfree hd hn hw hnext
    have hlim : C.lim ≤ H.next := Nat.le_trans hF.lim hF.next
    have k1 := istep_keeps hE hlim h1
    have k2 := hch.keeps hE (Nat.le_trans hlim k1.le)
    have hfree1 : Free C.ρ0 C.n0 H1.next := fun b h1 h2 => hfree b h1 (Nat.lt_of_lt_of_le h2 k2.le)
    have hoi : ops[i]? = some o := by
      have := congrArg (·[0]?) hi
      simpa using this
    have hr : ops.toList.drop (i + 1) = r := by rw [← List.tail_drop, hi]; rfl
    have hdo : ∀ t, o.dst = some t → t < C.sz := fun t e => hd t (by simp [dsts, e])
    have hdr : ∀ t ∈ dsts r, t < C.sz := fun t ht => hd t (by
      simp only [dsts]
      split
      · exact List.mem_cons_of_mem _ ht
      · exact ht)
    rw [wipes_cons] at hn hw
    obtain ⟨n1, n2, n3⟩ := List.nodup_append.1 hn
    have tail : ∀ ρ' μ' a' w', Fr C ρ' μ' A1 H1 a' w' → (∀ k, k ∉ wipes pr [o] → μ' k = μ k) → wpOps P ops Q (List.range' (i + 1) r.length) a' w' := by
      intro ρ' μ' a' w' hF' hmu
      refine ih (i + 1) hr hF' hfree hdr n2 (fun u hu => ?_) fun ρ2 μ2 a2 w2 hF2 hmu2 => ?_
      · rw [hmu u (fun q => n3 u q u hu rfl)]
        exact hw u (List.mem_append.2 (.inr hu))
      · refine hnext ρ2 μ2 a2 w2 hF2 fun k hk => ?_
        rw [wipes_cons] at hk
        simp only [List.mem_append, not_or] at hk
        rw [hmu2 k hk.2, hmu k hk.1]
    simp only [List.length_cons, List.range'_succ, wpOps, hoi]
    unfold istep at h1
    obtain ⟨b, hb, h1⟩ := Option.bind_eq_some_iff.1 h1
    rw [iguard_sim hb (fun j wv _ d _ => hF.tmp d)]
    rcases cond_some h1 with ⟨rfl, h1⟩ | ⟨rfl, h1⟩
    · simp only [if_true]
      exact .inl (iwant_sound hE hF hfree1 hdo (fun u hu => hw u (List.mem_append.2 (.inl hu))) h1 tail)
    · simp at h1; obtain ⟨rfl, rfl⟩ := h1
      simp only [Bool.false_eq_true, if_false]
      exact tail ρ μ _ w (hF.put hdo (VR.tuple .nil)) fun _ _ => rfl
end Go.Ideal
/- The ideal machine, part Za: the groups of a region. -/
namespace Go.Ideal
variable {P : Program} {A A' : IA} {H H' : IHeap}

theorem put_tmp_ne {A : IA} {d : Option Tmp} {x : TV} {t : Nat} (h : d ≠ some t) : (A.put d x).tmp t = A.tmp t := by
  cases d with
  | none => rfl
  | some d =>
    have : (t == d) = false := by simp; intro e; exact h (by rw [e])
    simp [IA.put, this]

theorem finK_W {W W' : List Nat} {d : Option Tmp} {r : R1} (hW : ∀ u, u ∈ W' → u ∈ W) (h : r.finK W' A H d (fun A' H' => some (A', H')) = some (A', H')) : r.finK W A H d (fun A' H' => some (A', H')) = some (A', H') := by
  cases r with
  | tv x => exact h
  | loc x t cs =>
    simp only [R1.finK] at h ⊢
    rcases cond_some h with ⟨hc, h⟩ | ⟨_, h⟩
    · have : W.elem t = true := by simp at hc ⊢; exact hW t hc
      rw [this]; exact h
    · simp at h
  | heap x H1 => exact h

theorem finK_dst {W : List Nat} {d : Option Tmp} {r : R1} (h : r.finK W A H d (fun A' H' => some (A', H')) = some (A', H')) : (∀ t, d ≠ some t → A'.tmp t = A.tmp t) ∧ ∀ u, u ∉ W → A'.loc u = A.loc u := by
  cases r with
  | tv x => simp [R1.finK] at h; obtain ⟨rfl, _⟩ := h; exact ⟨fun t ht => put_tmp_ne ht, fun u _ => by rw [put_loc]⟩
  | loc x t cs =>
    simp only [R1.finK] at h
    rcases cond_some h with ⟨hc, h⟩ | ⟨_, h⟩
    · simp at h; obtain ⟨rfl, _⟩ := h
      refine ⟨fun k hk => (put_tmp_ne hk).trans rfl, fun u hu => ?_⟩
      rw [put_loc]
      have : (u == t) = false := by
        simp at hc ⊢; intro e; subst e; exact hu hc
      simp [IA.putLoc, this]
    · simp at h
  | heap x H1 => simp [R1.finK] at h; obtain ⟨rfl, _⟩ := h; exact ⟨fun t ht => put_tmp_ne ht, fun u _ => by rw [put_loc]⟩

theorem iwant_dst {E : Env} {pr : Prm} {lim : Nat} {q : Bool} {W : List Nat} {o : Oper} (h : iwant P E pr lim q W o A H = some (A', H')) : (∀ t, o.dst ≠ some t → A'.tmp t = A.tmp t) ∧ ∀ u, u ∉ W → A'.loc u = A.loc u := by
  rcases iwant_inv h with ⟨r, h1, h2⟩ | ⟨c, fv, fid, first, cap, vs, g, v, _, _, _, _, _, _, rfl⟩
  · exact finK_dst h2
  · exact ⟨fun t ht => put_tmp_ne ht, fun u _ => by rw [put_loc]⟩

theorem iwant_W {E : Env} {pr : Prm} {lim : Nat} {q : Bool} {W W' : List Nat} {o : Oper} (hW : ∀ u, u ∈ W' → u ∈ W) (h : iwant P E pr lim q W' o A H = some (A', H')) : iwant P E pr lim q W o A H = some (A', H') := by
  unfold iwant iwantK at h ⊢
  split at h
  · rename_i c hop
    try simp only [hop]
    split at h
    · rename_i b hb
      try simp only [hb]
      rw [iopK_bind] at h ⊢
      obtain ⟨r, h1, h2⟩ := Option.bind_eq_some_iff.1 h
      first | rw [h1] | rw [← hop, h1]
      exact finK_W hW h2
    · rename_i fv hc
      try simp only [hc]
      exact h
    · simp at h
  · rename_i hno
    rw [iopK_bind] at h ⊢
    obtain ⟨r, h1, h2⟩ := Option.bind_eq_some_iff.1 h
    rw [h1]
    exact finK_W hW h2

theorem iguard_congr {ops : Array Oper} {B : IA} {g : Option (Nat × Bool)} (h : ∀ j wv, g = some (j, wv) → ∀ d, (ops[j]?).bind (·.dst) = some d → A.tmp d = B.tmp d) : iguard ops A g = iguard ops B g := by
  unfold iguard
  cases g with
  | none => rfl
  | some g =>
    obtain ⟨j, wv⟩ := g
    simp only
    cases hd : (ops[j]?).bind (·.dst) with
    | none => rfl
    | some d => simp only [h j wv rfl d hd]

theorem iseq_chain {E : Env} {pr : Prm} {lim : Nat} {q : Bool} {W W' : List Nat} {ops : Array Oper} {σ : Type} {k : IA → IHeap → Option σ} {r : σ} (hW : ∀ u, u ∈ W' → u ∈ W) (gd : Option (Nat × Bool)) :
    ∀ (l : List Oper) {A : IA} {H : IHeap}, (∀ o ∈ l, o.guard = gd) → (∀ j wv, gd = some (j, wv) → ∀ d, (ops[j]?).bind (·.dst) = some d → d ∉ dsts l) → iguard ops A gd = some true →
      iseq P E pr lim q W' l A H k = some r → ∃ A1 H1, Chain P E pr lim q W ops l A H A1 H1 ∧ k A1 H1 = some r ∧ (∀ t, t ∉ dsts l → A1.tmp t = A.tmp t) ∧ ∀ u, u ∉ W' → A1.loc u = A.loc u
  | [], A, H, _, _, _, h => ⟨A, H, .nil, h, fun _ _ => rfl, fun _ _ => rfl⟩
  | o :: l, A, H, hg, hd, hb, h => by
    simp only [iseq] at h
    rw [iwantK_bind] at h
    obtain ⟨⟨A1, H1⟩, h1, h⟩ := Option.bind_eq_some_iff.1 h
    obtain ⟨q1, q2⟩ := iwant_dst h1
    have hsub : ∀ t, t ∉ dsts (o :: l) → o.dst ≠ some t ∧ t ∉ dsts l := by
      intro t ht
      simp only [dsts] at ht
      cases ho : o.dst with
      | none => rw [ho] at ht; exact ⟨by simp, ht⟩
      | some d => rw [ho] at ht; simp at ht; exact ⟨by simp; exact fun e => ht.1 e.symm, ht.2⟩
    have hb1 : iguard ops A1 gd = some true := by
      rw [← hb]
      exact iguard_congr fun j wv e d hd' => q1 d (hsub d (hd j wv e d hd')).1
    obtain ⟨A2, H2, c1, c2, c3, c4⟩ := iseq_chain hW gd l (fun o ho => hg o (by simp [ho])) (fun j wv e d hd' => (hsub d (hd j wv e d hd')).2) hb1 h
    refine ⟨A2, H2, .cons ?_ c1, c2, fun t ht => ?_, fun u hu => ?_⟩
    · unfold istep
      rw [hg o (by simp), hb]
      exact iwant_W hW h1
    · rw [c3 t (hsub t ht).2, q1 t (hsub t ht).1]
    · rw [c4 u hu, q2 u hu]

theorem skip_chain {E : Env} {pr : Prm} {lim : Nat} {q : Bool} {W : List Nat} {ops : Array Oper} (gd : Option (Nat × Bool)) :
    ∀ (l : List Oper) {A : IA} {H : IHeap}, (∀ o ∈ l, o.guard = gd) → (∀ j wv, gd = some (j, wv) → ∀ d, (ops[j]?).bind (·.dst) = some d → d ∉ dsts l) → iguard ops A gd = some false →
      ∃ A1, Chain P E pr lim q W ops l A H A1 H ∧ (∀ t, t ∉ dsts l → A1.tmp t = A.tmp t) ∧ (∀ t, t ∈ dsts l → A1.tmp t = .v (.tuple #[])) ∧ A1.loc = A.loc
  | [], A, H, _, _, _ => ⟨A, .nil, fun _ _ => rfl, fun t ht => by simp [dsts] at ht, rfl⟩
  | o :: l, A, H, hg, hd, hb => by
    have hsub : ∀ t, t ∉ dsts (o :: l) → o.dst ≠ some t ∧ t ∉ dsts l := by
      intro t ht
      simp only [dsts] at ht
      cases ho : o.dst with
      | none => rw [ho] at ht; exact ⟨by simp, ht⟩
      | some d => rw [ho] at ht; simp at ht; exact ⟨by simp; exact fun e => ht.1 e.symm, ht.2⟩
    have hb1 : iguard ops (A.put o.dst (.v (.tuple #[]))) gd = some false := by
      rw [← hb]
      exact iguard_congr fun j wv e d hd' => put_tmp_ne (hsub d (hd j wv e d hd')).1
    obtain ⟨A2, c1, c3, c4, c5⟩ := skip_chain gd l (H := H) (fun o ho => hg o (by simp [ho])) (fun j wv e d hd' => (hsub d (hd j wv e d hd')).2) hb1
    refine ⟨A2, .cons ?_ c1, fun t ht => ?_, fun t ht => ?_, by rw [c5, put_loc]⟩
    · unfold istep
      rw [hg o (by simp), hb]; rfl
    · rw [c3 t (hsub t ht).2, put_tmp_ne (hsub t ht).1]
    · by_cases hl : t ∈ dsts l
      · exact c4 t hl
      · rw [c3 t hl]
        simp only [dsts] at ht
        cases ho : o.dst with
        | none => rw [ho] at ht; exact absurd ht hl
        | some d =>
          rw [ho] at ht
          rcases List.mem_cons.1 ht with rfl | ht
          · simp [IA.put]
          · exact absurd ht hl

/-! ### Groups -/
theorem segs_guard : ∀ (l : List Oper), ∀ p ∈ segs l, ∀ o ∈ p.2, o.guard = p.1
  | [], p, hp, _, _ => by simp [segs] at hp
  | x :: l, p, hp, o, ho => by
    have ih := segs_guard l
    simp only [segs] at hp
    split at hp
    · rename_i g m s e
      cases hg : g == x.guard with
      | true =>
        simp only [hg, cond_true, List.mem_cons] at hp
        rcases hp with rfl | hp
        · have hgx : g = x.guard := by simpa using hg
          rcases List.mem_cons.1 ho with rfl | ho
          · exact hgx.symm
          · exact ih (g, m) (by rw [e]; simp) o ho
        · exact ih p (by rw [e]; simp [hp]) o ho
      | false =>
        simp only [hg, cond_false, List.mem_cons] at hp
        rcases hp with rfl | rfl | hp
        · simp at ho; rw [ho]
        · exact ih (g, m) (by rw [e]; simp) o ho
        · exact ih p (by rw [e]; simp [hp]) o ho
    · simp at hp
      subst hp
      simp at ho; rw [ho]

theorem segs_flat : ∀ (l : List Oper), (segs l).flatMap (·.2) = l
  | [] => rfl
  | x :: l => by
    have ih := segs_flat l
    simp only [segs]
    split
    · rename_i g m s e
      rw [e] at ih
      cases hg : g == x.guard with
      | true => simp only [cond_true, List.flatMap_cons, List.cons_append]; rw [← ih]; rfl
      | false => simp only [cond_false, List.flatMap_cons, List.cons_append, List.nil_append]; rw [← ih]; rfl
    · rename_i e
      rw [e] at ih
      simp at ih
      simp [← ih]

theorem keepT_nil (x : TV) : keepT [] x = x := by cases x <;> rfl

theorem packTK_inv {σ : Type} : ∀ {o : List Nat} {k : List Value → Option σ} {r : σ}, packTK A o k = some r → ∃ vs, k vs = some r ∧ vs.length = o.length ∧ ∀ t v, pick t o vs = some v → A.tmp t = .v v ∧ t ∈ o
  | [], k, r, h => ⟨[], h, rfl, fun t v e => by simp [pick] at e⟩
  | t :: o, k, r, h => by
    simp only [packTK] at h
    split at h
    · rename_i x hx
      obtain ⟨vs, h1, h2, h3⟩ := packTK_inv h
      refine ⟨x :: vs, h1, by simp [h2], fun u v e => ?_⟩
      simp only [pick] at e
      cases hu : u == t with
      | true => simp [hu] at e; subst e; have : u = t := by simpa using hu
                subst this; exact ⟨hx, by simp⟩
      | false =>
        simp only [hu, cond_false, List.tail_cons] at e
        obtain ⟨q1, q2⟩ := h3 u v e
        exact ⟨q1, by simp [q2]⟩
    · simp at h

theorem pick_unit : ∀ {o : List Nat} {t : Nat} {v : Value}, pick t o (o.map fun _ => Value.tuple #[]) = some v → t ∈ o ∧ v = .tuple #[]
  | [], t, v, e => by simp [pick] at e
  | u :: o, t, v, e => by
    simp only [pick, List.map_cons] at e
    cases hu : t == u with
    | true => simp [hu] at e; subst e; have : t = u := by simpa using hu
              subst this; exact ⟨by simp, rfl⟩
    | false =>
      simp only [hu, cond_false, List.tail_cons] at e
      obtain ⟨q1, q2⟩ := pick_unit e
      exact ⟨by simp [q1], q2⟩

theorem mem_subset {a b : List Nat} (h : subset a b = true) {x : Nat} (hx : x ∈ a) : x ∈ b := by
  unfold subset at h
  have := List.all_eq_true.1 h x hx
  simpa using this

theorem dsts_append : ∀ (l m : List Oper), dsts (l ++ m) = dsts l ++ dsts m
  | [], m => rfl
  | o :: l, m => by
    simp only [List.cons_append, dsts, dsts_append l m]
    cases o.dst <;> simp
theorem pick_none {t : Nat} : ∀ {o : List Nat} {vs : List Value}, t ∉ o → pick t o vs = none
  | [], _, _ => rfl
  | u :: o, vs, h => by
    simp only [List.mem_cons, not_or] at h
    have : (t == u) = false := by simpa using h.1
    simp only [pick, this, cond_false]
    exact pick_none h.2

theorem gsegs_chain {E : Env} {pr : Prm} {lim : Nat} {q : Bool} {W : List Nat} {ops : Array Oper} {σ : Type} {k : IA → IHeap → Option σ} {r : σ} :
    ∀ (s : List (Option (Nat × Bool) × List Oper)) {outs : List (List Nat)} {A : IA} {H : IHeap}, (∀ p ∈ s, ∀ o ∈ p.2, o.guard = p.1) → gsegs P E pr lim q W ops s outs A H k = some r →
      ∃ A1 H1, Chain P E pr lim q W ops (s.flatMap (·.2)) A H A1 H1 ∧ k A1 H1 = some r ∧ (∀ u, u ∉ W → A1.loc u = A.loc u) ∧ ∀ t, t ∉ dsts (s.flatMap (·.2)) → A1.tmp t = A.tmp t
  | [], outs, A, H, _, h => ⟨A, H, .nil, h, fun _ _ => rfl, fun _ _ => rfl⟩
  | (none, l) :: s, outs, A, H, hs, h => by
    simp only [gsegs] at h
    obtain ⟨A1, H1, c1, c2, c3, c4⟩ := iseq_chain (ops := ops) (W := W) (fun _ h => h) none l (fun o ho => hs (none, l) (by simp) o ho) (fun _ _ e => by simp at e) rfl h
    obtain ⟨A2, H2, d1, d2, d3, d4⟩ := gsegs_chain s (fun p hp => hs p (by simp [hp])) c2
    refine ⟨A2, H2, c1.append d1, d2, fun u hu => (d3 u hu).trans (c4 u hu), fun t ht => ?_⟩
    simp only [List.flatMap_cons, dsts_append, List.mem_append, not_or] at ht
    exact (d4 t ht.2).trans (c3 t ht.1)
  | (some g, l) :: s, outs, A, H, hs, h => by
    simp only [gsegs] at h
    rcases cond_some h with ⟨_, h⟩ | ⟨hc, h⟩
    · simp at h
    obtain ⟨b, hb, h⟩ := Option.bind_eq_some_iff.1 h
    simp only [Bool.or_eq_false_iff, Bool.not_eq_false'] at hc
    obtain ⟨hc1, hc2⟩ := hc
    have hgd : ∀ j wv, some g = some (j, wv) → ∀ d, (ops[j]?).bind (·.dst) = some d → d ∉ dsts l := by
      intro j wv e d hd
      simp at e; subst e
      rw [hd] at hc1
      simpa using hc1
    have hgl : ∀ o ∈ l, o.guard = some g := fun o ho => hs (some g, l) (by simp) o ho
    unfold grpK at h
    obtain ⟨⟨vs, H1⟩, h1, h⟩ := Option.bind_eq_some_iff.1 h
    have fin : ∀ A1 : IA, Chain P E pr lim q W ops l A H A1 H1 → (unpack A (dsts l) [] (outs.headD []) [] [] vs).le A1 → ∃ A1 H1, Chain P E pr lim q W ops (l ++ s.flatMap (·.2)) A H A1 H1 ∧ k A1 H1 = some r ∧ (∀ u, u ∉ W → A1.loc u = A.loc u) ∧ ∀ t, t ∉ dsts (l ++ s.flatMap (·.2)) → A1.tmp t = A.tmp t := by
      intro A1 c1 hle
      obtain ⟨A2, H2, d1, d2, d3, d4⟩ := gsegs_chain s (fun p hp => hs p (by simp [hp])) h
      refine ⟨A2, H2, c1.append (.weak hle d1), d2, fun u hu => ?_, fun t ht => ?_⟩
      · rw [d3 u hu]
        simp [unpack, pick]
      · simp only [dsts_append, List.mem_append, not_or] at ht
        rw [d4 t ht.2]
        have h1 : t ∉ outs.headD [] := fun q => ht.1 (mem_subset hc2 q)
        have h2 : (dsts l).elem t = false := by simpa using ht.1
        simp only [unpack, pick_none h1, h2, cond_false, keepT_nil]
    rcases cond_some h1 with ⟨rfl, h1⟩ | ⟨rfl, h1⟩
    · obtain ⟨A1, H2, c1, c2, c3, c4⟩ := iseq_chain (ops := ops) (W := W) (W' := []) (fun _ h => by simp at h) (some g) l hgl hgd hb h1
      obtain ⟨vs', e1, e2, e3⟩ := packTK_inv c2
      simp at e1; obtain ⟨rfl, rfl⟩ := e1
      refine fin A1 c1 ⟨fun t => ?_, fun u => .inr ?_⟩
      · simp only [unpack]
        split
        · rename_i v hv
          exact .inr (e3 t v hv).1.symm
        · cases ht : (dsts l).elem t with
          | true => exact .inl rfl
          | false =>
            right
            rw [cond_false, keepT_nil]
            exact (c3 t (by simpa using ht)).symm
      · simp only [unpack, pick]
        exact (c4 u (by simp)).symm
    · have kk := Prod.mk.inj (Option.some.inj h1)
      obtain ⟨rfl, kk⟩ := kk
      obtain ⟨A1, c1, c3, c4, c5⟩ := skip_chain (E := E) (P := P) (pr := pr) (lim := lim) (q := q) (W := W) (some g) l (H := H) hgl hgd hb
      replace kk : H = H1 := kk
      replace c1 : Chain P E pr lim q W ops l A H A1 H1 := kk ▸ c1
      refine fin A1 c1 ⟨fun t => ?_, fun u => .inr ?_⟩
      · simp only [unpack]
        split
        · rename_i v hv
          obtain ⟨q1, rfl⟩ := pick_unit hv
          exact .inr (c4 t (mem_subset hc2 q1)).symm
        · cases ht : (dsts l).elem t with
          | true => exact .inl rfl
          | false =>
            right
            rw [cond_false, keepT_nil]
            exact (c3 t (by simpa using ht)).symm
      · simp only [unpack, pick]
        rw [c5]; rfl
end Go.Ideal
/- The ideal machine, part Zb: a region in the order of the text, as code. -/
namespace Go.Ideal
variable {P : Program} {C : Ctx} {ρ : Ren} {μ : Lam} {A A' : IA} {H H' : IHeap} {a : Act} {w : World}

theorem nodup_of {l : List Nat} (h : nodup l = true) : l.Nodup := by
  induction l with
  | nil => exact List.nodup_nil
  | cons x r ih =>
    simp only [nodup, Bool.and_eq_true, Bool.not_eq_true'] at h
    refine List.nodup_cons.2 ⟨fun q => ?_, ih h.2⟩
    have := h.1
    simp at this
    exact this q

/-- Local variables are given up. -/
def Lam.drop (μ : Lam) (us : List Nat) : Lam := fun u => if u ∈ us then none else μ u
theorem Fr.wipe (h : Fr C ρ μ A H a w) (us : List Nat) : Fr C ρ (μ.drop us) (wipe A us) H a w where
  rel := h.rel
  tmp := fun t => by
    have k := h.tmp t
    simp only [Ideal.wipe]
    cases e : A.tmp t with
    | v x => rw [e] at k; exact k
    | bot => exact trivial
    | lp u o =>
      rw [e] at k
      simp only [keepT]
      cases hu : us.elem u with
      | true => exact trivial
      | false =>
        obtain ⟨r, q1, q2⟩ := k
        refine ⟨r, ?_, q2⟩
        have : u ∉ us := by simpa using hu
        simp [Lam.drop, this, q1]
    | ls u n =>
      rw [e] at k
      simp only [keepT]
      cases hu : us.elem u with
      | true => exact trivial
      | false =>
        obtain ⟨r, c, q1, q2⟩ := k
        refine ⟨r, c, ?_, q2⟩
        have : u ∉ us := by simpa using hu
        simp [Lam.drop, this, q1]
  loc := fun u cs e => by
    simp only [Ideal.wipe] at e
    cases hu : us.elem u with
    | true => rw [hu, cond_true] at e; simp at e
    | false =>
      rw [hu, cond_false] at e
      obtain ⟨r, q1, q2⟩ := h.loc u cs e
      have : u ∉ us := by simpa using hu
      exact ⟨r, by simp [Lam.drop, this, q1], q2⟩
  priv := fun u r e => by
    have drop_some : ∀ {k r}, μ.drop us k = some r → μ k = some r := by
      intro k r e
      unfold Lam.drop at e
      split at e
      · simp at e
      · exact e
    obtain ⟨h1, h2, h3, h4⟩ := h.priv u r (drop_some e)
    exact ⟨h1, h2, h3, fun u' q => h4 u' (drop_some q)⟩
  ext := h.ext
  size := h.size
  defers := h.defers
  next := h.next
  lim := h.lim

/-- A region in the order of the text. -/
theorem region_sound {E : Env} (hE : EnvOK P E) {pr : Prm} {q : Bool} {W : List Nat} {id : Nat} {ops : Array Oper} {outs : List (List Nat)} {σ : Type} {k : IA → IHeap → Option σ} {r : σ} {Q : Exit → Act → World → Prop}
    (hF : Fr C ρ μ A H a w) (hd : ∀ t ∈ dsts ops.toList, t < C.sz) (hn : nodup (wipes pr ops.toList) = true)
    (h : gsegs P E pr C.lim q W ops (segs ops.toList) outs (wipe A (wipes pr ops.toList)) H k = some r)
    (hk : ∀ A' H', Keeps C.lim H H' → k A' H' = some r → (∀ u, u ∉ W → A'.loc u = (wipe A (wipes pr ops.toList)).loc u) → (∀ t, t ∉ dsts ops.toList → A'.tmp t = (wipe A (wipes pr ops.toList)).tmp t) → Free C.ρ0 C.n0 H'.next ∧
      ∀ ρ' μ' a' w', Fr C ρ' μ' A' H' a' w' → (∀ u, u ∉ wipes pr ops.toList → μ' u = μ u) → Q .normal a' w') : (Code.region id ops false).wp P Q a w := by
  obtain ⟨A1, H1, c1, c2, c3, c4⟩ := gsegs_chain (segs ops.toList) (segs_guard ops.toList) h
  rw [segs_flat] at c1 c4
  have hlim : C.lim ≤ H.next := Nat.le_trans hF.lim hF.next
  have keep := c1.keeps hE hlim
  obtain ⟨hfree, hfin⟩ := hk A1 H1 keep c2 c3 c4
  refine wp_region ?_
  have := chain_sound (Q := Q) hE c1 0 (ρ := ρ) (μ := μ.drop (wipes pr ops.toList)) (a := a) (w := w) (by simp) (hF.wipe _) hfree hd (nodup_of hn) (fun u hu => by simp [Lam.drop, hu]) (fun ρ' μ' a' w' hF' hmu => by
    refine hfin ρ' μ' a' w' hF' fun u hu => ?_
    rw [hmu u hu]; simp [Lam.drop, hu])
  rw [List.range_eq_range']
  simpa using this
end Go.Ideal
/- The ideal machine, part Zc: what a piece of code leaves, and what is packed. -/
namespace Go.Ideal
variable {P : Program} {C : Ctx} {A A' A'' : IA} {H H' : IHeap}

/-- What lies outside of the slots S, of the local variables am (made anew) and W (changed) stays. -/
structure Off (S am W : List Nat) (A A' : IA) : Prop where
  tmp : ∀ t, t ∉ S → keepT am (A.tmp t) = .bot ∨ A'.tmp t = keepT am (A.tmp t)
  loc : ∀ u, u ∉ W → A'.loc u = A.loc u

theorem keepT_cases (am : List Nat) (x : TV) : keepT am x = .bot ∨ keepT am x = x := by
  cases x with
  | v x => exact .inr rfl
  | bot => exact .inr rfl
  | lp u o => simp only [keepT]; cases am.elem u <;> simp
  | ls u n => simp only [keepT]; cases am.elem u <;> simp
theorem keepT_mono {am am' : List Nat} (h : ∀ u, u ∈ am → u ∈ am') (x : TV) : keepT am' x = .bot ∨ keepT am' x = keepT am x := by
  cases x with
  | v x => exact .inr rfl
  | bot => exact .inr rfl
  | lp u o =>
    simp only [keepT]
    cases h1 : am'.elem u with
    | true => exact .inl rfl
    | false =>
      have : am.elem u = false := by simp at h1 ⊢; exact fun q => h1 (h u q)
      rw [this]; exact .inr rfl
  | ls u n =>
    simp only [keepT]
    cases h1 : am'.elem u with
    | true => exact .inl rfl
    | false =>
      have : am.elem u = false := by simp at h1 ⊢; exact fun q => h1 (h u q)
      rw [this]; exact .inr rfl
theorem keepT_idem {am am' : List Nat} (x : TV) (h : ∀ u, u ∈ am → u ∈ am') : keepT am' (keepT am x) = .bot ∨ keepT am' (keepT am x) = keepT am' x := by
  rcases keepT_cases am x with e | e
  · rw [e]; exact .inl rfl
  · rw [e]; exact .inr rfl

theorem Off.refl (S am W : List Nat) (A : IA) : Off S am W A A := ⟨fun t _ => (keepT_cases am (A.tmp t)).imp id fun e => e.symm, fun _ _ => rfl⟩
theorem Off.mono {S am W S' am' W' : List Nat} (h : Off S am W A A') (h1 : ∀ t, t ∈ S → t ∈ S') (h2 : ∀ t, t ∈ am → t ∈ am') (h3 : ∀ t, t ∈ W → t ∈ W') : Off S' am' W' A A' where
  tmp := fun t ht => by
    rcases keepT_mono h2 (A.tmp t) with e | e
    · exact .inl e
    · rcases h.tmp t (fun q => ht (h1 t q)) with e' | e'
      · exact .inl (e.trans e')
      · exact .inr (e'.trans e.symm)
  loc := fun u hu => h.loc u fun q => hu (h3 u q)
theorem Off.trans {S am W : List Nat} (h : Off S am W A A') (k : Off S am W A' A'') : Off S am W A A'' where
  tmp := fun t ht => by
    rcases h.tmp t ht with e | e
    · exact .inl e
    · rcases keepT_cases am (A.tmp t) with q | q
      · exact .inl q
      · have e1 : A'.tmp t = A.tmp t := e.trans q
        rcases k.tmp t ht with e' | e'
        · left; rw [e1] at e'; exact e'
        · right; rw [e1] at e'; exact e'
  loc := fun u hu => (k.loc u hu).trans (h.loc u hu)

/-- What packK has read. -/
structure Packs (A : IA) (outs louts : List Nat) (vs : List Value) : Prop where
  len : outs.length ≤ vs.length
  tmp : ∀ t v, pick t outs vs = some v → A.tmp t = .v v
  loc : ∀ u v, pick u louts (vs.drop outs.length) = some v → aggs v = A.loc u

theorem pick_append {t : Nat} : ∀ {o : List Nat} {vs ws : List Value}, vs.length = o.length → pick t o (vs ++ ws) = pick t o vs
  | [], _, _, _ => rfl
  | u :: o, [], ws, h => by simp at h
  | u :: o, v :: vs, ws, h => by
    simp only [pick, List.cons_append, List.headD_cons, List.tail_cons]
    rw [pick_append (by simpa using h)]

theorem packLK_inv {σ : Type} : ∀ {o : List Nat} {k : List Value → Option σ} {r : σ}, packLK A o k = some r → ∃ vs, k vs = some r ∧ vs.length = o.length ∧ ∀ u v, pick u o vs = some v → aggs v = A.loc u
  | [], k, r, h => ⟨[], h, rfl, fun t v e => by simp [pick] at e⟩
  | t :: o, k, r, h => by
    simp only [packLK] at h
    obtain ⟨cs, hcs, h⟩ := Option.bind_eq_some_iff.1 h
    obtain ⟨vs, h1, h2, h3⟩ := packLK_inv h
    refine ⟨.agg ⟨cs⟩ :: vs, h1, by simp [h2], fun u v e => ?_⟩
    simp only [pick, List.headD_cons, List.tail_cons] at e
    cases hu : u == t with
    | true =>
      rw [hu, cond_true] at e
      have hut : u = t := by simpa using hu
      subst hut
      have e := Option.some.inj e
      subst e
      rw [hcs]; rfl
    | false =>
      rw [hu, cond_false] at e
      exact h3 u v e

theorem packK_inv {σ : Type} {outs louts : List Nat} {k : List Value → Option σ} {r : σ} (h : packK A outs louts k = some r) : ∃ vs, k vs = some r ∧ Packs A outs louts vs := by
  unfold packK at h
  obtain ⟨vs, h1, h2, h3⟩ := packTK_inv h
  obtain ⟨ws, k1, k2, k3⟩ := packLK_inv h1
  refine ⟨vs ++ ws, k1, by simp [h2], fun t v e => ?_, fun u v e => ?_⟩
  · rw [pick_append h2] at e
    exact (h3 t v e).1
  · rw [← h2, List.drop_left] at e
    exact k3 u v e

/-- What is told of a state behind a piece of code. -/
theorem unpack_sound {S am lm outs louts : List Nat} {vs : List Value} (h : Packs A' outs louts vs) (k : Off S am lm A A') : (unpack A S am outs louts lm vs).le A' ∧ Off S am lm A (unpack A S am outs louts lm vs) := by
  refine ⟨⟨fun t => ?_, fun u => ?_⟩, ⟨fun t ht => ?_, fun u hu => ?_⟩⟩
  · simp only [unpack]
    split
    · rename_i v e; exact .inr (h.tmp t v e).symm
    · cases hs : S.elem t with
      | true => exact .inl rfl
      | false =>
        rw [cond_false]
        exact (k.tmp t (by simpa using hs)).imp id fun e => e.symm
  · simp only [unpack]
    split
    · rename_i v e; exact .inr (h.loc u v e)
    · cases hs : lm.elem u with
      | true => exact .inl rfl
      | false =>
        rw [cond_false]
        exact .inr (k.loc u (by simpa using hs)).symm
  · simp only [unpack]
    split
    · rename_i v e
      rcases k.tmp t ht with q | q
      · exact .inl q
      · exact .inr ((h.tmp t v e).symm.trans q)
    · have hs : S.elem t = false := by simpa using ht
      rw [hs, cond_false]
      exact .inr rfl
  · simp only [unpack]
    split
    · rename_i v e; exact (h.loc u v e).trans (k.loc u hu)
    · have hs : lm.elem u = false := by simpa using hu
      rw [hs, cond_false]
end Go.Ideal
/- The ideal machine, part Zd: what code leaves as it is. -/
namespace Go.Ideal
variable {P : Program} {C : Ctx} {ρ : Ren} {μ : Lam} {A A' : IA} {H H' : IHeap} {a : Act} {w : World}

theorem joinK_inv {r0 : Option (J × IHeap)} {k : List Value → IHeap → Option (J × IHeap)} {r : J × IHeap} (h : joinK r0 k = some r) :
    ∃ j H1, r0 = some (j, H1) ∧ ((∃ vs, j = .norm vs ∧ k vs H1 = some r) ∨ ((∀ vs, j ≠ .norm vs) ∧ r = (j, H1))) := by
  unfold joinK at h
  obtain ⟨⟨j, H1⟩, h1, h⟩ := Option.bind_eq_some_iff.1 h
  refine ⟨j, H1, h1, ?_⟩
  cases j with
  | norm vs => exact .inl ⟨vs, rfl, h⟩
  | exit id vs => exact .inr ⟨fun _ => by simp, (Option.some.inj h).symm⟩
  | ret v => exact .inr ⟨fun _ => by simp, (Option.some.inj h).symm⟩

theorem boolK_inv {σ : Type} {x : Value} {k : Bool → Option σ} {r : σ} (h : boolK x k = some r) : ∃ b, x = .bool b ∧ k b = some r := by
  unfold boolK at h
  split at h
  · exact ⟨_, rfl, h⟩
  · simp at h

theorem catchK_inv {id : Nat} {r0 : Option (J × IHeap)} {k : List Value → IHeap → Option (J × IHeap)} {r : J × IHeap} (h : catchK id r0 k = some r) :
    ∃ j H1, r0 = some (j, H1) ∧ ((∃ vs, (j = .norm vs ∨ j = .exit id vs) ∧ k vs H1 = some r) ∨ ((∀ vs, j ≠ .norm vs) ∧ (∀ vs, j ≠ .exit id vs) ∧ r = (j, H1))) := by
  unfold catchK at h
  obtain ⟨j, H1, h1, h2⟩ := joinK_inv h
  obtain ⟨⟨j0, H0⟩, k1, k2⟩ := Option.bind_eq_some_iff.1 h1
  simp at k2
  obtain ⟨rfl, rfl⟩ := k2
  refine ⟨j0, H0, k1, ?_⟩
  cases j0 with
  | norm vs =>
    rcases h2 with ⟨us, e, h2⟩ | ⟨h2, _⟩
    · simp [J.catch] at e; subst e; exact .inl ⟨_, .inl rfl, h2⟩
    · exact absurd rfl (h2 vs)
  | exit i vs =>
    by_cases hi : i = id
    · subst hi
      rcases h2 with ⟨us, e, h2⟩ | ⟨h2, _⟩
      · simp [J.catch] at e; subst e; exact .inl ⟨_, .inr rfl, h2⟩
      · exact absurd (by simp [J.catch]) (h2 vs)
    · have hi' : (i == id) = false := by simpa using hi
      rcases h2 with ⟨us, e, h2⟩ | ⟨h2, q⟩
      · simp [J.catch, hi'] at e
      · refine .inr ⟨fun _ => by simp, fun us e => by simp at e; exact hi e.1, by simpa [J.catch, hi'] using q⟩
  | ret v =>
    rcases h2 with ⟨us, e, h2⟩ | ⟨h2, q⟩
    · simp [J.catch] at e
    · exact .inr ⟨fun _ => by simp, fun _ => by simp, by simpa [J.catch] using q⟩

theorem iloop_succ (body : List Value → IHeap → Option (J × IHeap)) (n : Nat) (vs : List Value) (H : IHeap) : iloop body (n + 1) vs H = joinK (body vs H) (iloop body n) := rfl
theorem iloop_zero (body : List Value → IHeap → Option (J × IHeap)) (vs : List Value) (H : IHeap) : iloop body 0 vs H = none := rfl

theorem iloop_keeps {lim : Nat} {body : List Value → IHeap → Option (J × IHeap)} (hb : ∀ vs H j H1, body vs H = some (j, H1) → lim ≤ H.next → Keeps lim H H1) {r : J × IHeap} :
    ∀ (n : Nat) (vs : List Value) (H : IHeap), iloop body n vs H = some r → lim ≤ H.next → Keeps lim H r.2
  | 0, vs, H, h, _ => by rw [iloop_zero] at h; simp at h
  | n + 1, vs, H, h, hl => by
    rw [iloop_succ] at h
    obtain ⟨j, H1, h1, h2⟩ := joinK_inv h
    have k1 := hb vs H j H1 h1 hl
    rcases h2 with ⟨vs', rfl, h2⟩ | ⟨_, rfl⟩
    · exact k1.trans (iloop_keeps hb n _ _ h2 (Nat.le_trans hl k1.le))
    · exact k1

theorem iresultsK_bind {σ : Type} : ∀ (rs : List ResultVar) (k : List Value → Option σ), iresultsK P A H rs k = (iresultsK P A H rs some).bind k
  | [], k => rfl
  | .tmp t :: rs, k => by
    simp only [iresultsK]
    split
    · rw [iresultsK_bind rs, iresultsK_bind rs (fun l => some (_ :: l)), obind_assoc]; rfl
    · rfl
  | .cell t ty :: rs, k => by
    simp only [iresultsK, cond_bind]
    refine cond_congr2 rfl ?_
    split
    · rw [obind_assoc]
      refine obind_congr fun v => ?_
      rw [iresultsK_bind rs, iresultsK_bind rs (fun l => some (_ :: l)), obind_assoc]; rfl
    · simp only [obind_assoc]
      refine obind_congr fun cs => ?_
      refine obind_congr fun v => ?_
      rw [iresultsK_bind rs, iresultsK_bind rs (fun l => some (_ :: l)), obind_assoc]; rfl
    · rfl

theorem iseq_keeps {E : Env} (hE : EnvOK P E) {pr : Prm} {lim : Nat} {q : Bool} {W : List Nat} {σ : Type} {k : IA → IHeap → Option σ} {r : σ} : ∀ (l : List Oper) {A : IA} {H : IHeap}, iseq P E pr lim q W l A H k = some r → lim ≤ H.next →
    ∃ A1 H1, k A1 H1 = some r ∧ Keeps lim H H1
  | [], A, H, h, _ => ⟨A, H, h, Keeps.refl _ _⟩
  | o :: l, A, H, h, hl => by
    simp only [iseq] at h
    rw [iwantK_bind] at h
    obtain ⟨⟨A1, H1⟩, h1, h⟩ := Option.bind_eq_some_iff.1 h
    have k1 := iwant_keeps hE hl h1
    obtain ⟨A2, H2, h2, k2⟩ := iseq_keeps hE l h (Nat.le_trans hl k1.le)
    exact ⟨A2, H2, h2, k1.trans k2⟩
theorem litK_inv {pr : Prm} {t : TypeId} {ag : Nat} {σ : Type} {k : IA → List Ent → Option σ} {r : σ} : ∀ (l : List Oper) {A : IA} {es : List Ent}, litK P pr t ag H l A es k = some r → ∃ A' es', k A' es' = some r
  | [], A, es, h => ⟨A, es, h⟩
  | o :: l, A, es, h => by
    simp only [litK] at h
    split at h
    · exact litK_inv l h
    · obtain ⟨_, _, h⟩ := Option.bind_eq_some_iff.1 h
      obtain ⟨_, _, h⟩ := Option.bind_eq_some_iff.1 h
      obtain ⟨_, _, h⟩ := Option.bind_eq_some_iff.1 h
      obtain ⟨_, _, h⟩ := Option.bind_eq_some_iff.1 h
      rcases cond_some h with ⟨_, h⟩ | ⟨_, h⟩
      · exact litK_inv l h
      · simp at h
    · exact litK_inv l h
    · exact litK_inv l h
    · rw [iopK_bind] at h
      obtain ⟨_, _, h⟩ := Option.bind_eq_some_iff.1 h
      split at h
      · exact litK_inv l h
      · simp at h
    · rw [iopK_bind] at h
      obtain ⟨_, _, h⟩ := Option.bind_eq_some_iff.1 h
      split at h
      · exact litK_inv l h
      · simp at h
    · simp at h

section
variable {E : Env} (hE : EnvOK P E) {pr : Prm} {N : Nat} {ok : Ok}
include hE

theorem icode_keeps {lim : Nat} {rs : List ResultVar} : ∀ (c : Code) {ann : Ann} {bo : BO} {W : List Nat} {A : IA} {H : IHeap} {k : IA → IHeap → Option (J × IHeap)} {r : J × IHeap},
    icode P E pr N ok lim rs c ann bo W A H k = some r → lim ≤ H.next → (∀ A' H', k A' H' = some r → lim ≤ H'.next → Keeps lim H' r.2) → Keeps lim H r.2 := by
  intro c
  induction c with
  | skip =>
    intro ann bo W A H k r h hl hk
    cases ann <;> simp only [icode] at h <;> first | exact hk _ _ h hl | simp at h
  | region id ops q =>
    intro ann bo W A H k r h hl hk
    cases ann <;> simp only [icode] at h <;> try (simp at h; done)
    · rcases cond_some h with ⟨_, h⟩ | ⟨_, h⟩
      · simp at h
      obtain ⟨A1, H1, c1, c2, _⟩ := gsegs_chain (ops := ops) _ (segs_guard ops.toList) h
      have k1 := c1.keeps hE hl
      exact k1.trans (hk A1 H1 c2 (Nat.le_trans hl k1.le))
    · rcases cond_some h with ⟨_, h⟩ | ⟨_, h⟩
      · simp at h
      split at h
      · obtain ⟨A1, H1, h, k1⟩ := iseq_keeps hE _ h hl
        have l1 := Nat.le_trans hl k1.le
        rw [iwantK_bind] at h
        obtain ⟨⟨A2, H2⟩, h2, h⟩ := Option.bind_eq_some_iff.1 h
        have k2 := iwant_keeps hE l1 h2
        have l2 := Nat.le_trans l1 k2.le
        obtain ⟨A3, H3, h, k3⟩ := iseq_keeps hE _ h l2
        rcases cond_some h with ⟨_, h⟩ | ⟨_, h⟩
        · exact (k1.trans (k2.trans k3)).trans (hk _ _ h (Nat.le_trans l2 k3.le))
        · simp at h
      · simp at h
    · rcases cond_some h with ⟨_, h⟩ | ⟨_, h⟩
      · simp at h
      obtain ⟨t, _, h⟩ := Option.bind_eq_some_iff.1 h
      obtain ⟨⟨ag, z⟩, _, h⟩ := Option.bind_eq_some_iff.1 h
      obtain ⟨A1, es, h⟩ := litK_inv _ h
      have k1 := Keeps.push lim H (.fmap ag es)
      exact k1.trans (hk _ _ h (Nat.le_trans hl k1.le))
  | seq x y ihx ihy =>
    intro ann bo W A H k r h hl hk
    cases ann <;> simp only [icode] at h <;> try (simp at h; done)
    exact ihx h hl fun A' H' h' hl' => ihy h' hl' hk
  | cond c x y ihx ihy =>
    intro ann bo W A H k r h hl hk
    cases ann <;> simp only [icode] at h <;> try (simp at h; done)
    · split at h
      · obtain ⟨b, _, h⟩ := boolK_inv h
        rcases cond_some h with ⟨_, h⟩ | ⟨_, h⟩
        · exact ihx h hl hk
        · exact ihy h hl hk
      · simp at h
    · rcases cond_some h with ⟨_, h⟩ | ⟨_, h⟩
      · simp at h
      split at h
      · obtain ⟨j, H1, h1, h2⟩ := joinK_inv h
        have k1 : Keeps lim H H1 := by
          obtain ⟨b, _, h1⟩ := boolK_inv h1
          rcases cond_some h1 with ⟨_, h1⟩ | ⟨_, h1⟩
          · exact ihx h1 hl fun A' H' h' _ => by
              obtain ⟨vs, e, _⟩ := packK_inv h'
              simp at e; rw [e.2]; exact Keeps.refl _ _
          · exact ihy h1 hl fun A' H' h' _ => by
              obtain ⟨vs, e, _⟩ := packK_inv h'
              simp at e; rw [e.2]; exact Keeps.refl _ _
        rcases h2 with ⟨vs, rfl, h2⟩ | ⟨_, rfl⟩
        · exact k1.trans (hk _ _ h2 (Nat.le_trans hl k1.le))
        · exact k1
      · simp at h
  | block id x ih =>
    intro ann bo W A H k r h hl hk
    cases ann <;> simp only [icode] at h <;> try (simp at h; done)
    rcases cond_some h with ⟨_, h⟩ | ⟨_, h⟩
    · simp at h
    obtain ⟨j, H1, h1, h2⟩ := catchK_inv h
    have k1 : Keeps lim H H1 := ih h1 hl fun A' H' h' _ => by
      obtain ⟨vs, e, _⟩ := packK_inv h'
      simp at e; rw [e.2]; exact Keeps.refl _ _
    rcases h2 with ⟨vs, _, h2⟩ | ⟨_, _, rfl⟩
    · exact k1.trans (hk _ _ h2 (Nat.le_trans hl k1.le))
    · exact k1
  | loop x ih =>
    intro ann bo W A H k r h hl hk
    cases ann <;> simp only [icode] at h <;> try (simp at h; done)
    rcases cond_some h with ⟨_, h⟩ | ⟨_, h⟩
    · simp at h
    obtain ⟨vs0, h, _⟩ := packK_inv h
    refine iloop_keeps (fun vs H j H1 h1 hl => ?_) N vs0 H h hl
    exact ih h1 hl fun A' H' h' _ => by
      obtain ⟨vs, e, _⟩ := packK_inv h'
      simp at e; rw [e.2]; exact Keeps.refl _ _
  | exit id =>
    intro ann bo W A H k r h hl hk
    cases ann <;> simp only [icode] at h <;> try (simp at h; done)
    obtain ⟨⟨outs, louts⟩, _, h⟩ := Option.bind_eq_some_iff.1 h
    obtain ⟨vs, e, _⟩ := packK_inv h
    have e := Option.some.inj e
    subst e
    exact Keeps.refl _ _
  | ret =>
    intro ann bo W A H k r h hl hk
    cases ann <;> simp only [icode] at h <;> try (simp at h; done)
    rw [iresultsK_bind] at h
    obtain ⟨l, _, e⟩ := Option.bind_eq_some_iff.1 h
    have e := Option.some.inj e
    subst e
    exact Keeps.refl _ _
  | _ =>
    intro ann bo W A H k r h hl hk
    cases ann <;> simp [icode] at h
end
end Go.Ideal
/- The ideal machine, part Ze: code. -/
namespace Go.Ideal
variable {P : Program} {C : Ctx} {ρ : Ren} {μ : Lam} {A A' : IA} {H H' : IHeap} {a : Act} {w : World}

/-- What is asked of a region that draws its order. -/
structure DrawSound (P : Program) (E : Env) (pr : Prm) (ok : Ok) : Prop where
  dr : ∀ {C : Ctx} {ρ : Ren} {μ : Lam} {A A' : IA} {H H' : IHeap} {a : Act} {w : World} {W : List Nat} {ops : Array Oper} {id : Nat} {Q : Exit → Act → World → Prop},
    ok.dr A ops = true → Fr C ρ μ A H a w → Free C.ρ0 C.n0 H'.next → (∀ t ∈ dsts ops.toList, t < C.sz) → (wipes pr ops.toList).Nodup → (∀ u ∈ wipes pr ops.toList, μ u = none) →
      Chain P E pr C.lim true W ops ops.toList A H A' H' → (∀ ρ' μ' a' w', Fr C ρ' μ' A' H' a' w' → Q .normal a' w') → (Code.region id ops true).wp P Q a w
  lt : ∀ {C : Ctx} {ρ : Ren} {μ : Lam} {A : IA} {H : IHeap} {a : Act} {w : World} {W : List Nat} {ops : Array Oper} {id j : Nat} {is : List Nat} {σ : Type} {k : IA → IHeap → Option σ} {r : σ} {Q : Exit → Act → World → Prop} {oj : Oper} {l2 : List Oper},
    ok.lt A ops j is = true → Fr C ρ μ A H a w → (∀ t ∈ dsts ops.toList, t < C.sz) → (wipes pr ops.toList).Nodup → (∀ u ∈ wipes pr ops.toList, μ u = none) → ops.toList.drop j = oj :: l2 →
      iseq P E pr C.lim true W (ops.toList.take j) A H (fun A1 H1 => iwantK P E pr C.lim true W oj A1 H1 fun A2 H2 => iseq P E pr C.lim true W l2 A2 H2 fun A3 H3 => bif lateChk P ops.toList j A3 H1 H2 is then k A3 H3 else none) = some r →
      (∀ A' H', Keeps C.lim H H' → k A' H' = some r → (∀ u, u ∉ W → A'.loc u = A.loc u) → (∀ t, t ∉ dsts ops.toList → A'.tmp t = A.tmp t) → Free C.ρ0 C.n0 H'.next ∧ ∀ ρ' μ' a' w', Fr C ρ' μ' A' H' a' w' → Q .normal a' w') → (Code.region id ops true).wp P Q a w
  li : ∀ {C : Ctx} {ρ : Ren} {μ : Lam} {A : IA} {H : IHeap} {a : Act} {w : World} {ops : Array Oper} {id : Nat} {σ : Type} {k : IA → IHeap → Option σ} {r : σ} {Q : Exit → Act → World → Prop} {t : TypeId} {ag : Nat} {z : Value},
    ok.li ops = true → Fr C ρ μ A H a w → (∀ t ∈ dsts ops.toList, t < C.sz) → litOf ops.toList = some t → mapTy P t = some (ag, z) →
      litK P pr t ag H ops.toList A [] (fun A' es => k A' (H.push (.fmap ag es))) = some r →
      (∀ A' es, k A' (H.push (.fmap ag es)) = some r → A'.loc = A.loc → (∀ t, t ∉ dsts ops.toList → A'.tmp t = A.tmp t) → Free C.ρ0 C.n0 (H.next + 1) ∧ ∀ ρ' a' w', Fr C ρ' μ A' (H.push (.fmap ag es)) a' w' → Q .normal a' w') → (Code.region id ops true).wp P Q a w

/-- Where a piece of code ends otherwise than at its end. -/
def ExitPost (P : Program) (C : Ctx) (rs : List ResultVar) (bo : BO) (S am W : List Nat) (A : IA) (r : J × IHeap) : Exit → Act → World → Prop
  | .exit id, a, w => ∃ outs louts vs A' ρ μ, BO.find id bo = some (outs, louts) ∧ r.1 = .exit id vs ∧ Packs A' outs louts vs ∧ Fr C ρ μ A' r.2 a w ∧ Off S am W A A'
  | .ret, a, w => ∃ l A' ρ μ, iresultsK P A' r.2 rs some = some l ∧ r.1 = .ret (itup l) ∧ Fr C ρ μ A' r.2 a w
  | _, _, _ => False

theorem ExitPost.lift {rs : List ResultVar} {bo : BO} {S am W S' am' W' : List Nat} {A0 : IA} {r : J × IHeap} {e : Exit} (h : ExitPost P C rs bo S am W A r e a w) (h0 : Off S' am' W' A0 A) (h1 : ∀ t, t ∈ S → t ∈ S') (h2 : ∀ t, t ∈ am → t ∈ am') (h3 : ∀ t, t ∈ W → t ∈ W') :
    ExitPost P C rs bo S' am' W' A0 r e a w := by
  cases e with
  | exit id =>
    obtain ⟨outs, louts, vs, A', ρ, μ, q1, q2, q3, q4, q5⟩ := h
    exact ⟨outs, louts, vs, A', ρ, μ, q1, q2, q3, q4, h0.trans (q5.mono h1 h2 h3)⟩
  | ret => exact h
  | _ => exact h.elim

theorem ExitPost.mono {rs : List ResultVar} {bo : BO} {S am W S' am' W' : List Nat} {r : J × IHeap} {e : Exit} (h : ExitPost P C rs bo S am W A r e a w) (h1 : ∀ t, t ∈ S → t ∈ S') (h2 : ∀ t, t ∈ am → t ∈ am') (h3 : ∀ t, t ∈ W → t ∈ W') :
    ExitPost P C rs bo S' am' W' A r e a w := h.lift (Off.refl _ _ _ _) h1 h2 h3

theorem then_of {K : Act → World → Prop} {Q : Exit → Act → World → Prop} {rs : List ResultVar} {bo : BO} {S am W : List Nat} {r : J × IHeap} {e : Exit} (h : ExitPost P C rs bo S am W A r e a w) (hq : Q e a w) : Exit.then K Q e a w := by
  cases e <;> first | exact hq | exact h.elim

theorem wipe_off (A : IA) {us W : List Nat} (h : subset us W = true) (S : List Nat) {A' : IA} (h1 : ∀ u, u ∉ W → A'.loc u = (wipe A us).loc u) (h2 : ∀ t, t ∉ S → A'.tmp t = (wipe A us).tmp t) : Off S us W A A' where
  tmp := fun t ht => .inr (by rw [h2 t ht]; rfl)
  loc := fun u hu => by
    rw [h1 u hu]
    have : us.elem u = false := by
      cases e : us.elem u with
      | false => rfl
      | true => exact absurd (mem_subset h (by simpa using e)) hu
    simp only [wipe, this, cond_false]

section
variable {E : Env} (hE : EnvOK P E) {pr : Prm} {N : Nat} {ok : Ok} (hok : DrawSound P E pr ok)
include hE hok

theorem icode_sound {rs : List ResultVar} : ∀ (c : Code) {ann : Ann} {bo : BO} {W : List Nat} {A : IA} {H : IHeap} {k : IA → IHeap → Option (J × IHeap)} {r : J × IHeap} {ρ : Ren} {μ : Lam} {a : Act} {w : World} {Q : Exit → Act → World → Prop},
    icode P E pr N ok C.lim rs c ann bo W A H k = some r → Fr C ρ μ A H a w → Free C.ρ0 C.n0 r.2.next → (∀ t ∈ asg c, t < C.sz) →
    (∀ A' H', k A' H' = some r → C.lim ≤ H'.next → Keeps C.lim H' r.2) →
    (∀ A' H' ρ' μ' a' w', k A' H' = some r → Fr C ρ' μ' A' H' a' w' → Off (asg c) (wipesC pr c) W A A' → Q .normal a' w') →
    (∀ e a' w', ExitPost P C rs bo (asg c) (wipesC pr c) W A r e a' w' → Q e a' w') → c.wp P Q a w := by
  intro c
  induction c with
  | skip =>
    intro ann bo W A H k r ρ μ a w Q h hF hfree hd hkk hk hx
    cases ann <;> simp only [icode] at h <;> try (simp at h; done)
    exact wp_skip (hk _ _ _ _ _ _ h hF (Off.refl _ _ _ _))
  | region id ops q =>
    intro ann bo W A H k r ρ μ a w Q h hF hfree hd hkk hk hx
    cases ann <;> simp only [icode] at h <;> try (simp at h; done)
    · rename_i outs
      rcases cond_some h with ⟨_, h⟩ | ⟨hc, h⟩
      · simp at h
      simp only [Bool.or_eq_false_iff, Bool.not_eq_false', Bool.and_eq_false_iff] at hc
      obtain ⟨⟨hc1, hc2⟩, hc3⟩ := hc
      have hlim : C.lim ≤ H.next := Nat.le_trans hF.lim hF.next
      have fr : ∀ H', Keeps C.lim H H' → ∀ A', k A' H' = some r → Free C.ρ0 C.n0 H'.next := fun H' k1 A' h' => by
        have := (hkk A' H' h' (Nat.le_trans hlim k1.le)).le
        exact fun b b1 b2 => hfree b b1 (Nat.lt_of_lt_of_le b2 this)
      cases q with
      | false =>
        exact region_sound hE hF hd hc3 h fun A' H' k1 h' q1 q2 => ⟨fr H' k1 A' h', fun ρ' μ' a' w' hF' _ => hk A' H' ρ' μ' a' w' h' hF' (wipe_off A hc2 _ q1 q2)⟩
      | true =>
        have hok1 : ok.dr (wipe A (wipes pr ops.toList)) ops = true := by
          rcases hc1 with e | e
          · exact absurd e (by simp)
          · exact e
        obtain ⟨A1, H1, c1, c2, c3, c4⟩ := gsegs_chain (ops := ops) (segs ops.toList) (segs_guard ops.toList) h
        rw [segs_flat] at c1 c4
        have keep := c1.keeps hE hlim
        refine hok.dr hok1 (hF.wipe _) (fr H1 keep A1 c2) hd (nodup_of hc3) (fun u hu => by simp [Lam.drop, hu]) c1 fun ρ' μ' a' w' hF' => ?_
        exact hk A1 H1 ρ' μ' a' w' c2 hF' (wipe_off A hc2 _ c3 c4)
    · rename_i j is
      rcases cond_some h with ⟨_, g⟩ | ⟨hc, g⟩
      · simp at g
      simp only [Bool.or_eq_false_iff, Bool.not_eq_false'] at hc
      obtain ⟨⟨⟨hq, hc1⟩, hc2⟩, hc3⟩ := hc
      subst hq
      have hlim : C.lim ≤ H.next := Nat.le_trans hF.lim hF.next
      split at g
      · rename_i oj l2 hdrop
        refine hok.lt hc1 (hF.wipe _) hd (nodup_of hc3) (fun u hu => by simp [Lam.drop, hu]) hdrop g fun A' H' k1 h' q1 q2 => ?_
        have := (hkk A' H' h' (Nat.le_trans hlim k1.le)).le
        exact ⟨fun b b1 b2 => hfree b b1 (Nat.lt_of_lt_of_le b2 this), fun ρ' μ' a' w' hF' => hk A' H' ρ' μ' a' w' h' hF' (wipe_off A hc2 _ q1 q2)⟩
      · simp at g
    · rcases cond_some h with ⟨_, g⟩ | ⟨hc, g⟩
      · simp at g
      simp only [Bool.or_eq_false_iff, Bool.not_eq_false'] at hc
      obtain ⟨hq, hc1⟩ := hc
      subst hq
      have hlim : C.lim ≤ H.next := Nat.le_trans hF.lim hF.next
      obtain ⟨t, ht, g⟩ := Option.bind_eq_some_iff.1 g
      obtain ⟨⟨ag, z⟩, hz, g⟩ := Option.bind_eq_some_iff.1 g
      refine hok.li hc1 hF hd ht hz g fun A' es h' q1 q2 => ?_
      have := (hkk A' _ h' (by simp; omega)).le
      refine ⟨fun b b1 b2 => hfree b b1 (Nat.lt_of_lt_of_le b2 (by simpa using this)), fun ρ' a' w' hF' => hk A' _ ρ' μ a' w' h' hF' ?_⟩
      exact ⟨fun t ht => by
        rw [q2 t ht]
        exact (keepT_cases _ _).imp (fun x => x) fun e => e.symm, fun u _ => by rw [q1]⟩
  | seq x y ihx ihy =>
    intro ann bo W A H k r ρ μ a w Q h hF hfree hd hkk hk hx
    cases ann <;> simp only [icode] at h <;> try (simp at h; done)
    have m1 : ∀ t, t ∈ asg x → t ∈ asg (x.seq y) := fun t ht => by simp [asg, ht]
    have m2 : ∀ t, t ∈ asg y → t ∈ asg (x.seq y) := fun t ht => by simp [asg, ht]
    have n1 : ∀ t, t ∈ wipesC pr x → t ∈ wipesC pr (x.seq y) := fun t ht => by simp [wipesC, ht]
    have n2 : ∀ t, t ∈ wipesC pr y → t ∈ wipesC pr (x.seq y) := fun t ht => by simp [wipesC, ht]
    refine wp_seq (ihx h hF hfree (fun t ht => hd t (m1 t ht)) (fun A' H' h' hl => icode_keeps hE y h' hl hkk) ?_ ?_)
    · intro A1 H1 ρ1 μ1 a1 w1 h1 hF1 o1
      have o1' := o1.mono m1 n1 (fun _ q => q)
      refine ihy h1 hF1 hfree (fun t ht => hd t (m2 t ht)) hkk ?_ ?_
      · intro A2 H2 ρ2 μ2 a2 w2 h2 hF2 o2
        exact hk A2 H2 ρ2 μ2 a2 w2 h2 hF2 (o1'.trans (o2.mono m2 n2 fun _ q => q))
      · intro e a2 w2 he
        exact hx e a2 w2 (he.lift o1' m2 n2 fun _ q => q)
    · intro e a1 w1 he
      exact then_of he (hx e a1 w1 (he.mono m1 n1 fun _ q => q))
  | cond c x y ihx ihy =>
    intro ann bo W A H k r ρ μ a w Q h hF hfree hd hkk hk hx
    have m1 : ∀ t, t ∈ asg x → t ∈ asg (Code.cond c x y) := fun t ht => by simp [asg, ht]
    have m2 : ∀ t, t ∈ asg y → t ∈ asg (Code.cond c x y) := fun t ht => by simp [asg, ht]
    have n1 : ∀ t, t ∈ wipesC pr x → t ∈ wipesC pr (Code.cond c x y) := fun t ht => by simp [wipesC, ht]
    have n2 : ∀ t, t ∈ wipesC pr y → t ∈ wipesC pr (Code.cond c x y) := fun t ht => by simp [wipesC, ht]
    have cv : ∀ {x : Value} {b : Bool}, A.ev c = .v x → x = .bool b → a.eval c = .bool b := by
      intro x b e1 e2
      have := hF.ev c
      rw [e1, e2] at this
      exact bool_inv this
    cases ann <;> simp only [icode] at h <;> try (simp at h; done)
    · split at h
      · rename_i tv htv
        obtain ⟨b, hb, h⟩ := boolK_inv h
        have hc := cv htv hb
        rcases cond_some h with ⟨rfl, h⟩ | ⟨rfl, h⟩
        · refine wp_cond_true hc (ihx h hF hfree (fun t ht => hd t (m1 t ht)) hkk (fun A1 H1 ρ1 μ1 a1 w1 h1 hF1 o1 => ?_) fun e a1 w1 he => ?_)
          · exact hk A1 H1 ρ1 μ1 a1 w1 h1 hF1 (o1.mono m1 n1 fun _ q => q)
          · exact hx e a1 w1 (he.mono m1 n1 fun _ q => q)
        · refine wp_cond_false hc (ihy h hF hfree (fun t ht => hd t (m2 t ht)) hkk (fun A1 H1 ρ1 μ1 a1 w1 h1 hF1 o1 => ?_) fun e a1 w1 he => ?_)
          · exact hk A1 H1 ρ1 μ1 a1 w1 h1 hF1 (o1.mono m2 n2 fun _ q => q)
          · exact hx e a1 w1 (he.mono m2 n2 fun _ q => q)
      · simp at h
    · rename_i outs louts lm ax ay
      rcases cond_some h with ⟨_, h⟩ | ⟨hlm, h⟩
      · simp at h
      have hlm : subset lm W = true := by simpa using hlm
      have hW : ∀ u, u ∈ lm → u ∈ W := fun u => mem_subset hlm
      split at h
      · rename_i tv htv
        obtain ⟨j, H1, h1, h2⟩ := joinK_inv h
        obtain ⟨b, hb, h1⟩ := boolK_inv h1
        have hc := cv htv hb
        have hlim : C.lim ≤ H.next := Nat.le_trans hF.lim hF.next
        -- what is common to both ways
        have common : ∀ (z : Code) (az : Ann), (∀ t, t ∈ asg z → t ∈ asg (Code.cond c x y)) → (∀ t, t ∈ wipesC pr z → t ∈ wipesC pr (Code.cond c x y)) →
            (∀ {ann : Ann} {bo : BO} {W : List Nat} {A : IA} {H : IHeap} {k : IA → IHeap → Option (J × IHeap)} {r : J × IHeap} {ρ : Ren} {μ : Lam} {a : Act} {w : World} {Q : Exit → Act → World → Prop},
              icode P E pr N ok C.lim rs z ann bo W A H k = some r → Fr C ρ μ A H a w → Free C.ρ0 C.n0 r.2.next → (∀ t ∈ asg z, t < C.sz) →
              (∀ A' H', k A' H' = some r → C.lim ≤ H'.next → Keeps C.lim H' r.2) →
              (∀ A' H' ρ' μ' a' w', k A' H' = some r → Fr C ρ' μ' A' H' a' w' → Off (asg z) (wipesC pr z) W A A' → Q .normal a' w') →
              (∀ e a' w', ExitPost P C rs bo (asg z) (wipesC pr z) W A r e a' w' → Q e a' w') → z.wp P Q a w) →
            icode P E pr N ok C.lim rs z az bo lm A H (fun A' H' => packK A' outs louts fun vs => some (.norm vs, H')) = some (j, H1) → z.wp P Q a w := by
          intro z az mz nz ihz hz
          have hkz : ∀ A' H', packK A' outs louts (fun vs => some (J.norm vs, H')) = some (j, H1) → C.lim ≤ H'.next → Keeps C.lim H' H1 := fun A' H' h' _ => by
            obtain ⟨vs, e, _⟩ := packK_inv h'
            simp at e; rw [e.2]; exact Keeps.refl _ _
          have k1 : Keeps C.lim H H1 := icode_keeps hE z hz hlim hkz
          rcases h2 with ⟨vs, rfl, h2⟩ | ⟨hj, rfl⟩
          · have k2 := hkk _ _ h2 (Nat.le_trans hlim k1.le)
            refine ihz hz hF (fun b b1 b2 => hfree b b1 (Nat.lt_of_lt_of_le b2 k2.le)) (fun t ht => hd t (mz t ht)) hkz ?_ ?_
            · intro A2 H2 ρ2 μ2 a2 w2 hp hF2 o2
              obtain ⟨vs', e, hP⟩ := packK_inv hp
              simp at e
              obtain ⟨rfl, rfl⟩ := e
              have o2' : Off (asg x ++ asg y) (wipesC pr x ++ wipesC pr y) lm A A2 := o2.mono mz nz fun _ q => q
              obtain ⟨u1, u2⟩ := unpack_sound hP o2'
              exact hk _ _ ρ2 μ2 a2 w2 h2 (hF2.le u1) (u2.mono (fun _ q => q) (fun _ q => q) hW)
            · intro e a2 w2 he
              exfalso
              cases e with
              | exit id => obtain ⟨_, _, _, _, _, _, _, q, _⟩ := he; simp at q
              | ret => obtain ⟨_, _, _, _, _, q, _⟩ := he; simp at q
              | _ => exact he
          · refine ihz hz hF hfree (fun t ht => hd t (mz t ht)) hkz ?_ ?_
            · intro A2 H2 ρ2 μ2 a2 w2 hp hF2 o2
              obtain ⟨vs', e, hP⟩ := packK_inv hp
              simp at e
              exact absurd e.1.symm (hj vs')
            · intro e a2 w2 he
              exact hx e a2 w2 (he.mono mz nz hW)
        rcases cond_some h1 with ⟨rfl, h1⟩ | ⟨rfl, h1⟩
        · exact wp_cond_true hc (common x ax m1 n1 ihx h1)
        · exact wp_cond_false hc (common y ay m2 n2 ihy h1)
      · simp at h
  | block id x ih =>
    intro ann bo W A H k r ρ μ a w Q h hF hfree hd hkk hk hx
    cases ann <;> simp only [icode] at h <;> try (simp at h; done)
    rename_i outs louts lm ax
    rcases cond_some h with ⟨_, h⟩ | ⟨hlm, h⟩
    · simp at h
    have hlm : subset lm W = true := by simpa using hlm
    have hW : ∀ u, u ∈ lm → u ∈ W := fun u => mem_subset hlm
    have hlim : C.lim ≤ H.next := Nat.le_trans hF.lim hF.next
    obtain ⟨j, H1, h1, h2⟩ := catchK_inv h
    have hkz : ∀ A' H', packK A' outs louts (fun vs => some (J.norm vs, H')) = some (j, H1) → C.lim ≤ H'.next → Keeps C.lim H' H1 := fun A' H' h' _ => by
      obtain ⟨vs, e, _⟩ := packK_inv h'
      simp at e; rw [e.2]; exact Keeps.refl _ _
    have k1 : Keeps C.lim H H1 := icode_keeps hE x h1 hlim hkz
    refine wp_block ?_
    rcases h2 with ⟨vs, hj, h2⟩ | ⟨hj1, hj2, rfl⟩
    · have k2 := hkk _ _ h2 (Nat.le_trans hlim k1.le)
      have fin : ∀ A2 ρ2 μ2 a2 w2, Packs A2 outs louts vs → Fr C ρ2 μ2 A2 H1 a2 w2 → Off (asg x) (wipesC pr x) lm A A2 → Q .normal a2 w2 := by
        intro A2 ρ2 μ2 a2 w2 hP hF2 o2
        obtain ⟨u1, u2⟩ := unpack_sound hP o2
        exact hk _ _ ρ2 μ2 a2 w2 h2 (hF2.le u1) (u2.mono (fun _ q => q) (fun _ q => q) hW)
      refine ih h1 hF (fun b b1 b2 => hfree b b1 (Nat.lt_of_lt_of_le b2 k2.le)) hd hkz ?_ ?_
      · intro A2 H2 ρ2 μ2 a2 w2 hp hF2 o2
        obtain ⟨vs', e, hP⟩ := packK_inv hp
        simp at e
        obtain ⟨e, rfl⟩ := e
        have : vs' = vs := by
          rcases hj with hj | hj
          · rw [hj] at e; simpa using e
          · rw [hj] at e; simp at e
        subst this
        exact fin A2 ρ2 μ2 a2 w2 hP hF2 o2
      · intro e a2 w2 he
        cases e with
        | exit id' =>
          obtain ⟨outs', louts', vs', A2, ρ2, μ2, q1, q2, q3, q4, q5⟩ := he
          simp only at q2
          rcases hj with hj | hj
          · rw [hj] at q2; simp at q2
          · rw [hj] at q2
            simp at q2
            obtain ⟨rfl, rfl⟩ := q2
            simp [BO.find] at q1
            obtain ⟨rfl, rfl⟩ := q1
            simp only [Exit.inBlock, if_true]
            exact fin A2 ρ2 μ2 a2 w2 q3 q4 q5
        | ret =>
          obtain ⟨_, _, _, _, _, q, _⟩ := he
          simp only at q
          rcases hj with hj | hj <;> rw [hj] at q <;> simp at q
        | _ => exact he.elim
    · refine ih h1 hF hfree hd hkz ?_ ?_
      · intro A2 H2 ρ2 μ2 a2 w2 hp hF2 o2
        obtain ⟨vs', e, hP⟩ := packK_inv hp
        simp at e
        exact absurd e.1.symm (hj1 vs')
      · intro e a2 w2 he
        cases e with
        | exit id' =>
          obtain ⟨outs', louts', vs', A2, ρ2, μ2, q1, q2, q3, q4, q5⟩ := he
          by_cases hid : id' = id
          · subst hid; exact absurd q2 (hj2 vs')
          · simp only [Exit.inBlock, hid, if_false]
            have hid' : (id == id') = false := by simp; exact fun e => hid e.symm
            simp only [BO.find, hid', cond_false] at q1
            exact hx (.exit id') a2 w2 ⟨outs', louts', vs', A2, ρ2, μ2, q1, q2, q3, q4, q5.mono (fun _ q => q) (fun _ q => q) hW⟩
        | ret => exact hx .ret a2 w2 he
        | _ => exact he.elim
  | loop x ih =>
    intro ann bo W A H k r ρ μ a w Q h hF hfree hd hkk hk hx
    cases ann <;> simp only [icode] at h <;> try (simp at h; done)
    rename_i vars lvars lm ax
    rcases cond_some h with ⟨_, h⟩ | ⟨hlm, h⟩
    · simp at h
    have hlm : subset lm W = true := by simpa using hlm
    have hW : ∀ u, u ∈ lm → u ∈ W := fun u => mem_subset hlm
    obtain ⟨vs0, h, hP0⟩ := packK_inv h
    have hbk : ∀ vs H j H1, icode P E pr N ok C.lim rs x ax bo lm (unpack A (asg x) (wipesC pr x) vars lvars lm vs) H (fun A' H' => packK A' vars lvars fun vs' => some (.norm vs', H')) = some (j, H1) → C.lim ≤ H.next → Keeps C.lim H H1 := by
      intro vs H j H1 h1 hl
      exact icode_keeps hE x h1 hl fun A' H' h' _ => by
        obtain ⟨vs, e, _⟩ := packK_inv h'
        simp at e; rw [e.2]; exact Keeps.refl _ _
    obtain ⟨u1, u2⟩ := unpack_sound hP0 (Off.refl (asg x) (wipesC pr x) lm A)
    refine wp_loop_ghost (fun n a w => ∃ vs H ρ μ, iloop (fun vs H => icode P E pr N ok C.lim rs x ax bo lm (unpack A (asg x) (wipesC pr x) vars lvars lm vs) H (fun A' H' => packK A' vars lvars fun vs' => some (.norm vs', H'))) n vs H = some r ∧
      Fr C ρ μ (unpack A (asg x) (wipesC pr x) vars lvars lm vs) H a w ∧ Off (asg x) (wipesC pr x) lm A (unpack A (asg x) (wipesC pr x) vars lvars lm vs)) N ⟨vs0, H, ρ, μ, h, hF.le u1, u2⟩ ?_
    rintro n a1 w1 ⟨vs, H1, ρ1, μ1, h1, hF1, o1⟩
    cases n with
    | zero => rw [iloop_zero] at h1; simp at h1
    | succ n =>
      rw [iloop_succ] at h1
      obtain ⟨j, H2, g1, h2⟩ := joinK_inv h1
      have hlim1 : C.lim ≤ H1.next := Nat.le_trans hF1.lim hF1.next
      have k1 := hbk vs H1 j H2 g1 hlim1
      have hkz : ∀ A' H', packK A' vars lvars (fun vs => some (J.norm vs, H')) = some (j, H2) → C.lim ≤ H'.next → Keeps C.lim H' H2 := fun A' H' h' _ => by
        obtain ⟨vs, e, _⟩ := packK_inv h'
        simp at e; rw [e.2]; exact Keeps.refl _ _
      rcases h2 with ⟨vs', rfl, h2⟩ | ⟨hj, rfl⟩
      · have k2 := iloop_keeps hbk n _ _ h2 (Nat.le_trans hlim1 k1.le)
        refine ih g1 hF1 (fun b b1 b2 => hfree b b1 (Nat.lt_of_lt_of_le b2 k2.le)) hd hkz ?_ ?_
        · intro A2 H3 ρ2 μ2 a2 w2 hp hF2 o2
          obtain ⟨vs'', e, hP⟩ := packK_inv hp
          simp at e
          obtain ⟨rfl, rfl⟩ := e
          obtain ⟨v1, v2⟩ := unpack_sound hP (o1.trans o2)
          exact ⟨n, Nat.lt_succ_self n, vs'', H3, ρ2, μ2, h2, hF2.le v1, v2⟩
        · intro e a2 w2 he
          exfalso
          cases e with
          | exit id => obtain ⟨_, _, _, _, _, _, _, q, _⟩ := he; simp at q
          | ret => obtain ⟨_, _, _, _, _, q, _⟩ := he; simp at q
          | _ => exact he
      · refine ih g1 hF1 hfree hd hkz ?_ ?_
        · intro A2 H3 ρ2 μ2 a2 w2 hp hF2 o2
          obtain ⟨vs'', e, hP⟩ := packK_inv hp
          simp at e
          exact absurd e.1.symm (hj vs'')
        · intro e a2 w2 he
          exact then_of he (hx e a2 w2 (he.lift (o1.mono (fun _ q => q) (fun _ q => q) hW) (fun _ q => q) (fun _ q => q) hW))
  | exit id =>
    intro ann bo W A H k r ρ μ a w Q h hF hfree hd hkk hk hx
    cases ann <;> simp only [icode] at h <;> try (simp at h; done)
    obtain ⟨⟨outs, louts⟩, hb, h⟩ := Option.bind_eq_some_iff.1 h
    obtain ⟨vs, e, hP⟩ := packK_inv h
    have e := Option.some.inj e
    subst e
    exact wp_exit (hx (.exit id) a w ⟨outs, louts, vs, A, ρ, μ, hb, rfl, hP, hF, Off.refl _ _ _ _⟩)
  | ret =>
    intro ann bo W A H k r ρ μ a w Q h hF hfree hd hkk hk hx
    cases ann <;> simp only [icode] at h <;> try (simp at h; done)
    rw [iresultsK_bind] at h
    obtain ⟨l, hl, e⟩ := Option.bind_eq_some_iff.1 h
    have e := Option.some.inj e
    subst e
    exact wp_ret (hx .ret a w ⟨l, A, ρ, μ, hl, rfl, hF⟩)
  | _ =>
    intro ann bo W A H k r ρ μ a w Q h
    cases ann <;> simp [icode] at h
end
end Go.Ideal
