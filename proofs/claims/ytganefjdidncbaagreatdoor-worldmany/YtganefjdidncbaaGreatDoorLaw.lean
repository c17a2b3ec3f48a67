/- This text proves the given statement of WorldMany: for every input the law returns true, and each argument reads behind the call as it read before. No conditions beyond the row's own (two tables of math/bits as the text lays them, tied by the card). -/
import Derived.Test.YtganefjdidncbaaGreatDoorPd
import Derived.Test.YtganefjdidncbaaGreatDoorRows
import Derived.Test.YtganefjdidncbaaGreatDoorTie
import Derived.Test.YtganefjdidncbaaGreatDoorCards
import Derived.SevenTiedAt
import Derived.WalkKit
import Derived.ProofKit
import Derived.OpenShut
import Derived.ChangeVars
import Derived.JoinedOf
import Derived.RowKit
namespace Go.Proofs.YtganefjdidncbaaGreatDoor
open Go.ChangeShapes Go.WideShapes Go.ChangeAt Go.RowKit
set_option linter.unusedVariables false

theorem own : ownKnob Tryz.prog.godebug = none := by kernel_rfl
/-- The call. -/
theorem walk (a0 : Bool) (w : World) : Calls Tryz.prog 3 #[.bool a0] w fun e w' => e = .returned (.bool true) ∧ ∀ may, w.keptBut w' may := by
  obtain ⟨H, h⟩ := Ideal.law_true a0
  exact (Ideal.sim3 Ideal.fuel).true (args := [.bool a0]) h (fun _ => (.cons (.bool _) .nil)) w
def tab1 : Array Value := #[.int .u8 0, .int .u8 1, .int .u8 28, .int .u8 2, .int .u8 29, .int .u8 14, .int .u8 24, .int .u8 3, .int .u8 30, .int .u8 22, .int .u8 20, .int .u8 15, .int .u8 25, .int .u8 17, .int .u8 4, .int .u8 8, .int .u8 31, .int .u8 27, .int .u8 13, .int .u8 23, .int .u8 21, .int .u8 19, .int .u8 16, .int .u8 7, .int .u8 26, .int .u8 12, .int .u8 18, .int .u8 6, .int .u8 11, .int .u8 5, .int .u8 10, .int .u8 9]
def tab0 : Array Value := #[.int .u8 0, .int .u8 1, .int .u8 56, .int .u8 2, .int .u8 57, .int .u8 49, .int .u8 28, .int .u8 3, .int .u8 61, .int .u8 58, .int .u8 42, .int .u8 50, .int .u8 38, .int .u8 29, .int .u8 17, .int .u8 4, .int .u8 62, .int .u8 47, .int .u8 59, .int .u8 36, .int .u8 45, .int .u8 43, .int .u8 51, .int .u8 22, .int .u8 53, .int .u8 39, .int .u8 33, .int .u8 30, .int .u8 24, .int .u8 18, .int .u8 12, .int .u8 5, .int .u8 63, .int .u8 55, .int .u8 48, .int .u8 27, .int .u8 60, .int .u8 41, .int .u8 37, .int .u8 16, .int .u8 46, .int .u8 35, .int .u8 44, .int .u8 21, .int .u8 52, .int .u8 32, .int .u8 23, .int .u8 11, .int .u8 54, .int .u8 26, .int .u8 40, .int .u8 15, .int .u8 34, .int .u8 20, .int .u8 31, .int .u8 10, .int .u8 25, .int .u8 14, .int .u8 19, .int .u8 9, .int .u8 13, .int .u8 8, .int .u8 7, .int .u8 6]
def laidList : List (String × DataW Unit) := [("math/bits.deBruijn32tab", Rows.laid_math_bits_deBruijn32tab), ("math/bits.deBruijn64tab", Rows.laid_math_bits_deBruijn64tab)]
noncomputable def laidWorld (os : Os) : World :=
  { World.holding Tryz.prog os ⟨#[], #[], []⟩ with heap := (((World.holding Tryz.prog os ⟨#[], #[], []⟩).heap.modify 1 fun | .cells _ t frozen => .cells tab1 t frozen | o => o).modify 0 fun | .cells _ t frozen => .cells tab0 t frozen | o => o) }
theorem laidWorld_row1 (os : Os) : ((laidWorld os).forCall (fun _ _ => 0) ⟨#[], #[.bool false], []⟩).memory.heap[1]? = some (.cells tab1 370 (0, 0)) := by kernel_rfl
theorem laidWorld_row0 (os : Os) : ((laidWorld os).forCall (fun _ _ => 0) ⟨#[], #[.bool false], []⟩).memory.heap[0]? = some (.cells tab0 330 (0, 0)) := by kernel_rfl
theorem plainCells (w : World) (b : Nat) (c : Array Value) (t : TypeId) (hb : w.heap[b]? = some (.cells c t (0, 0))) (hc : c.toList.all (fun v => match v with | .int _ _ => true | _ => false) = true) (off : Nat) :
    (∃ c t, w.heap[b]? = some (.cells c t (0, 0))) ∧ ∀ u v, w.cell? ⟨b, off, none⟩ = some (.iface u v) → Value.okWide Tryz.prog w .any 0 u v := by
  refine ⟨⟨c, t, hb⟩, fun u v h => ?_⟩
  simp only [World.cell?, hb] at h
  have hm : Value.iface u v ∈ c.toList := by
    rw [Array.mem_toList_iff]
    exact Array.mem_of_getElem? (by simpa using h)
  have := List.all_eq_true.1 hc _ hm
  simp at this
theorem rowBlock {a : Addr} {n b off : Nat} (h : MemPlace.cell b off ∈ MemPlace.row a n) : b = a.block := by
  unfold MemPlace.row at h
  obtain ⟨i, _, e⟩ := List.mem_map.1 h
  cases e; rfl
set_option maxRecDepth 100000 in
theorem laid_met (os : Os) : laidMet Tryz.prog laidList ((laidWorld os).forCall (fun _ _ => 0) ⟨#[], #[.bool false], []⟩).memory :=
  ⟨_, ⟨1, 370, tab1, 8, [], _, by kernel_rfl, by kernel_rfl, by kernel_rfl, by kernel_rfl, ⟨0, 330, tab0, 8, [], [], by kernel_rfl, by kernel_rfl, by kernel_rfl, by kernel_rfl, rfl, rfl⟩, rfl⟩, by decide, fun b off h => by
    rcases List.mem_append.1 h with h | h
    · have hb := rowBlock (by simpa using h)
      subst hb
      exact ⟨(plainCells _ _ _ _ (laidWorld_row1 os) (by decide) off).1, (plainCells _ _ _ _ (laidWorld_row1 os) (by decide) off).2⟩
    · have hb := rowBlock (by simpa using h)
      subst hb
      exact ⟨(plainCells _ _ _ _ (laidWorld_row0 os) (by decide) off).1, (plainCells _ _ _ _ (laidWorld_row0 os) (by decide) off).2⟩⟩
set_option maxRecDepth 100000 in
theorem lifted (os : Os) (started : os.Started) (H : Type) (enc : TypeId × Value → H) :
    ReturnsInHanded {} Tryz.checked os 3 .any (fun w args => (Rows.worldManySpec.pre enc Tryz.prog Tryz.f3 [] false w args ∧ laidMet Tryz.prog laidList w) ∧ sizedMet enc Tryz.prog Tryz.f3 (OpenSpec.ofChange Rows.worldManySpec) false w args) (Rows.worldManySpec.post enc Tryz.prog Tryz.f3 false true false false) := by
  refine returnsInHanded_of_change_and (C := Tryz.checked) (X := fun w _ => laidMet Tryz.prog laidList w) (fun _ _ _ hh h => h.of_heap hh) own started (by kernel_rfl) Tryz.func3
    (ChangeSpec.witness_at (enc := enc) (C := Tryz.checked) (os := os) (X := fun w _ => laidMet Tryz.prog laidList w) false (laidWorld os) #[.bool false] 8 rfl (by kernel_rfl) (by kernel_rfl) (by kernel_rfl) (by kernel_rfl) (by kernel_rfl) (laid_met os)) ?_
  intro W base args ds gs before hval0 hW _ _ hL _
  have hval : ∀ (j : Nat) t v, Tryz.f3.params[j]? = some t → args[j]? = some v → Value.okWide Tryz.prog W .any base t v := hval0
  have hW' := hW
  obtain ⟨p, q, hA0, hV, rfl, hfz, hnd⟩ := hW
  have hA : DataW.TrodAll enc Tryz.prog W 0 (fun _ => true) true Tryz.f3.params.toList args.toList ds p := hA0
  rw [Tryz.params3] at hA hval
  obtain ⟨v0, vs0, d0, ds0, p0, q0, hargs, rfl, rfl, h0, r0⟩ := trodAll_cons hA
  obtain ⟨rfl, rfl, rfl⟩ := trodAll_nil r0
  obtain rfl : args = #[v0] := by cases args; simp_all
  obtain ⟨rfl, rfl⟩ := trodVars_none hV
  obtain ⟨a0, rfl, rfl, rfl⟩ := open_bool Tryz.underlying4 (hval 0 4 v0 rfl rfl) h0
  clear hA0 hval0
  simp only [List.append_nil] at hW'
  refine (walk a0 W).mono fun e W' ⟨he, hg⟩ => ?_
  subst he
  exact ⟨_, rfl, _, _, _, [], [], [], hW', (trodAll_cons_mk (shut_bool Tryz.underlying4 _) trodAll_mk0), (trodAll_cons_mk (shut_bool Tryz.underlying4 _) trodAll_mk0), rfl, hg _, fun h => by cases h⟩
theorem aI {a b : Bool} (h : a = true) (k : b = true) : (a && b) = true := by rw [h, k]; rfl
theorem jf0 : (Rows.worldManyRow.wf (OpenSpec.ofChange Rows.worldManySpec)) = true := by kernel_rfl
theorem jf1 : (laidOutB Tryz.prog) = true := by kernel_rfl
theorem jf2 : (mapsRowed Tryz.prog) = true := by kernel_rfl
theorem jf3 : (Tryz.f3.params.all (Tryz.prog.readableRec ·)) = true := by kernel_rfl
theorem jf4 : (namedTie Tryz.prog Rows.worldManyRow.named Rows.worldManySpec.vars) = true := by kernel_rfl
theorem jf5 : ((Rows.worldManyRow.stops == [])) = true := by kernel_rfl
theorem jf6 : ((Tryz.prog.stops == [])) = true := by kernel_rfl
theorem jf7 : ((Rows.worldManyRow.knobs == [])) = true := by kernel_rfl
theorem jf8 : ((Tryz.prog.stopKnobs == [])) = true := by kernel_rfl
theorem jf9 : ((Rows.worldManyRow.inPlace == Tryz.prog.inPlace 3)) = true := by kernel_rfl
theorem jf10 : ((Rows.worldManyRow.unfollowed == Tryz.prog.unfollowed 3)) = true := by kernel_rfl
theorem jf11 : ((Rows.worldManyRow.recurses == Tryz.prog.recurses 3)) = true := by kernel_rfl
theorem jf12 : ((Rows.worldManyRow.named == Tryz.prog.varsNamed 3)) = true := by kernel_rfl
theorem jf13 : ((Rows.worldManyRow.maps == (Tryz.f3.params.toList ++ Rows.worldManySpec.plain.varTypes Tryz.prog).any (Tryz.prog.mapsRec ·))) = true := by kernel_rfl
theorem jf14 : ((Rows.worldManyRow.ifaces == (Tryz.f3.params.toList ++ Rows.worldManySpec.plain.varTypes Tryz.prog).any (Tryz.prog.ifacesRec ·))) = true := by kernel_rfl
theorem jf15 : ((Rows.worldManyRow.mapsOut == Tryz.prog.mapsAmong Tryz.f3.resultTypes.toList)) = true := by kernel_rfl
theorem jf16 : ((Rows.worldManyRow.loops == (Tryz.f3.params.toList ++ Rows.worldManySpec.plain.varTypes Tryz.prog).any (Tryz.prog.loopsFrom ·))) = true := by kernel_rfl
theorem jf17 : ((Rows.worldManyRow.wideKeys == (Tryz.f3.params.toList ++ Rows.worldManySpec.plain.varTypes Tryz.prog ++ Tryz.f3.resultTypes.toList).any (Tryz.prog.wideKeysFrom ·))) = true := by kernel_rfl
theorem jf18 : (Rows.worldManySpec.vars.all (Tryz.prog.varReadable ·)) = true := by kernel_rfl
theorem jf19 : (Tryz.f3.resultTypes.all (fun t => Tryz.prog.readableRec t && decide (t < Tryz.prog.types.size))) = true := by kernel_rfl
theorem jf20 : ((Rows.worldManyRow.ifacesOut == Tryz.f3.resultTypes.toList.any (Tryz.prog.ifacesRec ·))) = true := by kernel_rfl
theorem jf21 : ((Rows.worldManyRow.loopsOut == Tryz.f3.resultTypes.toList.any (Tryz.prog.loopsFrom ·))) = true := by kernel_rfl
theorem jf22 : ((Rows.worldManyRow.plainKeys == Tryz.prog.plainKeys)) = true := by kernel_rfl
theorem jf23 : (Rows.worldManyRow.shortTexts.isNone) = true := by kernel_rfl
theorem jf24 : (Tryz.prog.stopsHeard) = true := by kernel_rfl
theorem jf25 : (Tryz.prog.mayEnter) = true := by kernel_rfl
theorem jf26 : ((Rows.worldManyRow.lifted == Tryz.prog.liftsFinal)) = true := by kernel_rfl
theorem jf27 : ((Tryz.prog.make == some Rows.worldManyRow.make)) = true := by kernel_rfl
theorem jf28 : ((Rows.worldManyRow.kinds == (if Rows.worldManyRow.domain.isEmpty then [] else Tryz.f3.params.toList.map fun t => match Tryz.prog.underlying t with | some (.int k) => some k | _ => none))) = true := by kernel_rfl
theorem jf29 : ((Rows.worldManyRow.pinned == Rows.worldManyRow.pinnedBy)) = true := by kernel_rfl
theorem jf30 : ((Rows.worldManyRow.veiled == (Tryz.f3.params.toList ++ Rows.worldManySpec.plain.varTypes Tryz.prog ++ Tryz.f3.resultTypes.toList).any (Tryz.prog.veiledRec ·))) = true := by kernel_rfl
theorem jf31 : (Rows.worldManyRow.veiledFits Tryz.prog Tryz.f3.params.toList (Tryz.f3.params.toList ++ Rows.worldManySpec.plain.varTypes Tryz.prog ++ Tryz.f3.resultTypes.toList)) = true := by kernel_rfl
set_option maxRecDepth 100000 in
theorem jf : joinedFacts Tryz.prog 3 Tryz.f3 Rows.worldManySpec Rows.worldManyRow = true := by
  unfold joinedFacts
  exact (aI (aI (aI (aI (aI (aI (aI (aI (aI (aI (aI (aI (aI (aI (aI (aI (aI (aI (aI (aI (aI (aI (aI (aI (aI (aI (aI (aI (aI (aI (aI jf0 jf1) jf2) jf3) jf4) jf5) jf6) jf7) jf8) jf9) jf10) jf11) jf12) jf13) jf14) jf15) jf16) jf17) jf18) jf19) jf20) jf21) jf22) jf23) jf24) jf25) jf26) jf27) jf28) jf29) jf30) jf31)
theorem c1 : Tryz.prog.funcNamed Rows.worldManyRow.func = some 3 := by kernel_rfl
theorem over : Rows.worldManyRow.holds Tryz.pinned (OpenSpec.ofChange Rows.worldManySpec) :=
  OpenClaim.holds_of_wide 3 Tryz.f3 rfl rfl rfl rfl rfl rfl rfl ⟨rfl, rfl, rfl, rfl, rfl⟩ rfl rfl rfl rfl rfl c1 Tryz.func3 jf
    (of_decide_eq_true (by kernel_rfl)) (by unfold Func.isWrapper; first | (rw [if_pos (by decide +kernel)]; kernel_rfl) | (rw [if_neg (by decide +kernel)]; exact ⟨rfl, rfl⟩))
    (fun os started H enc _ => lifted os started H enc)
theorem c2 : Rows.worldManyRow.wfByText (OpenSpec.ofChange Rows.worldManySpec) = true := by kernel_rfl
theorem c3 : Tryz.prog.mainIs = some (true, "e304d04457c237f5e7409a5480142cb4676fd284212a36d6c54f7d391a2e7b9f".toList) := by kernel_rfl
theorem c4 : false = Tryz.prog.looks [] := by kernel_rfl
theorem c5 : false = Rows.worldManyRow.goesBy Tryz.prog := by kernel_rfl
theorem c6_4 : Tryz.prog.wantsStandIn 4 = false := by kernel_rfl
theorem noStandIn (j t : Nat) (h : Tryz.f3.params[j]? = some t) : Tryz.prog.wantsStandIn t = false := by
  rw [Tryz.params3] at h
  have ht : t ∈ [4] := by
    have := Array.mem_of_getElem? h
    simpa using this
  simp only [List.mem_cons, List.not_mem_nil, or_false] at ht
  rcases ht with rfl
  · exact c6_4
theorem alone (f : FuncId) (fn : Func) (hf : Tryz.prog.funcNamed Rows.worldManyRow.func = some f) (hfn : Tryz.prog.funcs[f]? = some fn) : false = Tryz.prog.looks [] ∧ ∀ (j : Nat) t, fn.params[j]? = some t → Tryz.prog.wantsStandIn t = false := by
  rw [c1] at hf
  obtain rfl := Option.some.inj hf
  rw [Tryz.func3] at hfn
  obtain rfl := Option.some.inj hfn
  exact ⟨c4, noStandIn⟩
theorem proved : Rows.WorldManyCardSaid :=
  Claim7.holds_tied_plain_at .later [] [.data, .data] true (true, "e304d04457c237f5e7409a5480142cb4676fd284212a36d6c54f7d391a2e7b9f") false
    over (fun _ h => by cases h) c2 (fun _ h => by cases h) worldMany_row_tie rfl ⟨rfl, rfl⟩ c3 rfl alone c5
end Go.Proofs.YtganefjdidncbaaGreatDoor
