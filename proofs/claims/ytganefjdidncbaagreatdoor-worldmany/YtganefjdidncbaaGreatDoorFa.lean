/- This text proves no statement of the seat: it says what functions of the program do on the ideal machine, part 0. By program (emitall.py). -/
import Derived.Test.YtganefjdidncbaaGreatDoorEc
import Derived.Test.YtganefjdidncbaaGreatDoorProg
import Derived.KernelRfl
namespace Go.Ideal
open Go.Proofs
set_option maxRecDepth 100000
set_option linter.unusedVariables false
/-- besom/besomlaw24.Plain -/
def B6 (N : Nat) (lim : Nat) (H : IHeap) : RV :=
 retK ((istore false 1 [(.int .i64 0), (.int .i64 0), (.int .i64 0), (.int .i64 0), (.int .i64 0)] 0 (.int .i64 8)).bind fun cs1 =>
 (istore false 1 cs1 1 (.int .i64 16)).bind fun cs2 =>
 (istore false 1 cs2 2 (.int .i64 512)).bind fun cs3 =>
 (istore false 1 cs3 3 (.int .i64 40)).bind fun cs4 =>
 (istore false 1 cs4 4 (.int .i64 8)).bind fun cs5 =>
 (istore true 5 [(.int .i64 0), (.int .i64 0), (.int .i64 0), (.int .i64 0), (.int .i64 0)] 0 (.agg ⟨cs5⟩)).bind fun cs6 =>
 (iload true 5 cs6 0).bind fun r1 =>
 some (.ret r1, H))
def F6 (N lim : Nat) (H : IHeap) : RV := B6 N lim H
def G6 (N : Nat) : G := w0 (F6 N)
theorem eq6 (N : Nat) (lim : Nat) (H : IHeap) : ifun Tryz.prog { fn := envOf [], wr := [] } { promo := [0], share := false } N (okOf Tryz.prog { promo := [0], share := false } []) Tryz.f6 (.seq (.region []) (.seq (.region []) .leaf)) lim [] H = B6 N lim H := by kernel_rfl
theorem sim6 (N : Nat) : SimF Tryz.prog 6 (G6 N) := by
  refine SimF.gen [] [] { promo := [0], share := false } N (.seq (.region []) (.seq (.region []) .leaf)) Tryz.func6 (by kernel_rfl) (by kernel_rfl) env_nil ?_
  intro lim args H r h
  unfold G6 w0 at h
  split at h
  · exact (eq6 N lim H).trans h
  · simp at h
/-- (*besom/world.World).none -/
def B15 (N : Nat) (lim : Nat) (w0 : Value) (H : IHeap) : RV :=
 retK ((ibin .eql .ptr w0 (.pointer none)).bind fun t4 =>
 (gval false t4).bind fun w1 => grpK (bif w1 then
 ((inilc w0).bind fun t7 =>
 (paddr 9 t7).bind fun t8 =>
 (hload false 1 H t8).bind fun t9 =>
 (ibin .eql .ptr t9 (.pointer none)).bind fun t10 =>
 some ([t10], H))
 else some ([Value.tuple #[]], H)) fun vs1 H1 =>
 (pickK t4 (.bool true) (nthV 0 vs1)).bind fun t11 =>
 some (.ret t11, H1))
def F15 (N lim : Nat) (a0 : Value) (H : IHeap) : RV := B15 N lim a0 H
def G15 (N : Nat) : G := w1 (F15 N)
theorem eq15 (N : Nat) (lim : Nat) (a0 : Value) (H : IHeap) : ifun Tryz.prog { fn := envOf [], wr := [] } { promo := [], share := false } N (okOf Tryz.prog { promo := [], share := false } []) Tryz.f15 (.seq (.region []) (.seq (.region [[10]]) .leaf)) lim [a0] H = B15 N lim a0 H := by kernel_rfl
theorem sim15 (N : Nat) : SimF Tryz.prog 15 (G15 N) := by
  refine SimF.gen [] [] { promo := [], share := false } N (.seq (.region []) (.seq (.region [[10]]) .leaf)) Tryz.func15 (by kernel_rfl) (by kernel_rfl) env_nil ?_
  intro lim args H r h
  unfold G15 w1 at h
  split at h
  · exact (eq15 N lim _ H).trans h
  · simp at h
/-- (*besom/world.World).Status -/
def B7 (N : Nat) (g15 : RF1) (lim : Nat) (w0 : Value) (H : IHeap) : RV :=
 retK (callK (g15 lim w0 H) fun t4 H1 =>
 (boolK t4 fun b1 => bif b1 then
 (some (.ret (.int .i64 0), H1))
 else
 (inilc w0).bind fun t6 =>
 (paddr 20 t6).bind fun t7 =>
 (hload false 1 H1 t7).bind fun t8 =>
 some (.ret t8, H1)))
def F7 (N lim : Nat) (a0 : Value) (H : IHeap) : RV := B7 N (F15 N) lim a0 H
def G7 (N : Nat) : G := w1 (F7 N)
theorem eq7 (N : Nat) (g15 : RF1) (lim : Nat) (a0 : Value) (H : IHeap) : ifun Tryz.prog { fn := envOf [(15, Ideal.w1 g15)], wr := [] } { promo := [], share := false } N (okOf Tryz.prog { promo := [], share := false } []) Tryz.f7 (.seq (.region []) (.seq (.seq (.region []) (.inl (.seq (.region []) .leaf) .leaf)) (.seq (.region []) .leaf))) lim [a0] H = B7 N g15 lim a0 H := by kernel_rfl
theorem sim7 (N : Nat) : SimF Tryz.prog 7 (G7 N) := by
  refine SimF.gen [(15, G15 N)] [] { promo := [], share := false } N (.seq (.region []) (.seq (.seq (.region []) (.inl (.seq (.region []) .leaf) .leaf)) (.seq (.region []) .leaf))) Tryz.func7 (by kernel_rfl) (by kernel_rfl) (env_cons (sim15 N) env_nil) ?_
  intro lim args H r h
  unfold G7 w1 at h
  split at h
  · exact (eq7 N (F15 N) lim _ H).trans h
  · simp at h
/-- (besom/ask.Hand).May -/
def B37 (N : Nat) (lim : Nat) (h0 : Value) (H : IHeap) : RV :=
 retK ((cellsOf true 2 h0).bind fun cs1 =>
 (iload false 1 cs1 0).bind fun t4 =>
 (ibin .eql .no t4 (.int .i64 0)).bind fun t5 =>
 (gval false t5).bind fun w1 => grpK (bif w1 then
 ((iload false 1 cs1 0).bind fun t8 =>
 (ibin .eql .no t8 (.int .i64 1)).bind fun t9 =>
 some ([t9], H))
 else some ([Value.tuple #[]], H)) fun vs1 H1 =>
 (pickK t5 (.bool true) (nthV 0 vs1)).bind fun t10 =>
 some (.ret t10, H1))
def F37 (N lim : Nat) (a0 : Value) (H : IHeap) : RV := B37 N lim a0 H
def G37 (N : Nat) : G := w1 (F37 N)
theorem eq37 (N : Nat) (lim : Nat) (a0 : Value) (H : IHeap) : ifun Tryz.prog { fn := envOf [], wr := [] } { promo := [1], share := false } N (okOf Tryz.prog { promo := [1], share := false } []) Tryz.f37 (.seq (.region []) (.seq (.region [[9]]) .leaf)) lim [a0] H = B37 N lim a0 H := by kernel_rfl
theorem sim37 (N : Nat) : SimF Tryz.prog 37 (G37 N) := by
  refine SimF.gen [] [] { promo := [1], share := false } N (.seq (.region []) (.seq (.region [[9]]) .leaf)) Tryz.func37 (by kernel_rfl) (by kernel_rfl) env_nil ?_
  intro lim args H r h
  unfold G37 w1 at h
  split at h
  · exact (eq37 N lim _ H).trans h
  · simp at h
/-- besom/ask.step -/
def B157 (N : Nat) (lim : Nat) (status0 sign1 : Value) (H : IHeap) : RV :=
 retK ((istore false 1 [(.int .i64 0), (.int .i64 0)] 0 (.int .i64 0)).bind fun cs1 =>
 (istore false 1 cs1 1 (.int .i64 0)).bind fun cs2 =>
 (ikey 3 (.agg ⟨cs2⟩)).bind fun key1 =>
 bif isMapAt H.next (.map (some H.next)) && (ifind key1 []).isNone then
 ((istore false 1 [(.int .i64 0), (.int .i64 0)] 0 (.int .i64 1)).bind fun cs3 =>
 (istore false 1 cs3 1 (.int .i64 1)).bind fun cs4 =>
 (ikey 3 (.agg ⟨cs4⟩)).bind fun key2 =>
 bif isMapAt H.next (.map (some H.next)) && (ifind key2 ([] ++ [(key1, (.int .i64 1), 0)])).isNone then
 ((istore false 1 [(.int .i64 0), (.int .i64 0)] 0 (.int .i64 1)).bind fun cs5 =>
 (istore false 1 cs5 1 (.int .i64 2)).bind fun cs6 =>
 (ikey 3 (.agg ⟨cs6⟩)).bind fun key3 =>
 bif isMapAt H.next (.map (some H.next)) && (ifind key3 (([] ++ [(key1, (.int .i64 1), 0)]) ++ [(key2, (.int .i64 2), 0)])).isNone then
 ((istore false 1 [(.int .i64 0), (.int .i64 0)] 0 (.int .i64 2)).bind fun cs7 =>
 (istore false 1 cs7 1 (.int .i64 3)).bind fun cs8 =>
 (ikey 3 (.agg ⟨cs8⟩)).bind fun key4 =>
 bif isMapAt H.next (.map (some H.next)) && (ifind key4 ((([] ++ [(key1, (.int .i64 1), 0)]) ++ [(key2, (.int .i64 2), 0)]) ++ [(key3, (.int .i64 3), 0)])).isNone then
 ((istore false 1 [(.int .i64 0), (.int .i64 0)] 0 (.int .i64 3)).bind fun cs9 =>
 (istore false 1 cs9 1 (.int .i64 3)).bind fun cs10 =>
 (ikey 3 (.agg ⟨cs10⟩)).bind fun key5 =>
 bif isMapAt H.next (.map (some H.next)) && (ifind key5 (((([] ++ [(key1, (.int .i64 1), 0)]) ++ [(key2, (.int .i64 2), 0)]) ++ [(key3, (.int .i64 3), 0)]) ++ [(key4, (.int .i64 0), 0)])).isNone then
 ((istore false 1 [(.int .i64 0), (.int .i64 0)] 0 status0).bind fun cs11 =>
 (istore false 1 cs11 1 sign1).bind fun cs12 =>
 (ilookup 3 (.int .i64 0) true (H.push (.fmap 3 ((((([] ++ [(key1, (.int .i64 1), 0)]) ++ [(key2, (.int .i64 2), 0)]) ++ [(key3, (.int .i64 3), 0)]) ++ [(key4, (.int .i64 0), 0)]) ++ [(key5, (.int .i64 0), 0)]))) (.map (some H.next)) (.agg ⟨cs12⟩)).bind fun t21 =>
 (iextract 0 t21).bind fun t22 =>
 (iextract 1 t21).bind fun t23 =>
 some (.ret (.tuple ⟨[t22, t23]⟩), (H.push (.fmap 3 ((((([] ++ [(key1, (.int .i64 1), 0)]) ++ [(key2, (.int .i64 2), 0)]) ++ [(key3, (.int .i64 3), 0)]) ++ [(key4, (.int .i64 0), 0)]) ++ [(key5, (.int .i64 0), 0)])))))
 else none)
 else none)
 else none)
 else none)
 else none)
def F157 (N lim : Nat) (a0 a1 : Value) (H : IHeap) : RV := B157 N lim a0 a1 H
def G157 (N : Nat) : G := w2 (F157 N)
theorem eq157 (N : Nat) (lim : Nat) (a0 a1 : Value) (H : IHeap) : ifun Tryz.prog { fn := envOf [], wr := [] } { promo := [], share := false } N (okOf Tryz.prog { promo := [], share := false } []) Tryz.f157 (.seq (.region []) (.seq .lit (.seq (.region []) (.seq (.region []) .leaf)))) lim [a0, a1] H = B157 N lim a0 a1 H := by kernel_rfl
theorem sim157 (N : Nat) : SimF Tryz.prog 157 (G157 N) := by
  refine SimF.gen [] [] { promo := [], share := false } N (.seq (.region []) (.seq .lit (.seq (.region []) (.seq (.region []) .leaf)))) Tryz.func157 (by kernel_rfl) (by kernel_rfl) env_nil ?_
  intro lim args H r h
  unfold G157 w2 at h
  split at h
  · exact (eq157 N lim _ _ H).trans h
  · simp at h
/-- (besom/ask.Hand).take -/
def B89 (N : Nat) (g157 : RF2) (lim : Nat) (h0 sign1 : Value) (H : IHeap) : RV :=
 retK ((cellsOf true 2 h0).bind fun cs1 =>
 (iload false 1 cs1 0).bind fun t10 =>
 callK (g157 lim t10 sign1 H) fun t12 H1 =>
 (iextract 0 t12).bind fun t13 =>
 (iextract 1 t12).bind fun t14 =>
 joinK (boolK t14 fun b1 => bif b1 then
 ((istore false 1 cs1 0 t13).bind fun cs2 =>
 some (.norm ([] ++ [.agg ⟨cs2⟩]), H1))
 else
 some (.norm ([] ++ [.agg ⟨cs1⟩]), H1)) fun vs1 H2 =>
 (aggs (nthV 0 (vs1.drop 0))).bind fun cs3 =>
 (iload true 2 cs3 0).bind fun t18 =>
 (istore true 2 [(.int .i64 0), (.bool false)] 0 t18).bind fun cs4 =>
 (iload true 2 cs4 0).bind fun r1 =>
 some (.ret (.tuple ⟨[r1, t14]⟩), H2))
def F89 (N lim : Nat) (a0 a1 : Value) (H : IHeap) : RV := B89 N (F157 N) lim a0 a1 H
def G89 (N : Nat) : G := w2 (F89 N)
theorem eq89 (N : Nat) (g157 : RF2) (lim : Nat) (a0 a1 : Value) (H : IHeap) : ifun Tryz.prog { fn := envOf [(157, Ideal.w2 g157)], wr := [] } { promo := [2, 4], share := false } N (okOf Tryz.prog { promo := [2, 4], share := false } []) Tryz.f89 (.seq (.region []) (.seq (.region []) (.seq (.seq (.region []) (.join [] [2] [2] (.region []) .leaf)) (.seq (.region []) .leaf)))) lim [a0, a1] H = B89 N g157 lim a0 a1 H := by kernel_rfl
theorem sim89 (N : Nat) : SimF Tryz.prog 89 (G89 N) := by
  refine SimF.gen [(157, G157 N)] [] { promo := [2, 4], share := false } N (.seq (.region []) (.seq (.region []) (.seq (.seq (.region []) (.join [] [2] [2] (.region []) .leaf)) (.seq (.region []) .leaf)))) Tryz.func89 (by kernel_rfl) (by kernel_rfl) (env_cons (sim157 N) env_nil) ?_
  intro lim args H r h
  unfold G89 w2 at h
  split at h
  · exact (eq89 N (F157 N) lim _ _ H).trans h
  · simp at h
/-- (besom/ask.Hand).Reach -/
def B38 (N : Nat) (g89 : RF2) (lim : Nat) (h0 at1 : Value) (H : IHeap) : RV :=
 retK ((cellsOf true 2 h0).bind fun cs1 =>
 (iun .not at1).bind fun t7 =>
 (boolK t7 fun b1 => bif b1 then
 ((iload true 2 cs1 0).bind fun t8 =>
 (istore true 2 [(.int .i64 0), (.bool false)] 0 t8).bind fun cs2 =>
 (iload true 2 cs2 0).bind fun r1 =>
 some (.ret (.tuple ⟨[r1, (.bool false)]⟩), H))
 else
 (iload true 2 cs1 0).bind fun t9 =>
 callK (g89 lim t9 (.int .i64 1) H) fun t10 H1 =>
 (iextract 0 t10).bind fun t11 =>
 (iextract 1 t10).bind fun t12 =>
 (istore true 2 [(.int .i64 0), (.bool false)] 0 t11).bind fun cs3 =>
 (iload true 2 cs3 0).bind fun r2 =>
 some (.ret (.tuple ⟨[r2, t12]⟩), H1)))
def F38 (N lim : Nat) (a0 a1 : Value) (H : IHeap) : RV := B38 N (F89 N) lim a0 a1 H
def G38 (N : Nat) : G := w2 (F38 N)
theorem eq38 (N : Nat) (g89 : RF2) (lim : Nat) (a0 a1 : Value) (H : IHeap) : ifun Tryz.prog { fn := envOf [(89, Ideal.w2 g89)], wr := [] } { promo := [2, 4], share := false } N (okOf Tryz.prog { promo := [2, 4], share := false } []) Tryz.f38 (.seq (.region []) (.seq (.seq (.region []) (.inl (.seq (.region []) .leaf) .leaf)) (.seq (.region []) .leaf))) lim [a0, a1] H = B38 N g89 lim a0 a1 H := by kernel_rfl
theorem sim38 (N : Nat) : SimF Tryz.prog 38 (G38 N) := by
  refine SimF.gen [(89, G89 N)] [] { promo := [2, 4], share := false } N (.seq (.region []) (.seq (.seq (.region []) (.inl (.seq (.region []) .leaf) .leaf)) (.seq (.region []) .leaf))) Tryz.func38 (by kernel_rfl) (by kernel_rfl) (env_cons (sim89 N) env_nil) ?_
  intro lim args H r h
  unfold G38 w2 at h
  split at h
  · exact (eq38 N (F89 N) lim _ _ H).trans h
  · simp at h
/-- (besom/unwind.State).top -/
def B231 (N : Nat) (lim : Nat) (s0 : Value) (H : IHeap) : RV :=
 retK ((cellsOf true 2 s0).bind fun cs1 =>
 (iload false 1 cs1 0).bind fun t5 =>
 (ilenS t5).bind fun t6 =>
 (ibin .eql .no t6 (.int .i64 0)).bind fun t7 =>
 (boolK t7 fun b1 => bif b1 then
 ((istore true 3 [(.bool false), (.bool false), (.int .i64 0)] 0 (.agg ⟨[(.bool false), (.bool false), (.int .i64 0)]⟩)).bind fun cs2 =>
 (iload true 3 cs2 0).bind fun r1 =>
 some (.ret (.tuple ⟨[r1, (.bool false)]⟩), H))
 else
 (iload false 1 cs1 0).bind fun t10 =>
 (iload false 1 cs1 0).bind fun t12 =>
 (ilenS t12).bind fun t13 =>
 (ibin .sub .no t13 (.int .i64 1)).bind fun t14 =>
 (iidx 3 t10 t14).bind fun t15 =>
 (hload true 3 H t15).bind fun t16 =>
 (istore true 3 [(.bool false), (.bool false), (.int .i64 0)] 0 t16).bind fun cs3 =>
 (iload true 3 cs3 0).bind fun r2 =>
 some (.ret (.tuple ⟨[r2, (.bool true)]⟩), H)))
def F231 (N lim : Nat) (a0 : Value) (H : IHeap) : RV := B231 N lim a0 H
def G231 (N : Nat) : G := w1 (F231 N)
theorem eq231 (N : Nat) (lim : Nat) (a0 : Value) (H : IHeap) : ifun Tryz.prog { fn := envOf [], wr := [] } { promo := [1, 2], share := false } N (okOf Tryz.prog { promo := [1, 2], share := false } []) Tryz.f231 (.seq (.region []) (.seq (.seq (.region []) (.inl (.seq (.region []) .leaf) .leaf)) (.seq (.region []) .leaf))) lim [a0] H = B231 N lim a0 H := by kernel_rfl
theorem sim231 (N : Nat) : SimF Tryz.prog 231 (G231 N) := by
  refine SimF.gen [] [] { promo := [1, 2], share := false } N (.seq (.region []) (.seq (.seq (.region []) (.inl (.seq (.region []) .leaf) .leaf)) (.seq (.region []) .leaf))) Tryz.func231 (by kernel_rfl) (by kernel_rfl) env_nil ?_
  intro lim args H r h
  unfold G231 w1 at h
  split at h
  · exact (eq231 N lim _ H).trans h
  · simp at h
/-- (besom/unwind.State).last -/
def B232 (N : Nat) (lim : Nat) (s0 : Value) (H : IHeap) : RV :=
 retK ((cellsOf true 2 s0).bind fun cs1 =>
 (iload false 1 cs1 1).bind fun t5 =>
 (ilenS t5).bind fun t6 =>
 (ibin .eql .no t6 (.int .i64 0)).bind fun t7 =>
 (boolK t7 fun b1 => bif b1 then
 ((istore true 5 [(.int .i64 0), (.int .i64 0), (.int .i64 0), (.bool false), (.bool false)] 0 (.agg ⟨[(.int .i64 0), (.int .i64 0), (.int .i64 0), (.bool false), (.bool false)]⟩)).bind fun cs2 =>
 (iload true 5 cs2 0).bind fun r1 =>
 some (.ret (.tuple ⟨[r1, (.bool false)]⟩), H))
 else
 (iload false 1 cs1 1).bind fun t10 =>
 (iload false 1 cs1 1).bind fun t12 =>
 (ilenS t12).bind fun t13 =>
 (ibin .sub .no t13 (.int .i64 1)).bind fun t14 =>
 (iidx 5 t10 t14).bind fun t15 =>
 (hload true 5 H t15).bind fun t16 =>
 (istore true 5 [(.int .i64 0), (.int .i64 0), (.int .i64 0), (.bool false), (.bool false)] 0 t16).bind fun cs3 =>
 (iload true 5 cs3 0).bind fun r2 =>
 some (.ret (.tuple ⟨[r2, (.bool true)]⟩), H)))
def F232 (N lim : Nat) (a0 : Value) (H : IHeap) : RV := B232 N lim a0 H
def G232 (N : Nat) : G := w1 (F232 N)
theorem eq232 (N : Nat) (lim : Nat) (a0 : Value) (H : IHeap) : ifun Tryz.prog { fn := envOf [], wr := [] } { promo := [1, 2], share := false } N (okOf Tryz.prog { promo := [1, 2], share := false } []) Tryz.f232 (.seq (.region []) (.seq (.seq (.region []) (.inl (.seq (.region []) .leaf) .leaf)) (.seq (.region []) .leaf))) lim [a0] H = B232 N lim a0 H := by kernel_rfl
theorem sim232 (N : Nat) : SimF Tryz.prog 232 (G232 N) := by
  refine SimF.gen [] [] { promo := [1, 2], share := false } N (.seq (.region []) (.seq (.seq (.region []) (.inl (.seq (.region []) .leaf) .leaf)) (.seq (.region []) .leaf))) Tryz.func232 (by kernel_rfl) (by kernel_rfl) env_nil ?_
  intro lim args H r h
  unfold G232 w1 at h
  split at h
  · exact (eq232 N lim _ H).trans h
  · simp at h
/-- (besom/unwind.State).unwinds -/
def B233 (N : Nat) (g232 : RF1) (lim : Nat) (s0 : Value) (H : IHeap) : RV :=
 retK ((cellsOf true 2 s0).bind fun cs1 =>
 (iload true 2 cs1 0).bind fun t6 =>
 callK (g232 lim t6 H) fun t7 H1 =>
 (iextract 0 t7).bind fun t8 =>
 (iextract 1 t7).bind fun t9 =>
 (istore true 5 [(.int .i64 0), (.int .i64 0), (.int .i64 0), (.bool false), (.bool false)] 0 t8).bind fun cs2 =>
 (gval true t9).bind fun w1 => grpK (bif w1 then
 ((iload false 1 cs2 2).bind fun t13 =>
 (ibin .eql .no t13 (.int .i64 0)).bind fun t14 =>
 some ([t14], H1))
 else some ([Value.tuple #[]], H1)) fun vs1 H2 =>
 (pickK t9 (nthV 0 vs1) (.bool false)).bind fun t15 =>
 some (.ret t15, H2))
def F233 (N lim : Nat) (a0 : Value) (H : IHeap) : RV := B233 N (F232 N) lim a0 H
def G233 (N : Nat) : G := w1 (F233 N)
theorem eq233 (N : Nat) (g232 : RF1) (lim : Nat) (a0 : Value) (H : IHeap) : ifun Tryz.prog { fn := envOf [(232, Ideal.w1 g232)], wr := [] } { promo := [1, 3], share := false } N (okOf Tryz.prog { promo := [1, 3], share := false } []) Tryz.f233 (.seq (.region []) (.seq (.region []) (.seq (.region [[14]]) .leaf))) lim [a0] H = B233 N g232 lim a0 H := by kernel_rfl
theorem sim233 (N : Nat) : SimF Tryz.prog 233 (G233 N) := by
  refine SimF.gen [(232, G232 N)] [] { promo := [1, 3], share := false } N (.seq (.region []) (.seq (.region []) (.seq (.region [[14]]) .leaf))) Tryz.func233 (by kernel_rfl) (by kernel_rfl) (env_cons (sim232 N) env_nil) ?_
  intro lim args H r h
  unfold G233 w1 at h
  split at h
  · exact (eq233 N (F232 N) lim _ H).trans h
  · simp at h
/-- (besom/unwind.State).Next -/
def B159 (N : Nat) (g231 : RF1) (g232 : RF1) (g233 : RF1) (lim : Nat) (s0 : Value) (H : IHeap) : RV :=
 retK ((cellsOf true 2 s0).bind fun cs1 =>
 (iload true 2 cs1 0).bind fun t8 =>
 callK (g231 lim t8 H) fun t9 H1 =>
 (iextract 0 t9).bind fun t10 =>
 (iextract 1 t9).bind fun t11 =>
 (istore true 3 [(.bool false), (.bool false), (.int .i64 0)] 0 t10).bind fun cs2 =>
 (iun .not t11).bind fun t13 =>
 (boolK t13 fun b1 => bif b1 then
 ((iload true 2 cs1 0).bind fun t15 =>
 callK (g232 lim t15 H1) fun t16 H2 =>
 (iextract 0 t16).bind fun t17 =>
 (iextract 1 t16).bind fun t18 =>
 (istore true 5 [(.int .i64 0), (.int .i64 0), (.int .i64 0), (.bool false), (.bool false)] 0 t17).bind fun cs3 =>
 (gval true t18).bind fun w1 => grpK (bif w1 then
 ((iload false 1 cs3 3).bind fun t22 =>
 (iun .not t22).bind fun t23 =>
 some ([t23], H2))
 else some ([Value.tuple #[]], H2)) fun vs1 H3 =>
 (pickK t18 (nthV 0 vs1) (.bool false)).bind fun t24 =>
 (boolK t24 fun b3 => bif b3 then
 (some (.ret (.int .i64 4), H3))
 else
 some (.ret (.int .i64 3), H3)))
 else
 catchK 0 ((iload true 2 cs1 0).bind fun t26 =>
 callK (g233 lim t26 H1) fun t27 H4 =>
 (iun .not t27).bind fun t28 =>
 (gval true t28).bind fun w2 => grpK (bif w2 then
 ((iload false 1 cs2 0).bind fun t31 =>
 (iun .not t31).bind fun t32 =>
 some ([t32], H4))
 else some ([Value.tuple #[]], H4)) fun vs2 H5 =>
 (pickK t28 (nthV 0 vs2) (.bool false)).bind fun t33 =>
 (boolK t33 fun b5 => bif b5 then
 (some (.ret (.int .i64 0), H5))
 else
 (iload false 1 cs2 2).bind fun t36 =>
 (ibin .gtr .no t36 (.int .i64 0)).bind fun t37 =>
 (boolK t37 fun b6 => bif b6 then
 (some (.ret (.int .i64 1), H5))
 else
 some (.norm ([] ++ []), H5)))) fun vs3 H6 =>
 some (.ret (.int .i64 2), H6)))
def F159 (N lim : Nat) (a0 : Value) (H : IHeap) : RV := B159 N (F231 N) (F232 N) (F233 N) lim a0 H
def G159 (N : Nat) : G := w1 (F159 N)
theorem eq159 (N : Nat) (g231 : RF1) (g232 : RF1) (g233 : RF1) (lim : Nat) (a0 : Value) (H : IHeap) : ifun Tryz.prog { fn := envOf [(231, Ideal.w1 g231), (232, Ideal.w1 g232), (233, Ideal.w1 g233)], wr := [] } { promo := [1, 3, 5], share := false } N (okOf Tryz.prog { promo := [1, 3, 5], share := false } []) Tryz.f159 (.seq (.region []) (.seq (.region []) (.seq (.seq (.region []) (.inl (.seq (.seq (.region []) (.seq (.region [[23]]) (.inl (.seq (.region []) .leaf) .leaf))) (.seq (.region []) .leaf)) .leaf)) (.seq (.block [] [] [] (.seq (.region [[32]]) (.inl (.seq (.region []) .leaf) (.seq (.region []) (.inl (.seq (.region []) .leaf) .leaf))))) (.seq (.region []) .leaf))))) lim [a0] H = B159 N g231 g232 g233 lim a0 H := by kernel_rfl
theorem sim159 (N : Nat) : SimF Tryz.prog 159 (G159 N) := by
  refine SimF.gen [(231, G231 N), (232, G232 N), (233, G233 N)] [] { promo := [1, 3, 5], share := false } N (.seq (.region []) (.seq (.region []) (.seq (.seq (.region []) (.inl (.seq (.seq (.region []) (.seq (.region [[23]]) (.inl (.seq (.region []) .leaf) .leaf))) (.seq (.region []) .leaf)) .leaf)) (.seq (.block [] [] [] (.seq (.region [[32]]) (.inl (.seq (.region []) .leaf) (.seq (.region []) (.inl (.seq (.region []) .leaf) .leaf))))) (.seq (.region []) .leaf))))) Tryz.func159 (by kernel_rfl) (by kernel_rfl) (env_cons (sim231 N) (env_cons (sim232 N) (env_cons (sim233 N) env_nil))) ?_
  intro lim args H r h
  unfold G159 w1 at h
  split at h
  · exact (eq159 N (F231 N) (F232 N) (F233 N) lim _ H).trans h
  · simp at h
/-- (*besom/task.Task).Next -/
def B92 (N : Nat) (g159 : RF1) (lim : Nat) (t0 : Value) (H : IHeap) : RV :=
 retK ((ibin .eql .ptr t0 (.pointer none)).bind fun t4 =>
 (boolK t4 fun b1 => bif b1 then
 (some (.ret (.int .i64 0), H))
 else
 (inilc t0).bind fun t6 =>
 (paddr 5 t6).bind fun t7 =>
 (hload true 2 H t7).bind fun t8 =>
 callK (g159 lim t8 H) fun t9 H1 =>
 some (.ret t9, H1)))
def F92 (N lim : Nat) (a0 : Value) (H : IHeap) : RV := B92 N (F159 N) lim a0 H
def G92 (N : Nat) : G := w1 (F92 N)
theorem eq92 (N : Nat) (g159 : RF1) (lim : Nat) (a0 : Value) (H : IHeap) : ifun Tryz.prog { fn := envOf [(159, Ideal.w1 g159)], wr := [] } { promo := [], share := false } N (okOf Tryz.prog { promo := [], share := false } []) Tryz.f92 (.seq (.region []) (.seq (.seq (.region []) (.inl (.seq (.region []) .leaf) .leaf)) (.seq (.region []) .leaf))) lim [a0] H = B92 N g159 lim a0 H := by kernel_rfl
theorem sim92 (N : Nat) : SimF Tryz.prog 92 (G92 N) := by
  refine SimF.gen [(159, G159 N)] [] { promo := [], share := false } N (.seq (.region []) (.seq (.seq (.region []) (.inl (.seq (.region []) .leaf) .leaf)) (.seq (.region []) .leaf))) Tryz.func92 (by kernel_rfl) (by kernel_rfl) (env_cons (sim159 N) env_nil) ?_
  intro lim args H r h
  unfold G92 w1 at h
  split at h
  · exact (eq92 N (F159 N) lim _ H).trans h
  · simp at h
/-- (*besom/task.Task).Depth -/
def B158 (N : Nat) (lim : Nat) (t0 : Value) (H : IHeap) : RV :=
 retK ((ibin .eql .ptr t0 (.pointer none)).bind fun t4 =>
 (boolK t4 fun b1 => bif b1 then
 (some (.ret (.int .i64 0), H))
 else
 (inilc t0).bind fun t6 =>
 (paddr 4 t6).bind fun t7 =>
 (hload false 1 H t7).bind fun t8 =>
 (ilenS t8).bind fun t9 =>
 some (.ret t9, H)))
def F158 (N lim : Nat) (a0 : Value) (H : IHeap) : RV := B158 N lim a0 H
def G158 (N : Nat) : G := w1 (F158 N)
theorem eq158 (N : Nat) (lim : Nat) (a0 : Value) (H : IHeap) : ifun Tryz.prog { fn := envOf [], wr := [] } { promo := [], share := false } N (okOf Tryz.prog { promo := [], share := false } []) Tryz.f158 (.seq (.region []) (.seq (.seq (.region []) (.inl (.seq (.region []) .leaf) .leaf)) (.seq (.region []) .leaf))) lim [a0] H = B158 N lim a0 H := by kernel_rfl
theorem sim158 (N : Nat) : SimF Tryz.prog 158 (G158 N) := by
  refine SimF.gen [] [] { promo := [], share := false } N (.seq (.region []) (.seq (.seq (.region []) (.inl (.seq (.region []) .leaf) .leaf)) (.seq (.region []) .leaf))) Tryz.func158 (by kernel_rfl) (by kernel_rfl) env_nil ?_
  intro lim args H r h
  unfold G158 w1 at h
  split at h
  · exact (eq158 N lim _ H).trans h
  · simp at h
/-- (*besom/task.Task).top -/
def B167 (N : Nat) (g158 : RF1) (lim : Nat) (t0 : Value) (H : IHeap) : RV :=
 retK (callK (g158 lim t0 H) fun t4 H1 =>
 (ibin .eql .no t4 (.int .i64 0)).bind fun t5 =>
 (boolK t5 fun b1 => bif b1 then
 (some (.ret (.pointer none), H1))
 else
 (inilc t0).bind fun t7 =>
 (paddr 4 t7).bind fun t8 =>
 (hload false 1 H1 t8).bind fun t9 =>
 (inilc t0).bind fun t11 =>
 (paddr 4 t11).bind fun t12 =>
 (hload false 1 H1 t12).bind fun t13 =>
 (ilenS t13).bind fun t14 =>
 (ibin .sub .no t14 (.int .i64 1)).bind fun t15 =>
 (iidx 5 t9 t15).bind fun t16 =>
 some (.ret t16, H1)))
def F167 (N lim : Nat) (a0 : Value) (H : IHeap) : RV := B167 N (F158 N) lim a0 H
def G167 (N : Nat) : G := w1 (F167 N)
theorem eq167 (N : Nat) (g158 : RF1) (lim : Nat) (a0 : Value) (H : IHeap) : ifun Tryz.prog { fn := envOf [(158, Ideal.w1 g158)], wr := [] } { promo := [], share := false } N (okOf Tryz.prog { promo := [], share := false } []) Tryz.f167 (.seq (.region []) (.seq (.seq (.region []) (.inl (.seq (.region []) .leaf) .leaf)) (.seq (.region []) .leaf))) lim [a0] H = B167 N g158 lim a0 H := by kernel_rfl
theorem sim167 (N : Nat) : SimF Tryz.prog 167 (G167 N) := by
  refine SimF.gen [(158, G158 N)] [] { promo := [], share := false } N (.seq (.region []) (.seq (.seq (.region []) (.inl (.seq (.region []) .leaf) .leaf)) (.seq (.region []) .leaf))) Tryz.func167 (by kernel_rfl) (by kernel_rfl) (env_cons (sim158 N) env_nil) ?_
  intro lim args H r h
  unfold G167 w1 at h
  split at h
  · exact (eq167 N (F158 N) lim _ H).trans h
  · simp at h
/-- (*besom/task.Task).Fn -/
def B95 (N : Nat) (g167 : RF1) (lim : Nat) (t0 : Value) (H : IHeap) : RV :=
 retK (callK (g167 lim t0 H) fun t5 H1 =>
 (ibin .neq .ptr t5 (.pointer none)).bind fun t7 =>
 (boolK t7 fun b1 => bif b1 then
 ((inilc t5).bind fun t9 =>
 (paddr 0 t9).bind fun t10 =>
 (hload false 1 H1 t10).bind fun t11 =>
 some (.ret t11, H1))
 else
 some (.ret (.int .i64 0), H1)))
def F95 (N lim : Nat) (a0 : Value) (H : IHeap) : RV := B95 N (F167 N) lim a0 H
def G95 (N : Nat) : G := w1 (F95 N)
theorem eq95 (N : Nat) (g167 : RF1) (lim : Nat) (a0 : Value) (H : IHeap) : ifun Tryz.prog { fn := envOf [(167, Ideal.w1 g167)], wr := [] } { promo := [], share := false } N (okOf Tryz.prog { promo := [], share := false } []) Tryz.f95 (.seq (.region []) (.seq (.seq (.region []) (.seq (.region []) (.inl (.seq (.region []) .leaf) .leaf))) (.seq (.region []) .leaf))) lim [a0] H = B95 N g167 lim a0 H := by kernel_rfl
theorem sim95 (N : Nat) : SimF Tryz.prog 95 (G95 N) := by
  refine SimF.gen [(167, G167 N)] [] { promo := [], share := false } N (.seq (.region []) (.seq (.seq (.region []) (.seq (.region []) (.inl (.seq (.region []) .leaf) .leaf))) (.seq (.region []) .leaf))) Tryz.func95 (by kernel_rfl) (by kernel_rfl) (env_cons (sim167 N) env_nil) ?_
  intro lim args H r h
  unfold G95 w1 at h
  split at h
  · exact (eq95 N (F167 N) lim _ H).trans h
  · simp at h
/-- (*besom/task.Task).Pc -/
def B96 (N : Nat) (g167 : RF1) (lim : Nat) (t0 : Value) (H : IHeap) : RV :=
 retK (callK (g167 lim t0 H) fun t5 H1 =>
 (ibin .neq .ptr t5 (.pointer none)).bind fun t7 =>
 (boolK t7 fun b1 => bif b1 then
 ((inilc t5).bind fun t9 =>
 (paddr 1 t9).bind fun t10 =>
 (hload false 1 H1 t10).bind fun t11 =>
 some (.ret t11, H1))
 else
 some (.ret (.int .i64 0), H1)))
def F96 (N lim : Nat) (a0 : Value) (H : IHeap) : RV := B96 N (F167 N) lim a0 H
def G96 (N : Nat) : G := w1 (F96 N)
theorem eq96 (N : Nat) (g167 : RF1) (lim : Nat) (a0 : Value) (H : IHeap) : ifun Tryz.prog { fn := envOf [(167, Ideal.w1 g167)], wr := [] } { promo := [], share := false } N (okOf Tryz.prog { promo := [], share := false } []) Tryz.f96 (.seq (.region []) (.seq (.seq (.region []) (.seq (.region []) (.inl (.seq (.region []) .leaf) .leaf))) (.seq (.region []) .leaf))) lim [a0] H = B96 N g167 lim a0 H := by kernel_rfl
theorem sim96 (N : Nat) : SimF Tryz.prog 96 (G96 N) := by
  refine SimF.gen [(167, G167 N)] [] { promo := [], share := false } N (.seq (.region []) (.seq (.seq (.region []) (.seq (.region []) (.inl (.seq (.region []) .leaf) .leaf))) (.seq (.region []) .leaf))) Tryz.func96 (by kernel_rfl) (by kernel_rfl) (env_cons (sim167 N) env_nil) ?_
  intro lim args H r h
  unfold G96 w1 at h
  split at h
  · exact (eq96 N (F167 N) lim _ H).trans h
  · simp at h
/-- besom/mutator.At -/
def B90 (N : Nat) (g92 : RF1) (g95 : RF1) (g96 : RF1) (g158 : RF1) (lim : Nat) (p0 t1 : Value) (H : IHeap) : RV :=
 retK ((cellsOf true 3 p0).bind fun cs1 =>
 callK (g158 lim t1 H) fun t7 H1 =>
 (ibin .eql .no t7 (.int .i64 0)).bind fun t8 =>
 (gval false t8).bind fun w1 => grpK (bif w1 then
 (callK (g92 lim t1 H1) fun t11 H3 =>
 (ibin .neq .no t11 (.int .i64 0)).bind fun t12 =>
 some ([t12], H3))
 else some ([Value.tuple #[]], H1)) fun vs1 H2 =>
 (pickK t8 (.bool true) (nthV 0 vs1)).bind fun t13 =>
 (boolK t13 fun b2 => bif b2 then
 ((istore true 4 [(.int .i64 0), (.int .i64 0), (.int .i64 0), (.int .i64 0)] 0 (.agg ⟨[(.int .i64 0), (.int .i64 0), (.int .i64 0), (.int .i64 0)]⟩)).bind fun cs2 =>
 (iload true 4 cs2 0).bind fun r1 =>
 some (.ret (.tuple ⟨[r1, (.bool false)]⟩), H2))
 else
 (iload false 1 cs1 2).bind fun t16 =>
 callK (g95 lim t1 H2) fun t18 H4 =>
 (iidx 5 t16 t18).bind fun t19 =>
 (paddr 4 t19).bind fun t20 =>
 (hload false 1 H4 t20).bind fun t21 =>
 callK (g96 H4.next t1 H4) fun t23 H5 =>
 (iidx 4 t21 t23).bind fun t24 =>
 (hload true 4 H5 t24).bind fun t25 =>
 (istore true 4 [(.int .i64 0), (.int .i64 0), (.int .i64 0), (.int .i64 0)] 0 t25).bind fun cs3 =>
 (iload true 4 cs3 0).bind fun r2 =>
 some (.ret (.tuple ⟨[r2, (.bool true)]⟩), H5)))
def F90 (N lim : Nat) (a0 a1 : Value) (H : IHeap) : RV := B90 N (F92 N) (F95 N) (F96 N) (F158 N) lim a0 a1 H
def G90 (N : Nat) : G := w2 (F90 N)
theorem eq90 (N : Nat) (g92 : RF1) (g95 : RF1) (g96 : RF1) (g158 : RF1) (lim : Nat) (a0 a1 : Value) (H : IHeap) : ifun Tryz.prog { fn := envOf [(92, Ideal.w1 g92), (95, Ideal.w1 g95), (96, Ideal.w1 g96), (158, Ideal.w1 g158)], wr := [95] } { promo := [2, 4], share := false } N (okOf Tryz.prog { promo := [2, 4], share := false } [95]) Tryz.f90 (.seq (.region []) (.seq (.seq (.region [[12]]) (.inl (.seq (.region []) .leaf) .leaf)) (.seq (.region []) .leaf))) lim [a0, a1] H = B90 N g92 g95 g96 g158 lim a0 a1 H := by kernel_rfl
theorem sim90 (N : Nat) : SimF Tryz.prog 90 (G90 N) := by
  refine SimF.gen [(92, G92 N), (95, G95 N), (96, G96 N), (158, G158 N)] [95] { promo := [2, 4], share := false } N (.seq (.region []) (.seq (.seq (.region [[12]]) (.inl (.seq (.region []) .leaf) .leaf)) (.seq (.region []) .leaf))) Tryz.func90 (by kernel_rfl) (by kernel_rfl) (env_cons (sim92 N) (env_cons (sim95 N) (env_cons (sim96 N) (env_cons (sim158 N) env_nil)))) ?_
  intro lim args H r h
  unfold G90 w2 at h
  split at h
  · exact (eq90 N (F92 N) (F95 N) (F96 N) (F158 N) lim _ _ H).trans h
  · simp at h
/-- besom/instr.Safe -/
def B91 (N : Nat) (lim : Nat) (op0 : Value) (H : IHeap) : RV :=
 retK (catchK 0 ((ibin .eql .no op0 (.int .i64 13)).bind fun t5 =>
 joinK (boolK t5 fun b1 => bif b1 then
 (some (.norm ([t5] ++ []), H))
 else
 (ibin .eql .no op0 (.int .i64 21)).bind fun t6 =>
 joinK (boolK t6 fun b2 => bif b2 then
 (some (.norm ([t6] ++ []), H))
 else
 (ibin .eql .no op0 (.int .i64 9)).bind fun t7 =>
 joinK (boolK t7 fun b3 => bif b3 then
 (some (.norm ([t7] ++ []), H))
 else
 (ibin .eql .no op0 (.int .i64 10)).bind fun t8 =>
 joinK (boolK t8 fun b4 => bif b4 then
 (some (.norm ([t8] ++ []), H))
 else
 (ibin .eql .no op0 (.int .i64 28)).bind fun t9 =>
 joinK (boolK t9 fun b5 => bif b5 then
 (some (.norm ([t9] ++ []), H))
 else
 (ibin .eql .no op0 (.int .i64 22)).bind fun t10 =>
 some (.norm ([t10] ++ []), H)) fun vs1 H1 =>
 some (.norm ([(nthV 0 vs1)] ++ []), H1)) fun vs2 H2 =>
 some (.norm ([(nthV 0 vs2)] ++ []), H2)) fun vs3 H3 =>
 some (.norm ([(nthV 0 vs3)] ++ []), H3)) fun vs4 H4 =>
 some (.norm ([(nthV 0 vs4)] ++ []), H4)) fun vs5 H5 =>
 (boolK (nthV 0 vs5) fun b6 => bif b6 then
 (some (.ret (.bool true), H5))
 else
 some (.norm ([] ++ []), H5))) fun vs6 H6 =>
 some (.ret (.bool false), H6))
def F91 (N lim : Nat) (a0 : Value) (H : IHeap) : RV := B91 N lim a0 H
def G91 (N : Nat) : G := w1 (F91 N)
theorem eq91 (N : Nat) (lim : Nat) (a0 : Value) (H : IHeap) : ifun Tryz.prog { fn := envOf [], wr := [] } { promo := [], share := false } N (okOf Tryz.prog { promo := [], share := false } []) Tryz.f91 (.seq (.region []) (.seq (.seq (.region []) (.block [] [] [] (.seq (.seq (.region []) (.join [4] [] [] .leaf (.seq (.region []) (.join [4] [] [] .leaf (.seq (.region []) (.join [4] [] [] .leaf (.seq (.region []) (.join [4] [] [] .leaf (.seq (.region []) (.join [4] [] [] .leaf (.region []))))))))))) (.inl (.seq (.region []) .leaf) .leaf)))) (.seq (.region []) .leaf))) lim [a0] H = B91 N lim a0 H := by kernel_rfl
theorem sim91 (N : Nat) : SimF Tryz.prog 91 (G91 N) := by
  refine SimF.gen [] [] { promo := [], share := false } N (.seq (.region []) (.seq (.seq (.region []) (.block [] [] [] (.seq (.seq (.region []) (.join [4] [] [] .leaf (.seq (.region []) (.join [4] [] [] .leaf (.seq (.region []) (.join [4] [] [] .leaf (.seq (.region []) (.join [4] [] [] .leaf (.seq (.region []) (.join [4] [] [] .leaf (.region []))))))))))) (.inl (.seq (.region []) .leaf) .leaf)))) (.seq (.region []) .leaf))) Tryz.func91 (by kernel_rfl) (by kernel_rfl) env_nil ?_
  intro lim args H r h
  unfold G91 w1 at h
  split at h
  · exact (eq91 N lim _ H).trans h
  · simp at h
/-- besom/mutator.Safe -/
def B39 (N : Nat) (g90 : RF2) (g91 : RF1) (lim : Nat) (p0 t1 : Value) (H : IHeap) : RV :=
 retK ((cellsOf true 3 p0).bind fun cs1 =>
 (iload true 3 cs1 0).bind fun t8 =>
 callK (g90 lim t8 t1 H) fun t10 H1 =>
 (iextract 0 t10).bind fun t11 =>
 (iextract 1 t10).bind fun t12 =>
 (istore true 4 [(.int .i64 0), (.int .i64 0), (.int .i64 0), (.int .i64 0)] 0 t11).bind fun cs2 =>
 (iun .not t12).bind fun t14 =>
 (gval false t14).bind fun w1 => grpK (bif w1 then
 ((iload false 1 cs2 0).bind fun t17 =>
 callK (g91 lim t17 H1) fun t18 H3 =>
 some ([t18], H3))
 else some ([Value.tuple #[]], H1)) fun vs1 H2 =>
 (pickK t14 (.bool true) (nthV 0 vs1)).bind fun t19 =>
 some (.ret t19, H2))
def F39 (N lim : Nat) (a0 a1 : Value) (H : IHeap) : RV := B39 N (F90 N) (F91 N) lim a0 a1 H
def G39 (N : Nat) : G := w2 (F39 N)
theorem eq39 (N : Nat) (g90 : RF2) (g91 : RF1) (lim : Nat) (a0 a1 : Value) (H : IHeap) : ifun Tryz.prog { fn := envOf [(90, Ideal.w2 g90), (91, Ideal.w1 g91)], wr := [] } { promo := [2, 5], share := false } N (okOf Tryz.prog { promo := [2, 5], share := false } []) Tryz.f39 (.seq (.region []) (.seq (.region []) (.seq (.region [[18]]) .leaf))) lim [a0, a1] H = B39 N g90 g91 lim a0 a1 H := by kernel_rfl
theorem sim39 (N : Nat) : SimF Tryz.prog 39 (G39 N) := by
  refine SimF.gen [(90, G90 N), (91, G91 N)] [] { promo := [2, 5], share := false } N (.seq (.region []) (.seq (.region []) (.seq (.region [[18]]) .leaf))) Tryz.func39 (by kernel_rfl) (by kernel_rfl) (env_cons (sim90 N) (env_cons (sim91 N) env_nil)) ?_
  intro lim args H r h
  unfold G39 w2 at h
  split at h
  · exact (eq39 N (F90 N) (F91 N) lim _ _ H).trans h
  · simp at h
/-- slices.Clone[[]int,int] -/
def B22 (N : Nat) (lim : Nat) (s0 : Value) (H : IHeap) : RV :=
 retK ((ibin .eql .slice s0 (.slice none 0 0)).bind fun t4 =>
 (boolK t4 fun b1 => bif b1 then
 (some (.ret (.slice none 0 0), H))
 else
 rowK (hrow 1 (H.push (.cells [] 0)) s0) fun m1 new1 =>
 callK (iappend false 1 8 lim (H.push (.cells [] 0)) (slc 1 H.next 0 0 1) m1 new1) fun t7 H1 =>
 some (.ret t7, H1)))
def F22 (N lim : Nat) (a0 : Value) (H : IHeap) : RV := B22 N lim a0 H
def G22 (N : Nat) : G := w1 (F22 N)
theorem eq22 (N : Nat) (lim : Nat) (a0 : Value) (H : IHeap) : ifun Tryz.prog { fn := envOf [], wr := [] } { promo := [], share := false } N (okOf Tryz.prog { promo := [], share := false } []) Tryz.f22 (.seq (.region []) (.seq (.seq (.region []) (.inl (.seq (.region []) .leaf) .leaf)) (.seq (.region []) .leaf))) lim [a0] H = B22 N lim a0 H := by kernel_rfl
theorem sim22 (N : Nat) : SimF Tryz.prog 22 (G22 N) := by
  refine SimF.gen [] [] { promo := [], share := false } N (.seq (.region []) (.seq (.seq (.region []) (.inl (.seq (.region []) .leaf) .leaf)) (.seq (.region []) .leaf))) Tryz.func22 (by kernel_rfl) (by kernel_rfl) env_nil ?_
  intro lim args H r h
  unfold G22 w1 at h
  split at h
  · exact (eq22 N lim _ H).trans h
  · simp at h
/-- (*besom/stack.Stack).Words -/
def B100 (N : Nat) (lim : Nat) (s0 : Value) (H : IHeap) : RV :=
 retK ((ibin .eql .ptr s0 (.pointer none)).bind fun t4 =>
 (boolK t4 fun b1 => bif b1 then
 (some (.ret (.int .i64 0), H))
 else
 (inilc s0).bind fun t6 =>
 (paddr 1 t6).bind fun t7 =>
 (hload false 1 H t7).bind fun t8 =>
 (ilenS t8).bind fun t9 =>
 some (.ret t9, H)))
def F100 (N lim : Nat) (a0 : Value) (H : IHeap) : RV := B100 N lim a0 H
def G100 (N : Nat) : G := w1 (F100 N)
theorem eq100 (N : Nat) (lim : Nat) (a0 : Value) (H : IHeap) : ifun Tryz.prog { fn := envOf [], wr := [] } { promo := [], share := false } N (okOf Tryz.prog { promo := [], share := false } []) Tryz.f100 (.seq (.region []) (.seq (.seq (.region []) (.inl (.seq (.region []) .leaf) .leaf)) (.seq (.region []) .leaf))) lim [a0] H = B100 N lim a0 H := by kernel_rfl
theorem sim100 (N : Nat) : SimF Tryz.prog 100 (G100 N) := by
  refine SimF.gen [] [] { promo := [], share := false } N (.seq (.region []) (.seq (.seq (.region []) (.inl (.seq (.region []) .leaf) .leaf)) (.seq (.region []) .leaf))) Tryz.func100 (by kernel_rfl) (by kernel_rfl) env_nil ?_
  intro lim args H r h
  unfold G100 w1 at h
  split at h
  · exact (eq100 N lim _ H).trans h
  · simp at h
/-- (*besom/task.Task).Cap -/
def B44 (N : Nat) (g100 : RF1) (lim : Nat) (t0 : Value) (H : IHeap) : RV :=
 retK ((ibin .eql .ptr t0 (.pointer none)).bind fun t4 =>
 (boolK t4 fun b1 => bif b1 then
 (some (.ret (.int .i64 0), H))
 else
 (inilc t0).bind fun t6 =>
 (paddr 3 t6).bind fun t7 =>
 (hload false 1 H t7).bind fun t8 =>
 callK (g100 lim t8 H) fun t9 H1 =>
 some (.ret t9, H1)))
def F44 (N lim : Nat) (a0 : Value) (H : IHeap) : RV := B44 N (F100 N) lim a0 H
def G44 (N : Nat) : G := w1 (F44 N)
theorem eq44 (N : Nat) (g100 : RF1) (lim : Nat) (a0 : Value) (H : IHeap) : ifun Tryz.prog { fn := envOf [(100, Ideal.w1 g100)], wr := [] } { promo := [], share := false } N (okOf Tryz.prog { promo := [], share := false } []) Tryz.f44 (.seq (.region []) (.seq (.seq (.region []) (.inl (.seq (.region []) .leaf) .leaf)) (.seq (.region []) .leaf))) lim [a0] H = B44 N g100 lim a0 H := by kernel_rfl
theorem sim44 (N : Nat) : SimF Tryz.prog 44 (G44 N) := by
  refine SimF.gen [(100, G100 N)] [] { promo := [], share := false } N (.seq (.region []) (.seq (.seq (.region []) (.inl (.seq (.region []) .leaf) .leaf)) (.seq (.region []) .leaf))) Tryz.func44 (by kernel_rfl) (by kernel_rfl) (env_cons (sim100 N) env_nil) ?_
  intro lim args H r h
  unfold G44 w1 at h
  split at h
  · exact (eq44 N (F100 N) lim _ H).trans h
  · simp at h
/-- (*besom/stack.Stack).Base -/
def B139 (N : Nat) (lim : Nat) (s0 : Value) (H : IHeap) : RV :=
 retK ((ibin .eql .ptr s0 (.pointer none)).bind fun t4 =>
 (boolK t4 fun b1 => bif b1 then
 (some (.ret (.int .i64 0), H))
 else
 (inilc s0).bind fun t6 =>
 (paddr 0 t6).bind fun t7 =>
 (hload false 1 H t7).bind fun t8 =>
 some (.ret t8, H)))
def F139 (N lim : Nat) (a0 : Value) (H : IHeap) : RV := B139 N lim a0 H
def G139 (N : Nat) : G := w1 (F139 N)
theorem eq139 (N : Nat) (lim : Nat) (a0 : Value) (H : IHeap) : ifun Tryz.prog { fn := envOf [], wr := [] } { promo := [], share := false } N (okOf Tryz.prog { promo := [], share := false } []) Tryz.f139 (.seq (.region []) (.seq (.seq (.region []) (.inl (.seq (.region []) .leaf) .leaf)) (.seq (.region []) .leaf))) lim [a0] H = B139 N lim a0 H := by kernel_rfl
theorem sim139 (N : Nat) : SimF Tryz.prog 139 (G139 N) := by
  refine SimF.gen [] [] { promo := [], share := false } N (.seq (.region []) (.seq (.seq (.region []) (.inl (.seq (.region []) .leaf) .leaf)) (.seq (.region []) .leaf))) Tryz.func139 (by kernel_rfl) (by kernel_rfl) env_nil ?_
  intro lim args H r h
  unfold G139 w1 at h
  split at h
  · exact (eq139 N lim _ H).trans h
  · simp at h
/-- slices.Clone[[]besom/api.Alarm,besom/api.Alarm] -/
def B140 (N : Nat) (lim : Nat) (s0 : Value) (H : IHeap) : RV :=
 retK ((ibin .eql .slice s0 (.slice none 0 0)).bind fun t4 =>
 (boolK t4 fun b1 => bif b1 then
 (some (.ret (.slice none 0 0), H))
 else
 rowK (hrow 5 (H.push (.cells [] 0)) s0) fun m1 new1 =>
 callK (iappend false 5 32 lim (H.push (.cells [] 0)) (slc 5 H.next 0 0 1) m1 new1) fun t7 H1 =>
 some (.ret t7, H1)))
def F140 (N lim : Nat) (a0 : Value) (H : IHeap) : RV := B140 N lim a0 H
def G140 (N : Nat) : G := w1 (F140 N)
theorem eq140 (N : Nat) (lim : Nat) (a0 : Value) (H : IHeap) : ifun Tryz.prog { fn := envOf [], wr := [] } { promo := [], share := false } N (okOf Tryz.prog { promo := [], share := false } []) Tryz.f140 (.seq (.region []) (.seq (.seq (.region []) (.inl (.seq (.region []) .leaf) .leaf)) (.seq (.region []) .leaf))) lim [a0] H = B140 N lim a0 H := by kernel_rfl
theorem sim140 (N : Nat) : SimF Tryz.prog 140 (G140 N) := by
  refine SimF.gen [] [] { promo := [], share := false } N (.seq (.region []) (.seq (.seq (.region []) (.inl (.seq (.region []) .leaf) .leaf)) (.seq (.region []) .leaf))) Tryz.func140 (by kernel_rfl) (by kernel_rfl) env_nil ?_
  intro lim args H r h
  unfold G140 w1 at h
  split at h
  · exact (eq140 N lim _ H).trans h
  · simp at h
/-- besom/frame.spans -/
def B75 (N : Nat) (lim : Nat) (p0 fn1 : Value) (H : IHeap) : RV :=
 retK ((cellsOf true 3 p0).bind fun cs1 =>
 (ibin .lss .no fn1 (.int .i64 0)).bind fun t14 =>
 (gval false t14).bind fun w1 => grpK (bif w1 then
 ((iload false 1 cs1 2).bind fun t18 =>
 (ilenS t18).bind fun t19 =>
 (ibin .geq .no fn1 t19).bind fun t20 =>
 some ([t20], (H.push (.map 3 [] 0))))
 else some ([Value.tuple #[]], (H.push (.map 3 [] 0)))) fun vs1 H1 =>
 (pickK t14 (.bool true) (nthV 0 vs1)).bind fun t21 =>
 (boolK t21 fun b2 => bif b2 then
 (some (.ret (.tuple ⟨[(.map (some H.next)), (.int .i64 0)]⟩), H1))
 else
 (iload false 1 cs1 2).bind fun t24 =>
 (iidx 5 t24 fn1).bind fun t26 =>
 (hload true 5 H1 t26).bind fun t27 =>
 (istore true 5 [(.slice none 0 0), (.int .i64 0), (.int .i64 0), (.slice none 0 0), (.slice none 0 0)] 0 t27).bind fun cs2 =>
 (iload false 1 cs2 2).bind fun t29 =>
 (iminmax false [t29, (.int .i64 0)]).bind fun t30 =>
 (ibin .add .no (.int .i64 2) t30).bind fun t31 =>
 (iload false 1 cs2 3).bind fun t33 =>
 (ilenS t33).bind fun t34 =>
 catchK 0 (iloop (fun vs2 H2 =>
 (ibin .lss .no (nthV 1 vs2) t34).bind fun t36 =>
 (boolK t36 fun b3 => bif b3 then
 (catchK 1 ((iidx 1 t33 (nthV 1 vs2)).bind fun t38 =>
 (hload false 1 H2 t38).bind fun t39 =>
 (ibin .geq .no t39 (.int .i64 0)).bind fun t41 =>
 (gval true t41).bind fun w2 => grpK (bif w2 then
 ((iload false 1 cs1 1).bind fun t45 =>
 (ilenS t45).bind fun t46 =>
 (ibin .lss .no t39 t46).bind fun t47 =>
 some ([t47], H2))
 else some ([Value.tuple #[]], H2)) fun vs3 H3 =>
 (pickK t41 (nthV 0 vs3) (.bool false)).bind fun t48 =>
 joinK (boolK t48 fun b5 => bif b5 then
 ((iload false 1 cs1 1).bind fun t50 =>
 (iidx 1 t50 t39).bind fun t52 =>
 (paddr 0 t52).bind fun t53 =>
 (hload false 1 H3 t53).bind fun t54 =>
 (ilenS t54).bind fun t55 =>
 some (.norm ([t55] ++ []), H3))
 else
 some (.norm ([(.int .i64 0)] ++ []), H3)) fun vs4 H4 =>
 (istore false 1 [(.int .i64 0), (.int .i64 0)] 0 fn1).bind fun cs3 =>
 (istore false 1 cs3 1 (nthV 1 vs2)).bind fun cs4 =>
 (istore false 1 [(.int .i64 0), (.int .i64 0)] 0 (nthV 0 vs2)).bind fun cs5 =>
 (istore false 1 cs5 1 (nthV 0 vs4)).bind fun cs6 =>
 (imapUpdate 3 lim H4 (.map (some H.next)) (.agg ⟨cs4⟩) (.agg ⟨cs6⟩)).bind fun H5 =>
 (ibin .add .no (nthV 0 vs2) (nthV 0 vs4)).bind fun t65 =>
 some (.norm ([t65] ++ []), H5)) fun vs5 H6 =>
 (ibin .add .no (nthV 1 vs2) (.int .i64 1)).bind fun t66 =>
 some (.norm ([(nthV 0 vs5), t66] ++ []), H6))
 else
 some (.exit 0 ([(nthV 0 vs2)] ++ []), H2))) N ([t31, (.int .i64 0)] ++ []) H1) fun vs6 H7 =>
 some (.ret (.tuple ⟨[(.map (some H.next)), (nthV 0 vs6)]⟩), H7)))
def F75 (N lim : Nat) (a0 a1 : Value) (H : IHeap) : RV := B75 N lim a0 a1 H
def G75 (N : Nat) : G := w2 (F75 N)
theorem eq75 (N : Nat) (lim : Nat) (a0 a1 : Value) (H : IHeap) : ifun Tryz.prog { fn := envOf [], wr := [] } { promo := [2, 7], share := false } N (okOf Tryz.prog { promo := [2, 7], share := false } []) Tryz.f75 (.seq (.region []) (.seq (.region []) (.seq (.seq (.region [[20]]) (.inl (.seq (.region []) .leaf) .leaf)) (.seq (.region []) (.seq (.region []) (.seq (.seq (.region []) (.block [8] [] [] (.loop [8, 35] [] [] (.seq (.region []) (.seq (.inl .leaf .leaf) (.seq (.block [8] [] [] (.seq (.region []) (.seq (.region []) (.seq (.seq (.region [[47]]) (.join [11] [] [] (.region []) .leaf)) (.seq (.region []) (.region [])))))) (.region []))))))) (.seq (.region []) .leaf))))))) lim [a0, a1] H = B75 N lim a0 a1 H := by kernel_rfl
theorem sim75 (N : Nat) : SimF Tryz.prog 75 (G75 N) := by
  refine SimF.gen [] [] { promo := [2, 7], share := false } N (.seq (.region []) (.seq (.region []) (.seq (.seq (.region [[20]]) (.inl (.seq (.region []) .leaf) .leaf)) (.seq (.region []) (.seq (.region []) (.seq (.seq (.region []) (.block [8] [] [] (.loop [8, 35] [] [] (.seq (.region []) (.seq (.inl .leaf .leaf) (.seq (.block [8] [] [] (.seq (.region []) (.seq (.region []) (.seq (.seq (.region [[47]]) (.join [11] [] [] (.region []) .leaf)) (.seq (.region []) (.region [])))))) (.region []))))))) (.seq (.region []) .leaf))))))) Tryz.func75 (by kernel_rfl) (by kernel_rfl) env_nil ?_
  intro lim args H r h
  unfold G75 w2 at h
  split at h
  · exact (eq75 N lim _ _ H).trans h
  · simp at h
/-- besom/frame.Words -/
def B27 (N : Nat) (g75 : RF2) (lim : Nat) (p0 fn1 : Value) (H : IHeap) : RV :=
 retK ((cellsOf true 3 p0).bind fun cs1 =>
 (iload true 3 cs1 0).bind fun t8 =>
 callK (g75 lim t8 fn1 H) fun t10 H1 =>
 (iextract 0 t10).bind fun t11 =>
 (iextract 1 t10).bind fun t12 =>
 some (.ret t12, H1))
def F27 (N lim : Nat) (a0 a1 : Value) (H : IHeap) : RV := B27 N (F75 N) lim a0 a1 H
def G27 (N : Nat) : G := w2 (F27 N)
theorem eq27 (N : Nat) (g75 : RF2) (lim : Nat) (a0 a1 : Value) (H : IHeap) : ifun Tryz.prog { fn := envOf [(75, Ideal.w2 g75)], wr := [] } { promo := [2], share := false } N (okOf Tryz.prog { promo := [2], share := false } []) Tryz.f27 (.seq (.region []) (.seq (.region []) (.seq (.region []) .leaf))) lim [a0, a1] H = B27 N g75 lim a0 a1 H := by kernel_rfl
theorem sim27 (N : Nat) : SimF Tryz.prog 27 (G27 N) := by
  refine SimF.gen [(75, G75 N)] [] { promo := [2], share := false } N (.seq (.region []) (.seq (.region []) (.seq (.region []) .leaf))) Tryz.func27 (by kernel_rfl) (by kernel_rfl) (env_cons (sim75 N) env_nil) ?_
  intro lim args H r h
  unfold G27 w2 at h
  split at h
  · exact (eq27 N (F75 N) lim _ _ H).trans h
  · simp at h
/-- (*besom/stack.Stack).there -/
def B180 (N : Nat) (g100 : RF1) (lim : Nat) (s0 off1 : Value) (H : IHeap) : RV :=
 retK ((ibin .geq .no off1 (.int .i64 0)).bind fun t6 =>
 (gval true t6).bind fun w1 => grpK (bif w1 then
 (callK (g100 lim s0 H) fun t10 H2 =>
 (ibin .lss .no off1 t10).bind fun t11 =>
 some ([t11], H2))
 else some ([Value.tuple #[]], H)) fun vs1 H1 =>
 (pickK t6 (nthV 0 vs1) (.bool false)).bind fun t12 =>
 some (.ret t12, H1))
def F180 (N lim : Nat) (a0 a1 : Value) (H : IHeap) : RV := B180 N (F100 N) lim a0 a1 H
def G180 (N : Nat) : G := w2 (F180 N)
theorem eq180 (N : Nat) (g100 : RF1) (lim : Nat) (a0 a1 : Value) (H : IHeap) : ifun Tryz.prog { fn := envOf [(100, Ideal.w1 g100)], wr := [] } { promo := [], share := false } N (okOf Tryz.prog { promo := [], share := false } []) Tryz.f180 (.seq (.region []) (.seq (.region [[11]]) .leaf)) lim [a0, a1] H = B180 N g100 lim a0 a1 H := by kernel_rfl
theorem sim180 (N : Nat) : SimF Tryz.prog 180 (G180 N) := by
  refine SimF.gen [(100, G100 N)] [] { promo := [], share := false } N (.seq (.region []) (.seq (.region [[11]]) .leaf)) Tryz.func180 (by kernel_rfl) (by kernel_rfl) (env_cons (sim100 N) env_nil) ?_
  intro lim args H r h
  unfold G180 w2 at h
  split at h
  · exact (eq180 N (F100 N) lim _ _ H).trans h
  · simp at h
/-- (*besom/stack.Stack).Load -/
def B103 (N : Nat) (g180 : RF2) (lim : Nat) (s0 off1 : Value) (H : IHeap) : RV :=
 retK (callK (g180 lim s0 off1 H) fun t8 H1 =>
 (iun .not t8).bind fun t9 =>
 (boolK t9 fun b1 => bif b1 then
 (some (.ret (.tuple ⟨[(.int .i64 0), (.bool false)]⟩), H1))
 else
 (inilc s0).bind fun t11 =>
 (paddr 1 t11).bind fun t12 =>
 (hload false 1 H1 t12).bind fun t13 =>
 (iidx 1 t13 off1).bind fun t15 =>
 (hload false 1 H1 t15).bind fun t16 =>
 some (.ret (.tuple ⟨[t16, (.bool true)]⟩), H1)))
def F103 (N lim : Nat) (a0 a1 : Value) (H : IHeap) : RV := B103 N (F180 N) lim a0 a1 H
def G103 (N : Nat) : G := w2 (F103 N)
theorem eq103 (N : Nat) (g180 : RF2) (lim : Nat) (a0 a1 : Value) (H : IHeap) : ifun Tryz.prog { fn := envOf [(180, Ideal.w2 g180)], wr := [] } { promo := [], share := false } N (okOf Tryz.prog { promo := [], share := false } []) Tryz.f103 (.seq (.region []) (.seq (.seq (.region []) (.inl (.seq (.region []) .leaf) .leaf)) (.seq (.region []) .leaf))) lim [a0, a1] H = B103 N g180 lim a0 a1 H := by kernel_rfl
theorem sim103 (N : Nat) : SimF Tryz.prog 103 (G103 N) := by
  refine SimF.gen [(180, G180 N)] [] { promo := [], share := false } N (.seq (.region []) (.seq (.seq (.region []) (.inl (.seq (.region []) .leaf) .leaf)) (.seq (.region []) .leaf))) Tryz.func103 (by kernel_rfl) (by kernel_rfl) (env_cons (sim180 N) env_nil) ?_
  intro lim args H r h
  unfold G103 w2 at h
  split at h
  · exact (eq103 N (F180 N) lim _ _ H).trans h
  · simp at h
/-- (*besom/task.Task).words -/
def B212 (N : Nat) (g103 : RF2) (lim : Nat) (t0 from1 n2 : Value) (H : IHeap) : RV :=
 retK (catchK 0 (iloop (fun vs1 H1 =>
 (ibin .lss .no (nthV 1 vs1) n2).bind fun t13 =>
 (boolK t13 fun b1 => bif b1 then
 (catchK 1 ((inilc t0).bind fun t17 =>
 (paddr 3 t17).bind fun t18 =>
 (hload false 1 H1 t18).bind fun t19 =>
 (ibin .add .no from1 (nthV 1 vs1)).bind fun t22 =>
 callK (g103 lim t19 t22 H1) fun t23 H2 =>
 (iextract 0 t23).bind fun t24 =>
 (iextract 1 t23).bind fun t25 =>
 (istore false 1 [(.int .i64 0)] 0 t24).bind fun cs1 =>
 rowK (lrow 1 1 cs1) fun m1 new1 =>
 callK (iappend false 1 8 lim H2 (nthV 0 vs1) m1 new1) fun t29 H3 =>
 some (.norm ([t29] ++ []), H3)) fun vs2 H4 =>
 (ibin .add .no (nthV 1 vs1) (.int .i64 1)).bind fun t30 =>
 some (.norm ([(nthV 0 vs2), t30] ++ []), H4))
 else
 some (.exit 0 ([(nthV 0 vs1)] ++ []), H1))) N ([(.slice none 0 0), (.int .i64 0)] ++ []) H) fun vs3 H5 =>
 some (.ret (nthV 0 vs3), H5))
def F212 (N lim : Nat) (a0 a1 a2 : Value) (H : IHeap) : RV := B212 N (F103 N) lim a0 a1 a2 H
def G212 (N : Nat) : G := w3 (F212 N)
theorem eq212 (N : Nat) (g103 : RF2) (lim : Nat) (a0 a1 a2 : Value) (H : IHeap) : ifun Tryz.prog { fn := envOf [(103, Ideal.w2 g103)], wr := [] } { promo := [28], share := false } N (okOf Tryz.prog { promo := [28], share := false } []) Tryz.f212 (.seq (.region []) (.seq (.region []) (.seq (.seq (.region []) (.block [7] [] [28] (.loop [7, 12] [] [28] (.seq (.region []) (.seq (.inl .leaf .leaf) (.seq (.block [7] [] [28] (.seq (.region []) (.seq (.region []) (.region [])))) (.region []))))))) (.seq (.region []) .leaf)))) lim [a0, a1, a2] H = B212 N g103 lim a0 a1 a2 H := by kernel_rfl
theorem sim212 (N : Nat) : SimF Tryz.prog 212 (G212 N) := by
  refine SimF.gen [(103, G103 N)] [] { promo := [28], share := false } N (.seq (.region []) (.seq (.region []) (.seq (.seq (.region []) (.block [7] [] [28] (.loop [7, 12] [] [28] (.seq (.region []) (.seq (.inl .leaf .leaf) (.seq (.block [7] [] [28] (.seq (.region []) (.seq (.region []) (.region [])))) (.region []))))))) (.seq (.region []) .leaf)))) Tryz.func212 (by kernel_rfl) (by kernel_rfl) (env_cons (sim103 N) env_nil) ?_
  intro lim args H r h
  unfold G212 w3 at h
  split at h
  · exact (eq212 N (F103 N) lim _ _ _ H).trans h
  · simp at h
/-- (*besom/task.Task).spot -/
def B141 (N : Nat) (g27 : RF2) (g212 : RF3) (lim : Nat) (t0 depth1 : Value) (H : IHeap) : RV :=
 retK ((inilc t0).bind fun t11 =>
 (paddr 4 t11).bind fun t12 =>
 (hload false 1 H t12).bind fun t13 =>
 (iidx 5 t13 depth1).bind fun t15 =>
 (hload true 5 H t15).bind fun t16 =>
 (istore true 5 [(.int .i64 0), (.int .i64 0), (.int .i64 0), (.int .i64 0), (.slice none 0 0)] 0 t16).bind fun cs1 =>
 (inilc t0).bind fun t18 =>
 (paddr 0 t18).bind fun t19 =>
 (paddr 2 t19).bind fun t20 =>
 (hload false 1 H t20).bind fun t21 =>
 (iload false 1 cs1 0).bind fun t23 =>
 (iidx 5 t21 t23).bind fun t24 =>
 (paddr 2 t24).bind fun t25 =>
 (hload false 1 H t25).bind fun t26 =>
 (ibin .add .no (.int .i64 2) t26).bind fun t28 =>
 (inilc t0).bind fun t31 =>
 (paddr 7 t31).bind fun t32 =>
 (hload false 1 H t32).bind fun t33 =>
 (istore false 1 [(.int .i64 0), (.int .i64 0)] 0 depth1).bind fun cs2 =>
 (istore false 1 cs2 1 (.int .i64 0)).bind fun cs3 =>
 (ilookup 3 (.int .i64 0) true H t33 (.agg ⟨cs3⟩)).bind fun t36 =>
 (iextract 0 t36).bind fun t37 =>
 (iextract 1 t36).bind fun t38 =>
 (iload false 1 cs1 0).bind fun t40 =>
 (iload false 1 cs1 1).bind fun t42 =>
 (iload false 1 cs1 2).bind fun t44 =>
 (inilc t0).bind fun t46 =>
 (paddr 5 t46).bind fun t47 =>
 (paddr 0 t47).bind fun t48 =>
 (hload false 1 H t48).bind fun t49 =>
 (iidx 3 t49 depth1).bind fun t51 =>
 (paddr 0 t51).bind fun t52 =>
 (hload false 1 H t52).bind fun t53 =>
 (iload false 1 cs1 4).bind fun t55 =>
 (ilenS t55).bind fun t56 =>
 (ibin .gtr .no t56 (.int .i64 0)).bind fun t57 =>
 (iload false 1 cs1 2).bind fun t62 =>
 (ibin .add .no t62 (.int .i64 2)).bind fun t63 =>
 callK (g212 H.next t0 t63 t26 H) fun t65 H1 =>
 (iload false 1 cs1 2).bind fun t68 =>
 (ibin .add .no t68 t28).bind fun t70 =>
 (inilc t0).bind fun t72 =>
 (paddr 0 t72).bind fun t73 =>
 (hload true 3 H1 t73).bind fun t74 =>
 (iload false 1 cs1 0).bind fun t76 =>
 callK (g27 H1.next t74 t76 H1) fun t77 H2 =>
 (ibin .sub .no t77 t28).bind fun t79 =>
 callK (g212 H2.next t0 t70 t79 H2) fun t80 H3 =>
 (istore false 1 [(.int .i64 0), (.int .i64 0), (.int .i64 0), (.bool false), (.bool false), (.int .i64 0), (.bool false), (.slice none 0 0), (.slice none 0 0)] 0 t40).bind fun cs4 =>
 (istore false 1 cs4 1 t42).bind fun cs5 =>
 (istore false 1 cs5 2 t44).bind fun cs6 =>
 (istore false 1 cs6 3 t53).bind fun cs7 =>
 (istore false 1 cs7 4 t57).bind fun cs8 =>
 (istore false 1 cs8 5 t37).bind fun cs9 =>
 (istore false 1 cs9 6 t38).bind fun cs10 =>
 (istore false 1 cs10 7 t65).bind fun cs11 =>
 (istore false 1 cs11 8 t80).bind fun cs12 =>
 (istore true 9 [(.int .i64 0), (.int .i64 0), (.int .i64 0), (.bool false), (.bool false), (.int .i64 0), (.bool false), (.slice none 0 0), (.slice none 0 0)] 0 (.agg ⟨cs12⟩)).bind fun cs13 =>
 (iload true 9 cs13 0).bind fun r1 =>
 some (.ret r1, H3))
def F141 (N lim : Nat) (a0 a1 : Value) (H : IHeap) : RV := B141 N (F27 N) (F212 N) lim a0 a1 H
def G141 (N : Nat) : G := w2 (F141 N)
theorem eq141 (N : Nat) (g27 : RF2) (g212 : RF3) (lim : Nat) (a0 a1 : Value) (H : IHeap) : ifun Tryz.prog { fn := envOf [(27, Ideal.w2 g27), (212, Ideal.w3 g212)], wr := [] } { promo := [4, 5], share := false } N (okOf Tryz.prog { promo := [4, 5], share := false } []) Tryz.f141 (.seq (.region []) (.seq (.region []) (.seq (.region []) (.seq (.region []) (.seq (.region []) (.seq (.region []) .leaf)))))) lim [a0, a1] H = B141 N g27 g212 lim a0 a1 H := by kernel_rfl
theorem sim141 (N : Nat) : SimF Tryz.prog 141 (G141 N) := by
  refine SimF.gen [(27, G27 N), (212, G212 N)] [] { promo := [4, 5], share := false } N (.seq (.region []) (.seq (.region []) (.seq (.region []) (.seq (.region []) (.seq (.region []) (.seq (.region []) .leaf)))))) Tryz.func141 (by kernel_rfl) (by kernel_rfl) (env_cons (sim27 N) (env_cons (sim212 N) env_nil)) ?_
  intro lim args H r h
  unfold G141 w2 at h
  split at h
  · exact (eq141 N (F27 N) (F212 N) lim _ _ H).trans h
  · simp at h
end Go.Ideal
