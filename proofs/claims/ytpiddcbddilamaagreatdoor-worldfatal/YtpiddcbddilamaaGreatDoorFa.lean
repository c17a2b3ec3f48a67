/- This text proves no statement of the seat: it says what functions of the program do on the ideal machine, part 0. By program (emitall.py). -/
import Derived.Test.YtpiddcbddilamaaGreatDoorEc
import Derived.Test.YtpiddcbddilamaaGreatDoorProg
import Derived.KernelRfl
namespace Go.Ideal
open Go.Proofs
set_option maxRecDepth 100000
set_option linter.unusedVariables false
/-- besom/besomlaw24.Plain -/
def B7 (N : Nat) (lim : Nat) (H : IHeap) : RV :=
 retK ((istore false 1 [(.int .i64 0), (.int .i64 0), (.int .i64 0), (.int .i64 0), (.int .i64 0)] 0 (.int .i64 8)).bind fun cs1 =>
 (istore false 1 cs1 1 (.int .i64 16)).bind fun cs2 =>
 (istore false 1 cs2 2 (.int .i64 512)).bind fun cs3 =>
 (istore false 1 cs3 3 (.int .i64 40)).bind fun cs4 =>
 (istore false 1 cs4 4 (.int .i64 8)).bind fun cs5 =>
 (istore true 5 [(.int .i64 0), (.int .i64 0), (.int .i64 0), (.int .i64 0), (.int .i64 0)] 0 (.agg ⟨cs5⟩)).bind fun cs6 =>
 (iload true 5 cs6 0).bind fun r1 =>
 some (.ret r1, H))
def F7 (N lim : Nat) (H : IHeap) : RV := B7 N lim H
def G7 (N : Nat) : G := w0 (F7 N)
theorem eq7 (N : Nat) (lim : Nat) (H : IHeap) : ifun Tryz.prog { fn := envOf [], wr := [] } { promo := [0], share := false } N (okOf Tryz.prog { promo := [0], share := false } []) Tryz.f7 (.seq (.region []) (.seq (.region []) .leaf)) lim [] H = B7 N lim H := by kernel_rfl
theorem sim7 (N : Nat) : SimF Tryz.prog 7 (G7 N) := by
  refine SimF.gen [] [] { promo := [0], share := false } N (.seq (.region []) (.seq (.region []) .leaf)) Tryz.func7 (by kernel_rfl) (by kernel_rfl) env_nil ?_
  intro lim args H r h
  unfold G7 w0 at h
  split at h
  · exact (eq7 N lim H).trans h
  · simp at h
/-- (*besom/world.World).none -/
def B16 (N : Nat) (lim : Nat) (w0 : Value) (H : IHeap) : RV :=
 retK ((ibin .eql .ptr w0 (.pointer none)).bind fun t4 =>
 (gval false t4).bind fun w1 => grpK (bif w1 then
 ((inilc w0).bind fun t7 =>
 (paddr 9 t7).bind fun t8 =>
 (hload false 1 H t8).bind fun t9 =>
 (ibin .eql .ptr t9 (.pointer none)).bind fun t10 =>
 some ([t10], H))
 else some ([Value.tuple #[]], H)) fun vs1 H1 =>
 (pickK t4 (.bool true) (nthV 0 vs1)).bind fun t11 =>
 some (.ret t11, H1))
def F16 (N lim : Nat) (a0 : Value) (H : IHeap) : RV := B16 N lim a0 H
def G16 (N : Nat) : G := w1 (F16 N)
theorem eq16 (N : Nat) (lim : Nat) (a0 : Value) (H : IHeap) : ifun Tryz.prog { fn := envOf [], wr := [] } { promo := [], share := false } N (okOf Tryz.prog { promo := [], share := false } []) Tryz.f16 (.seq (.region []) (.seq (.region [[10]]) .leaf)) lim [a0] H = B16 N lim a0 H := by kernel_rfl
theorem sim16 (N : Nat) : SimF Tryz.prog 16 (G16 N) := by
  refine SimF.gen [] [] { promo := [], share := false } N (.seq (.region []) (.seq (.region [[10]]) .leaf)) Tryz.func16 (by kernel_rfl) (by kernel_rfl) env_nil ?_
  intro lim args H r h
  unfold G16 w1 at h
  split at h
  · exact (eq16 N lim _ H).trans h
  · simp at h
/-- (besom/ask.Hand).May -/
def B36 (N : Nat) (lim : Nat) (h0 : Value) (H : IHeap) : RV :=
 retK ((cellsOf true 2 h0).bind fun cs1 =>
 (iload false 1 cs1 0).bind fun t4 =>
 (ibin .eql .no t4 (.int .i64 0)).bind fun t5 =>
 (gval false t5).bind fun w1 => grpK (bif w1 then
 ((iload false 1 cs1 0).bind fun t8 =>
 (ibin .eql .no t8 (.int .i64 1)).bind fun t9 =>
 some ([t9], H))
 else some ([Value.tuple #[]], H)) fun vs1 H1 =>
 (pickK t5 (.bool true) (nthV 0 vs1)).bind fun t10 =>
 some (.ret t10, H1))
def F36 (N lim : Nat) (a0 : Value) (H : IHeap) : RV := B36 N lim a0 H
def G36 (N : Nat) : G := w1 (F36 N)
theorem eq36 (N : Nat) (lim : Nat) (a0 : Value) (H : IHeap) : ifun Tryz.prog { fn := envOf [], wr := [] } { promo := [1], share := false } N (okOf Tryz.prog { promo := [1], share := false } []) Tryz.f36 (.seq (.region []) (.seq (.region [[9]]) .leaf)) lim [a0] H = B36 N lim a0 H := by kernel_rfl
theorem sim36 (N : Nat) : SimF Tryz.prog 36 (G36 N) := by
  refine SimF.gen [] [] { promo := [1], share := false } N (.seq (.region []) (.seq (.region [[9]]) .leaf)) Tryz.func36 (by kernel_rfl) (by kernel_rfl) env_nil ?_
  intro lim args H r h
  unfold G36 w1 at h
  split at h
  · exact (eq36 N lim _ H).trans h
  · simp at h
/-- besom/ask.step -/
def B147 (N : Nat) (lim : Nat) (status0 sign1 : Value) (H : IHeap) : RV :=
 retK ((istore false 1 [(.int .i64 0), (.int .i64 0)] 0 (.int .i64 0)).bind fun cs1 =>
 (istore false 1 cs1 1 (.int .i64 0)).bind fun cs2 =>
 (ikey 3 (.agg ⟨cs2⟩)).bind fun key1 =>
 bif isMapAt H.next (.map (some H.next)) && (ifind key1 []).isNone then
 ((istore false 1 [(.int .i64 0), (.int .i64 0)] 0 (.int .i64 1)).bind fun cs3 =>
 (istore false 1 cs3 1 (.int .i64 1)).bind fun cs4 =>
 (ikey 3 (.agg ⟨cs4⟩)).bind fun key2 =>
 bif isMapAt H.next (.map (some H.next)) && (ifind key2 ([] ++ [(key1, (.int .i64 1), 0)])).isNone then
 ((istore false 1 [(.int .i64 0), (.int .i64 0)] 0 (.int .i64 1)).bind fun cs5 =>
 (istore false 1 cs5 1 (.int .i64 2)).bind fun cs6 =>
 (ikey 3 (.agg ⟨cs6⟩)).bind fun key3 =>
 bif isMapAt H.next (.map (some H.next)) && (ifind key3 (([] ++ [(key1, (.int .i64 1), 0)]) ++ [(key2, (.int .i64 2), 0)])).isNone then
 ((istore false 1 [(.int .i64 0), (.int .i64 0)] 0 (.int .i64 2)).bind fun cs7 =>
 (istore false 1 cs7 1 (.int .i64 3)).bind fun cs8 =>
 (ikey 3 (.agg ⟨cs8⟩)).bind fun key4 =>
 bif isMapAt H.next (.map (some H.next)) && (ifind key4 ((([] ++ [(key1, (.int .i64 1), 0)]) ++ [(key2, (.int .i64 2), 0)]) ++ [(key3, (.int .i64 3), 0)])).isNone then
 ((istore false 1 [(.int .i64 0), (.int .i64 0)] 0 (.int .i64 3)).bind fun cs9 =>
 (istore false 1 cs9 1 (.int .i64 3)).bind fun cs10 =>
 (ikey 3 (.agg ⟨cs10⟩)).bind fun key5 =>
 bif isMapAt H.next (.map (some H.next)) && (ifind key5 (((([] ++ [(key1, (.int .i64 1), 0)]) ++ [(key2, (.int .i64 2), 0)]) ++ [(key3, (.int .i64 3), 0)]) ++ [(key4, (.int .i64 0), 0)])).isNone then
 ((istore false 1 [(.int .i64 0), (.int .i64 0)] 0 status0).bind fun cs11 =>
 (istore false 1 cs11 1 sign1).bind fun cs12 =>
 (ilookup 3 (.int .i64 0) true (H.push (.fmap 3 ((((([] ++ [(key1, (.int .i64 1), 0)]) ++ [(key2, (.int .i64 2), 0)]) ++ [(key3, (.int .i64 3), 0)]) ++ [(key4, (.int .i64 0), 0)]) ++ [(key5, (.int .i64 0), 0)]))) (.map (some H.next)) (.agg ⟨cs12⟩)).bind fun t21 =>
 (iextract 0 t21).bind fun t22 =>
 (iextract 1 t21).bind fun t23 =>
 some (.ret (.tuple ⟨[t22, t23]⟩), (H.push (.fmap 3 ((((([] ++ [(key1, (.int .i64 1), 0)]) ++ [(key2, (.int .i64 2), 0)]) ++ [(key3, (.int .i64 3), 0)]) ++ [(key4, (.int .i64 0), 0)]) ++ [(key5, (.int .i64 0), 0)])))))
 else none)
 else none)
 else none)
 else none)
 else none)
def F147 (N lim : Nat) (a0 a1 : Value) (H : IHeap) : RV := B147 N lim a0 a1 H
def G147 (N : Nat) : G := w2 (F147 N)
theorem eq147 (N : Nat) (lim : Nat) (a0 a1 : Value) (H : IHeap) : ifun Tryz.prog { fn := envOf [], wr := [] } { promo := [], share := false } N (okOf Tryz.prog { promo := [], share := false } []) Tryz.f147 (.seq (.region []) (.seq .lit (.seq (.region []) (.seq (.region []) .leaf)))) lim [a0, a1] H = B147 N lim a0 a1 H := by kernel_rfl
theorem sim147 (N : Nat) : SimF Tryz.prog 147 (G147 N) := by
  refine SimF.gen [] [] { promo := [], share := false } N (.seq (.region []) (.seq .lit (.seq (.region []) (.seq (.region []) .leaf)))) Tryz.func147 (by kernel_rfl) (by kernel_rfl) env_nil ?_
  intro lim args H r h
  unfold G147 w2 at h
  split at h
  · exact (eq147 N lim _ _ H).trans h
  · simp at h
/-- (besom/ask.Hand).take -/
def B84 (N : Nat) (g147 : RF2) (lim : Nat) (h0 sign1 : Value) (H : IHeap) : RV :=
 retK ((cellsOf true 2 h0).bind fun cs1 =>
 (iload false 1 cs1 0).bind fun t10 =>
 callK (g147 lim t10 sign1 H) fun t12 H1 =>
 (iextract 0 t12).bind fun t13 =>
 (iextract 1 t12).bind fun t14 =>
 joinK (boolK t14 fun b1 => bif b1 then
 ((istore false 1 cs1 0 t13).bind fun cs2 =>
 some (.norm ([] ++ [.agg ⟨cs2⟩]), H1))
 else
 some (.norm ([] ++ [.agg ⟨cs1⟩]), H1)) fun vs1 H2 =>
 (aggs (nthV 0 (vs1.drop 0))).bind fun cs3 =>
 (iload true 2 cs3 0).bind fun t18 =>
 (istore true 2 [(.int .i64 0), (.bool false)] 0 t18).bind fun cs4 =>
 (iload true 2 cs4 0).bind fun r1 =>
 some (.ret (.tuple ⟨[r1, t14]⟩), H2))
def F84 (N lim : Nat) (a0 a1 : Value) (H : IHeap) : RV := B84 N (F147 N) lim a0 a1 H
def G84 (N : Nat) : G := w2 (F84 N)
theorem eq84 (N : Nat) (g147 : RF2) (lim : Nat) (a0 a1 : Value) (H : IHeap) : ifun Tryz.prog { fn := envOf [(147, Ideal.w2 g147)], wr := [] } { promo := [2, 4], share := false } N (okOf Tryz.prog { promo := [2, 4], share := false } []) Tryz.f84 (.seq (.region []) (.seq (.region []) (.seq (.seq (.region []) (.join [] [2] [2] (.region []) .leaf)) (.seq (.region []) .leaf)))) lim [a0, a1] H = B84 N g147 lim a0 a1 H := by kernel_rfl
theorem sim84 (N : Nat) : SimF Tryz.prog 84 (G84 N) := by
  refine SimF.gen [(147, G147 N)] [] { promo := [2, 4], share := false } N (.seq (.region []) (.seq (.region []) (.seq (.seq (.region []) (.join [] [2] [2] (.region []) .leaf)) (.seq (.region []) .leaf)))) Tryz.func84 (by kernel_rfl) (by kernel_rfl) (env_cons (sim147 N) env_nil) ?_
  intro lim args H r h
  unfold G84 w2 at h
  split at h
  · exact (eq84 N (F147 N) lim _ _ H).trans h
  · simp at h
/-- (besom/ask.Hand).Reach -/
def B37 (N : Nat) (g84 : RF2) (lim : Nat) (h0 at1 : Value) (H : IHeap) : RV :=
 retK ((cellsOf true 2 h0).bind fun cs1 =>
 (iun .not at1).bind fun t7 =>
 (boolK t7 fun b1 => bif b1 then
 ((iload true 2 cs1 0).bind fun t8 =>
 (istore true 2 [(.int .i64 0), (.bool false)] 0 t8).bind fun cs2 =>
 (iload true 2 cs2 0).bind fun r1 =>
 some (.ret (.tuple ⟨[r1, (.bool false)]⟩), H))
 else
 (iload true 2 cs1 0).bind fun t9 =>
 callK (g84 lim t9 (.int .i64 1) H) fun t10 H1 =>
 (iextract 0 t10).bind fun t11 =>
 (iextract 1 t10).bind fun t12 =>
 (istore true 2 [(.int .i64 0), (.bool false)] 0 t11).bind fun cs3 =>
 (iload true 2 cs3 0).bind fun r2 =>
 some (.ret (.tuple ⟨[r2, t12]⟩), H1)))
def F37 (N lim : Nat) (a0 a1 : Value) (H : IHeap) : RV := B37 N (F84 N) lim a0 a1 H
def G37 (N : Nat) : G := w2 (F37 N)
theorem eq37 (N : Nat) (g84 : RF2) (lim : Nat) (a0 a1 : Value) (H : IHeap) : ifun Tryz.prog { fn := envOf [(84, Ideal.w2 g84)], wr := [] } { promo := [2, 4], share := false } N (okOf Tryz.prog { promo := [2, 4], share := false } []) Tryz.f37 (.seq (.region []) (.seq (.seq (.region []) (.inl (.seq (.region []) .leaf) .leaf)) (.seq (.region []) .leaf))) lim [a0, a1] H = B37 N g84 lim a0 a1 H := by kernel_rfl
theorem sim37 (N : Nat) : SimF Tryz.prog 37 (G37 N) := by
  refine SimF.gen [(84, G84 N)] [] { promo := [2, 4], share := false } N (.seq (.region []) (.seq (.seq (.region []) (.inl (.seq (.region []) .leaf) .leaf)) (.seq (.region []) .leaf))) Tryz.func37 (by kernel_rfl) (by kernel_rfl) (env_cons (sim84 N) env_nil) ?_
  intro lim args H r h
  unfold G37 w2 at h
  split at h
  · exact (eq37 N (F84 N) lim _ _ H).trans h
  · simp at h
/-- (besom/unwind.State).top -/
def B220 (N : Nat) (lim : Nat) (s0 : Value) (H : IHeap) : RV :=
 retK ((cellsOf true 2 s0).bind fun cs1 =>
 (iload false 1 cs1 0).bind fun t5 =>
 (ilenS t5).bind fun t6 =>
 (ibin .eql .no t6 (.int .i64 0)).bind fun t7 =>
 (boolK t7 fun b1 => bif b1 then
 ((istore true 3 [(.bool false), (.bool false), (.int .i64 0)] 0 (.agg ⟨[(.bool false), (.bool false), (.int .i64 0)]⟩)).bind fun cs2 =>
 (iload true 3 cs2 0).bind fun r1 =>
 some (.ret (.tuple ⟨[r1, (.bool false)]⟩), H))
 else
 (iload false 1 cs1 0).bind fun t10 =>
 (iload false 1 cs1 0).bind fun t12 =>
 (ilenS t12).bind fun t13 =>
 (ibin .sub .no t13 (.int .i64 1)).bind fun t14 =>
 (iidx 3 t10 t14).bind fun t15 =>
 (hload true 3 H t15).bind fun t16 =>
 (istore true 3 [(.bool false), (.bool false), (.int .i64 0)] 0 t16).bind fun cs3 =>
 (iload true 3 cs3 0).bind fun r2 =>
 some (.ret (.tuple ⟨[r2, (.bool true)]⟩), H)))
def F220 (N lim : Nat) (a0 : Value) (H : IHeap) : RV := B220 N lim a0 H
def G220 (N : Nat) : G := w1 (F220 N)
theorem eq220 (N : Nat) (lim : Nat) (a0 : Value) (H : IHeap) : ifun Tryz.prog { fn := envOf [], wr := [] } { promo := [1, 2], share := false } N (okOf Tryz.prog { promo := [1, 2], share := false } []) Tryz.f220 (.seq (.region []) (.seq (.seq (.region []) (.inl (.seq (.region []) .leaf) .leaf)) (.seq (.region []) .leaf))) lim [a0] H = B220 N lim a0 H := by kernel_rfl
theorem sim220 (N : Nat) : SimF Tryz.prog 220 (G220 N) := by
  refine SimF.gen [] [] { promo := [1, 2], share := false } N (.seq (.region []) (.seq (.seq (.region []) (.inl (.seq (.region []) .leaf) .leaf)) (.seq (.region []) .leaf))) Tryz.func220 (by kernel_rfl) (by kernel_rfl) env_nil ?_
  intro lim args H r h
  unfold G220 w1 at h
  split at h
  · exact (eq220 N lim _ H).trans h
  · simp at h
/-- (besom/unwind.State).last -/
def B221 (N : Nat) (lim : Nat) (s0 : Value) (H : IHeap) : RV :=
 retK ((cellsOf true 2 s0).bind fun cs1 =>
 (iload false 1 cs1 1).bind fun t5 =>
 (ilenS t5).bind fun t6 =>
 (ibin .eql .no t6 (.int .i64 0)).bind fun t7 =>
 (boolK t7 fun b1 => bif b1 then
 ((istore true 5 [(.int .i64 0), (.int .i64 0), (.int .i64 0), (.bool false), (.bool false)] 0 (.agg ⟨[(.int .i64 0), (.int .i64 0), (.int .i64 0), (.bool false), (.bool false)]⟩)).bind fun cs2 =>
 (iload true 5 cs2 0).bind fun r1 =>
 some (.ret (.tuple ⟨[r1, (.bool false)]⟩), H))
 else
 (iload false 1 cs1 1).bind fun t10 =>
 (iload false 1 cs1 1).bind fun t12 =>
 (ilenS t12).bind fun t13 =>
 (ibin .sub .no t13 (.int .i64 1)).bind fun t14 =>
 (iidx 5 t10 t14).bind fun t15 =>
 (hload true 5 H t15).bind fun t16 =>
 (istore true 5 [(.int .i64 0), (.int .i64 0), (.int .i64 0), (.bool false), (.bool false)] 0 t16).bind fun cs3 =>
 (iload true 5 cs3 0).bind fun r2 =>
 some (.ret (.tuple ⟨[r2, (.bool true)]⟩), H)))
def F221 (N lim : Nat) (a0 : Value) (H : IHeap) : RV := B221 N lim a0 H
def G221 (N : Nat) : G := w1 (F221 N)
theorem eq221 (N : Nat) (lim : Nat) (a0 : Value) (H : IHeap) : ifun Tryz.prog { fn := envOf [], wr := [] } { promo := [1, 2], share := false } N (okOf Tryz.prog { promo := [1, 2], share := false } []) Tryz.f221 (.seq (.region []) (.seq (.seq (.region []) (.inl (.seq (.region []) .leaf) .leaf)) (.seq (.region []) .leaf))) lim [a0] H = B221 N lim a0 H := by kernel_rfl
theorem sim221 (N : Nat) : SimF Tryz.prog 221 (G221 N) := by
  refine SimF.gen [] [] { promo := [1, 2], share := false } N (.seq (.region []) (.seq (.seq (.region []) (.inl (.seq (.region []) .leaf) .leaf)) (.seq (.region []) .leaf))) Tryz.func221 (by kernel_rfl) (by kernel_rfl) env_nil ?_
  intro lim args H r h
  unfold G221 w1 at h
  split at h
  · exact (eq221 N lim _ H).trans h
  · simp at h
/-- (besom/unwind.State).unwinds -/
def B222 (N : Nat) (g221 : RF1) (lim : Nat) (s0 : Value) (H : IHeap) : RV :=
 retK ((cellsOf true 2 s0).bind fun cs1 =>
 (iload true 2 cs1 0).bind fun t6 =>
 callK (g221 lim t6 H) fun t7 H1 =>
 (iextract 0 t7).bind fun t8 =>
 (iextract 1 t7).bind fun t9 =>
 (istore true 5 [(.int .i64 0), (.int .i64 0), (.int .i64 0), (.bool false), (.bool false)] 0 t8).bind fun cs2 =>
 (gval true t9).bind fun w1 => grpK (bif w1 then
 ((iload false 1 cs2 2).bind fun t13 =>
 (ibin .eql .no t13 (.int .i64 0)).bind fun t14 =>
 some ([t14], H1))
 else some ([Value.tuple #[]], H1)) fun vs1 H2 =>
 (pickK t9 (nthV 0 vs1) (.bool false)).bind fun t15 =>
 some (.ret t15, H2))
def F222 (N lim : Nat) (a0 : Value) (H : IHeap) : RV := B222 N (F221 N) lim a0 H
def G222 (N : Nat) : G := w1 (F222 N)
theorem eq222 (N : Nat) (g221 : RF1) (lim : Nat) (a0 : Value) (H : IHeap) : ifun Tryz.prog { fn := envOf [(221, Ideal.w1 g221)], wr := [] } { promo := [1, 3], share := false } N (okOf Tryz.prog { promo := [1, 3], share := false } []) Tryz.f222 (.seq (.region []) (.seq (.region []) (.seq (.region [[14]]) .leaf))) lim [a0] H = B222 N g221 lim a0 H := by kernel_rfl
theorem sim222 (N : Nat) : SimF Tryz.prog 222 (G222 N) := by
  refine SimF.gen [(221, G221 N)] [] { promo := [1, 3], share := false } N (.seq (.region []) (.seq (.region []) (.seq (.region [[14]]) .leaf))) Tryz.func222 (by kernel_rfl) (by kernel_rfl) (env_cons (sim221 N) env_nil) ?_
  intro lim args H r h
  unfold G222 w1 at h
  split at h
  · exact (eq222 N (F221 N) lim _ H).trans h
  · simp at h
/-- (besom/unwind.State).Next -/
def B149 (N : Nat) (g220 : RF1) (g221 : RF1) (g222 : RF1) (lim : Nat) (s0 : Value) (H : IHeap) : RV :=
 retK ((cellsOf true 2 s0).bind fun cs1 =>
 (iload true 2 cs1 0).bind fun t8 =>
 callK (g220 lim t8 H) fun t9 H1 =>
 (iextract 0 t9).bind fun t10 =>
 (iextract 1 t9).bind fun t11 =>
 (istore true 3 [(.bool false), (.bool false), (.int .i64 0)] 0 t10).bind fun cs2 =>
 (iun .not t11).bind fun t13 =>
 (boolK t13 fun b1 => bif b1 then
 ((iload true 2 cs1 0).bind fun t15 =>
 callK (g221 lim t15 H1) fun t16 H2 =>
 (iextract 0 t16).bind fun t17 =>
 (iextract 1 t16).bind fun t18 =>
 (istore true 5 [(.int .i64 0), (.int .i64 0), (.int .i64 0), (.bool false), (.bool false)] 0 t17).bind fun cs3 =>
 (gval true t18).bind fun w1 => grpK (bif w1 then
 ((iload false 1 cs3 3).bind fun t22 =>
 (iun .not t22).bind fun t23 =>
 some ([t23], H2))
 else some ([Value.tuple #[]], H2)) fun vs1 H3 =>
 (pickK t18 (nthV 0 vs1) (.bool false)).bind fun t24 =>
 (boolK t24 fun b3 => bif b3 then
 (some (.ret (.int .i64 4), H3))
 else
 some (.ret (.int .i64 3), H3)))
 else
 catchK 0 ((iload true 2 cs1 0).bind fun t26 =>
 callK (g222 lim t26 H1) fun t27 H4 =>
 (iun .not t27).bind fun t28 =>
 (gval true t28).bind fun w2 => grpK (bif w2 then
 ((iload false 1 cs2 0).bind fun t31 =>
 (iun .not t31).bind fun t32 =>
 some ([t32], H4))
 else some ([Value.tuple #[]], H4)) fun vs2 H5 =>
 (pickK t28 (nthV 0 vs2) (.bool false)).bind fun t33 =>
 (boolK t33 fun b5 => bif b5 then
 (some (.ret (.int .i64 0), H5))
 else
 (iload false 1 cs2 2).bind fun t36 =>
 (ibin .gtr .no t36 (.int .i64 0)).bind fun t37 =>
 (boolK t37 fun b6 => bif b6 then
 (some (.ret (.int .i64 1), H5))
 else
 some (.norm ([] ++ []), H5)))) fun vs3 H6 =>
 some (.ret (.int .i64 2), H6)))
def F149 (N lim : Nat) (a0 : Value) (H : IHeap) : RV := B149 N (F220 N) (F221 N) (F222 N) lim a0 H
def G149 (N : Nat) : G := w1 (F149 N)
theorem eq149 (N : Nat) (g220 : RF1) (g221 : RF1) (g222 : RF1) (lim : Nat) (a0 : Value) (H : IHeap) : ifun Tryz.prog { fn := envOf [(220, Ideal.w1 g220), (221, Ideal.w1 g221), (222, Ideal.w1 g222)], wr := [] } { promo := [1, 3, 5], share := false } N (okOf Tryz.prog { promo := [1, 3, 5], share := false } []) Tryz.f149 (.seq (.region []) (.seq (.region []) (.seq (.seq (.region []) (.inl (.seq (.seq (.region []) (.seq (.region [[23]]) (.inl (.seq (.region []) .leaf) .leaf))) (.seq (.region []) .leaf)) .leaf)) (.seq (.block [] [] [] (.seq (.region [[32]]) (.inl (.seq (.region []) .leaf) (.seq (.region []) (.inl (.seq (.region []) .leaf) .leaf))))) (.seq (.region []) .leaf))))) lim [a0] H = B149 N g220 g221 g222 lim a0 H := by kernel_rfl
theorem sim149 (N : Nat) : SimF Tryz.prog 149 (G149 N) := by
  refine SimF.gen [(220, G220 N), (221, G221 N), (222, G222 N)] [] { promo := [1, 3, 5], share := false } N (.seq (.region []) (.seq (.region []) (.seq (.seq (.region []) (.inl (.seq (.seq (.region []) (.seq (.region [[23]]) (.inl (.seq (.region []) .leaf) .leaf))) (.seq (.region []) .leaf)) .leaf)) (.seq (.block [] [] [] (.seq (.region [[32]]) (.inl (.seq (.region []) .leaf) (.seq (.region []) (.inl (.seq (.region []) .leaf) .leaf))))) (.seq (.region []) .leaf))))) Tryz.func149 (by kernel_rfl) (by kernel_rfl) (env_cons (sim220 N) (env_cons (sim221 N) (env_cons (sim222 N) env_nil))) ?_
  intro lim args H r h
  unfold G149 w1 at h
  split at h
  · exact (eq149 N (F220 N) (F221 N) (F222 N) lim _ H).trans h
  · simp at h
/-- (*besom/task.Task).Next -/
def B87 (N : Nat) (g149 : RF1) (lim : Nat) (t0 : Value) (H : IHeap) : RV :=
 retK ((ibin .eql .ptr t0 (.pointer none)).bind fun t4 =>
 (boolK t4 fun b1 => bif b1 then
 (some (.ret (.int .i64 0), H))
 else
 (inilc t0).bind fun t6 =>
 (paddr 5 t6).bind fun t7 =>
 (hload true 2 H t7).bind fun t8 =>
 callK (g149 lim t8 H) fun t9 H1 =>
 some (.ret t9, H1)))
def F87 (N lim : Nat) (a0 : Value) (H : IHeap) : RV := B87 N (F149 N) lim a0 H
def G87 (N : Nat) : G := w1 (F87 N)
theorem eq87 (N : Nat) (g149 : RF1) (lim : Nat) (a0 : Value) (H : IHeap) : ifun Tryz.prog { fn := envOf [(149, Ideal.w1 g149)], wr := [] } { promo := [], share := false } N (okOf Tryz.prog { promo := [], share := false } []) Tryz.f87 (.seq (.region []) (.seq (.seq (.region []) (.inl (.seq (.region []) .leaf) .leaf)) (.seq (.region []) .leaf))) lim [a0] H = B87 N g149 lim a0 H := by kernel_rfl
theorem sim87 (N : Nat) : SimF Tryz.prog 87 (G87 N) := by
  refine SimF.gen [(149, G149 N)] [] { promo := [], share := false } N (.seq (.region []) (.seq (.seq (.region []) (.inl (.seq (.region []) .leaf) .leaf)) (.seq (.region []) .leaf))) Tryz.func87 (by kernel_rfl) (by kernel_rfl) (env_cons (sim149 N) env_nil) ?_
  intro lim args H r h
  unfold G87 w1 at h
  split at h
  · exact (eq87 N (F149 N) lim _ H).trans h
  · simp at h
/-- (*besom/task.Task).Depth -/
def B148 (N : Nat) (lim : Nat) (t0 : Value) (H : IHeap) : RV :=
 retK ((ibin .eql .ptr t0 (.pointer none)).bind fun t4 =>
 (boolK t4 fun b1 => bif b1 then
 (some (.ret (.int .i64 0), H))
 else
 (inilc t0).bind fun t6 =>
 (paddr 4 t6).bind fun t7 =>
 (hload false 1 H t7).bind fun t8 =>
 (ilenS t8).bind fun t9 =>
 some (.ret t9, H)))
def F148 (N lim : Nat) (a0 : Value) (H : IHeap) : RV := B148 N lim a0 H
def G148 (N : Nat) : G := w1 (F148 N)
theorem eq148 (N : Nat) (lim : Nat) (a0 : Value) (H : IHeap) : ifun Tryz.prog { fn := envOf [], wr := [] } { promo := [], share := false } N (okOf Tryz.prog { promo := [], share := false } []) Tryz.f148 (.seq (.region []) (.seq (.seq (.region []) (.inl (.seq (.region []) .leaf) .leaf)) (.seq (.region []) .leaf))) lim [a0] H = B148 N lim a0 H := by kernel_rfl
theorem sim148 (N : Nat) : SimF Tryz.prog 148 (G148 N) := by
  refine SimF.gen [] [] { promo := [], share := false } N (.seq (.region []) (.seq (.seq (.region []) (.inl (.seq (.region []) .leaf) .leaf)) (.seq (.region []) .leaf))) Tryz.func148 (by kernel_rfl) (by kernel_rfl) env_nil ?_
  intro lim args H r h
  unfold G148 w1 at h
  split at h
  · exact (eq148 N lim _ H).trans h
  · simp at h
/-- (*besom/task.Task).top -/
def B160 (N : Nat) (g148 : RF1) (lim : Nat) (t0 : Value) (H : IHeap) : RV :=
 retK (callK (g148 lim t0 H) fun t4 H1 =>
 (ibin .eql .no t4 (.int .i64 0)).bind fun t5 =>
 (boolK t5 fun b1 => bif b1 then
 (some (.ret (.pointer none), H1))
 else
 (inilc t0).bind fun t7 =>
 (paddr 4 t7).bind fun t8 =>
 (hload false 1 H1 t8).bind fun t9 =>
 (inilc t0).bind fun t11 =>
 (paddr 4 t11).bind fun t12 =>
 (hload false 1 H1 t12).bind fun t13 =>
 (ilenS t13).bind fun t14 =>
 (ibin .sub .no t14 (.int .i64 1)).bind fun t15 =>
 (iidx 5 t9 t15).bind fun t16 =>
 some (.ret t16, H1)))
def F160 (N lim : Nat) (a0 : Value) (H : IHeap) : RV := B160 N (F148 N) lim a0 H
def G160 (N : Nat) : G := w1 (F160 N)
theorem eq160 (N : Nat) (g148 : RF1) (lim : Nat) (a0 : Value) (H : IHeap) : ifun Tryz.prog { fn := envOf [(148, Ideal.w1 g148)], wr := [] } { promo := [], share := false } N (okOf Tryz.prog { promo := [], share := false } []) Tryz.f160 (.seq (.region []) (.seq (.seq (.region []) (.inl (.seq (.region []) .leaf) .leaf)) (.seq (.region []) .leaf))) lim [a0] H = B160 N g148 lim a0 H := by kernel_rfl
theorem sim160 (N : Nat) : SimF Tryz.prog 160 (G160 N) := by
  refine SimF.gen [(148, G148 N)] [] { promo := [], share := false } N (.seq (.region []) (.seq (.seq (.region []) (.inl (.seq (.region []) .leaf) .leaf)) (.seq (.region []) .leaf))) Tryz.func160 (by kernel_rfl) (by kernel_rfl) (env_cons (sim148 N) env_nil) ?_
  intro lim args H r h
  unfold G160 w1 at h
  split at h
  · exact (eq160 N (F148 N) lim _ H).trans h
  · simp at h
/-- (*besom/task.Task).Fn -/
def B91 (N : Nat) (g160 : RF1) (lim : Nat) (t0 : Value) (H : IHeap) : RV :=
 retK (callK (g160 lim t0 H) fun t5 H1 =>
 (ibin .neq .ptr t5 (.pointer none)).bind fun t7 =>
 (boolK t7 fun b1 => bif b1 then
 ((inilc t5).bind fun t9 =>
 (paddr 0 t9).bind fun t10 =>
 (hload false 1 H1 t10).bind fun t11 =>
 some (.ret t11, H1))
 else
 some (.ret (.int .i64 0), H1)))
def F91 (N lim : Nat) (a0 : Value) (H : IHeap) : RV := B91 N (F160 N) lim a0 H
def G91 (N : Nat) : G := w1 (F91 N)
theorem eq91 (N : Nat) (g160 : RF1) (lim : Nat) (a0 : Value) (H : IHeap) : ifun Tryz.prog { fn := envOf [(160, Ideal.w1 g160)], wr := [] } { promo := [], share := false } N (okOf Tryz.prog { promo := [], share := false } []) Tryz.f91 (.seq (.region []) (.seq (.seq (.region []) (.seq (.region []) (.inl (.seq (.region []) .leaf) .leaf))) (.seq (.region []) .leaf))) lim [a0] H = B91 N g160 lim a0 H := by kernel_rfl
theorem sim91 (N : Nat) : SimF Tryz.prog 91 (G91 N) := by
  refine SimF.gen [(160, G160 N)] [] { promo := [], share := false } N (.seq (.region []) (.seq (.seq (.region []) (.seq (.region []) (.inl (.seq (.region []) .leaf) .leaf))) (.seq (.region []) .leaf))) Tryz.func91 (by kernel_rfl) (by kernel_rfl) (env_cons (sim160 N) env_nil) ?_
  intro lim args H r h
  unfold G91 w1 at h
  split at h
  · exact (eq91 N (F160 N) lim _ H).trans h
  · simp at h
/-- (*besom/task.Task).Pc -/
def B92 (N : Nat) (g160 : RF1) (lim : Nat) (t0 : Value) (H : IHeap) : RV :=
 retK (callK (g160 lim t0 H) fun t5 H1 =>
 (ibin .neq .ptr t5 (.pointer none)).bind fun t7 =>
 (boolK t7 fun b1 => bif b1 then
 ((inilc t5).bind fun t9 =>
 (paddr 1 t9).bind fun t10 =>
 (hload false 1 H1 t10).bind fun t11 =>
 some (.ret t11, H1))
 else
 some (.ret (.int .i64 0), H1)))
def F92 (N lim : Nat) (a0 : Value) (H : IHeap) : RV := B92 N (F160 N) lim a0 H
def G92 (N : Nat) : G := w1 (F92 N)
theorem eq92 (N : Nat) (g160 : RF1) (lim : Nat) (a0 : Value) (H : IHeap) : ifun Tryz.prog { fn := envOf [(160, Ideal.w1 g160)], wr := [] } { promo := [], share := false } N (okOf Tryz.prog { promo := [], share := false } []) Tryz.f92 (.seq (.region []) (.seq (.seq (.region []) (.seq (.region []) (.inl (.seq (.region []) .leaf) .leaf))) (.seq (.region []) .leaf))) lim [a0] H = B92 N g160 lim a0 H := by kernel_rfl
theorem sim92 (N : Nat) : SimF Tryz.prog 92 (G92 N) := by
  refine SimF.gen [(160, G160 N)] [] { promo := [], share := false } N (.seq (.region []) (.seq (.seq (.region []) (.seq (.region []) (.inl (.seq (.region []) .leaf) .leaf))) (.seq (.region []) .leaf))) Tryz.func92 (by kernel_rfl) (by kernel_rfl) (env_cons (sim160 N) env_nil) ?_
  intro lim args H r h
  unfold G92 w1 at h
  split at h
  · exact (eq92 N (F160 N) lim _ H).trans h
  · simp at h
/-- besom/mutator.At -/
def B85 (N : Nat) (g87 : RF1) (g91 : RF1) (g92 : RF1) (g148 : RF1) (lim : Nat) (p0 t1 : Value) (H : IHeap) : RV :=
 retK ((cellsOf true 3 p0).bind fun cs1 =>
 callK (g148 lim t1 H) fun t7 H1 =>
 (ibin .eql .no t7 (.int .i64 0)).bind fun t8 =>
 (gval false t8).bind fun w1 => grpK (bif w1 then
 (callK (g87 lim t1 H1) fun t11 H3 =>
 (ibin .neq .no t11 (.int .i64 0)).bind fun t12 =>
 some ([t12], H3))
 else some ([Value.tuple #[]], H1)) fun vs1 H2 =>
 (pickK t8 (.bool true) (nthV 0 vs1)).bind fun t13 =>
 (boolK t13 fun b2 => bif b2 then
 ((istore true 4 [(.int .i64 0), (.int .i64 0), (.int .i64 0), (.int .i64 0)] 0 (.agg ⟨[(.int .i64 0), (.int .i64 0), (.int .i64 0), (.int .i64 0)]⟩)).bind fun cs2 =>
 (iload true 4 cs2 0).bind fun r1 =>
 some (.ret (.tuple ⟨[r1, (.bool false)]⟩), H2))
 else
 (iload false 1 cs1 2).bind fun t16 =>
 callK (g91 lim t1 H2) fun t18 H4 =>
 (iidx 5 t16 t18).bind fun t19 =>
 (paddr 4 t19).bind fun t20 =>
 (hload false 1 H4 t20).bind fun t21 =>
 callK (g92 H4.next t1 H4) fun t23 H5 =>
 (iidx 4 t21 t23).bind fun t24 =>
 (hload true 4 H5 t24).bind fun t25 =>
 (istore true 4 [(.int .i64 0), (.int .i64 0), (.int .i64 0), (.int .i64 0)] 0 t25).bind fun cs3 =>
 (iload true 4 cs3 0).bind fun r2 =>
 some (.ret (.tuple ⟨[r2, (.bool true)]⟩), H5)))
def F85 (N lim : Nat) (a0 a1 : Value) (H : IHeap) : RV := B85 N (F87 N) (F91 N) (F92 N) (F148 N) lim a0 a1 H
def G85 (N : Nat) : G := w2 (F85 N)
theorem eq85 (N : Nat) (g87 : RF1) (g91 : RF1) (g92 : RF1) (g148 : RF1) (lim : Nat) (a0 a1 : Value) (H : IHeap) : ifun Tryz.prog { fn := envOf [(87, Ideal.w1 g87), (91, Ideal.w1 g91), (92, Ideal.w1 g92), (148, Ideal.w1 g148)], wr := [91] } { promo := [2, 4], share := false } N (okOf Tryz.prog { promo := [2, 4], share := false } [91]) Tryz.f85 (.seq (.region []) (.seq (.seq (.region [[12]]) (.inl (.seq (.region []) .leaf) .leaf)) (.seq (.region []) .leaf))) lim [a0, a1] H = B85 N g87 g91 g92 g148 lim a0 a1 H := by kernel_rfl
theorem sim85 (N : Nat) : SimF Tryz.prog 85 (G85 N) := by
  refine SimF.gen [(87, G87 N), (91, G91 N), (92, G92 N), (148, G148 N)] [91] { promo := [2, 4], share := false } N (.seq (.region []) (.seq (.seq (.region [[12]]) (.inl (.seq (.region []) .leaf) .leaf)) (.seq (.region []) .leaf))) Tryz.func85 (by kernel_rfl) (by kernel_rfl) (env_cons (sim87 N) (env_cons (sim91 N) (env_cons (sim92 N) (env_cons (sim148 N) env_nil)))) ?_
  intro lim args H r h
  unfold G85 w2 at h
  split at h
  · exact (eq85 N (F87 N) (F91 N) (F92 N) (F148 N) lim _ _ H).trans h
  · simp at h
/-- besom/instr.Safe -/
def B86 (N : Nat) (lim : Nat) (op0 : Value) (H : IHeap) : RV :=
 retK (catchK 0 ((ibin .eql .no op0 (.int .i64 13)).bind fun t5 =>
 joinK (boolK t5 fun b1 => bif b1 then
 (some (.norm ([t5] ++ []), H))
 else
 (ibin .eql .no op0 (.int .i64 21)).bind fun t6 =>
 joinK (boolK t6 fun b2 => bif b2 then
 (some (.norm ([t6] ++ []), H))
 else
 (ibin .eql .no op0 (.int .i64 9)).bind fun t7 =>
 joinK (boolK t7 fun b3 => bif b3 then
 (some (.norm ([t7] ++ []), H))
 else
 (ibin .eql .no op0 (.int .i64 10)).bind fun t8 =>
 joinK (boolK t8 fun b4 => bif b4 then
 (some (.norm ([t8] ++ []), H))
 else
 (ibin .eql .no op0 (.int .i64 28)).bind fun t9 =>
 joinK (boolK t9 fun b5 => bif b5 then
 (some (.norm ([t9] ++ []), H))
 else
 (ibin .eql .no op0 (.int .i64 22)).bind fun t10 =>
 some (.norm ([t10] ++ []), H)) fun vs1 H1 =>
 some (.norm ([(nthV 0 vs1)] ++ []), H1)) fun vs2 H2 =>
 some (.norm ([(nthV 0 vs2)] ++ []), H2)) fun vs3 H3 =>
 some (.norm ([(nthV 0 vs3)] ++ []), H3)) fun vs4 H4 =>
 some (.norm ([(nthV 0 vs4)] ++ []), H4)) fun vs5 H5 =>
 (boolK (nthV 0 vs5) fun b6 => bif b6 then
 (some (.ret (.bool true), H5))
 else
 some (.norm ([] ++ []), H5))) fun vs6 H6 =>
 some (.ret (.bool false), H6))
def F86 (N lim : Nat) (a0 : Value) (H : IHeap) : RV := B86 N lim a0 H
def G86 (N : Nat) : G := w1 (F86 N)
theorem eq86 (N : Nat) (lim : Nat) (a0 : Value) (H : IHeap) : ifun Tryz.prog { fn := envOf [], wr := [] } { promo := [], share := false } N (okOf Tryz.prog { promo := [], share := false } []) Tryz.f86 (.seq (.region []) (.seq (.seq (.region []) (.block [] [] [] (.seq (.seq (.region []) (.join [4] [] [] .leaf (.seq (.region []) (.join [4] [] [] .leaf (.seq (.region []) (.join [4] [] [] .leaf (.seq (.region []) (.join [4] [] [] .leaf (.seq (.region []) (.join [4] [] [] .leaf (.region []))))))))))) (.inl (.seq (.region []) .leaf) .leaf)))) (.seq (.region []) .leaf))) lim [a0] H = B86 N lim a0 H := by kernel_rfl
theorem sim86 (N : Nat) : SimF Tryz.prog 86 (G86 N) := by
  refine SimF.gen [] [] { promo := [], share := false } N (.seq (.region []) (.seq (.seq (.region []) (.block [] [] [] (.seq (.seq (.region []) (.join [4] [] [] .leaf (.seq (.region []) (.join [4] [] [] .leaf (.seq (.region []) (.join [4] [] [] .leaf (.seq (.region []) (.join [4] [] [] .leaf (.seq (.region []) (.join [4] [] [] .leaf (.region []))))))))))) (.inl (.seq (.region []) .leaf) .leaf)))) (.seq (.region []) .leaf))) Tryz.func86 (by kernel_rfl) (by kernel_rfl) env_nil ?_
  intro lim args H r h
  unfold G86 w1 at h
  split at h
  · exact (eq86 N lim _ H).trans h
  · simp at h
/-- besom/mutator.Safe -/
def B38 (N : Nat) (g85 : RF2) (g86 : RF1) (lim : Nat) (p0 t1 : Value) (H : IHeap) : RV :=
 retK ((cellsOf true 3 p0).bind fun cs1 =>
 (iload true 3 cs1 0).bind fun t8 =>
 callK (g85 lim t8 t1 H) fun t10 H1 =>
 (iextract 0 t10).bind fun t11 =>
 (iextract 1 t10).bind fun t12 =>
 (istore true 4 [(.int .i64 0), (.int .i64 0), (.int .i64 0), (.int .i64 0)] 0 t11).bind fun cs2 =>
 (iun .not t12).bind fun t14 =>
 (gval false t14).bind fun w1 => grpK (bif w1 then
 ((iload false 1 cs2 0).bind fun t17 =>
 callK (g86 lim t17 H1) fun t18 H3 =>
 some ([t18], H3))
 else some ([Value.tuple #[]], H1)) fun vs1 H2 =>
 (pickK t14 (.bool true) (nthV 0 vs1)).bind fun t19 =>
 some (.ret t19, H2))
def F38 (N lim : Nat) (a0 a1 : Value) (H : IHeap) : RV := B38 N (F85 N) (F86 N) lim a0 a1 H
def G38 (N : Nat) : G := w2 (F38 N)
theorem eq38 (N : Nat) (g85 : RF2) (g86 : RF1) (lim : Nat) (a0 a1 : Value) (H : IHeap) : ifun Tryz.prog { fn := envOf [(85, Ideal.w2 g85), (86, Ideal.w1 g86)], wr := [] } { promo := [2, 5], share := false } N (okOf Tryz.prog { promo := [2, 5], share := false } []) Tryz.f38 (.seq (.region []) (.seq (.region []) (.seq (.region [[18]]) .leaf))) lim [a0, a1] H = B38 N g85 g86 lim a0 a1 H := by kernel_rfl
theorem sim38 (N : Nat) : SimF Tryz.prog 38 (G38 N) := by
  refine SimF.gen [(85, G85 N), (86, G86 N)] [] { promo := [2, 5], share := false } N (.seq (.region []) (.seq (.region []) (.seq (.region [[18]]) .leaf))) Tryz.func38 (by kernel_rfl) (by kernel_rfl) (env_cons (sim85 N) (env_cons (sim86 N) env_nil)) ?_
  intro lim args H r h
  unfold G38 w2 at h
  split at h
  · exact (eq38 N (F85 N) (F86 N) lim _ _ H).trans h
  · simp at h
/-- (*besom/stack.Stack).Words -/
def B96 (N : Nat) (lim : Nat) (s0 : Value) (H : IHeap) : RV :=
 retK ((ibin .eql .ptr s0 (.pointer none)).bind fun t4 =>
 (boolK t4 fun b1 => bif b1 then
 (some (.ret (.int .i64 0), H))
 else
 (inilc s0).bind fun t6 =>
 (paddr 1 t6).bind fun t7 =>
 (hload false 1 H t7).bind fun t8 =>
 (ilenS t8).bind fun t9 =>
 some (.ret t9, H)))
def F96 (N lim : Nat) (a0 : Value) (H : IHeap) : RV := B96 N lim a0 H
def G96 (N : Nat) : G := w1 (F96 N)
theorem eq96 (N : Nat) (lim : Nat) (a0 : Value) (H : IHeap) : ifun Tryz.prog { fn := envOf [], wr := [] } { promo := [], share := false } N (okOf Tryz.prog { promo := [], share := false } []) Tryz.f96 (.seq (.region []) (.seq (.seq (.region []) (.inl (.seq (.region []) .leaf) .leaf)) (.seq (.region []) .leaf))) lim [a0] H = B96 N lim a0 H := by kernel_rfl
theorem sim96 (N : Nat) : SimF Tryz.prog 96 (G96 N) := by
  refine SimF.gen [] [] { promo := [], share := false } N (.seq (.region []) (.seq (.seq (.region []) (.inl (.seq (.region []) .leaf) .leaf)) (.seq (.region []) .leaf))) Tryz.func96 (by kernel_rfl) (by kernel_rfl) env_nil ?_
  intro lim args H r h
  unfold G96 w1 at h
  split at h
  · exact (eq96 N lim _ H).trans h
  · simp at h
/-- (*besom/task.Task).Cap -/
def B43 (N : Nat) (g96 : RF1) (lim : Nat) (t0 : Value) (H : IHeap) : RV :=
 retK ((ibin .eql .ptr t0 (.pointer none)).bind fun t4 =>
 (boolK t4 fun b1 => bif b1 then
 (some (.ret (.int .i64 0), H))
 else
 (inilc t0).bind fun t6 =>
 (paddr 3 t6).bind fun t7 =>
 (hload false 1 H t7).bind fun t8 =>
 callK (g96 lim t8 H) fun t9 H1 =>
 some (.ret t9, H1)))
def F43 (N lim : Nat) (a0 : Value) (H : IHeap) : RV := B43 N (F96 N) lim a0 H
def G43 (N : Nat) : G := w1 (F43 N)
theorem eq43 (N : Nat) (g96 : RF1) (lim : Nat) (a0 : Value) (H : IHeap) : ifun Tryz.prog { fn := envOf [(96, Ideal.w1 g96)], wr := [] } { promo := [], share := false } N (okOf Tryz.prog { promo := [], share := false } []) Tryz.f43 (.seq (.region []) (.seq (.seq (.region []) (.inl (.seq (.region []) .leaf) .leaf)) (.seq (.region []) .leaf))) lim [a0] H = B43 N g96 lim a0 H := by kernel_rfl
theorem sim43 (N : Nat) : SimF Tryz.prog 43 (G43 N) := by
  refine SimF.gen [(96, G96 N)] [] { promo := [], share := false } N (.seq (.region []) (.seq (.seq (.region []) (.inl (.seq (.region []) .leaf) .leaf)) (.seq (.region []) .leaf))) Tryz.func43 (by kernel_rfl) (by kernel_rfl) (env_cons (sim96 N) env_nil) ?_
  intro lim args H r h
  unfold G43 w1 at h
  split at h
  · exact (eq43 N (F96 N) lim _ H).trans h
  · simp at h
/-- (*besom/stack.Stack).Base -/
def B150 (N : Nat) (lim : Nat) (s0 : Value) (H : IHeap) : RV :=
 retK ((ibin .eql .ptr s0 (.pointer none)).bind fun t4 =>
 (boolK t4 fun b1 => bif b1 then
 (some (.ret (.int .i64 0), H))
 else
 (inilc s0).bind fun t6 =>
 (paddr 0 t6).bind fun t7 =>
 (hload false 1 H t7).bind fun t8 =>
 some (.ret t8, H)))
def F150 (N lim : Nat) (a0 : Value) (H : IHeap) : RV := B150 N lim a0 H
def G150 (N : Nat) : G := w1 (F150 N)
theorem eq150 (N : Nat) (lim : Nat) (a0 : Value) (H : IHeap) : ifun Tryz.prog { fn := envOf [], wr := [] } { promo := [], share := false } N (okOf Tryz.prog { promo := [], share := false } []) Tryz.f150 (.seq (.region []) (.seq (.seq (.region []) (.inl (.seq (.region []) .leaf) .leaf)) (.seq (.region []) .leaf))) lim [a0] H = B150 N lim a0 H := by kernel_rfl
theorem sim150 (N : Nat) : SimF Tryz.prog 150 (G150 N) := by
  refine SimF.gen [] [] { promo := [], share := false } N (.seq (.region []) (.seq (.seq (.region []) (.inl (.seq (.region []) .leaf) .leaf)) (.seq (.region []) .leaf))) Tryz.func150 (by kernel_rfl) (by kernel_rfl) env_nil ?_
  intro lim args H r h
  unfold G150 w1 at h
  split at h
  · exact (eq150 N lim _ H).trans h
  · simp at h
/-- slices.Clone[[]besom/api.Alarm,besom/api.Alarm] -/
def B151 (N : Nat) (lim : Nat) (s0 : Value) (H : IHeap) : RV :=
 retK ((ibin .eql .slice s0 (.slice none 0 0)).bind fun t4 =>
 (boolK t4 fun b1 => bif b1 then
 (some (.ret (.slice none 0 0), H))
 else
 rowK (hrow 5 (H.push (.cells [] 0)) s0) fun m1 new1 =>
 callK (iappend false 5 32 lim (H.push (.cells [] 0)) (slc 5 H.next 0 0 1) m1 new1) fun t7 H1 =>
 some (.ret t7, H1)))
def F151 (N lim : Nat) (a0 : Value) (H : IHeap) : RV := B151 N lim a0 H
def G151 (N : Nat) : G := w1 (F151 N)
theorem eq151 (N : Nat) (lim : Nat) (a0 : Value) (H : IHeap) : ifun Tryz.prog { fn := envOf [], wr := [] } { promo := [], share := false } N (okOf Tryz.prog { promo := [], share := false } []) Tryz.f151 (.seq (.region []) (.seq (.seq (.region []) (.inl (.seq (.region []) .leaf) .leaf)) (.seq (.region []) .leaf))) lim [a0] H = B151 N lim a0 H := by kernel_rfl
theorem sim151 (N : Nat) : SimF Tryz.prog 151 (G151 N) := by
  refine SimF.gen [] [] { promo := [], share := false } N (.seq (.region []) (.seq (.seq (.region []) (.inl (.seq (.region []) .leaf) .leaf)) (.seq (.region []) .leaf))) Tryz.func151 (by kernel_rfl) (by kernel_rfl) env_nil ?_
  intro lim args H r h
  unfold G151 w1 at h
  split at h
  · exact (eq151 N lim _ H).trans h
  · simp at h
/-- (*besom/task.Task).Life -/
def B88 (N : Nat) (g43 : RF1) (g150 : RF1) (g151 : RF1) (lim : Nat) (t0 : Value) (H : IHeap) : RV :=
 retK ((ibin .eql .ptr t0 (.pointer none)).bind fun t10 =>
 (boolK t10 fun b1 => bif b1 then
 ((istore true 7 [(.int .i64 0), (.int .i64 0), (.int .i64 0), (.slice none 0 0), (.slice none 0 0), (.slice none 0 0), (.bool false)] 0 (.agg ⟨[(.int .i64 0), (.int .i64 0), (.int .i64 0), (.slice none 0 0), (.slice none 0 0), (.slice none 0 0), (.bool false)]⟩)).bind fun cs1 =>
 (iload true 7 cs1 0).bind fun r1 =>
 some (.ret r1, H))
 else
 (inilc t0).bind fun t13 =>
 (paddr 3 t13).bind fun t14 =>
 (hload false 1 H t14).bind fun t15 =>
 callK (g150 H.next t15 H) fun t16 H1 =>
 callK (g43 H1.next t0 H1) fun t18 H2 =>
 (inilc t0).bind fun t20 =>
 (paddr 5 t20).bind fun t21 =>
 (paddr 1 t21).bind fun t22 =>
 (hload false 1 H2 t22).bind fun t23 =>
 callK (g151 lim t23 H2) fun t24 H3 =>
 (istore false 1 [(.int .i64 0), (.int .i64 0), (.int .i64 0), (.slice none 0 0), (.slice none 0 0), (.slice none 0 0), (.bool false)] 1 t16).bind fun cs2 =>
 (istore false 1 cs2 2 t18).bind fun cs3 =>
 (istore false 1 cs3 5 t24).bind fun cs4 =>
 (istore true 7 [(.int .i64 0), (.int .i64 0), (.int .i64 0), (.slice none 0 0), (.slice none 0 0), (.slice none 0 0), (.bool false)] 0 (.agg ⟨cs4⟩)).bind fun cs5 =>
 (inilc t0).bind fun t27 =>
 (paddr 4 t27).bind fun t28 =>
 (hload false 1 H3 t28).bind fun t29 =>
 (ilenS t29).bind fun t30 =>
 catchK 0 (iloop (fun vs1 H4 =>
 (ibin .lss .no (nthV 0 vs1) t30).bind fun t32 =>
 (boolK t32 fun b2 => bif b2 then
 (catchK 1 ((iidx 5 t29 (nthV 0 vs1)).bind fun t34 =>
 (hload true 5 H4 t34).bind fun t35 =>
 (istore true 5 [(.int .i64 0), (.int .i64 0), (.int .i64 0), (.int .i64 0), (.slice none 0 0)] 0 t35).bind fun cs6 =>
 (aggs (nthV 0 (vs1.drop 1))).bind fun cs7 =>
 (iload false 1 cs7 3).bind fun t37 =>
 none) fun vs2 H5 =>
 (ibin .add .no (nthV 0 vs1) (.int .i64 1)).bind fun t67 =>
 (aggs (nthV 0 (vs2.drop 0))).bind fun cs8 =>
 some (.norm ([t67] ++ [.agg ⟨cs8⟩]), H5))
 else
 (aggs (nthV 0 (vs1.drop 1))).bind fun cs9 =>
 some (.exit 0 ([] ++ [.agg ⟨cs9⟩]), H4))) N ([(.int .i64 0)] ++ [.agg ⟨cs5⟩]) H3) fun vs3 H6 =>
 (aggs (nthV 0 (vs3.drop 0))).bind fun cs10 =>
 (iload true 7 cs10 0).bind fun t68 =>
 (istore true 7 [(.int .i64 0), (.int .i64 0), (.int .i64 0), (.slice none 0 0), (.slice none 0 0), (.slice none 0 0), (.bool false)] 0 t68).bind fun cs11 =>
 (iload true 7 cs11 0).bind fun r2 =>
 some (.ret r2, H6)))
def F88 (N lim : Nat) (a0 : Value) (H : IHeap) : RV := B88 N (F43 N) (F150 N) (F151 N) lim a0 H
def G88 (N : Nat) : G := w1 (F88 N)
theorem eq88 (N : Nat) (g43 : RF1) (g150 : RF1) (g151 : RF1) (lim : Nat) (a0 : Value) (H : IHeap) : ifun Tryz.prog { fn := envOf [(43, Ideal.w1 g43), (150, Ideal.w1 g150), (151, Ideal.w1 g151)], wr := [30, 151, 152] } { promo := [2, 3, 5, 8, 41, 58, 64], share := false } N (okOf Tryz.prog { promo := [2, 3, 5, 8, 41, 58, 64], share := false } [30, 151, 152]) Tryz.f88 (.seq (.region []) (.seq (.seq (.region []) (.inl (.seq (.region []) .leaf) .leaf)) (.seq (.region []) (.seq (.seq (.region []) (.block [] [3] [3, 5, 8, 41, 58, 64] (.loop [31] [3] [3, 5, 8, 41, 58, 64] (.seq (.region []) (.seq (.inl .leaf .leaf) (.seq (.block [] [3] [3, 5, 8, 41, 58, 64] (.seq (.region []) (.seq (.region []) (.seq (.region []) (.seq (.seq (.region []) (.block [6] [] [8, 58] (.loop [6, 47] [] [8, 58] (.seq (.region []) (.seq (.inl .leaf .leaf) (.seq (.block [6] [] [8, 58] (.seq (.region []) (.region []))) (.region []))))))) (.region [])))))) (.region []))))))) (.seq (.region []) .leaf))))) lim [a0] H = B88 N g43 g150 g151 lim a0 H := by kernel_rfl
theorem sim88 (N : Nat) : SimF Tryz.prog 88 (G88 N) := by
  refine SimF.gen [(43, G43 N), (150, G150 N), (151, G151 N)] [30, 151, 152] { promo := [2, 3, 5, 8, 41, 58, 64], share := false } N (.seq (.region []) (.seq (.seq (.region []) (.inl (.seq (.region []) .leaf) .leaf)) (.seq (.region []) (.seq (.seq (.region []) (.block [] [3] [3, 5, 8, 41, 58, 64] (.loop [31] [3] [3, 5, 8, 41, 58, 64] (.seq (.region []) (.seq (.inl .leaf .leaf) (.seq (.block [] [3] [3, 5, 8, 41, 58, 64] (.seq (.region []) (.seq (.region []) (.seq (.region []) (.seq (.seq (.region []) (.block [6] [] [8, 58] (.loop [6, 47] [] [8, 58] (.seq (.region []) (.seq (.inl .leaf .leaf) (.seq (.block [6] [] [8, 58] (.seq (.region []) (.region []))) (.region []))))))) (.region [])))))) (.region []))))))) (.seq (.region []) .leaf))))) Tryz.func88 (by kernel_rfl) (by kernel_rfl) (env_cons (sim43 N) (env_cons (sim150 N) (env_cons (sim151 N) env_nil))) ?_
  intro lim args H r h
  unfold G88 w1 at h
  split at h
  · exact (eq88 N (F43 N) (F150 N) (F151 N) lim _ H).trans h
  · simp at h
/-- (*besom/task.Task).Value -/
def B155 (N : Nat) (g148 : RF1) (lim : Nat) (t0 : Value) (H : IHeap) : RV :=
 retK ((ibin .eql .ptr t0 (.pointer none)).bind fun t7 =>
 (boolK t7 fun b1 => bif b1 then
 (some (.ret (.tuple ⟨[(.int .i64 0), (.bool false)]⟩), H))
 else
 (inilc t0).bind fun t10 =>
 (paddr 7 t10).bind fun t11 =>
 (hload false 1 H t11).bind fun t12 =>
 callK (g148 H.next t0 H) fun t14 H1 =>
 (ibin .sub .no t14 (.int .i64 1)).bind fun t15 =>
 (istore false 1 [(.int .i64 0), (.int .i64 0)] 0 t15).bind fun cs1 =>
 (istore false 1 cs1 1 (.int .i64 0)).bind fun cs2 =>
 (ilookup 3 (.int .i64 0) true H1 t12 (.agg ⟨cs2⟩)).bind fun t17 =>
 (iextract 0 t17).bind fun t18 =>
 (iextract 1 t17).bind fun t19 =>
 some (.ret (.tuple ⟨[t18, t19]⟩), H1)))
def F155 (N lim : Nat) (a0 : Value) (H : IHeap) : RV := B155 N (F148 N) lim a0 H
def G155 (N : Nat) : G := w1 (F155 N)
theorem eq155 (N : Nat) (g148 : RF1) (lim : Nat) (a0 : Value) (H : IHeap) : ifun Tryz.prog { fn := envOf [(148, Ideal.w1 g148)], wr := [] } { promo := [], share := false } N (okOf Tryz.prog { promo := [], share := false } []) Tryz.f155 (.seq (.region []) (.seq (.seq (.region []) (.inl (.seq (.region []) .leaf) .leaf)) (.seq (.region []) (.seq (.region []) .leaf)))) lim [a0] H = B155 N g148 lim a0 H := by kernel_rfl
theorem sim155 (N : Nat) : SimF Tryz.prog 155 (G155 N) := by
  refine SimF.gen [(148, G148 N)] [] { promo := [], share := false } N (.seq (.region []) (.seq (.seq (.region []) (.inl (.seq (.region []) .leaf) .leaf)) (.seq (.region []) (.seq (.region []) .leaf)))) Tryz.func155 (by kernel_rfl) (by kernel_rfl) (env_cons (sim148 N) env_nil) ?_
  intro lim args H r h
  unfold G155 w1 at h
  split at h
  · exact (eq155 N (F148 N) lim _ H).trans h
  · simp at h
/-- (*besom/task.Task).Deferred -/
def B157 (N : Nat) (g148 : RF1) (lim : Nat) (t0 : Value) (H : IHeap) : RV :=
 retK (callK (g148 H.next t0 H) fun t4 H1 =>
 (ibin .gtr .no t4 (.int .i64 0)).bind fun t5 =>
 (gval true t5).bind fun w1 => grpK (bif w1 then
 ((inilc t0).bind fun t8 =>
 (paddr 5 t8).bind fun t9 =>
 (paddr 0 t9).bind fun t10 =>
 (hload false 1 H1 t10).bind fun t11 =>
 callK (g148 H1.next t0 H1) fun t13 H3 =>
 (ibin .sub .no t13 (.int .i64 1)).bind fun t14 =>
 (iidx 3 t11 t14).bind fun t15 =>
 (paddr 1 t15).bind fun t16 =>
 (hload false 1 H3 t16).bind fun t17 =>
 some ([t17], H3))
 else some ([Value.tuple #[]], H1)) fun vs1 H2 =>
 (pickK t5 (nthV 0 vs1) (.bool false)).bind fun t18 =>
 some (.ret t18, H2))
def F157 (N lim : Nat) (a0 : Value) (H : IHeap) : RV := B157 N (F148 N) lim a0 H
def G157 (N : Nat) : G := w1 (F157 N)
theorem eq157 (N : Nat) (g148 : RF1) (lim : Nat) (a0 : Value) (H : IHeap) : ifun Tryz.prog { fn := envOf [(148, Ideal.w1 g148)], wr := [] } { promo := [], share := false } N (okOf Tryz.prog { promo := [], share := false } []) Tryz.f157 (.seq (.region []) (.seq (.region [[17]]) .leaf)) lim [a0] H = B157 N g148 lim a0 H := by kernel_rfl
theorem sim157 (N : Nat) : SimF Tryz.prog 157 (G157 N) := by
  refine SimF.gen [(148, G148 N)] [] { promo := [], share := false } N (.seq (.region []) (.seq (.region [[17]]) .leaf)) Tryz.func157 (by kernel_rfl) (by kernel_rfl) (env_cons (sim148 N) env_nil) ?_
  intro lim args H r h
  unfold G157 w1 at h
  split at h
  · exact (eq157 N (F148 N) lim _ H).trans h
  · simp at h
/-- slices.Clone[[]besom/unwind.Mark,besom/unwind.Mark] -/
def B311 (N : Nat) (lim : Nat) (s0 : Value) (H : IHeap) : RV :=
 retK ((ibin .eql .slice s0 (.slice none 0 0)).bind fun t4 =>
 (boolK t4 fun b1 => bif b1 then
 (some (.ret (.slice none 0 0), H))
 else
 rowK (hrow 3 (H.push (.cells [] 0)) s0) fun m1 new1 =>
 callK (iappend false 3 16 lim (H.push (.cells [] 0)) (slc 3 H.next 0 0 1) m1 new1) fun t7 H1 =>
 some (.ret t7, H1)))
def F311 (N lim : Nat) (a0 : Value) (H : IHeap) : RV := B311 N lim a0 H
def G311 (N : Nat) : G := w1 (F311 N)
theorem eq311 (N : Nat) (lim : Nat) (a0 : Value) (H : IHeap) : ifun Tryz.prog { fn := envOf [], wr := [] } { promo := [], share := false } N (okOf Tryz.prog { promo := [], share := false } []) Tryz.f311 (.seq (.region []) (.seq (.seq (.region []) (.inl (.seq (.region []) .leaf) .leaf)) (.seq (.region []) .leaf))) lim [a0] H = B311 N lim a0 H := by kernel_rfl
theorem sim311 (N : Nat) : SimF Tryz.prog 311 (G311 N) := by
  refine SimF.gen [] [] { promo := [], share := false } N (.seq (.region []) (.seq (.seq (.region []) (.inl (.seq (.region []) .leaf) .leaf)) (.seq (.region []) .leaf))) Tryz.func311 (by kernel_rfl) (by kernel_rfl) env_nil ?_
  intro lim args H r h
  unfold G311 w1 at h
  split at h
  · exact (eq311 N lim _ H).trans h
  · simp at h
/-- (besom/unwind.State).own -/
def B276 (N : Nat) (g151 : RF1) (g311 : RF1) (lim : Nat) (s0 : Value) (H : IHeap) : RV :=
 retK ((cellsOf true 2 s0).bind fun cs1 =>
 (iload false 1 cs1 0).bind fun t4 =>
 callK (g311 lim t4 H) fun t5 H1 =>
 (iload false 1 cs1 1).bind fun t7 =>
 callK (g151 lim t7 H1) fun t8 H2 =>
 (istore false 1 [(.slice none 0 0), (.slice none 0 0)] 0 t5).bind fun cs2 =>
 (istore false 1 cs2 1 t8).bind fun cs3 =>
 (istore true 2 [(.slice none 0 0), (.slice none 0 0)] 0 (.agg ⟨cs3⟩)).bind fun cs4 =>
 (iload true 2 cs4 0).bind fun r1 =>
 some (.ret r1, H2))
def F276 (N lim : Nat) (a0 : Value) (H : IHeap) : RV := B276 N (F151 N) (F311 N) lim a0 H
def G276 (N : Nat) : G := w1 (F276 N)
theorem eq276 (N : Nat) (g151 : RF1) (g311 : RF1) (lim : Nat) (a0 : Value) (H : IHeap) : ifun Tryz.prog { fn := envOf [(151, Ideal.w1 g151), (311, Ideal.w1 g311)], wr := [151, 311] } { promo := [1, 2], share := false } N (okOf Tryz.prog { promo := [1, 2], share := false } [151, 311]) Tryz.f276 (.seq (.region []) (.seq (.region []) .leaf)) lim [a0] H = B276 N g151 g311 lim a0 H := by kernel_rfl
theorem sim276 (N : Nat) : SimF Tryz.prog 276 (G276 N) := by
  refine SimF.gen [(151, G151 N), (311, G311 N)] [151, 311] { promo := [1, 2], share := false } N (.seq (.region []) (.seq (.region []) .leaf)) Tryz.func276 (by kernel_rfl) (by kernel_rfl) (env_cons (sim151 N) (env_cons (sim311 N) env_nil)) ?_
  intro lim args H r h
  unfold G276 w1 at h
  split at h
  · exact (eq276 N (F151 N) (F311 N) lim _ H).trans h
  · simp at h
/-- (besom/unwind.State).aborted -/
def B278 (N : Nat) (lim : Nat) (s0 n1 : Value) (H : IHeap) : RV :=
 retK ((cellsOf true 2 s0).bind fun cs1 =>
 (iload false 1 cs1 1).bind fun t7 =>
 (ilenS t7).bind fun t8 =>
 (ibin .sub .no t8 (.int .i64 2)).bind fun t9 =>
 catchK 0 (iloop (fun vs1 H1 =>
 (ibin .geq .no (nthV 0 vs1) (.int .i64 0)).bind fun t11 =>
 (gval true t11).bind fun w1 => grpK (bif w1 then
 ((iload false 1 cs1 1).bind fun t14 =>
 (iidx 5 t14 (nthV 0 vs1)).bind fun t16 =>
 (paddr 2 t16).bind fun t17 =>
 (hload false 1 H1 t17).bind fun t18 =>
 (ibin .neq .no t18 n1).bind fun t20 =>
 some ([t20], H1))
 else some ([Value.tuple #[]], H1)) fun vs2 H2 =>
 (pickK t11 (nthV 0 vs2) (.bool false)).bind fun t21 =>
 (boolK t21 fun b2 => bif b2 then
 (catchK 1 ((ibin .sub .no (nthV 0 vs1) (.int .i64 1)).bind fun t23 =>
 some (.norm ([t23] ++ []), H2)) fun vs3 H3 =>
 some (.norm ([(nthV 0 vs3)] ++ []), H3))
 else
 some (.exit 0 ([(nthV 0 vs1)] ++ []), H2))) N ([t9] ++ []) H) fun vs4 H4 =>
 (ibin .lss .no (nthV 0 vs4) (.int .i64 0)).bind fun t25 =>
 (boolK t25 fun b3 => bif b3 then
 ((iload true 2 cs1 0).bind fun t26 =>
 (istore true 2 [(.slice none 0 0), (.slice none 0 0)] 0 t26).bind fun cs2 =>
 (iload true 2 cs2 0).bind fun r1 =>
 some (.ret r1, H4))
 else
 (iload false 1 cs1 1).bind fun t28 =>
 (iidx 5 t28 (nthV 0 vs4)).bind fun t30 =>
 (paddr 3 t30).bind fun t31 =>
 (hload false 1 H4 t31).bind fun t32 =>
 (boolK t32 fun b4 => bif b4 then
 ((iload false 1 cs1 1).bind fun t34 =>
 (iidx 5 t34 (nthV 0 vs4)).bind fun t36 =>
 (paddr 2 t36).bind fun t37 =>
 (hstore false 1 lim H4 t37 (.int .i64 0)).bind fun H5 =>
 (iload true 2 cs1 0).bind fun t38 =>
 (istore true 2 [(.slice none 0 0), (.slice none 0 0)] 0 t38).bind fun cs3 =>
 (iload true 2 cs3 0).bind fun r2 =>
 some (.ret r2, H5))
 else
 (iload false 1 cs1 1).bind fun t40 =>
 (ibin .add .no (nthV 0 vs4) (.int .i64 1)).bind fun t43 =>
 none)))
def F278 (N lim : Nat) (a0 a1 : Value) (H : IHeap) : RV := B278 N lim a0 a1 H
def G278 (N : Nat) : G := w2 (F278 N)
theorem eq278 (N : Nat) (lim : Nat) (a0 a1 : Value) (H : IHeap) : ifun Tryz.prog { fn := envOf [], wr := [] } { promo := [2, 4], share := false } N (okOf Tryz.prog { promo := [2, 4], share := false } []) Tryz.f278 (.seq (.region []) (.seq (.region []) (.seq (.block [5] [] [] (.loop [5] [] [] (.seq (.seq (.region [[20]]) (.inl .leaf .leaf)) (.block [5] [] [] (.region []))))) (.seq (.seq (.region []) (.inl (.seq (.region []) .leaf) .leaf)) (.seq (.seq (.region []) (.inl (.seq (.region []) (.seq (.region []) .leaf)) .leaf)) (.seq (.region []) (.seq (.region []) .leaf))))))) lim [a0, a1] H = B278 N lim a0 a1 H := by kernel_rfl
theorem sim278 (N : Nat) : SimF Tryz.prog 278 (G278 N) := by
  refine SimF.gen [] [] { promo := [2, 4], share := false } N (.seq (.region []) (.seq (.region []) (.seq (.block [5] [] [] (.loop [5] [] [] (.seq (.seq (.region [[20]]) (.inl .leaf .leaf)) (.block [5] [] [] (.region []))))) (.seq (.seq (.region []) (.inl (.seq (.region []) .leaf) .leaf)) (.seq (.seq (.region []) (.inl (.seq (.region []) (.seq (.region []) .leaf)) .leaf)) (.seq (.region []) (.seq (.region []) .leaf))))))) Tryz.func278 (by kernel_rfl) (by kernel_rfl) env_nil ?_
  intro lim args H r h
  unfold G278 w2 at h
  split at h
  · exact (eq278 N lim _ _ H).trans h
  · simp at h
/-- (besom/unwind.State).Pop -/
def B226 (N : Nat) (g222 : RF1) (g276 : RF1) (g278 : RF2) (lim : Nat) (s0 : Value) (H : IHeap) : RV :=
 retK ((cellsOf true 2 s0).bind fun cs1 =>
 (iload true 2 cs1 0).bind fun t5 =>
 callK (g276 lim t5 H) fun t6 H1 =>
 (istore true 2 cs1 0 t6).bind fun cs2 =>
 (iload false 1 cs2 0).bind fun t8 =>
 (ilenS t8).bind fun t9 =>
 (ibin .eql .no t9 (.int .i64 0)).bind fun t11 =>
 (boolK t11 fun b1 => bif b1 then
 ((iload true 2 cs2 0).bind fun t12 =>
 (istore true 2 [(.slice none 0 0), (.slice none 0 0)] 0 t12).bind fun cs3 =>
 (iload true 2 cs3 0).bind fun r1 =>
 some (.ret r1, H1))
 else
 (iload true 2 cs2 0).bind fun t13 =>
 callK (g222 lim t13 H1) fun t14 H2 =>
 (iload false 1 cs2 0).bind fun t16 =>
 (ibin .sub .no t9 (.int .i64 1)).bind fun t18 =>
 (isliceS 3 t16 none (some t18) none).bind fun t19 =>
 (istore false 1 cs2 0 t19).bind fun cs4 =>
 (boolK t14 fun b2 => bif b2 then
 ((iload true 2 cs4 0).bind fun t22 =>
 callK (g278 lim t22 t9 H2) fun t24 H3 =>
 (istore true 2 [(.slice none 0 0), (.slice none 0 0)] 0 t24).bind fun cs5 =>
 (iload true 2 cs5 0).bind fun r2 =>
 some (.ret r2, H3))
 else
 (iload true 2 cs4 0).bind fun t25 =>
 none)))
def F226 (N lim : Nat) (a0 : Value) (H : IHeap) : RV := B226 N (F222 N) (F276 N) (F278 N) lim a0 H
def G226 (N : Nat) : G := w1 (F226 N)
theorem eq226 (N : Nat) (g222 : RF1) (g276 : RF1) (g278 : RF2) (lim : Nat) (a0 : Value) (H : IHeap) : ifun Tryz.prog { fn := envOf [(222, Ideal.w1 g222), (276, Ideal.w1 g276), (278, Ideal.w2 g278)], wr := [] } { promo := [1, 2], share := false } N (okOf Tryz.prog { promo := [1, 2], share := false } []) Tryz.f226 (.seq (.region []) (.seq (.region []) (.seq (.region []) (.seq (.seq (.region []) (.inl (.seq (.region []) .leaf) .leaf)) (.seq (.region []) (.seq (.region []) (.seq (.seq (.region []) (.inl (.seq (.region []) .leaf) .leaf)) (.seq (.region []) .leaf)))))))) lim [a0] H = B226 N g222 g276 g278 lim a0 H := by kernel_rfl
theorem sim226 (N : Nat) : SimF Tryz.prog 226 (G226 N) := by
  refine SimF.gen [(222, G222 N), (276, G276 N), (278, G278 N)] [] { promo := [1, 2], share := false } N (.seq (.region []) (.seq (.region []) (.seq (.region []) (.seq (.seq (.region []) (.inl (.seq (.region []) .leaf) .leaf)) (.seq (.region []) (.seq (.region []) (.seq (.seq (.region []) (.inl (.seq (.region []) .leaf) .leaf)) (.seq (.region []) .leaf)))))))) Tryz.func226 (by kernel_rfl) (by kernel_rfl) (env_cons (sim222 N) (env_cons (sim276 N) (env_cons (sim278 N) env_nil))) ?_
  intro lim args H r h
  unfold G226 w1 at h
  split at h
  · exact (eq226 N (F222 N) (F276 N) (F278 N) lim _ H).trans h
  · simp at h
/-- besom/frame.Slot -/
def B172 (N : Nat) (lim : Nat) (fn0 k1 : Value) (H : IHeap) : RV :=
 retK ((ibin .add .no (.int .i64 2) k1).bind fun t6 =>
 some (.ret t6, H))
def F172 (N lim : Nat) (a0 a1 : Value) (H : IHeap) : RV := B172 N lim a0 a1 H
def G172 (N : Nat) : G := w2 (F172 N)
theorem eq172 (N : Nat) (lim : Nat) (a0 a1 : Value) (H : IHeap) : ifun Tryz.prog { fn := envOf [], wr := [] } { promo := [], share := false } N (okOf Tryz.prog { promo := [], share := false } []) Tryz.f172 (.seq (.region []) (.seq (.region []) .leaf)) lim [a0, a1] H = B172 N lim a0 a1 H := by kernel_rfl
theorem sim172 (N : Nat) : SimF Tryz.prog 172 (G172 N) := by
  refine SimF.gen [] [] { promo := [], share := false } N (.seq (.region []) (.seq (.region []) .leaf)) Tryz.func172 (by kernel_rfl) (by kernel_rfl) env_nil ?_
  intro lim args H r h
  unfold G172 w2 at h
  split at h
  · exact (eq172 N lim _ _ H).trans h
  · simp at h
/-- (*besom/task.Task).off -/
def B98 (N : Nat) (g148 : RF1) (g172 : RF2) (lim : Nat) (t0 at1 : Value) (H : IHeap) : RV :=
 retK ((cellsOf true 2 at1).bind fun cs1 =>
 (iload false 1 cs1 0).bind fun t7 =>
 (ibin .lss .no t7 (.int .i64 0)).bind fun t8 =>
 (gval false t8).bind fun w1 => grpK (bif w1 then
 ((iload false 1 cs1 0).bind fun t11 =>
 callK (g148 lim t0 H) fun t13 H2 =>
 (ibin .geq .no t11 t13).bind fun t14 =>
 some ([t14], H2))
 else some ([Value.tuple #[]], H)) fun vs1 H1 =>
 (pickK t8 (.bool true) (nthV 0 vs1)).bind fun t15 =>
 (boolK t15 fun b2 => bif b2 then
 (some (.ret (.int .i64 (-1)), H1))
 else
 (inilc t0).bind fun t17 =>
 (paddr 4 t17).bind fun t18 =>
 (hload false 1 H1 t18).bind fun t19 =>
 (iload false 1 cs1 0).bind fun t21 =>
 (iidx 5 t19 t21).bind fun t22 =>
 (hload true 5 H1 t22).bind fun t23 =>
 (istore true 5 [(.int .i64 0), (.int .i64 0), (.int .i64 0), (.int .i64 0), (.slice none 0 0)] 0 t23).bind fun cs2 =>
 (iload false 1 cs1 1).bind fun t25 =>
 (ibin .lss .no t25 (.int .i64 0)).bind fun t26 =>
 (gval false t26).bind fun w2 => grpK (bif w2 then
 ((iload false 1 cs1 1).bind fun t29 =>
 (inilc t0).bind fun t31 =>
 (paddr 0 t31).bind fun t32 =>
 (paddr 2 t32).bind fun t33 =>
 (hload false 1 H1 t33).bind fun t34 =>
 (iload false 1 cs2 0).bind fun t36 =>
 (iidx 5 t34 t36).bind fun t37 =>
 (paddr 2 t37).bind fun t38 =>
 (hload false 1 H1 t38).bind fun t39 =>
 (ibin .geq .no t29 t39).bind fun t40 =>
 some ([t40], H1))
 else some ([Value.tuple #[]], H1)) fun vs2 H3 =>
 (pickK t26 (.bool true) (nthV 0 vs2)).bind fun t41 =>
 (boolK t41 fun b4 => bif b4 then
 (some (.ret (.int .i64 (-1)), H3))
 else
 (iload false 1 cs2 2).bind fun t43 =>
 (iload false 1 cs2 0).bind fun t45 =>
 (iload false 1 cs1 1).bind fun t47 =>
 callK (g172 lim t45 t47 H3) fun t48 H4 =>
 (ibin .add .no t43 t48).bind fun t49 =>
 some (.ret t49, H4))))
def F98 (N lim : Nat) (a0 a1 : Value) (H : IHeap) : RV := B98 N (F148 N) (F172 N) lim a0 a1 H
def G98 (N : Nat) : G := w2 (F98 N)
theorem eq98 (N : Nat) (g148 : RF1) (g172 : RF2) (lim : Nat) (a0 a1 : Value) (H : IHeap) : ifun Tryz.prog { fn := envOf [(148, Ideal.w1 g148), (172, Ideal.w2 g172)], wr := [148, 172] } { promo := [3, 5], share := false } N (okOf Tryz.prog { promo := [3, 5], share := false } [148, 172]) Tryz.f98 (.seq (.region []) (.seq (.seq (.region [[14]]) (.inl (.seq (.region []) .leaf) .leaf)) (.seq (.region []) (.seq (.seq (.region [[40]]) (.inl (.seq (.region []) .leaf) .leaf)) (.seq (.region []) .leaf))))) lim [a0, a1] H = B98 N g148 g172 lim a0 a1 H := by kernel_rfl
theorem sim98 (N : Nat) : SimF Tryz.prog 98 (G98 N) := by
  refine SimF.gen [(148, G148 N), (172, G172 N)] [148, 172] { promo := [3, 5], share := false } N (.seq (.region []) (.seq (.seq (.region [[14]]) (.inl (.seq (.region []) .leaf) .leaf)) (.seq (.region []) (.seq (.seq (.region [[40]]) (.inl (.seq (.region []) .leaf) .leaf)) (.seq (.region []) .leaf))))) Tryz.func98 (by kernel_rfl) (by kernel_rfl) (env_cons (sim148 N) (env_cons (sim172 N) env_nil)) ?_
  intro lim args H r h
  unfold G98 w2 at h
  split at h
  · exact (eq98 N (F148 N) (F172 N) lim _ _ H).trans h
  · simp at h
/-- (*besom/stack.Stack).there -/
def B173 (N : Nat) (g96 : RF1) (lim : Nat) (s0 off1 : Value) (H : IHeap) : RV :=
 retK ((ibin .geq .no off1 (.int .i64 0)).bind fun t6 =>
 (gval true t6).bind fun w1 => grpK (bif w1 then
 (callK (g96 lim s0 H) fun t10 H2 =>
 (ibin .lss .no off1 t10).bind fun t11 =>
 some ([t11], H2))
 else some ([Value.tuple #[]], H)) fun vs1 H1 =>
 (pickK t6 (nthV 0 vs1) (.bool false)).bind fun t12 =>
 some (.ret t12, H1))
def F173 (N lim : Nat) (a0 a1 : Value) (H : IHeap) : RV := B173 N (F96 N) lim a0 a1 H
def G173 (N : Nat) : G := w2 (F173 N)
theorem eq173 (N : Nat) (g96 : RF1) (lim : Nat) (a0 a1 : Value) (H : IHeap) : ifun Tryz.prog { fn := envOf [(96, Ideal.w1 g96)], wr := [] } { promo := [], share := false } N (okOf Tryz.prog { promo := [], share := false } []) Tryz.f173 (.seq (.region []) (.seq (.region [[11]]) .leaf)) lim [a0, a1] H = B173 N g96 lim a0 a1 H := by kernel_rfl
theorem sim173 (N : Nat) : SimF Tryz.prog 173 (G173 N) := by
  refine SimF.gen [(96, G96 N)] [] { promo := [], share := false } N (.seq (.region []) (.seq (.region [[11]]) .leaf)) Tryz.func173 (by kernel_rfl) (by kernel_rfl) (env_cons (sim96 N) env_nil) ?_
  intro lim args H r h
  unfold G173 w2 at h
  split at h
  · exact (eq173 N (F96 N) lim _ _ H).trans h
  · simp at h
end Go.Ideal
