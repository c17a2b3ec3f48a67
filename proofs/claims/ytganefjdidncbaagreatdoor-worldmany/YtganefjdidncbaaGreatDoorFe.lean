/- This text proves no statement of the seat: it says what functions of the program do on the ideal machine, part 4. By program (emitall.py). -/
import Derived.Test.YtganefjdidncbaaGreatDoorFd
namespace Go.Ideal
open Go.Proofs
set_option maxRecDepth 100000
set_option linter.unusedVariables false
/-- (besom/check.look).things -/
def B276 (N : Nat) (g214 : RF2) (lim : Nat) (l0 : Value) (H : IHeap) : RV :=
 retK ((cellsOf true 14 l0).bind fun cs1 =>
 (iload false 1 cs1 8).bind fun t5 =>
 catchK 0 ((ibin .eql .no t5 (.int .i64 9)).bind fun t7 =>
 joinK (boolK t7 fun b1 => bif b1 then
 (some (.norm ([t7] ++ []), H))
 else
 (ibin .eql .no t5 (.int .i64 10)).bind fun t8 =>
 some (.norm ([t8] ++ []), H)) fun vs1 H1 =>
 (boolK (nthV 0 vs1) fun b2 => bif b2 then
 ((iload false 1 cs1 10).bind fun t11 =>
 (iload false 1 cs1 7).bind fun t14 =>
 (ilenS t14).bind fun t15 =>
 callK (g214 lim t11 t15 H1) fun t16 H2 =>
 some (.ret t16, H2))
 else
 (ibin .eql .no t5 (.int .i64 21)).bind fun t18 =>
 joinK (boolK t18 fun b3 => bif b3 then
 (some (.norm ([t18] ++ []), H1))
 else
 (ibin .eql .no t5 (.int .i64 23)).bind fun t19 =>
 joinK (boolK t19 fun b4 => bif b4 then
 (some (.norm ([t19] ++ []), H1))
 else
 (ibin .eql .no t5 (.int .i64 24)).bind fun t20 =>
 some (.norm ([t20] ++ []), H1)) fun vs2 H3 =>
 some (.norm ([(nthV 0 vs2)] ++ []), H3)) fun vs3 H4 =>
 (boolK (nthV 0 vs3) fun b5 => bif b5 then
 ((iload false 1 cs1 10).bind fun t23 =>
 (iload false 1 cs1 2).bind fun t26 =>
 (ilenS t26).bind fun t27 =>
 callK (g214 lim t23 t27 H4) fun t28 H5 =>
 some (.ret t28, H5))
 else
 (ibin .eql .no t5 (.int .i64 13)).bind fun t30 =>
 joinK (boolK t30 fun b6 => bif b6 then
 (some (.norm ([t30] ++ []), H4))
 else
 (ibin .eql .no t5 (.int .i64 11)).bind fun t31 =>
 some (.norm ([t31] ++ []), H4)) fun vs4 H6 =>
 (boolK (nthV 0 vs4) fun b7 => bif b7 then
 ((iload false 1 cs1 10).bind fun t34 =>
 (iload false 1 cs1 1).bind fun t37 =>
 (ilenS t37).bind fun t38 =>
 callK (g214 lim t34 t38 H6) fun t39 H7 =>
 some (.ret t39, H7))
 else
 (ibin .eql .no t5 (.int .i64 16)).bind fun t41 =>
 (boolK t41 fun b8 => bif b8 then
 ((iload false 1 cs1 10).bind fun t44 =>
 (iload false 1 cs1 0).bind fun t47 =>
 (ilenS t47).bind fun t48 =>
 callK (g214 lim t44 t48 H6) fun t49 H8 =>
 some (.ret t49, H8))
 else
 (ibin .eql .no t5 (.int .i64 17)).bind fun t51 =>
 (boolK t51 fun b9 => bif b9 then
 ((iload false 1 cs1 9).bind fun t54 =>
 (iload false 1 cs1 0).bind fun t57 =>
 (ilenS t57).bind fun t58 =>
 callK (g214 lim t54 t58 H6) fun t59 H9 =>
 some (.ret t59, H9))
 else
 (ibin .eql .no t5 (.int .i64 18)).bind fun t61 =>
 (boolK t61 fun b10 => bif b10 then
 ((iload false 1 cs1 10).bind fun t64 =>
 (iload false 1 cs1 6).bind fun t67 =>
 (ilenS t67).bind fun t68 =>
 callK (g214 lim t64 t68 H6) fun t69 H10 =>
 some (.ret t69, H10))
 else
 (ibin .eql .no t5 (.int .i64 14)).bind fun t71 =>
 joinK (boolK t71 fun b11 => bif b11 then
 (some (.norm ([t71] ++ []), H6))
 else
 (ibin .eql .no t5 (.int .i64 19)).bind fun t72 =>
 some (.norm ([t72] ++ []), H6)) fun vs5 H11 =>
 (boolK (nthV 0 vs5) fun b12 => bif b12 then
 ((iload false 1 cs1 11).bind fun t75 =>
 callK (g214 lim t75 (.int .i64 16) H11) fun t76 H12 =>
 some (.ret t76, H12))
 else
 (ibin .eql .no t5 (.int .i64 15)).bind fun t78 =>
 joinK (boolK t78 fun b13 => bif b13 then
 (some (.norm ([t78] ++ []), H11))
 else
 (ibin .eql .no t5 (.int .i64 20)).bind fun t79 =>
 some (.norm ([t79] ++ []), H11)) fun vs6 H13 =>
 (boolK (nthV 0 vs6) fun b14 => bif b14 then
 ((iload false 1 cs1 10).bind fun t82 =>
 callK (g214 lim t82 (.int .i64 16) H13) fun t83 H14 =>
 some (.ret t83, H14))
 else
 some (.norm ([] ++ []), H13)))))))))) fun vs7 H15 =>
 some (.ret (.bool true), H15))
def F276 (N lim : Nat) (a0 : Value) (H : IHeap) : RV := B276 N (F214 N) lim a0 H
def G276 (N : Nat) : G := w1 (F276 N)
theorem eq276 (N : Nat) (g214 : RF2) (lim : Nat) (a0 : Value) (H : IHeap) : ifun Tryz.prog { fn := envOf [(214, Ideal.w2 g214)], wr := [] } { promo := [1], share := false } N (okOf Tryz.prog { promo := [1], share := false } []) Tryz.f276 (.seq (.region []) (.seq (.seq (.region []) (.block [] [] [] (.seq (.seq (.region []) (.join [6] [] [] .leaf (.region []))) (.inl (.seq (.region []) .leaf) (.seq (.seq (.region []) (.join [17] [] [] .leaf (.seq (.region []) (.join [17] [] [] .leaf (.region []))))) (.inl (.seq (.region []) .leaf) (.seq (.seq (.region []) (.join [29] [] [] .leaf (.region []))) (.inl (.seq (.region []) .leaf) (.seq (.region []) (.inl (.seq (.region []) .leaf) (.seq (.region []) (.inl (.seq (.region []) .leaf) (.seq (.region []) (.inl (.seq (.region []) .leaf) (.seq (.seq (.region []) (.join [70] [] [] .leaf (.region []))) (.inl (.seq (.region []) .leaf) (.seq (.seq (.region []) (.join [77] [] [] .leaf (.region []))) (.inl (.seq (.region []) .leaf) .leaf)))))))))))))))))) (.seq (.region []) .leaf))) lim [a0] H = B276 N g214 lim a0 H := by kernel_rfl
theorem sim276 (N : Nat) : SimF Tryz.prog 276 (G276 N) := by
  refine SimF.gen [(214, G214 N)] [] { promo := [1], share := false } N (.seq (.region []) (.seq (.seq (.region []) (.block [] [] [] (.seq (.seq (.region []) (.join [6] [] [] .leaf (.region []))) (.inl (.seq (.region []) .leaf) (.seq (.seq (.region []) (.join [17] [] [] .leaf (.seq (.region []) (.join [17] [] [] .leaf (.region []))))) (.inl (.seq (.region []) .leaf) (.seq (.seq (.region []) (.join [29] [] [] .leaf (.region []))) (.inl (.seq (.region []) .leaf) (.seq (.region []) (.inl (.seq (.region []) .leaf) (.seq (.region []) (.inl (.seq (.region []) .leaf) (.seq (.region []) (.inl (.seq (.region []) .leaf) (.seq (.seq (.region []) (.join [70] [] [] .leaf (.region []))) (.inl (.seq (.region []) .leaf) (.seq (.seq (.region []) (.join [77] [] [] .leaf (.region []))) (.inl (.seq (.region []) .leaf) .leaf)))))))))))))))))) (.seq (.region []) .leaf))) Tryz.func276 (by kernel_rfl) (by kernel_rfl) (env_cons (sim214 N) env_nil) ?_
  intro lim args H r h
  unfold G276 w1 at h
  split at h
  · exact (eq276 N (F214 N) lim _ H).trans h
  · simp at h
/-- besom/instr.Writes -/
def B220 (N : Nat) (lim : Nat) (i0 : Value) (H : IHeap) : RV :=
 retK ((cellsOf true 4 i0).bind fun cs1 =>
 (iload false 1 cs1 0).bind fun t5 =>
 catchK 0 ((ibin .eql .no t5 (.int .i64 1)).bind fun t7 =>
 joinK (boolK t7 fun b1 => bif b1 then
 (some (.norm ([t7] ++ []), H))
 else
 (ibin .eql .no t5 (.int .i64 2)).bind fun t8 =>
 joinK (boolK t8 fun b2 => bif b2 then
 (some (.norm ([t8] ++ []), H))
 else
 (ibin .eql .no t5 (.int .i64 3)).bind fun t9 =>
 joinK (boolK t9 fun b3 => bif b3 then
 (some (.norm ([t9] ++ []), H))
 else
 (ibin .eql .no t5 (.int .i64 4)).bind fun t10 =>
 joinK (boolK t10 fun b4 => bif b4 then
 (some (.norm ([t10] ++ []), H))
 else
 (ibin .eql .no t5 (.int .i64 5)).bind fun t11 =>
 joinK (boolK t11 fun b5 => bif b5 then
 (some (.norm ([t11] ++ []), H))
 else
 (ibin .eql .no t5 (.int .i64 6)).bind fun t12 =>
 joinK (boolK t12 fun b6 => bif b6 then
 (some (.norm ([t12] ++ []), H))
 else
 (ibin .eql .no t5 (.int .i64 7)).bind fun t13 =>
 joinK (boolK t13 fun b7 => bif b7 then
 (some (.norm ([t13] ++ []), H))
 else
 (ibin .eql .no t5 (.int .i64 8)).bind fun t14 =>
 joinK (boolK t14 fun b8 => bif b8 then
 (some (.norm ([t14] ++ []), H))
 else
 (ibin .eql .no t5 (.int .i64 11)).bind fun t15 =>
 joinK (boolK t15 fun b9 => bif b9 then
 (some (.norm ([t15] ++ []), H))
 else
 (ibin .eql .no t5 (.int .i64 12)).bind fun t16 =>
 joinK (boolK t16 fun b10 => bif b10 then
 (some (.norm ([t16] ++ []), H))
 else
 (ibin .eql .no t5 (.int .i64 13)).bind fun t17 =>
 joinK (boolK t17 fun b11 => bif b11 then
 (some (.norm ([t17] ++ []), H))
 else
 (ibin .eql .no t5 (.int .i64 14)).bind fun t18 =>
 joinK (boolK t18 fun b12 => bif b12 then
 (some (.norm ([t18] ++ []), H))
 else
 (ibin .eql .no t5 (.int .i64 16)).bind fun t19 =>
 joinK (boolK t19 fun b13 => bif b13 then
 (some (.norm ([t19] ++ []), H))
 else
 (ibin .eql .no t5 (.int .i64 18)).bind fun t20 =>
 joinK (boolK t20 fun b14 => bif b14 then
 (some (.norm ([t20] ++ []), H))
 else
 (ibin .eql .no t5 (.int .i64 19)).bind fun t21 =>
 joinK (boolK t21 fun b15 => bif b15 then
 (some (.norm ([t21] ++ []), H))
 else
 (ibin .eql .no t5 (.int .i64 21)).bind fun t22 =>
 joinK (boolK t22 fun b16 => bif b16 then
 (some (.norm ([t22] ++ []), H))
 else
 (ibin .eql .no t5 (.int .i64 26)).bind fun t23 =>
 some (.norm ([t23] ++ []), H)) fun vs1 H1 =>
 some (.norm ([(nthV 0 vs1)] ++ []), H1)) fun vs2 H2 =>
 some (.norm ([(nthV 0 vs2)] ++ []), H2)) fun vs3 H3 =>
 some (.norm ([(nthV 0 vs3)] ++ []), H3)) fun vs4 H4 =>
 some (.norm ([(nthV 0 vs4)] ++ []), H4)) fun vs5 H5 =>
 some (.norm ([(nthV 0 vs5)] ++ []), H5)) fun vs6 H6 =>
 some (.norm ([(nthV 0 vs6)] ++ []), H6)) fun vs7 H7 =>
 some (.norm ([(nthV 0 vs7)] ++ []), H7)) fun vs8 H8 =>
 some (.norm ([(nthV 0 vs8)] ++ []), H8)) fun vs9 H9 =>
 some (.norm ([(nthV 0 vs9)] ++ []), H9)) fun vs10 H10 =>
 some (.norm ([(nthV 0 vs10)] ++ []), H10)) fun vs11 H11 =>
 some (.norm ([(nthV 0 vs11)] ++ []), H11)) fun vs12 H12 =>
 some (.norm ([(nthV 0 vs12)] ++ []), H12)) fun vs13 H13 =>
 some (.norm ([(nthV 0 vs13)] ++ []), H13)) fun vs14 H14 =>
 some (.norm ([(nthV 0 vs14)] ++ []), H14)) fun vs15 H15 =>
 some (.norm ([(nthV 0 vs15)] ++ []), H15)) fun vs16 H16 =>
 (boolK (nthV 0 vs16) fun b17 => bif b17 then
 ((iload false 1 cs1 1).bind fun t25 =>
 some (.ret (.tuple ⟨[t25, (.bool true)]⟩), H16))
 else
 some (.norm ([] ++ []), H16))) fun vs17 H17 =>
 some (.ret (.tuple ⟨[(.int .i64 0), (.bool false)]⟩), H17))
def F220 (N lim : Nat) (a0 : Value) (H : IHeap) : RV := B220 N lim a0 H
def G220 (N : Nat) : G := w1 (F220 N)
theorem eq220 (N : Nat) (lim : Nat) (a0 : Value) (H : IHeap) : ifun Tryz.prog { fn := envOf [], wr := [] } { promo := [1], share := false } N (okOf Tryz.prog { promo := [1], share := false } []) Tryz.f220 (.seq (.region []) (.seq (.seq (.region []) (.block [] [] [] (.seq (.seq (.region []) (.join [6] [] [] .leaf (.seq (.region []) (.join [6] [] [] .leaf (.seq (.region []) (.join [6] [] [] .leaf (.seq (.region []) (.join [6] [] [] .leaf (.seq (.region []) (.join [6] [] [] .leaf (.seq (.region []) (.join [6] [] [] .leaf (.seq (.region []) (.join [6] [] [] .leaf (.seq (.region []) (.join [6] [] [] .leaf (.seq (.region []) (.join [6] [] [] .leaf (.seq (.region []) (.join [6] [] [] .leaf (.seq (.region []) (.join [6] [] [] .leaf (.seq (.region []) (.join [6] [] [] .leaf (.seq (.region []) (.join [6] [] [] .leaf (.seq (.region []) (.join [6] [] [] .leaf (.seq (.region []) (.join [6] [] [] .leaf (.seq (.region []) (.join [6] [] [] .leaf (.region []))))))))))))))))))))))))))))))))) (.inl (.seq (.region []) .leaf) .leaf)))) (.seq (.region []) .leaf))) lim [a0] H = B220 N lim a0 H := by kernel_rfl
theorem sim220 (N : Nat) : SimF Tryz.prog 220 (G220 N) := by
  refine SimF.gen [] [] { promo := [1], share := false } N (.seq (.region []) (.seq (.seq (.region []) (.block [] [] [] (.seq (.seq (.region []) (.join [6] [] [] .leaf (.seq (.region []) (.join [6] [] [] .leaf (.seq (.region []) (.join [6] [] [] .leaf (.seq (.region []) (.join [6] [] [] .leaf (.seq (.region []) (.join [6] [] [] .leaf (.seq (.region []) (.join [6] [] [] .leaf (.seq (.region []) (.join [6] [] [] .leaf (.seq (.region []) (.join [6] [] [] .leaf (.seq (.region []) (.join [6] [] [] .leaf (.seq (.region []) (.join [6] [] [] .leaf (.seq (.region []) (.join [6] [] [] .leaf (.seq (.region []) (.join [6] [] [] .leaf (.seq (.region []) (.join [6] [] [] .leaf (.seq (.region []) (.join [6] [] [] .leaf (.seq (.region []) (.join [6] [] [] .leaf (.seq (.region []) (.join [6] [] [] .leaf (.region []))))))))))))))))))))))))))))))))) (.inl (.seq (.region []) .leaf) .leaf)))) (.seq (.region []) .leaf))) Tryz.func220 (by kernel_rfl) (by kernel_rfl) env_nil ?_
  intro lim args H r h
  unfold G220 w1 at h
  split at h
  · exact (eq220 N lim _ H).trans h
  · simp at h
/-- slices.Index[[]int,int] -/
def B223 (N : Nat) (lim : Nat) (s0 v1 : Value) (H : IHeap) : RV :=
 retK ((ilenS s0).bind fun t7 =>
 catchK 0 (iloop (fun vs1 H1 =>
 (ibin .lss .no (nthV 0 vs1) t7).bind fun t9 =>
 (boolK t9 fun b1 => bif b1 then
 (catchK 1 ((iidx 1 s0 (nthV 0 vs1)).bind fun t14 =>
 (hload false 1 H1 t14).bind fun t15 =>
 (ibin .eql .no v1 t15).bind fun t16 =>
 (boolK t16 fun b2 => bif b2 then
 (some (.ret (nthV 0 vs1), H1))
 else
 some (.norm ([] ++ []), H1))) fun vs2 H2 =>
 (ibin .add .no (nthV 0 vs1) (.int .i64 1)).bind fun t18 =>
 some (.norm ([t18] ++ []), H2))
 else
 some (.exit 0 ([] ++ []), H1))) N ([(.int .i64 0)] ++ []) H) fun vs3 H3 =>
 some (.ret (.int .i64 (-1)), H3))
def F223 (N lim : Nat) (a0 a1 : Value) (H : IHeap) : RV := B223 N lim a0 a1 H
def G223 (N : Nat) : G := w2 (F223 N)
theorem eq223 (N : Nat) (lim : Nat) (a0 a1 : Value) (H : IHeap) : ifun Tryz.prog { fn := envOf [], wr := [] } { promo := [], share := false } N (okOf Tryz.prog { promo := [], share := false } []) Tryz.f223 (.seq (.region []) (.seq (.seq (.region []) (.block [] [] [] (.loop [8] [] [] (.seq (.region []) (.seq (.inl .leaf .leaf) (.seq (.block [] [] [] (.seq (.region []) (.seq (.region []) (.inl (.seq (.region []) .leaf) .leaf)))) (.region []))))))) (.seq (.region []) .leaf))) lim [a0, a1] H = B223 N lim a0 a1 H := by kernel_rfl
theorem sim223 (N : Nat) : SimF Tryz.prog 223 (G223 N) := by
  refine SimF.gen [] [] { promo := [], share := false } N (.seq (.region []) (.seq (.seq (.region []) (.block [] [] [] (.loop [8] [] [] (.seq (.region []) (.seq (.inl .leaf .leaf) (.seq (.block [] [] [] (.seq (.region []) (.seq (.region []) (.inl (.seq (.region []) .leaf) .leaf)))) (.region []))))))) (.seq (.region []) .leaf))) Tryz.func223 (by kernel_rfl) (by kernel_rfl) env_nil ?_
  intro lim args H r h
  unfold G223 w2 at h
  split at h
  · exact (eq223 N lim _ _ H).trans h
  · simp at h
/-- slices.Contains[[]int,int] -/
def B147 (N : Nat) (g223 : RF2) (lim : Nat) (s0 v1 : Value) (H : IHeap) : RV :=
 retK (callK (g223 lim s0 v1 H) fun t7 H1 =>
 (ibin .geq .no t7 (.int .i64 0)).bind fun t8 =>
 some (.ret t8, H1))
def F147 (N lim : Nat) (a0 a1 : Value) (H : IHeap) : RV := B147 N (F223 N) lim a0 a1 H
def G147 (N : Nat) : G := w2 (F147 N)
theorem eq147 (N : Nat) (g223 : RF2) (lim : Nat) (a0 a1 : Value) (H : IHeap) : ifun Tryz.prog { fn := envOf [(223, Ideal.w2 g223)], wr := [] } { promo := [], share := false } N (okOf Tryz.prog { promo := [], share := false } []) Tryz.f147 (.seq (.region []) (.seq (.region []) .leaf)) lim [a0, a1] H = B147 N g223 lim a0 a1 H := by kernel_rfl
theorem sim147 (N : Nat) : SimF Tryz.prog 147 (G147 N) := by
  refine SimF.gen [(223, G223 N)] [] { promo := [], share := false } N (.seq (.region []) (.seq (.region []) .leaf)) Tryz.func147 (by kernel_rfl) (by kernel_rfl) (env_cons (sim223 N) env_nil) ?_
  intro lim args H r h
  unfold G147 w2 at h
  split at h
  · exact (eq147 N (F223 N) lim _ _ H).trans h
  · simp at h
/-- besom/instr.once -/
def B334 (N : Nat) (g147 : RF2) (lim : Nat) (l0 : Value) (H : IHeap) : RV :=
 retK ((ilenS l0).bind fun t7 =>
 catchK 0 (iloop (fun vs1 H1 =>
 (ibin .lss .no (nthV 1 vs1) t7).bind fun t9 =>
 (boolK t9 fun b1 => bif b1 then
 (catchK 1 ((iidx 1 l0 (nthV 1 vs1)).bind fun t10 =>
 (hload false 1 H1 t10).bind fun t11 =>
 callK (g147 lim (nthV 0 vs1) t11 H1) fun t14 H2 =>
 (iun .not t14).bind fun t15 =>
 joinK (boolK t15 fun b2 => bif b2 then
 ((istore false 1 [(.int .i64 0)] 0 t11).bind fun cs1 =>
 rowK (lrow 1 1 cs1) fun m1 new1 =>
 callK (iappend false 1 8 lim H2 (nthV 0 vs1) m1 new1) fun t19 H3 =>
 some (.norm ([t19] ++ []), H3))
 else
 some (.norm ([(nthV 0 vs1)] ++ []), H2)) fun vs2 H4 =>
 some (.norm ([(nthV 0 vs2)] ++ []), H4)) fun vs3 H5 =>
 (ibin .add .no (nthV 1 vs1) (.int .i64 1)).bind fun t20 =>
 some (.norm ([(nthV 0 vs3), t20] ++ []), H5))
 else
 some (.exit 0 ([(nthV 0 vs1)] ++ []), H1))) N ([(.slice none 0 0), (.int .i64 0)] ++ []) H) fun vs4 H6 =>
 some (.ret (nthV 0 vs4), H6))
def F334 (N lim : Nat) (a0 : Value) (H : IHeap) : RV := B334 N (F147 N) lim a0 H
def G334 (N : Nat) : G := w1 (F334 N)
theorem eq334 (N : Nat) (g147 : RF2) (lim : Nat) (a0 : Value) (H : IHeap) : ifun Tryz.prog { fn := envOf [(147, Ideal.w2 g147)], wr := [] } { promo := [18], share := false } N (okOf Tryz.prog { promo := [18], share := false } []) Tryz.f334 (.seq (.region []) (.seq (.region []) (.seq (.seq (.region []) (.block [3] [] [18] (.loop [3, 8] [] [18] (.seq (.region []) (.seq (.inl .leaf .leaf) (.seq (.block [3] [] [18] (.seq (.region []) (.seq (.region []) (.join [3] [] [18] (.region []) .leaf)))) (.region []))))))) (.seq (.region []) .leaf)))) lim [a0] H = B334 N g147 lim a0 H := by kernel_rfl
theorem sim334 (N : Nat) : SimF Tryz.prog 334 (G334 N) := by
  refine SimF.gen [(147, G147 N)] [] { promo := [18], share := false } N (.seq (.region []) (.seq (.region []) (.seq (.seq (.region []) (.block [3] [] [18] (.loop [3, 8] [] [18] (.seq (.region []) (.seq (.inl .leaf .leaf) (.seq (.block [3] [] [18] (.seq (.region []) (.seq (.region []) (.join [3] [] [18] (.region []) .leaf)))) (.region []))))))) (.seq (.region []) .leaf)))) Tryz.func334 (by kernel_rfl) (by kernel_rfl) (env_cons (sim147 N) env_nil) ?_
  intro lim args H r h
  unfold G334 w1 at h
  split at h
  · exact (eq334 N (F147 N) lim _ H).trans h
  · simp at h
/-- besom/instr.Reads -/
def B311 (N : Nat) (g334 : RF1) (lim : Nat) (i0 args1 : Value) (H : IHeap) : RV :=
 retK ((cellsOf true 4 i0).bind fun cs1 =>
 (iload false 1 cs1 0).bind fun t8 =>
 catchK 0 ((ibin .eql .no t8 (.int .i64 2)).bind fun t10 =>
 joinK (boolK t10 fun b1 => bif b1 then
 (some (.norm ([t10] ++ []), H))
 else
 (ibin .eql .no t8 (.int .i64 12)).bind fun t11 =>
 joinK (boolK t11 fun b2 => bif b2 then
 (some (.norm ([t11] ++ []), H))
 else
 (ibin .eql .no t8 (.int .i64 14)).bind fun t12 =>
 joinK (boolK t12 fun b3 => bif b3 then
 (some (.norm ([t12] ++ []), H))
 else
 (ibin .eql .no t8 (.int .i64 17)).bind fun t13 =>
 joinK (boolK t13 fun b4 => bif b4 then
 (some (.norm ([t13] ++ []), H))
 else
 (ibin .eql .no t8 (.int .i64 19)).bind fun t14 =>
 some (.norm ([t14] ++ []), H)) fun vs1 H1 =>
 some (.norm ([(nthV 0 vs1)] ++ []), H1)) fun vs2 H2 =>
 some (.norm ([(nthV 0 vs2)] ++ []), H2)) fun vs3 H3 =>
 some (.norm ([(nthV 0 vs3)] ++ []), H3)) fun vs4 H4 =>
 (boolK (nthV 0 vs4) fun b5 => bif b5 then
 ((iload false 1 cs1 2).bind fun t16 =>
 (istore false 1 [(.int .i64 0)] 0 t16).bind fun cs2 =>
 callK (g334 lim (slc 1 H4.next 0 1 2) (H4.push (.cells cs2 0))) fun t18 H5 =>
 some (.ret t18, H5))
 else
 (ibin .eql .no t8 (.int .i64 3)).bind fun t20 =>
 joinK (boolK t20 fun b6 => bif b6 then
 (some (.norm ([t20] ++ []), H4))
 else
 (ibin .eql .no t8 (.int .i64 4)).bind fun t21 =>
 joinK (boolK t21 fun b7 => bif b7 then
 (some (.norm ([t21] ++ []), H4))
 else
 (ibin .eql .no t8 (.int .i64 5)).bind fun t22 =>
 joinK (boolK t22 fun b8 => bif b8 then
 (some (.norm ([t22] ++ []), H4))
 else
 (ibin .eql .no t8 (.int .i64 6)).bind fun t23 =>
 joinK (boolK t23 fun b9 => bif b9 then
 (some (.norm ([t23] ++ []), H4))
 else
 (ibin .eql .no t8 (.int .i64 7)).bind fun t24 =>
 joinK (boolK t24 fun b10 => bif b10 then
 (some (.norm ([t24] ++ []), H4))
 else
 (ibin .eql .no t8 (.int .i64 8)).bind fun t25 =>
 some (.norm ([t25] ++ []), H4)) fun vs5 H6 =>
 some (.norm ([(nthV 0 vs5)] ++ []), H6)) fun vs6 H7 =>
 some (.norm ([(nthV 0 vs6)] ++ []), H7)) fun vs7 H8 =>
 some (.norm ([(nthV 0 vs7)] ++ []), H8)) fun vs8 H9 =>
 some (.norm ([(nthV 0 vs8)] ++ []), H9)) fun vs9 H10 =>
 (boolK (nthV 0 vs9) fun b11 => bif b11 then
 ((iload false 1 cs1 2).bind fun t27 =>
 (iload false 1 cs1 3).bind fun t29 =>
 (istore false 1 [(.int .i64 0), (.int .i64 0)] 0 t27).bind fun cs3 =>
 (istore false 1 cs3 1 t29).bind fun cs4 =>
 callK (g334 lim (slc 1 H10.next 0 2 3) (H10.push (.cells cs4 0))) fun t31 H11 =>
 some (.ret t31, H11))
 else
 (ibin .eql .no t8 (.int .i64 10)).bind fun t33 =>
 joinK (boolK t33 fun b12 => bif b12 then
 (some (.norm ([t33] ++ []), H10))
 else
 (ibin .eql .no t8 (.int .i64 29)).bind fun t34 =>
 some (.norm ([t34] ++ []), H10)) fun vs10 H12 =>
 (boolK (nthV 0 vs10) fun b13 => bif b13 then
 ((iload false 1 cs1 1).bind fun t36 =>
 (istore false 1 [(.int .i64 0)] 0 t36).bind fun cs5 =>
 callK (g334 lim (slc 1 H12.next 0 1 2) (H12.push (.cells cs5 0))) fun t38 H13 =>
 some (.ret t38, H13))
 else
 (ibin .eql .no t8 (.int .i64 15)).bind fun t40 =>
 joinK (boolK t40 fun b14 => bif b14 then
 (some (.norm ([t40] ++ []), H12))
 else
 (ibin .eql .no t8 (.int .i64 20)).bind fun t41 =>
 some (.norm ([t41] ++ []), H12)) fun vs11 H14 =>
 (boolK (nthV 0 vs11) fun b15 => bif b15 then
 ((iload false 1 cs1 1).bind fun t43 =>
 (iload false 1 cs1 3).bind fun t45 =>
 (istore false 1 [(.int .i64 0), (.int .i64 0)] 0 t43).bind fun cs6 =>
 (istore false 1 cs6 1 t45).bind fun cs7 =>
 callK (g334 lim (slc 1 H14.next 0 2 3) (H14.push (.cells cs7 0))) fun t47 H15 =>
 some (.ret t47, H15))
 else
 (ibin .eql .no t8 (.int .i64 25)).bind fun t49 =>
 (boolK t49 fun b16 => bif b16 then
 ((iload false 1 cs1 1).bind fun t51 =>
 (iload false 1 cs1 2).bind fun t53 =>
 (istore false 1 [(.int .i64 0), (.int .i64 0)] 0 t51).bind fun cs8 =>
 (istore false 1 cs8 1 t53).bind fun cs9 =>
 callK (g334 lim (slc 1 H14.next 0 2 3) (H14.push (.cells cs9 0))) fun t55 H16 =>
 some (.ret t55, H16))
 else
 (ibin .eql .no t8 (.int .i64 21)).bind fun t57 =>
 joinK (boolK t57 fun b17 => bif b17 then
 (some (.norm ([t57] ++ []), H14))
 else
 (ibin .eql .no t8 (.int .i64 23)).bind fun t58 =>
 joinK (boolK t58 fun b18 => bif b18 then
 (some (.norm ([t58] ++ []), H14))
 else
 (ibin .eql .no t8 (.int .i64 24)).bind fun t59 =>
 some (.norm ([t59] ++ []), H14)) fun vs12 H17 =>
 some (.norm ([(nthV 0 vs12)] ++ []), H17)) fun vs13 H18 =>
 (boolK (nthV 0 vs13) fun b19 => bif b19 then
 ((iminmax false [args1, (.int .i64 0)]).bind fun t61 =>
 (iminmax true [t61, (.int .i64 16)]).bind fun t62 =>
 catchK 1 (iloop (fun vs14 H19 =>
 (ibin .lss .no (nthV 1 vs14) t62).bind fun t64 =>
 (boolK t64 fun b20 => bif b20 then
 (catchK 2 ((iload false 1 cs1 3).bind fun t68 =>
 (ibin .add .no t68 (nthV 1 vs14)).bind fun t70 =>
 (istore false 1 [(.int .i64 0)] 0 t70).bind fun cs10 =>
 rowK (lrow 1 1 cs10) fun m1 new1 =>
 callK (iappend false 1 8 lim H19 (nthV 0 vs14) m1 new1) fun t72 H20 =>
 some (.norm ([t72] ++ []), H20)) fun vs15 H21 =>
 (ibin .add .no (nthV 1 vs14) (.int .i64 1)).bind fun t73 =>
 some (.norm ([(nthV 0 vs15), t73] ++ []), H21))
 else
 some (.exit 1 ([(nthV 0 vs14)] ++ []), H19))) N ([(.slice none 0 0), (.int .i64 0)] ++ []) H18) fun vs16 H22 =>
 some (.ret (nthV 0 vs16), H22))
 else
 some (.norm ([] ++ []), H18)))))))) fun vs17 H23 =>
 some (.ret (.slice none 0 0), H23))
def F311 (N lim : Nat) (a0 a1 : Value) (H : IHeap) : RV := B311 N (F334 N) lim a0 a1 H
def G311 (N : Nat) : G := w2 (F311 N)
theorem eq311 (N : Nat) (g334 : RF1) (lim : Nat) (a0 a1 : Value) (H : IHeap) : ifun Tryz.prog { fn := envOf [(334, Ideal.w1 g334)], wr := [] } { promo := [2, 71], share := false } N (okOf Tryz.prog { promo := [2, 71], share := false } []) Tryz.f311 (.seq (.region []) (.seq (.seq (.region []) (.block [] [] [71] (.seq (.seq (.region []) (.join [9] [] [] .leaf (.seq (.region []) (.join [9] [] [] .leaf (.seq (.region []) (.join [9] [] [] .leaf (.seq (.region []) (.join [9] [] [] .leaf (.region []))))))))) (.inl (.seq (.region []) .leaf) (.seq (.seq (.region []) (.join [19] [] [] .leaf (.seq (.region []) (.join [19] [] [] .leaf (.seq (.region []) (.join [19] [] [] .leaf (.seq (.region []) (.join [19] [] [] .leaf (.seq (.region []) (.join [19] [] [] .leaf (.region []))))))))))) (.inl (.seq (.region []) .leaf) (.seq (.seq (.region []) (.join [32] [] [] .leaf (.region []))) (.inl (.seq (.region []) .leaf) (.seq (.seq (.region []) (.join [39] [] [] .leaf (.region []))) (.inl (.seq (.region []) .leaf) (.seq (.region []) (.inl (.seq (.region []) .leaf) (.seq (.seq (.region []) (.join [56] [] [] .leaf (.seq (.region []) (.join [56] [] [] .leaf (.region []))))) (.inl (.seq (.region []) (.seq (.seq (.region []) (.block [5] [] [71] (.loop [5, 63] [] [71] (.seq (.region []) (.seq (.inl .leaf .leaf) (.seq (.block [5] [] [71] (.seq (.region []) (.region []))) (.region []))))))) (.seq (.region []) .leaf))) .leaf)))))))))))))) (.seq (.region []) .leaf))) lim [a0, a1] H = B311 N g334 lim a0 a1 H := by kernel_rfl
theorem sim311 (N : Nat) : SimF Tryz.prog 311 (G311 N) := by
  refine SimF.gen [(334, G334 N)] [] { promo := [2, 71], share := false } N (.seq (.region []) (.seq (.seq (.region []) (.block [] [] [71] (.seq (.seq (.region []) (.join [9] [] [] .leaf (.seq (.region []) (.join [9] [] [] .leaf (.seq (.region []) (.join [9] [] [] .leaf (.seq (.region []) (.join [9] [] [] .leaf (.region []))))))))) (.inl (.seq (.region []) .leaf) (.seq (.seq (.region []) (.join [19] [] [] .leaf (.seq (.region []) (.join [19] [] [] .leaf (.seq (.region []) (.join [19] [] [] .leaf (.seq (.region []) (.join [19] [] [] .leaf (.seq (.region []) (.join [19] [] [] .leaf (.region []))))))))))) (.inl (.seq (.region []) .leaf) (.seq (.seq (.region []) (.join [32] [] [] .leaf (.region []))) (.inl (.seq (.region []) .leaf) (.seq (.seq (.region []) (.join [39] [] [] .leaf (.region []))) (.inl (.seq (.region []) .leaf) (.seq (.region []) (.inl (.seq (.region []) .leaf) (.seq (.seq (.region []) (.join [56] [] [] .leaf (.seq (.region []) (.join [56] [] [] .leaf (.region []))))) (.inl (.seq (.region []) (.seq (.seq (.region []) (.block [5] [] [71] (.loop [5, 63] [] [71] (.seq (.region []) (.seq (.inl .leaf .leaf) (.seq (.block [5] [] [71] (.seq (.region []) (.region []))) (.region []))))))) (.seq (.region []) .leaf))) .leaf)))))))))))))) (.seq (.region []) .leaf))) Tryz.func311 (by kernel_rfl) (by kernel_rfl) (env_cons (sim334 N) env_nil) ?_
  intro lim args H r h
  unfold G311 w2 at h
  split at h
  · exact (eq311 N (F334 N) lim _ _ H).trans h
  · simp at h
/-- (besom/check.look).slots -/
def B277 (N : Nat) (g214 : RF2) (g220 : RF1) (g308 : RF1) (g310 : RF1) (g311 : RF2) (lim : Nat) (l0 : Value) (H : IHeap) : RV :=
 retK ((cellsOf true 14 l0).bind fun cs1 =>
 (iload true 14 cs1 0).bind fun t12 =>
 callK (g310 lim t12 H) fun t13 H1 =>
 (iextract 0 t13).bind fun t14 =>
 (iextract 1 t13).bind fun t15 =>
 (istore true 5 [(.slice none 0 0), (.int .i64 0), (.int .i64 0), (.slice none 0 0), (.slice none 0 0)] 0 t14).bind fun cs2 =>
 (iload false 1 cs2 0).bind fun t17 =>
 (ilenS t17).bind fun t18 =>
 (gval true t15).bind fun w1 => grpK (bif w1 then
 ((iload false 1 cs1 11).bind fun t23 =>
 (ibin .lss .no t23 (.int .i64 0)).bind fun t24 =>
 some ([t24], H1))
 else some ([Value.tuple #[]], H1)) fun vs1 H2 =>
 (gval false (nthV 0 vs1)).bind fun w2 => grpK (bif w2 then
 ((iload false 1 cs1 5).bind fun t29 =>
 (ibin .gtr .no t18 t29).bind fun t30 =>
 some ([t30], H2))
 else some ([Value.tuple #[]], H2)) fun vs2 H3 =>
 (gval true t15).bind fun w3 => grpK (bif w3 then
 ((pickK (nthV 0 vs1) (.bool true) (nthV 0 vs2)).bind fun t31 =>
 some ([t31], H3))
 else some ([Value.tuple #[]], H3)) fun vs3 H4 =>
 (gval false (nthV 0 vs3)).bind fun w4 => grpK (bif w4 then
 ((iload false 1 cs1 11).bind fun t35 =>
 (iload false 1 cs1 5).bind fun t38 =>
 (ibin .sub .no t38 t18).bind fun t40 =>
 (ibin .gtr .no t35 t40).bind fun t41 =>
 some ([t41], H4))
 else some ([Value.tuple #[]], H4)) fun vs4 H5 =>
 (gval true t15).bind fun w5 => grpK (bif w5 then
 ((pickK (nthV 0 vs3) (.bool true) (nthV 0 vs4)).bind fun t42 =>
 some ([t42], H5))
 else some ([Value.tuple #[]], H5)) fun vs5 H6 =>
 (pickK t15 (nthV 0 vs5) (.bool false)).bind fun t43 =>
 (boolK t43 fun b4 => bif b4 then
 (some (.ret (.bool false), H6))
 else
 (iload true 4 cs1 8).bind fun t45 =>
 callK (g311 lim t45 t18 H6) fun t47 H7 =>
 (iload true 4 cs1 8).bind fun t50 =>
 callK (g220 lim t50 H7) fun t51 H8 =>
 (iextract 0 t51).bind fun t52 =>
 (iextract 1 t51).bind fun t53 =>
 (gval true t53).bind fun w6 => grpK (bif w6 then
 ((iload true 14 cs1 0).bind fun t56 =>
 callK (g308 lim t56 H8) fun t57 H10 =>
 (iun .not t57).bind fun t58 =>
 some ([t58], H10))
 else some ([Value.tuple #[]], H8)) fun vs6 H9 =>
 (pickK t53 (nthV 0 vs6) (.bool false)).bind fun t59 =>
 joinK (boolK t59 fun b6 => bif b6 then
 ((istore false 1 [(.int .i64 0)] 0 t52).bind fun cs3 =>
 rowK (lrow 1 1 cs3) fun m1 new1 =>
 callK (iappend false 1 8 lim H9 t47 m1 new1) fun t63 H11 =>
 some (.norm ([t63] ++ []), H11))
 else
 some (.norm ([t47] ++ []), H9)) fun vs7 H12 =>
 (iload false 1 cs1 8).bind fun t66 =>
 (ibin .eql .no t66 (.int .i64 26)).bind fun t67 =>
 joinK (boolK t67 fun b7 => bif b7 then
 ((iload false 1 cs1 10).bind fun t71 =>
 (istore false 1 [(.int .i64 0)] 0 t71).bind fun cs4 =>
 rowK (lrow 1 1 cs4) fun m2 new2 =>
 callK (iappend false 1 8 lim H12 (nthV 0 vs7) m2 new2) fun t73 H13 =>
 some (.norm ([t73] ++ []), H13))
 else
 some (.norm ([(nthV 0 vs7)] ++ []), H12)) fun vs8 H14 =>
 (iload false 1 cs1 8).bind fun t76 =>
 (ibin .eql .no t76 (.int .i64 22)).bind fun t77 =>
 (gval true t77).bind fun w7 => grpK (bif w7 then
 ((iload true 14 cs1 0).bind fun t79 =>
 callK (g308 lim t79 H14) fun t80 H16 =>
 (iun .not t80).bind fun t81 =>
 some ([t81], H16))
 else some ([Value.tuple #[]], H14)) fun vs9 H15 =>
 (pickK t77 (nthV 0 vs9) (.bool false)).bind fun t82 =>
 joinK (boolK t82 fun b9 => bif b9 then
 ((iload false 1 cs1 9).bind fun t86 =>
 (istore false 1 [(.int .i64 0)] 0 t86).bind fun cs5 =>
 rowK (lrow 1 1 cs5) fun m3 new3 =>
 callK (iappend false 1 8 lim H15 (nthV 0 vs8) m3 new3) fun t88 H17 =>
 some (.norm ([t88] ++ []), H17))
 else
 some (.norm ([(nthV 0 vs8)] ++ []), H15)) fun vs10 H18 =>
 (ilenS (nthV 0 vs10)).bind fun t90 =>
 catchK 0 (iloop (fun vs11 H19 =>
 (ibin .lss .no (nthV 0 vs11) t90).bind fun t92 =>
 (boolK t92 fun b10 => bif b10 then
 (catchK 1 ((iidx 1 (nthV 0 vs10) (nthV 0 vs11)).bind fun t93 =>
 (hload false 1 H19 t93).bind fun t94 =>
 (iload false 1 cs1 5).bind fun t98 =>
 callK (g214 lim t94 t98 H19) fun t99 H20 =>
 (iun .not t99).bind fun t100 =>
 (boolK t100 fun b11 => bif b11 then
 (some (.ret (.bool false), H20))
 else
 some (.norm ([] ++ []), H20))) fun vs12 H21 =>
 (ibin .add .no (nthV 0 vs11) (.int .i64 1)).bind fun t101 =>
 some (.norm ([t101] ++ []), H21))
 else
 some (.exit 0 ([] ++ []), H19))) N ([(.int .i64 0)] ++ []) H18) fun vs13 H22 =>
 some (.ret (.bool true), H22)))
def F277 (N lim : Nat) (a0 : Value) (H : IHeap) : RV := B277 N (F214 N) (F220 N) (F308 N) (F310 N) (F311 N) lim a0 H
def G277 (N : Nat) : G := w1 (F277 N)
theorem eq277 (N : Nat) (g214 : RF2) (g220 : RF1) (g308 : RF1) (g310 : RF1) (g311 : RF2) (lim : Nat) (a0 : Value) (H : IHeap) : ifun Tryz.prog { fn := envOf [(214, Ideal.w2 g214), (220, Ideal.w1 g220), (308, Ideal.w1 g308), (310, Ideal.w1 g310), (311, Ideal.w2 g311)], wr := [] } { promo := [1, 3, 62, 72, 87], share := false } N (okOf Tryz.prog { promo := [1, 3, 62, 72, 87], share := false } []) Tryz.f277 (.seq (.region []) (.seq (.region []) (.seq (.region []) (.seq (.seq (.region [[25], [30], [32], [41], [42]]) (.inl (.seq (.region []) .leaf) .leaf)) (.seq (.region []) (.seq (.seq (.region []) (.seq (.region [[58]]) (.join [6] [] [62] (.region []) .leaf))) (.seq (.seq (.region []) (.join [6] [] [72] (.region []) .leaf)) (.seq (.seq (.region [[81]]) (.join [6] [] [87] (.region []) .leaf)) (.seq (.seq (.region []) (.block [] [] [] (.loop [91] [] [] (.seq (.region []) (.seq (.inl .leaf .leaf) (.seq (.block [] [] [] (.seq (.region []) (.seq (.region []) (.inl (.seq (.region []) .leaf) .leaf)))) (.region []))))))) (.seq (.region []) .leaf)))))))))) lim [a0] H = B277 N g214 g220 g308 g310 g311 lim a0 H := by kernel_rfl
theorem sim277 (N : Nat) : SimF Tryz.prog 277 (G277 N) := by
  refine SimF.gen [(214, G214 N), (220, G220 N), (308, G308 N), (310, G310 N), (311, G311 N)] [] { promo := [1, 3, 62, 72, 87], share := false } N (.seq (.region []) (.seq (.region []) (.seq (.region []) (.seq (.seq (.region [[25], [30], [32], [41], [42]]) (.inl (.seq (.region []) .leaf) .leaf)) (.seq (.region []) (.seq (.seq (.region []) (.seq (.region [[58]]) (.join [6] [] [62] (.region []) .leaf))) (.seq (.seq (.region []) (.join [6] [] [72] (.region []) .leaf)) (.seq (.seq (.region [[81]]) (.join [6] [] [87] (.region []) .leaf)) (.seq (.seq (.region []) (.block [] [] [] (.loop [91] [] [] (.seq (.region []) (.seq (.inl .leaf .leaf) (.seq (.block [] [] [] (.seq (.region []) (.seq (.region []) (.inl (.seq (.region []) .leaf) .leaf)))) (.region []))))))) (.seq (.region []) .leaf)))))))))) Tryz.func277 (by kernel_rfl) (by kernel_rfl) (env_cons (sim214 N) (env_cons (sim220 N) (env_cons (sim308 N) (env_cons (sim310 N) (env_cons (sim311 N) env_nil))))) ?_
  intro lim args H r h
  unfold G277 w1 at h
  split at h
  · exact (eq277 N (F214 N) (F220 N) (F308 N) (F310 N) (F311 N) lim _ H).trans h
  · simp at h
/-- slices.IndexFunc[[]int,int] -/
def B335 (N : Nat) (lim : Nat) (s0 f1 : Value) (H : IHeap) : RV :=
 retK ((ilenS s0).bind fun t7 =>
 catchK 0 (iloop (fun vs1 H1 =>
 (ibin .lss .no (nthV 0 vs1) t7).bind fun t9 =>
 (boolK t9 fun b1 => bif b1 then
 (catchK 1 ((iidx 1 s0 (nthV 0 vs1)).bind fun t14 =>
 (hload false 1 H1 t14).bind fun t15 =>
 funcK f1 fun fid1 fi1 ca1 => (envOf [] fid1).bind fun g1 =>
 callK (g1 lim (fi1 ++ [t15] ++ ca1) H1) fun t16 H2 =>
 (boolK t16 fun b2 => bif b2 then
 (some (.ret (nthV 0 vs1), H2))
 else
 some (.norm ([] ++ []), H2))) fun vs2 H3 =>
 (ibin .add .no (nthV 0 vs1) (.int .i64 1)).bind fun t18 =>
 some (.norm ([t18] ++ []), H3))
 else
 some (.exit 0 ([] ++ []), H1))) N ([(.int .i64 0)] ++ []) H) fun vs3 H4 =>
 some (.ret (.int .i64 (-1)), H4))
def F335 (N lim : Nat) (a0 a1 : Value) (H : IHeap) : RV := B335 N lim a0 a1 H
def G335 (N : Nat) : G := w2 (F335 N)
theorem eq335 (N : Nat) (lim : Nat) (a0 a1 : Value) (H : IHeap) : ifun Tryz.prog { fn := envOf [], wr := [] } { promo := [], share := false } N (okOf Tryz.prog { promo := [], share := false } []) Tryz.f335 (.seq (.region []) (.seq (.seq (.region []) (.block [] [] [] (.loop [8] [] [] (.seq (.region []) (.seq (.inl .leaf .leaf) (.seq (.block [] [] [] (.seq (.region []) (.seq (.region []) (.inl (.seq (.region []) .leaf) .leaf)))) (.region []))))))) (.seq (.region []) .leaf))) lim [a0, a1] H = B335 N lim a0 a1 H := by kernel_rfl
theorem sim335 (N : Nat) : SimF Tryz.prog 335 (G335 N) := by
  refine SimF.gen [] [] { promo := [], share := false } N (.seq (.region []) (.seq (.seq (.region []) (.block [] [] [] (.loop [8] [] [] (.seq (.region []) (.seq (.inl .leaf .leaf) (.seq (.block [] [] [] (.seq (.region []) (.seq (.region []) (.inl (.seq (.region []) .leaf) .leaf)))) (.region []))))))) (.seq (.region []) .leaf))) Tryz.func335 (by kernel_rfl) (by kernel_rfl) env_nil ?_
  intro lim args H r h
  unfold G335 w2 at h
  split at h
  · exact (eq335 N lim _ _ H).trans h
  · simp at h
/-- slices.ContainsFunc[[]int,int] -/
def B312 (N : Nat) (g335 : RF2) (lim : Nat) (s0 f1 : Value) (H : IHeap) : RV :=
 retK (callK (g335 lim s0 f1 H) fun t7 H1 =>
 (ibin .geq .no t7 (.int .i64 0)).bind fun t8 =>
 some (.ret t8, H1))
def F312 (N lim : Nat) (a0 a1 : Value) (H : IHeap) : RV := B312 N (F335 N) lim a0 a1 H
def G312 (N : Nat) : G := w2 (F312 N)
theorem eq312 (N : Nat) (g335 : RF2) (lim : Nat) (a0 a1 : Value) (H : IHeap) : ifun Tryz.prog { fn := envOf [(335, Ideal.w2 g335)], wr := [] } { promo := [], share := false } N (okOf Tryz.prog { promo := [], share := false } []) Tryz.f312 (.seq (.region []) (.seq (.region []) .leaf)) lim [a0, a1] H = B312 N g335 lim a0 a1 H := by kernel_rfl
theorem sim312 (N : Nat) : SimF Tryz.prog 312 (G312 N) := by
  refine SimF.gen [(335, G335 N)] [] { promo := [], share := false } N (.seq (.region []) (.seq (.region []) .leaf)) Tryz.func312 (by kernel_rfl) (by kernel_rfl) (env_cons (sim335 N) env_nil) ?_
  intro lim args H r h
  unfold G312 w2 at h
  split at h
  · exact (eq312 N (F335 N) lim _ _ H).trans h
  · simp at h
/-- (besom/check.look).kinds -/
def B278 (N : Nat) (g310 : RF1) (g312 : RF2) (lim : Nat) (l0 : Value) (H : IHeap) : RV :=
 retK ((cellsOf true 14 l0).bind fun cs1 =>
 (iload true 14 cs1 0).bind fun t6 =>
 callK (g310 lim t6 H) fun t7 H1 =>
 (iextract 0 t7).bind fun t8 =>
 (iextract 1 t7).bind fun t9 =>
 (istore true 5 [(.slice none 0 0), (.int .i64 0), (.int .i64 0), (.slice none 0 0), (.slice none 0 0)] 0 t8).bind fun cs2 =>
 (iload false 1 cs1 8).bind fun t12 =>
 catchK 0 ((ibin .eql .no t12 (.int .i64 23)).bind fun t14 =>
 joinK (boolK t14 fun b1 => bif b1 then
 (some (.norm ([t14] ++ []), H1))
 else
 (ibin .eql .no t12 (.int .i64 24)).bind fun t15 =>
 some (.norm ([t15] ++ []), H1)) fun vs1 H2 =>
 (boolK (nthV 0 vs1) fun b2 => bif b2 then
 ((iload false 1 cs2 1).bind fun t17 =>
 (ibin .eql .no t17 (.int .i64 0)).bind fun t18 =>
 (gval true t18).bind fun w1 => grpK (bif w1 then
 ((iload false 1 cs2 0).bind fun t21 =>
 callK (g312 lim t21 (.func (.func 313) #[] #[]) H2) fun t22 H4 =>
 (iun .not t22).bind fun t23 =>
 some ([t23], H4))
 else some ([Value.tuple #[]], H2)) fun vs2 H3 =>
 (pickK t18 (nthV 0 vs2) (.bool false)).bind fun t24 =>
 some (.ret t24, H3))
 else
 (ibin .eql .no t12 (.int .i64 25)).bind fun t26 =>
 joinK (boolK t26 fun b4 => bif b4 then
 (some (.norm ([t26] ++ []), H2))
 else
 (ibin .eql .no t12 (.int .i64 26)).bind fun t27 =>
 some (.norm ([t27] ++ []), H2)) fun vs3 H5 =>
 (boolK (nthV 0 vs3) fun b5 => bif b5 then
 ((iload false 1 cs1 1).bind fun t30 =>
 (ilenS t30).bind fun t31 =>
 (ibin .gtr .no t31 (.int .i64 0)).bind fun t32 =>
 some (.ret t32, H5))
 else
 some (.norm ([] ++ []), H5)))) fun vs4 H6 =>
 some (.ret (.bool true), H6))
def F278 (N lim : Nat) (a0 : Value) (H : IHeap) : RV := B278 N (F310 N) (F312 N) lim a0 H
def G278 (N : Nat) : G := w1 (F278 N)
theorem eq278 (N : Nat) (g310 : RF1) (g312 : RF2) (lim : Nat) (a0 : Value) (H : IHeap) : ifun Tryz.prog { fn := envOf [(310, Ideal.w1 g310), (312, Ideal.w2 g312)], wr := [] } { promo := [1, 3], share := false } N (okOf Tryz.prog { promo := [1, 3], share := false } []) Tryz.f278 (.seq (.region []) (.seq (.region []) (.seq (.seq (.region []) (.block [] [] [] (.seq (.seq (.region []) (.join [13] [] [] .leaf (.region []))) (.inl (.seq (.region [[23]]) .leaf) (.seq (.seq (.region []) (.join [25] [] [] .leaf (.region []))) (.inl (.seq (.region []) .leaf) .leaf)))))) (.seq (.region []) .leaf)))) lim [a0] H = B278 N g310 g312 lim a0 H := by kernel_rfl
theorem sim278 (N : Nat) : SimF Tryz.prog 278 (G278 N) := by
  refine SimF.gen [(310, G310 N), (312, G312 N)] [] { promo := [1, 3], share := false } N (.seq (.region []) (.seq (.region []) (.seq (.seq (.region []) (.block [] [] [] (.seq (.seq (.region []) (.join [13] [] [] .leaf (.region []))) (.inl (.seq (.region [[23]]) .leaf) (.seq (.seq (.region []) (.join [25] [] [] .leaf (.region []))) (.inl (.seq (.region []) .leaf) .leaf)))))) (.seq (.region []) .leaf)))) Tryz.func278 (by kernel_rfl) (by kernel_rfl) (env_cons (sim310 N) (env_cons (sim312 N) env_nil)) ?_
  intro lim args H r h
  unfold G278 w1 at h
  split at h
  · exact (eq278 N (F310 N) (F312 N) lim _ H).trans h
  · simp at h
/-- besom/check.Instr -/
def B216 (N : Nat) (g274 : RF2) (g275 : RF1) (g276 : RF1) (g277 : RF1) (g278 : RF1) (lim : Nat) (p0 at1 : Value) (H : IHeap) : RV :=
 retK ((cellsOf true 3 p0).bind fun cs1 =>
 (cellsOf true 2 at1).bind fun cs2 =>
 (iload true 3 cs1 0).bind fun t9 =>
 (iload false 1 cs2 0).bind fun t11 =>
 callK (g274 lim t9 t11 H) fun t12 H1 =>
 (iload true 2 cs2 0).bind fun t13 =>
 (ilookup 3 (.agg #[(.int .i64 0), (.int .i64 0), (.int .i64 0), (.int .i64 0)]) true H1 t12 t13).bind fun t14 =>
 (iextract 0 t14).bind fun t15 =>
 (iextract 1 t14).bind fun t16 =>
 (istore true 4 [(.int .i64 0), (.int .i64 0), (.int .i64 0), (.int .i64 0)] 0 t15).bind fun cs3 =>
 (iun .not t16).bind fun t18 =>
 (boolK t18 fun b1 => bif b1 then
 (some (.ret (.int .i64 1), H1))
 else
 (iload true 3 cs1 0).bind fun t19 =>
 (iload false 1 cs1 2).bind fun t21 =>
 (iload false 1 cs2 0).bind fun t23 =>
 (iidx 5 t21 t23).bind fun t24 =>
 (hload true 5 H1 t24).bind fun t25 =>
 (iload true 4 cs3 0).bind fun t26 =>
 (iload true 2 cs2 0).bind fun t27 =>
 (istore true 3 [(.slice none 0 0), (.slice none 0 0), (.slice none 0 0), (.slice none 0 0), (.int .i64 0), (.int .i64 0), (.slice none 0 0), (.slice none 0 0), (.int .i64 0), (.int .i64 0), (.int .i64 0), (.int .i64 0), (.int .i64 0), (.int .i64 0)] 0 t19).bind fun cs4 =>
 (istore true 5 cs4 3 t25).bind fun cs5 =>
 (istore true 4 cs5 8 t26).bind fun cs6 =>
 (istore true 2 cs6 12 t27).bind fun cs7 =>
 (istore true 14 [(.slice none 0 0), (.slice none 0 0), (.slice none 0 0), (.slice none 0 0), (.int .i64 0), (.int .i64 0), (.slice none 0 0), (.slice none 0 0), (.int .i64 0), (.int .i64 0), (.int .i64 0), (.int .i64 0), (.int .i64 0), (.int .i64 0)] 0 (.agg ⟨cs7⟩)).bind fun cs8 =>
 catchK 0 ((iload true 14 cs8 0).bind fun t30 =>
 callK (g275 lim t30 H1) fun t31 H2 =>
 (iun .not t31).bind fun t32 =>
 (boolK t32 fun b2 => bif b2 then
 (some (.ret (.int .i64 2), H2))
 else
 (iload true 14 cs8 0).bind fun t34 =>
 callK (g276 lim t34 H2) fun t35 H3 =>
 (iun .not t35).bind fun t36 =>
 (gval false t36).bind fun w1 => grpK (bif w1 then
 ((iload true 14 cs8 0).bind fun t38 =>
 callK (g277 lim t38 H3) fun t39 H5 =>
 (iun .not t39).bind fun t40 =>
 some ([t40], H5))
 else some ([Value.tuple #[]], H3)) fun vs1 H4 =>
 (pickK t36 (.bool true) (nthV 0 vs1)).bind fun t41 =>
 (boolK t41 fun b4 => bif b4 then
 (some (.ret (.int .i64 4), H4))
 else
 (iload true 14 cs8 0).bind fun t43 =>
 callK (g278 lim t43 H4) fun t44 H6 =>
 (iun .not t44).bind fun t45 =>
 (boolK t45 fun b5 => bif b5 then
 (some (.ret (.int .i64 3), H6))
 else
 some (.norm ([] ++ []), H6))))) fun vs2 H7 =>
 some (.ret (.int .i64 0), H7)))
def F216 (N lim : Nat) (a0 a1 : Value) (H : IHeap) : RV := B216 N (F274 N) (F275 N) (F276 N) (F277 N) (F278 N) lim a0 a1 H
def G216 (N : Nat) : G := w2 (F216 N)
theorem eq216 (N : Nat) (g274 : RF2) (g275 : RF1) (g276 : RF1) (g277 : RF1) (g278 : RF1) (lim : Nat) (a0 a1 : Value) (H : IHeap) : ifun Tryz.prog { fn := envOf [(274, Ideal.w2 g274), (275, Ideal.w1 g275), (276, Ideal.w1 g276), (277, Ideal.w1 g277), (278, Ideal.w1 g278)], wr := [274] } { promo := [2, 3, 5, 7], share := false } N (okOf Tryz.prog { promo := [2, 3, 5, 7], share := false } [274]) Tryz.f216 (.seq (.region []) (.seq (.region []) (.seq (.seq (.region []) (.inl (.seq (.region []) .leaf) .leaf)) (.seq (.region []) (.seq (.block [] [] [] (.seq (.region []) (.inl (.seq (.region []) .leaf) (.seq (.region [[40]]) (.inl (.seq (.region []) .leaf) (.seq (.region []) (.inl (.seq (.region []) .leaf) .leaf))))))) (.seq (.region []) .leaf)))))) lim [a0, a1] H = B216 N g274 g275 g276 g277 g278 lim a0 a1 H := by kernel_rfl
theorem sim216 (N : Nat) : SimF Tryz.prog 216 (G216 N) := by
  refine SimF.gen [(274, G274 N), (275, G275 N), (276, G276 N), (277, G277 N), (278, G278 N)] [274] { promo := [2, 3, 5, 7], share := false } N (.seq (.region []) (.seq (.region []) (.seq (.seq (.region []) (.inl (.seq (.region []) .leaf) .leaf)) (.seq (.region []) (.seq (.block [] [] [] (.seq (.region []) (.inl (.seq (.region []) .leaf) (.seq (.region [[40]]) (.inl (.seq (.region []) .leaf) (.seq (.region []) (.inl (.seq (.region []) .leaf) .leaf))))))) (.seq (.region []) .leaf)))))) Tryz.func216 (by kernel_rfl) (by kernel_rfl) (env_cons (sim274 N) (env_cons (sim275 N) (env_cons (sim276 N) (env_cons (sim277 N) (env_cons (sim278 N) env_nil))))) ?_
  intro lim args H r h
  unfold G216 w2 at h
  split at h
  · exact (eq216 N (F274 N) (F275 N) (F276 N) (F277 N) (F278 N) lim _ _ H).trans h
  · simp at h
/-- besom/check.Func -/
def B143 (N : Nat) (g214 : RF2) (g215 : RF2) (g216 : RF2) (lim : Nat) (p0 fn1 : Value) (H : IHeap) : RV :=
 retK ((cellsOf true 3 p0).bind fun cs1 =>
 (iload false 1 cs1 2).bind fun t12 =>
 (ilenS t12).bind fun t13 =>
 callK (g214 lim fn1 t13 H) fun t14 H1 =>
 (iun .not t14).bind fun t15 =>
 (boolK t15 fun b1 => bif b1 then
 ((istore false 1 [(.int .i64 0), (.int .i64 0)] 0 fn1).bind fun cs2 =>
 (istore true 2 [(.int .i64 0), (.int .i64 0)] 0 (.agg ⟨cs2⟩)).bind fun cs3 =>
 (iload true 2 cs3 0).bind fun r1 =>
 some (.ret (.tuple ⟨[(.int .i64 1), r1]⟩), H1))
 else
 (iload false 1 cs1 2).bind fun t19 =>
 (iidx 5 t19 fn1).bind fun t21 =>
 (hload true 5 H1 t21).bind fun t22 =>
 (istore true 5 [(.slice none 0 0), (.int .i64 0), (.int .i64 0), (.slice none 0 0), (.slice none 0 0)] 0 t22).bind fun cs4 =>
 (iload true 3 cs1 0).bind fun t23 =>
 (iload true 5 cs4 0).bind fun t24 =>
 callK (g215 lim t23 t24 H1) fun t25 H2 =>
 (ibin .neq .no t25 (.int .i64 0)).bind fun t27 =>
 (boolK t27 fun b2 => bif b2 then
 ((istore false 1 [(.int .i64 0), (.int .i64 0)] 0 fn1).bind fun cs5 =>
 (istore true 2 [(.int .i64 0), (.int .i64 0)] 0 (.agg ⟨cs5⟩)).bind fun cs6 =>
 (iload true 2 cs6 0).bind fun r2 =>
 some (.ret (.tuple ⟨[t25, r2]⟩), H2))
 else
 (iload false 1 cs4 4).bind fun t32 =>
 (ilenS t32).bind fun t33 =>
 catchK 0 (iloop (fun vs1 H3 =>
 (ibin .lss .no (nthV 0 vs1) t33).bind fun t35 =>
 (boolK t35 fun b3 => bif b3 then
 (catchK 1 ((iload true 3 cs1 0).bind fun t37 =>
 (istore false 1 [(.int .i64 0), (.int .i64 0)] 0 fn1).bind fun cs7 =>
 (istore false 1 cs7 1 (nthV 0 vs1)).bind fun cs8 =>
 callK (g216 lim t37 (.agg ⟨cs8⟩) H3) fun t41 H4 =>
 (ibin .neq .no t41 (.int .i64 0)).bind fun t43 =>
 (boolK t43 fun b4 => bif b4 then
 ((istore false 1 [(.int .i64 0), (.int .i64 0)] 0 fn1).bind fun cs9 =>
 (istore false 1 cs9 1 (nthV 0 vs1)).bind fun cs10 =>
 (aggs (nthV 0 (vs1.drop 1))).bind fun cs11 =>
 (istore true 2 cs11 0 (.agg ⟨cs10⟩)).bind fun cs12 =>
 (iload true 2 cs12 0).bind fun r3 =>
 some (.ret (.tuple ⟨[t41, r3]⟩), H4))
 else
 (aggs (nthV 0 (vs1.drop 1))).bind fun cs13 =>
 some (.norm ([] ++ [.agg ⟨cs13⟩]), H4))) fun vs2 H5 =>
 (ibin .add .no (nthV 0 vs1) (.int .i64 1)).bind fun t48 =>
 (aggs (nthV 0 (vs2.drop 0))).bind fun cs14 =>
 some (.norm ([t48] ++ [.agg ⟨cs14⟩]), H5))
 else
 (aggs (nthV 0 (vs1.drop 1))).bind fun cs15 =>
 some (.exit 0 ([] ++ [.agg ⟨cs15⟩]), H3))) N ([(.int .i64 0)] ++ [.agg ⟨[(.int .i64 0), (.int .i64 0)]⟩]) H2) fun vs3 H6 =>
 (aggs (nthV 0 (vs3.drop 0))).bind fun cs16 =>
 (istore true 2 cs16 0 (.agg ⟨[(.int .i64 0), (.int .i64 0)]⟩)).bind fun cs17 =>
 (iload true 2 cs17 0).bind fun r4 =>
 some (.ret (.tuple ⟨[(.int .i64 0), r4]⟩), H6))))
def F143 (N lim : Nat) (a0 a1 : Value) (H : IHeap) : RV := B143 N (F214 N) (F215 N) (F216 N) lim a0 a1 H
def G143 (N : Nat) : G := w2 (F143 N)
theorem eq143 (N : Nat) (g214 : RF2) (g215 : RF2) (g216 : RF2) (lim : Nat) (a0 a1 : Value) (H : IHeap) : ifun Tryz.prog { fn := envOf [(214, Ideal.w2 g214), (215, Ideal.w2 g215), (216, Ideal.w2 g216)], wr := [] } { promo := [2, 5, 6], share := false } N (okOf Tryz.prog { promo := [2, 5, 6], share := false } []) Tryz.f143 (.seq (.region []) (.seq (.seq (.region []) (.inl (.seq (.region []) .leaf) .leaf)) (.seq (.region []) (.seq (.seq (.region []) (.seq (.region []) (.inl (.seq (.region []) .leaf) .leaf))) (.seq (.seq (.region []) (.block [] [5] [5] (.loop [34] [5] [5] (.seq (.region []) (.seq (.inl .leaf .leaf) (.seq (.block [] [5] [5] (.seq (.region []) (.seq (.region []) (.seq (.region []) (.inl (.seq (.region []) .leaf) .leaf))))) (.region []))))))) (.seq (.region []) .leaf)))))) lim [a0, a1] H = B143 N g214 g215 g216 lim a0 a1 H := by kernel_rfl
theorem sim143 (N : Nat) : SimF Tryz.prog 143 (G143 N) := by
  refine SimF.gen [(214, G214 N), (215, G215 N), (216, G216 N)] [] { promo := [2, 5, 6], share := false } N (.seq (.region []) (.seq (.seq (.region []) (.inl (.seq (.region []) .leaf) .leaf)) (.seq (.region []) (.seq (.seq (.region []) (.seq (.region []) (.inl (.seq (.region []) .leaf) .leaf))) (.seq (.seq (.region []) (.block [] [5] [5] (.loop [34] [5] [5] (.seq (.region []) (.seq (.inl .leaf .leaf) (.seq (.block [] [5] [5] (.seq (.region []) (.seq (.region []) (.seq (.region []) (.inl (.seq (.region []) .leaf) .leaf))))) (.region []))))))) (.seq (.region []) .leaf)))))) Tryz.func143 (by kernel_rfl) (by kernel_rfl) (env_cons (sim214 N) (env_cons (sim215 N) (env_cons (sim216 N) env_nil))) ?_
  intro lim args H r h
  unfold G143 w2 at h
  split at h
  · exact (eq143 N (F214 N) (F215 N) (F216 N) lim _ _ H).trans h
  · simp at h
/-- besom/check.Program -/
def B70 (N : Nat) (g142 : RF1) (g143 : RF2) (lim : Nat) (p0 : Value) (H : IHeap) : RV :=
 retK ((cellsOf true 3 p0).bind fun cs1 =>
 (iload true 3 cs1 0).bind fun t8 =>
 callK (g142 lim t8 H) fun t9 H1 =>
 (ibin .neq .no t9 (.int .i64 0)).bind fun t11 =>
 (boolK t11 fun b1 => bif b1 then
 ((istore true 2 [(.int .i64 0), (.int .i64 0)] 0 (.agg ⟨[(.int .i64 0), (.int .i64 0)]⟩)).bind fun cs2 =>
 (iload true 2 cs2 0).bind fun r1 =>
 some (.ret (.tuple ⟨[t9, r1]⟩), H1))
 else
 (iload false 1 cs1 2).bind fun t15 =>
 (ilenS t15).bind fun t16 =>
 catchK 0 (iloop (fun vs1 H2 =>
 (ibin .lss .no (nthV 0 vs1) t16).bind fun t18 =>
 (boolK t18 fun b2 => bif b2 then
 (catchK 1 ((iload true 3 cs1 0).bind fun t21 =>
 callK (g143 lim t21 (nthV 0 vs1) H2) fun t23 H3 =>
 (iextract 0 t23).bind fun t24 =>
 (iextract 1 t23).bind fun t25 =>
 (istore true 2 [(.int .i64 0), (.int .i64 0)] 0 t25).bind fun cs3 =>
 (ibin .neq .no t24 (.int .i64 0)).bind fun t27 =>
 (boolK t27 fun b3 => bif b3 then
 ((iload true 2 cs3 0).bind fun t29 =>
 (aggs (nthV 0 (vs1.drop 1))).bind fun cs4 =>
 (istore true 2 cs4 0 t29).bind fun cs5 =>
 (iload true 2 cs5 0).bind fun r2 =>
 some (.ret (.tuple ⟨[t24, r2]⟩), H3))
 else
 (aggs (nthV 0 (vs1.drop 1))).bind fun cs6 =>
 some (.norm ([] ++ [.agg ⟨cs6⟩]), H3))) fun vs2 H4 =>
 (ibin .add .no (nthV 0 vs1) (.int .i64 1)).bind fun t30 =>
 (aggs (nthV 0 (vs2.drop 0))).bind fun cs7 =>
 some (.norm ([t30] ++ [.agg ⟨cs7⟩]), H4))
 else
 (aggs (nthV 0 (vs1.drop 1))).bind fun cs8 =>
 some (.exit 0 ([] ++ [.agg ⟨cs8⟩]), H2))) N ([(.int .i64 0)] ++ [.agg ⟨[(.int .i64 0), (.int .i64 0)]⟩]) H1) fun vs3 H5 =>
 (aggs (nthV 0 (vs3.drop 0))).bind fun cs9 =>
 (istore true 2 cs9 0 (.agg ⟨[(.int .i64 0), (.int .i64 0)]⟩)).bind fun cs10 =>
 (iload true 2 cs10 0).bind fun r3 =>
 some (.ret (.tuple ⟨[(.int .i64 0), r3]⟩), H5)))
def F70 (N lim : Nat) (a0 : Value) (H : IHeap) : RV := B70 N (F142 N) (F143 N) lim a0 H
def G70 (N : Nat) : G := w1 (F70 N)
theorem eq70 (N : Nat) (g142 : RF1) (g143 : RF2) (lim : Nat) (a0 : Value) (H : IHeap) : ifun Tryz.prog { fn := envOf [(142, Ideal.w1 g142), (143, Ideal.w2 g143)], wr := [] } { promo := [1, 3, 7], share := false } N (okOf Tryz.prog { promo := [1, 3, 7], share := false } []) Tryz.f70 (.seq (.region []) (.seq (.seq (.region []) (.seq (.region []) (.inl (.seq (.region []) .leaf) .leaf))) (.seq (.seq (.region []) (.block [] [3] [3, 7] (.loop [17] [3] [3, 7] (.seq (.region []) (.seq (.inl .leaf .leaf) (.seq (.block [] [3] [3, 7] (.seq (.region []) (.seq (.region []) (.seq (.region []) (.inl (.seq (.region []) .leaf) .leaf))))) (.region []))))))) (.seq (.region []) .leaf)))) lim [a0] H = B70 N g142 g143 lim a0 H := by kernel_rfl
theorem sim70 (N : Nat) : SimF Tryz.prog 70 (G70 N) := by
  refine SimF.gen [(142, G142 N), (143, G143 N)] [] { promo := [1, 3, 7], share := false } N (.seq (.region []) (.seq (.seq (.region []) (.seq (.region []) (.inl (.seq (.region []) .leaf) .leaf))) (.seq (.seq (.region []) (.block [] [3] [3, 7] (.loop [17] [3] [3, 7] (.seq (.region []) (.seq (.inl .leaf .leaf) (.seq (.block [] [3] [3, 7] (.seq (.region []) (.seq (.region []) (.seq (.region []) (.inl (.seq (.region []) .leaf) .leaf))))) (.region []))))))) (.seq (.region []) .leaf)))) Tryz.func70 (by kernel_rfl) (by kernel_rfl) (env_cons (sim142 N) (env_cons (sim143 N) env_nil)) ?_
  intro lim args H r h
  unfold G70 w1 at h
  split at h
  · exact (eq70 N (F142 N) (F143 N) lim _ H).trans h
  · simp at h
/-- besom/flow.Join -/
def B217 (N : Nat) (lim : Nat) (a0 b1 : Value) (H : IHeap) : RV :=
 retK ((ilenS a0).bind fun t8 =>
 (ilenS b1).bind fun t10 =>
 (iminmax true [t8, t10]).bind fun t11 =>
 catchK 0 (iloop (fun vs1 H1 =>
 (ibin .lss .no (nthV 1 vs1) t11).bind fun t13 =>
 (boolK t13 fun b2 => bif b2 then
 (catchK 1 ((iidx 1 a0 (nthV 1 vs1)).bind fun t17 =>
 (hload false 1 H1 t17).bind fun t18 =>
 (iidx 1 b1 (nthV 1 vs1)).bind fun t21 =>
 (hload false 1 H1 t21).bind fun t22 =>
 (ibin .eql .no t18 t22).bind fun t23 =>
 joinK (boolK t23 fun b3 => bif b3 then
 ((iidx 1 a0 (nthV 1 vs1)).bind fun t27 =>
 (hload false 1 H1 t27).bind fun t28 =>
 (istore false 1 [(.int .i64 0)] 0 t28).bind fun cs1 =>
 rowK (lrow 1 1 cs1) fun m1 new1 =>
 callK (iappend false 1 8 lim H1 (nthV 0 vs1) m1 new1) fun t30 H2 =>
 some (.norm ([t30] ++ []), H2))
 else
 (istore false 1 [(.int .i64 0)] 0 (.int .i64 0)).bind fun cs2 =>
 rowK (lrow 1 1 cs2) fun m2 new2 =>
 callK (iappend false 1 8 lim H1 (nthV 0 vs1) m2 new2) fun t33 H3 =>
 some (.norm ([t33] ++ []), H3)) fun vs2 H4 =>
 some (.norm ([(nthV 0 vs2)] ++ []), H4)) fun vs3 H5 =>
 (ibin .add .no (nthV 1 vs1) (.int .i64 1)).bind fun t34 =>
 some (.norm ([(nthV 0 vs3), t34] ++ []), H5))
 else
 some (.exit 0 ([(nthV 0 vs1)] ++ []), H1))) N ([(.slice none 0 0), (.int .i64 0)] ++ []) H) fun vs4 H6 =>
 some (.ret (nthV 0 vs4), H6))
def F217 (N lim : Nat) (a0 a1 : Value) (H : IHeap) : RV := B217 N lim a0 a1 H
def G217 (N : Nat) : G := w2 (F217 N)
theorem eq217 (N : Nat) (lim : Nat) (a0 a1 : Value) (H : IHeap) : ifun Tryz.prog { fn := envOf [], wr := [] } { promo := [29, 32], share := false } N (okOf Tryz.prog { promo := [29, 32], share := false } []) Tryz.f217 (.seq (.region []) (.seq (.region []) (.seq (.seq (.region []) (.block [5] [] [29, 32] (.loop [5, 12] [] [29, 32] (.seq (.region []) (.seq (.inl .leaf .leaf) (.seq (.block [5] [] [29, 32] (.seq (.region []) (.seq (.region []) (.join [5] [] [29, 32] (.region []) (.region []))))) (.region []))))))) (.seq (.region []) .leaf)))) lim [a0, a1] H = B217 N lim a0 a1 H := by kernel_rfl
theorem sim217 (N : Nat) : SimF Tryz.prog 217 (G217 N) := by
  refine SimF.gen [] [] { promo := [29, 32], share := false } N (.seq (.region []) (.seq (.region []) (.seq (.seq (.region []) (.block [5] [] [29, 32] (.loop [5, 12] [] [29, 32] (.seq (.region []) (.seq (.inl .leaf .leaf) (.seq (.block [5] [] [29, 32] (.seq (.region []) (.seq (.region []) (.join [5] [] [29, 32] (.region []) (.region []))))) (.region []))))))) (.seq (.region []) .leaf)))) Tryz.func217 (by kernel_rfl) (by kernel_rfl) env_nil ?_
  intro lim args H r h
  unfold G217 w2 at h
  split at h
  · exact (eq217 N lim _ _ H).trans h
  · simp at h
/-- slices.Equal[[]int,int] -/
def B218 (N : Nat) (lim : Nat) (s10 s21 : Value) (H : IHeap) : RV :=
 retK ((ilenS s10).bind fun t7 =>
 (ilenS s21).bind fun t9 =>
 (ibin .neq .no t7 t9).bind fun t10 =>
 (boolK t10 fun b1 => bif b1 then
 (some (.ret (.bool false), H))
 else
 (ilenS s10).bind fun t12 =>
 catchK 0 (iloop (fun vs1 H1 =>
 (ibin .lss .no (nthV 0 vs1) t12).bind fun t14 =>
 (boolK t14 fun b2 => bif b2 then
 (catchK 1 ((iidx 1 s10 (nthV 0 vs1)).bind fun t18 =>
 (hload false 1 H1 t18).bind fun t19 =>
 (iidx 1 s21 (nthV 0 vs1)).bind fun t22 =>
 (hload false 1 H1 t22).bind fun t23 =>
 (ibin .neq .no t19 t23).bind fun t24 =>
 (boolK t24 fun b3 => bif b3 then
 (some (.ret (.bool false), H1))
 else
 some (.norm ([] ++ []), H1))) fun vs2 H2 =>
 (ibin .add .no (nthV 0 vs1) (.int .i64 1)).bind fun t25 =>
 some (.norm ([t25] ++ []), H2))
 else
 some (.exit 0 ([] ++ []), H1))) N ([(.int .i64 0)] ++ []) H) fun vs3 H3 =>
 some (.ret (.bool true), H3)))
def F218 (N lim : Nat) (a0 a1 : Value) (H : IHeap) : RV := B218 N lim a0 a1 H
def G218 (N : Nat) : G := w2 (F218 N)
theorem eq218 (N : Nat) (lim : Nat) (a0 a1 : Value) (H : IHeap) : ifun Tryz.prog { fn := envOf [], wr := [] } { promo := [], share := false } N (okOf Tryz.prog { promo := [], share := false } []) Tryz.f218 (.seq (.region []) (.seq (.seq (.region []) (.inl (.seq (.region []) .leaf) .leaf)) (.seq (.seq (.region []) (.block [] [] [] (.loop [13] [] [] (.seq (.region []) (.seq (.inl .leaf .leaf) (.seq (.block [] [] [] (.seq (.region []) (.seq (.region []) (.inl (.seq (.region []) .leaf) .leaf)))) (.region []))))))) (.seq (.region []) .leaf)))) lim [a0, a1] H = B218 N lim a0 a1 H := by kernel_rfl
theorem sim218 (N : Nat) : SimF Tryz.prog 218 (G218 N) := by
  refine SimF.gen [] [] { promo := [], share := false } N (.seq (.region []) (.seq (.seq (.region []) (.inl (.seq (.region []) .leaf) .leaf)) (.seq (.seq (.region []) (.block [] [] [] (.loop [13] [] [] (.seq (.region []) (.seq (.inl .leaf .leaf) (.seq (.block [] [] [] (.seq (.region []) (.seq (.region []) (.inl (.seq (.region []) .leaf) .leaf)))) (.region []))))))) (.seq (.region []) .leaf)))) Tryz.func218 (by kernel_rfl) (by kernel_rfl) env_nil ?_
  intro lim args H r h
  unfold G218 w2 at h
  split at h
  · exact (eq218 N lim _ _ H).trans h
  · simp at h
/-- (*besom/flow.walk).come -/
def B144 (N : Nat) (g22 : RF1) (g217 : RF2) (g218 : RF2) (lim : Nat) (w0 pc1 kinds2 : Value) (H : IHeap) : RV :=
 retK ((inilc w0).bind fun t11 =>
 (paddr 3 t11).bind fun t12 =>
 (hload false 1 H t12).bind fun t13 =>
 (istore false 1 [(.int .i64 0), (.int .i64 0)] 0 t13).bind fun cs1 =>
 (istore false 1 cs1 1 pc1).bind fun cs2 =>
 (istore true 2 [(.int .i64 0), (.int .i64 0)] 0 (.agg ⟨cs2⟩)).bind fun cs3 =>
 (inilc w0).bind fun t18 =>
 (paddr 4 t18).bind fun t19 =>
 (hload false 1 H t19).bind fun t20 =>
 (iload true 2 cs3 0).bind fun t21 =>
 (ilookup 3 (.slice none 0 0) true H t20 t21).bind fun t22 =>
 (iextract 0 t22).bind fun t23 =>
 (iextract 1 t22).bind fun t24 =>
 joinK (boolK t24 fun b1 => bif b1 then
 (callK (g217 lim t23 kinds2 H) fun t29 H1 =>
 some (.norm ([t29] ++ []), H1))
 else
 some (.norm ([kinds2] ++ []), H)) fun vs1 H2 =>
 (iun .not t24).bind fun t31 =>
 (gval false t31).bind fun w1 => grpK (bif w1 then
 (callK (g218 lim t23 (nthV 0 vs1) H2) fun t35 H4 =>
 (iun .not t35).bind fun t36 =>
 some ([t36], H4))
 else some ([Value.tuple #[]], H2)) fun vs2 H3 =>
 (pickK t31 (.bool true) (nthV 0 vs2)).bind fun t37 =>
 joinK (boolK t37 fun b3 => bif b3 then
 ((inilc w0).bind fun t39 =>
 (paddr 4 t39).bind fun t40 =>
 (hload false 1 H3 t40).bind fun t41 =>
 (iload true 2 cs3 0).bind fun t42 =>
 callK (g22 H3.next (nthV 0 vs1) H3) fun t44 H5 =>
 (imapUpdate 3 lim H5 t41 t42 t44).bind fun H6 =>
 (inilc w0).bind fun t47 =>
 (paddr 5 t47).bind fun t48 =>
 (hload false 1 H6 t48).bind fun t49 =>
 (istore false 1 [(.int .i64 0)] 0 pc1).bind fun cs4 =>
 rowK (lrow 1 1 cs4) fun m1 new1 =>
 callK (iappend false 1 8 lim H6 t49 m1 new1) fun t52 H7 =>
 (inilc w0).bind fun t53 =>
 (paddr 5 t53).bind fun t54 =>
 (hstore false 1 lim H7 t54 t52).bind fun H8 =>
 some (.norm ([] ++ []), H8))
 else
 some (.norm ([] ++ []), H3)) fun vs3 H9 =>
 some (.ret (.tuple ⟨[]⟩), H9))
def F144 (N lim : Nat) (a0 a1 a2 : Value) (H : IHeap) : RV := B144 N (F22 N) (F217 N) (F218 N) lim a0 a1 a2 H
def G144 (N : Nat) : G := w3 (F144 N)
theorem eq144 (N : Nat) (g22 : RF1) (g217 : RF2) (g218 : RF2) (lim : Nat) (a0 a1 a2 : Value) (H : IHeap) : ifun Tryz.prog { fn := envOf [(22, Ideal.w1 g22), (217, Ideal.w2 g217), (218, Ideal.w2 g218)], wr := [] } { promo := [6, 51], share := false } N (okOf Tryz.prog { promo := [6, 51], share := false } []) Tryz.f144 (.seq (.region []) (.seq (.region []) (.seq (.region []) (.seq (.seq (.region []) (.join [9] [] [] (.region []) .leaf)) (.seq (.region [[36]]) (.join [] [] [51] (.seq (.region []) (.region [])) .leaf)))))) lim [a0, a1, a2] H = B144 N g22 g217 g218 lim a0 a1 a2 H := by kernel_rfl
theorem sim144 (N : Nat) : SimF Tryz.prog 144 (G144 N) := by
  refine SimF.gen [(22, G22 N), (217, G217 N), (218, G218 N)] [] { promo := [6, 51], share := false } N (.seq (.region []) (.seq (.region []) (.seq (.region []) (.seq (.seq (.region []) (.join [9] [] [] (.region []) .leaf)) (.seq (.region [[36]]) (.join [] [] [51] (.seq (.region []) (.region [])) .leaf)))))) Tryz.func144 (by kernel_rfl) (by kernel_rfl) (env_cons (sim22 N) (env_cons (sim217 N) (env_cons (sim218 N) env_nil))) ?_
  intro lim args H r h
  unfold G144 w3 at h
  split at h
  · exact (eq144 N (F22 N) (F217 N) (F218 N) lim _ _ _ H).trans h
  · simp at h
end Go.Ideal
