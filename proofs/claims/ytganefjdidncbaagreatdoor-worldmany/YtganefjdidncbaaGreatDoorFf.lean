/- This text proves no statement of the seat: it says what functions of the program do on the ideal machine, part 5. By program (emitall.py). -/
import Derived.Test.YtganefjdidncbaaGreatDoorFe
namespace Go.Ideal
open Go.Proofs
set_option maxRecDepth 100000
set_option linter.unusedVariables false
/-- (besom/flow.step).kind -/
def B279 (N : Nat) (lim : Nat) (s0 k1 : Value) (H : IHeap) : RV :=
 retK ((cellsOf true 13 s0).bind fun cs1 =>
 (ibin .lss .no k1 (.int .i64 0)).bind fun t6 =>
 (gval false t6).bind fun w1 => grpK (bif w1 then
 ((iload false 1 cs1 12).bind fun t10 =>
 (ilenS t10).bind fun t11 =>
 (ibin .geq .no k1 t11).bind fun t12 =>
 some ([t12], H))
 else some ([Value.tuple #[]], H)) fun vs1 H1 =>
 (pickK t6 (.bool true) (nthV 0 vs1)).bind fun t13 =>
 (boolK t13 fun b2 => bif b2 then
 (some (.ret (.int .i64 0), H1))
 else
 (iload false 1 cs1 12).bind fun t15 =>
 (iidx 1 t15 k1).bind fun t17 =>
 (hload false 1 H1 t17).bind fun t18 =>
 some (.ret t18, H1)))
def F279 (N lim : Nat) (a0 a1 : Value) (H : IHeap) : RV := B279 N lim a0 a1 H
def G279 (N : Nat) : G := w2 (F279 N)
theorem eq279 (N : Nat) (lim : Nat) (a0 a1 : Value) (H : IHeap) : ifun Tryz.prog { fn := envOf [], wr := [] } { promo := [2], share := false } N (okOf Tryz.prog { promo := [2], share := false } []) Tryz.f279 (.seq (.region []) (.seq (.seq (.region [[12]]) (.inl (.seq (.region []) .leaf) .leaf)) (.seq (.region []) .leaf))) lim [a0, a1] H = B279 N lim a0 a1 H := by kernel_rfl
theorem sim279 (N : Nat) : SimF Tryz.prog 279 (G279 N) := by
  refine SimF.gen [] [] { promo := [2], share := false } N (.seq (.region []) (.seq (.seq (.region [[12]]) (.inl (.seq (.region []) .leaf) .leaf)) (.seq (.region []) .leaf))) Tryz.func279 (by kernel_rfl) (by kernel_rfl) env_nil ?_
  intro lim args H r h
  unfold G279 w2 at h
  split at h
  · exact (eq279 N lim _ _ H).trans h
  · simp at h
/-- (besom/flow.step).callee -/
def B221 (N : Nat) (lim : Nat) (s0 : Value) (H : IHeap) : RV :=
 retK ((cellsOf true 13 s0).bind fun cs1 =>
 (iload false 1 cs1 2).bind fun t5 =>
 (iload false 1 cs1 10).bind fun t8 =>
 (iidx 5 t5 t8).bind fun t9 =>
 (hload true 5 H t9).bind fun t10 =>
 (istore true 5 [(.slice none 0 0), (.int .i64 0), (.int .i64 0), (.slice none 0 0), (.slice none 0 0)] 0 t10).bind fun cs2 =>
 (iload true 5 cs2 0).bind fun r1 =>
 some (.ret r1, H))
def F221 (N lim : Nat) (a0 : Value) (H : IHeap) : RV := B221 N lim a0 H
def G221 (N : Nat) : G := w1 (F221 N)
theorem eq221 (N : Nat) (lim : Nat) (a0 : Value) (H : IHeap) : ifun Tryz.prog { fn := envOf [], wr := [] } { promo := [1, 2], share := false } N (okOf Tryz.prog { promo := [1, 2], share := false } []) Tryz.f221 (.seq (.region []) (.seq (.region []) .leaf)) lim [a0] H = B221 N lim a0 H := by kernel_rfl
theorem sim221 (N : Nat) : SimF Tryz.prog 221 (G221 N) := by
  refine SimF.gen [] [] { promo := [1, 2], share := false } N (.seq (.region []) (.seq (.region []) .leaf)) Tryz.func221 (by kernel_rfl) (by kernel_rfl) env_nil ?_
  intro lim args H r h
  unfold G221 w1 at h
  split at h
  · exact (eq221 N lim _ H).trans h
  · simp at h
/-- (besom/flow.step).args -/
def B282 (N : Nat) (g221 : RF1) (g279 : RF2) (lim : Nat) (s0 : Value) (H : IHeap) : RV :=
 retK ((cellsOf true 13 s0).bind fun cs1 =>
 (iload true 13 cs1 0).bind fun t5 =>
 callK (g221 lim t5 H) fun t6 H1 =>
 (ifield false 1 0 t6).bind fun t7 =>
 (ilenS t7).bind fun t8 =>
 catchK 0 (iloop (fun vs1 H2 =>
 (ibin .lss .no (nthV 0 vs1) t8).bind fun t10 =>
 (boolK t10 fun b1 => bif b1 then
 (catchK 1 ((iidx 1 t7 (nthV 0 vs1)).bind fun t12 =>
 (hload false 1 H2 t12).bind fun t13 =>
 (iload true 13 cs1 0).bind fun t14 =>
 (iload false 1 cs1 11).bind fun t17 =>
 (ibin .add .no t17 (nthV 0 vs1)).bind fun t19 =>
 callK (g279 lim t14 t19 H2) fun t20 H3 =>
 (ibin .neq .no t20 t13).bind fun t22 =>
 (boolK t22 fun b2 => bif b2 then
 (some (.ret (.bool false), H3))
 else
 some (.norm ([] ++ []), H3))) fun vs2 H4 =>
 (ibin .add .no (nthV 0 vs1) (.int .i64 1)).bind fun t23 =>
 some (.norm ([t23] ++ []), H4))
 else
 some (.exit 0 ([] ++ []), H2))) N ([(.int .i64 0)] ++ []) H1) fun vs3 H5 =>
 some (.ret (.bool true), H5))
def F282 (N lim : Nat) (a0 : Value) (H : IHeap) : RV := B282 N (F221 N) (F279 N) lim a0 H
def G282 (N : Nat) : G := w1 (F282 N)
theorem eq282 (N : Nat) (g221 : RF1) (g279 : RF2) (lim : Nat) (a0 : Value) (H : IHeap) : ifun Tryz.prog { fn := envOf [(221, Ideal.w1 g221), (279, Ideal.w2 g279)], wr := [] } { promo := [1], share := false } N (okOf Tryz.prog { promo := [1], share := false } []) Tryz.f282 (.seq (.region []) (.seq (.seq (.region []) (.block [] [] [] (.loop [9] [] [] (.seq (.region []) (.seq (.inl .leaf .leaf) (.seq (.block [] [] [] (.seq (.region []) (.seq (.region []) (.inl (.seq (.region []) .leaf) .leaf)))) (.region []))))))) (.seq (.region []) .leaf))) lim [a0] H = B282 N g221 g279 lim a0 H := by kernel_rfl
theorem sim282 (N : Nat) : SimF Tryz.prog 282 (G282 N) := by
  refine SimF.gen [(221, G221 N), (279, G279 N)] [] { promo := [1], share := false } N (.seq (.region []) (.seq (.seq (.region []) (.block [] [] [] (.loop [9] [] [] (.seq (.region []) (.seq (.inl .leaf .leaf) (.seq (.block [] [] [] (.seq (.region []) (.seq (.region []) (.inl (.seq (.region []) .leaf) .leaf)))) (.region []))))))) (.seq (.region []) .leaf))) Tryz.func282 (by kernel_rfl) (by kernel_rfl) (env_cons (sim221 N) (env_cons (sim279 N) env_nil)) ?_
  intro lim args H r h
  unfold G282 w1 at h
  split at h
  · exact (eq282 N (F221 N) (F279 N) lim _ H).trans h
  · simp at h
/-- (besom/flow.step).reads -/
def B219 (N : Nat) (g279 : RF2) (g282 : RF1) (lim : Nat) (s0 : Value) (H : IHeap) : RV :=
 retK ((cellsOf true 13 s0).bind fun cs1 =>
 (iload true 4 cs1 8).bind fun t6 =>
 (istore true 4 [(.int .i64 0), (.int .i64 0), (.int .i64 0), (.int .i64 0)] 0 t6).bind fun cs2 =>
 (iload false 1 cs2 0).bind fun t8 =>
 catchK 0 ((ibin .eql .no t8 (.int .i64 3)).bind fun t10 =>
 joinK (boolK t10 fun b1 => bif b1 then
 (some (.norm ([t10] ++ []), H))
 else
 (ibin .eql .no t8 (.int .i64 4)).bind fun t11 =>
 joinK (boolK t11 fun b2 => bif b2 then
 (some (.norm ([t11] ++ []), H))
 else
 (ibin .eql .no t8 (.int .i64 5)).bind fun t12 =>
 joinK (boolK t12 fun b3 => bif b3 then
 (some (.norm ([t12] ++ []), H))
 else
 (ibin .eql .no t8 (.int .i64 6)).bind fun t13 =>
 joinK (boolK t13 fun b4 => bif b4 then
 (some (.norm ([t13] ++ []), H))
 else
 (ibin .eql .no t8 (.int .i64 7)).bind fun t14 =>
 joinK (boolK t14 fun b5 => bif b5 then
 (some (.norm ([t14] ++ []), H))
 else
 (ibin .eql .no t8 (.int .i64 8)).bind fun t15 =>
 some (.norm ([t15] ++ []), H)) fun vs1 H1 =>
 some (.norm ([(nthV 0 vs1)] ++ []), H1)) fun vs2 H2 =>
 some (.norm ([(nthV 0 vs2)] ++ []), H2)) fun vs3 H3 =>
 some (.norm ([(nthV 0 vs3)] ++ []), H3)) fun vs4 H4 =>
 some (.norm ([(nthV 0 vs4)] ++ []), H4)) fun vs5 H5 =>
 (boolK (nthV 0 vs5) fun b6 => bif b6 then
 ((iload true 13 cs1 0).bind fun t16 =>
 (iload false 1 cs2 2).bind fun t18 =>
 callK (g279 lim t16 t18 H5) fun t19 H6 =>
 (ibin .eql .no t19 (.int .i64 1)).bind fun t20 =>
 (gval true t20).bind fun w1 => grpK (bif w1 then
 ((iload true 13 cs1 0).bind fun t22 =>
 (iload false 1 cs2 3).bind fun t24 =>
 callK (g279 lim t22 t24 H6) fun t25 H8 =>
 (ibin .eql .no t25 (.int .i64 1)).bind fun t26 =>
 some ([t26], H8))
 else some ([Value.tuple #[]], H6)) fun vs6 H7 =>
 (pickK t20 (nthV 0 vs6) (.bool false)).bind fun t27 =>
 some (.ret t27, H7))
 else
 (ibin .eql .no t8 (.int .i64 2)).bind fun t29 =>
 (boolK t29 fun b8 => bif b8 then
 ((iload true 13 cs1 0).bind fun t30 =>
 (iload false 1 cs2 2).bind fun t32 =>
 callK (g279 lim t30 t32 H5) fun t33 H9 =>
 (ibin .neq .no t33 (.int .i64 0)).bind fun t34 =>
 some (.ret t34, H9))
 else
 (ibin .eql .no t8 (.int .i64 10)).bind fun t36 =>
 joinK (boolK t36 fun b9 => bif b9 then
 (some (.norm ([t36] ++ []), H5))
 else
 (ibin .eql .no t8 (.int .i64 29)).bind fun t37 =>
 some (.norm ([t37] ++ []), H5)) fun vs7 H10 =>
 (boolK (nthV 0 vs7) fun b10 => bif b10 then
 ((iload true 13 cs1 0).bind fun t38 =>
 (iload false 1 cs2 1).bind fun t40 =>
 callK (g279 lim t38 t40 H10) fun t41 H11 =>
 (ibin .eql .no t41 (.int .i64 1)).bind fun t42 =>
 some (.ret t42, H11))
 else
 (ibin .eql .no t8 (.int .i64 12)).bind fun t44 =>
 (boolK t44 fun b11 => bif b11 then
 ((iload true 13 cs1 0).bind fun t45 =>
 (iload false 1 cs2 2).bind fun t47 =>
 callK (g279 lim t45 t47 H10) fun t48 H12 =>
 none)
 else
 (ibin .eql .no t8 (.int .i64 14)).bind fun t51 =>
 joinK (boolK t51 fun b12 => bif b12 then
 (some (.norm ([t51] ++ []), H10))
 else
 (ibin .eql .no t8 (.int .i64 19)).bind fun t52 =>
 some (.norm ([t52] ++ []), H10)) fun vs8 H13 =>
 (boolK (nthV 0 vs8) fun b13 => bif b13 then
 ((iload true 13 cs1 0).bind fun t53 =>
 (iload false 1 cs2 2).bind fun t55 =>
 (iload false 1 cs2 3).bind fun t57 =>
 none)
 else
 (ibin .eql .no t8 (.int .i64 15)).bind fun t61 =>
 joinK (boolK t61 fun b14 => bif b14 then
 (some (.norm ([t61] ++ []), H13))
 else
 (ibin .eql .no t8 (.int .i64 20)).bind fun t62 =>
 some (.norm ([t62] ++ []), H13)) fun vs9 H14 =>
 (boolK (nthV 0 vs9) fun b15 => bif b15 then
 ((iload true 13 cs1 0).bind fun t63 =>
 (iload false 1 cs2 1).bind fun t65 =>
 (iload false 1 cs2 2).bind fun t67 =>
 none)
 else
 (ibin .eql .no t8 (.int .i64 17)).bind fun t80 =>
 (boolK t80 fun b16 => bif b16 then
 ((iload true 13 cs1 0).bind fun t81 =>
 (iload false 1 cs2 2).bind fun t83 =>
 callK (g279 H14.next t81 t83 H14) fun t84 H15 =>
 (iload false 1 cs1 0).bind fun t87 =>
 (iload false 1 cs2 1).bind fun t89 =>
 (iidx 1 t87 t89).bind fun t90 =>
 (hload false 1 H15 t90).bind fun t91 =>
 (ibin .eql .no t84 t91).bind fun t92 =>
 some (.ret t92, H15))
 else
 (ibin .eql .no t8 (.int .i64 21)).bind fun t94 =>
 joinK (boolK t94 fun b17 => bif b17 then
 (some (.norm ([t94] ++ []), H14))
 else
 (ibin .eql .no t8 (.int .i64 23)).bind fun t95 =>
 joinK (boolK t95 fun b18 => bif b18 then
 (some (.norm ([t95] ++ []), H14))
 else
 (ibin .eql .no t8 (.int .i64 24)).bind fun t96 =>
 some (.norm ([t96] ++ []), H14)) fun vs10 H16 =>
 some (.norm ([(nthV 0 vs10)] ++ []), H16)) fun vs11 H17 =>
 (boolK (nthV 0 vs11) fun b19 => bif b19 then
 ((iload true 13 cs1 0).bind fun t97 =>
 callK (g282 lim t97 H17) fun t98 H18 =>
 some (.ret t98, H18))
 else
 (ibin .eql .no t8 (.int .i64 22)).bind fun t100 =>
 (boolK t100 fun b20 => bif b20 then
 ((iload false 1 cs1 4).bind fun t103 =>
 (ibin .eql .no t103 (.int .i64 0)).bind fun t104 =>
 (gval false t104).bind fun w2 => grpK (bif w2 then
 ((iload true 13 cs1 0).bind fun t106 =>
 (iload false 1 cs2 1).bind fun t108 =>
 callK (g279 H17.next t106 t108 H17) fun t109 H20 =>
 (iload false 1 cs1 4).bind fun t112 =>
 (ibin .eql .no t109 t112).bind fun t113 =>
 some ([t113], H20))
 else some ([Value.tuple #[]], H17)) fun vs12 H19 =>
 (pickK t104 (.bool true) (nthV 0 vs12)).bind fun t114 =>
 some (.ret t114, H19))
 else
 (ibin .eql .no t8 (.int .i64 25)).bind fun t116 =>
 (boolK t116 fun b22 => bif b22 then
 ((iload true 13 cs1 0).bind fun t117 =>
 (iload false 1 cs2 1).bind fun t119 =>
 callK (g279 lim t117 t119 H17) fun t120 H21 =>
 (ibin .eql .no t120 (.int .i64 1)).bind fun t121 =>
 (gval true t121).bind fun w3 => grpK (bif w3 then
 ((iload true 13 cs1 0).bind fun t123 =>
 (iload false 1 cs2 2).bind fun t125 =>
 callK (g279 lim t123 t125 H21) fun t126 H23 =>
 (ibin .eql .no t126 (.int .i64 16)).bind fun t127 =>
 some ([t127], H23))
 else some ([Value.tuple #[]], H21)) fun vs13 H22 =>
 (pickK t121 (nthV 0 vs13) (.bool false)).bind fun t128 =>
 some (.ret t128, H22))
 else
 some (.norm ([] ++ []), H17)))))))))))) fun vs14 H24 =>
 some (.ret (.bool true), H24))
def F219 (N lim : Nat) (a0 : Value) (H : IHeap) : RV := B219 N (F279 N) (F282 N) lim a0 H
def G219 (N : Nat) : G := w1 (F219 N)
theorem eq219 (N : Nat) (g279 : RF2) (g282 : RF1) (lim : Nat) (a0 : Value) (H : IHeap) : ifun Tryz.prog { fn := envOf [(279, Ideal.w2 g279), (282, Ideal.w1 g282)], wr := [] } { promo := [1, 3], share := false } N (okOf Tryz.prog { promo := [1, 3], share := false } []) Tryz.f219 (.seq (.region []) (.seq (.region []) (.seq (.seq (.region []) (.block [] [] [] (.seq (.seq (.region []) (.join [9] [] [] .leaf (.seq (.region []) (.join [9] [] [] .leaf (.seq (.region []) (.join [9] [] [] .leaf (.seq (.region []) (.join [9] [] [] .leaf (.seq (.region []) (.join [9] [] [] .leaf (.region []))))))))))) (.inl (.seq (.region [[26]]) .leaf) (.seq (.region []) (.inl (.seq (.region []) .leaf) (.seq (.seq (.region []) (.join [35] [] [] .leaf (.region []))) (.inl (.seq (.region []) .leaf) (.seq (.region []) (.inl (.seq (.region []) .leaf) (.seq (.seq (.region []) (.join [50] [] [] .leaf (.region []))) (.inl (.seq (.region []) .leaf) (.seq (.seq (.region []) (.join [60] [] [] .leaf (.region []))) (.inl (.seq (.region []) (.seq (.region [[77]]) .leaf)) (.seq (.region []) (.inl (.seq (.region []) .leaf) (.seq (.seq (.region []) (.join [93] [] [] .leaf (.seq (.region []) (.join [93] [] [] .leaf (.region []))))) (.inl (.seq (.region []) .leaf) (.seq (.region []) (.inl (.seq (.region [[113]]) .leaf) (.seq (.region []) (.inl (.seq (.region [[127]]) .leaf) .leaf)))))))))))))))))))))) (.seq (.region []) .leaf)))) lim [a0] H = B219 N g279 g282 lim a0 H := by kernel_rfl
theorem sim219 (N : Nat) : SimF Tryz.prog 219 (G219 N) := by
  refine SimF.gen [(279, G279 N), (282, G282 N)] [] { promo := [1, 3], share := false } N (.seq (.region []) (.seq (.region []) (.seq (.seq (.region []) (.block [] [] [] (.seq (.seq (.region []) (.join [9] [] [] .leaf (.seq (.region []) (.join [9] [] [] .leaf (.seq (.region []) (.join [9] [] [] .leaf (.seq (.region []) (.join [9] [] [] .leaf (.seq (.region []) (.join [9] [] [] .leaf (.region []))))))))))) (.inl (.seq (.region [[26]]) .leaf) (.seq (.region []) (.inl (.seq (.region []) .leaf) (.seq (.seq (.region []) (.join [35] [] [] .leaf (.region []))) (.inl (.seq (.region []) .leaf) (.seq (.region []) (.inl (.seq (.region []) .leaf) (.seq (.seq (.region []) (.join [50] [] [] .leaf (.region []))) (.inl (.seq (.region []) .leaf) (.seq (.seq (.region []) (.join [60] [] [] .leaf (.region []))) (.inl (.seq (.region []) (.seq (.region [[77]]) .leaf)) (.seq (.region []) (.inl (.seq (.region []) .leaf) (.seq (.seq (.region []) (.join [93] [] [] .leaf (.seq (.region []) (.join [93] [] [] .leaf (.region []))))) (.inl (.seq (.region []) .leaf) (.seq (.region []) (.inl (.seq (.region [[113]]) .leaf) (.seq (.region []) (.inl (.seq (.region [[127]]) .leaf) .leaf)))))))))))))))))))))) (.seq (.region []) .leaf)))) Tryz.func219 (by kernel_rfl) (by kernel_rfl) (env_cons (sim279 N) (env_cons (sim282 N) env_nil)) ?_
  intro lim args H r h
  unfold G219 w1 at h
  split at h
  · exact (eq219 N (F279 N) (F282 N) lim _ H).trans h
  · simp at h
/-- (besom/flow.step).sets -/
def B222 (N : Nat) (g221 : RF1) (g279 : RF2) (lim : Nat) (s0 : Value) (H : IHeap) : RV :=
 retK ((cellsOf true 13 s0).bind fun cs1 =>
 (iload true 4 cs1 8).bind fun t5 =>
 (istore true 4 [(.int .i64 0), (.int .i64 0), (.int .i64 0), (.int .i64 0)] 0 t5).bind fun cs2 =>
 (iload false 1 cs2 0).bind fun t7 =>
 catchK 0 ((ibin .eql .no t7 (.int .i64 2)).bind fun t9 =>
 (boolK t9 fun b1 => bif b1 then
 ((iload true 13 cs1 0).bind fun t10 =>
 (iload false 1 cs2 2).bind fun t12 =>
 callK (g279 lim t10 t12 H) fun t13 H1 =>
 some (.ret t13, H1))
 else
 (ibin .eql .no t7 (.int .i64 11)).bind fun t15 =>
 joinK (boolK t15 fun b2 => bif b2 then
 (some (.norm ([t15] ++ []), H))
 else
 (ibin .eql .no t7 (.int .i64 13)).bind fun t16 =>
 some (.norm ([t16] ++ []), H)) fun vs1 H2 =>
 (boolK (nthV 0 vs1) fun b3 => bif b3 then
 ((iload false 1 cs2 2).bind fun t18 =>
 (ibin .add .no (.int .i64 16) t18).bind fun t19 =>
 some (.ret t19, H2))
 else
 (ibin .eql .no t7 (.int .i64 14)).bind fun t21 =>
 joinK (boolK t21 fun b4 => bif b4 then
 (some (.norm ([t21] ++ []), H2))
 else
 (ibin .eql .no t7 (.int .i64 19)).bind fun t22 =>
 some (.norm ([t22] ++ []), H2)) fun vs2 H3 =>
 (boolK (nthV 0 vs2) fun b5 => bif b5 then
 ((iload true 13 cs1 0).bind fun t23 =>
 (iload false 1 cs2 2).bind fun t25 =>
 (iload false 1 cs2 3).bind fun t27 =>
 none)
 else
 (ibin .eql .no t7 (.int .i64 16)).bind fun t30 =>
 (boolK t30 fun b6 => bif b6 then
 ((iload false 1 cs1 0).bind fun t33 =>
 (iload false 1 cs2 2).bind fun t35 =>
 (iidx 1 t33 t35).bind fun t36 =>
 (hload false 1 H3 t36).bind fun t37 =>
 some (.ret t37, H3))
 else
 (ibin .eql .no t7 (.int .i64 18)).bind fun t39 =>
 (boolK t39 fun b7 => bif b7 then
 ((iload false 1 cs1 6).bind fun t42 =>
 (iload false 1 cs2 2).bind fun t44 =>
 (iidx 1 t42 t44).bind fun t45 =>
 (hload false 1 H3 t45).bind fun t46 =>
 (ibin .add .no (.int .i64 64) t46).bind fun t47 =>
 some (.ret t47, H3))
 else
 (ibin .eql .no t7 (.int .i64 21)).bind fun t49 =>
 (boolK t49 fun b8 => bif b8 then
 ((iload true 13 cs1 0).bind fun t50 =>
 callK (g221 lim t50 H3) fun t51 H4 =>
 (ifield false 1 1 t51).bind fun t52 =>
 some (.ret t52, H4))
 else
 some (.norm ([] ++ []), H3)))))))) fun vs3 H5 =>
 some (.ret (.int .i64 1), H5))
def F222 (N lim : Nat) (a0 : Value) (H : IHeap) : RV := B222 N (F221 N) (F279 N) lim a0 H
def G222 (N : Nat) : G := w1 (F222 N)
theorem eq222 (N : Nat) (g221 : RF1) (g279 : RF2) (lim : Nat) (a0 : Value) (H : IHeap) : ifun Tryz.prog { fn := envOf [(221, Ideal.w1 g221), (279, Ideal.w2 g279)], wr := [] } { promo := [1, 3], share := false } N (okOf Tryz.prog { promo := [1, 3], share := false } []) Tryz.f222 (.seq (.region []) (.seq (.region []) (.seq (.seq (.region []) (.block [] [] [] (.seq (.region []) (.inl (.seq (.region []) .leaf) (.seq (.seq (.region []) (.join [14] [] [] .leaf (.region []))) (.inl (.seq (.region []) .leaf) (.seq (.seq (.region []) (.join [20] [] [] .leaf (.region []))) (.inl (.seq (.region []) .leaf) (.seq (.region []) (.inl (.seq (.region []) .leaf) (.seq (.region []) (.inl (.seq (.region []) .leaf) (.seq (.region []) (.inl (.seq (.region []) .leaf) .leaf)))))))))))))) (.seq (.region []) .leaf)))) lim [a0] H = B222 N g221 g279 lim a0 H := by kernel_rfl
theorem sim222 (N : Nat) : SimF Tryz.prog 222 (G222 N) := by
  refine SimF.gen [(221, G221 N), (279, G279 N)] [] { promo := [1, 3], share := false } N (.seq (.region []) (.seq (.region []) (.seq (.seq (.region []) (.block [] [] [] (.seq (.region []) (.inl (.seq (.region []) .leaf) (.seq (.seq (.region []) (.join [14] [] [] .leaf (.region []))) (.inl (.seq (.region []) .leaf) (.seq (.seq (.region []) (.join [20] [] [] .leaf (.region []))) (.inl (.seq (.region []) .leaf) (.seq (.region []) (.inl (.seq (.region []) .leaf) (.seq (.region []) (.inl (.seq (.region []) .leaf) (.seq (.region []) (.inl (.seq (.region []) .leaf) .leaf)))))))))))))) (.seq (.region []) .leaf)))) Tryz.func222 (by kernel_rfl) (by kernel_rfl) (env_cons (sim221 N) (env_cons (sim279 N) env_nil)) ?_
  intro lim args H r h
  unfold G222 w1 at h
  split at h
  · exact (eq222 N (F221 N) (F279 N) lim _ H).trans h
  · simp at h
/-- (besom/flow.step).after -/
def B145 (N : Nat) (g22 : RF1) (g219 : RF1) (g220 : RF1) (g221 : RF1) (g222 : RF1) (lim : Nat) (s0 : Value) (H : IHeap) : RV :=
 retK ((cellsOf true 13 s0).bind fun cs1 =>
 (iload false 1 cs1 12).bind fun t9 =>
 callK (g22 lim t9 H) fun t10 H1 =>
 (iload true 13 cs1 0).bind fun t11 =>
 callK (g219 lim t11 H1) fun t12 H2 =>
 (iload true 4 cs1 8).bind fun t15 =>
 callK (g220 lim t15 H2) fun t16 H3 =>
 (iextract 0 t16).bind fun t17 =>
 (iextract 1 t16).bind fun t18 =>
 (gval true t18).bind fun w1 => grpK (bif w1 then
 ((iload false 1 cs1 8).bind fun t23 =>
 (ibin .neq .no t23 (.int .i64 21)).bind fun t24 =>
 some ([t24], H3))
 else some ([Value.tuple #[]], H3)) fun vs1 H4 =>
 (gval false (nthV 0 vs1)).bind fun w2 => grpK (bif w2 then
 ((iload true 13 cs1 0).bind fun t26 =>
 callK (g221 lim t26 H4) fun t27 H6 =>
 (ifield false 1 1 t27).bind fun t28 =>
 (ibin .neq .no t28 (.int .i64 0)).bind fun t29 =>
 some ([t29], H6))
 else some ([Value.tuple #[]], H4)) fun vs2 H5 =>
 (gval true t18).bind fun w3 => grpK (bif w3 then
 ((pickK (nthV 0 vs1) (.bool true) (nthV 0 vs2)).bind fun t30 =>
 some ([t30], H5))
 else some ([Value.tuple #[]], H5)) fun vs3 H7 =>
 (pickK t18 (nthV 0 vs3) (.bool false)).bind fun t31 =>
 joinK (boolK t31 fun b3 => bif b3 then
 ((iidx 1 t10 t17).bind fun t34 =>
 (hstore false 1 lim H7 t34 (.int .i64 0)).bind fun H8 =>
 joinK (boolK t12 fun b4 => bif b4 then
 ((iload true 13 cs1 0).bind fun t38 =>
 callK (g222 lim t38 H8) fun t39 H9 =>
 (iidx 1 t10 t17).bind fun t40 =>
 (hstore false 1 lim H9 t40 t39).bind fun H10 =>
 some (.norm ([] ++ []), H10))
 else
 some (.norm ([] ++ []), H8)) fun vs4 H11 =>
 some (.norm ([] ++ []), H11))
 else
 some (.norm ([] ++ []), H7)) fun vs5 H12 =>
 (iload false 1 cs1 8).bind fun t43 =>
 (ibin .eql .no t43 (.int .i64 26)).bind fun t44 =>
 joinK (boolK t44 fun b5 => bif b5 then
 ((iload false 1 cs1 10).bind fun t48 =>
 (iidx 1 t10 t48).bind fun t49 =>
 (hstore false 1 lim H12 t49 (.int .i64 16)).bind fun H13 =>
 some (.norm ([] ++ []), H13))
 else
 some (.norm ([] ++ []), H12)) fun vs6 H14 =>
 some (.ret (.tuple ⟨[t10, t12]⟩), H14))
def F145 (N lim : Nat) (a0 : Value) (H : IHeap) : RV := B145 N (F22 N) (F219 N) (F220 N) (F221 N) (F222 N) lim a0 H
def G145 (N : Nat) : G := w1 (F145 N)
theorem eq145 (N : Nat) (g22 : RF1) (g219 : RF1) (g220 : RF1) (g221 : RF1) (g222 : RF1) (lim : Nat) (a0 : Value) (H : IHeap) : ifun Tryz.prog { fn := envOf [(22, Ideal.w1 g22), (219, Ideal.w1 g219), (220, Ideal.w1 g220), (221, Ideal.w1 g221), (222, Ideal.w1 g222)], wr := [22, 219] } { promo := [1], share := false } N (okOf Tryz.prog { promo := [1], share := false } [22, 219]) Tryz.f145 (.seq (.region []) (.seq (.region []) (.seq (.seq (.region []) (.seq (.region [[25], [29], [30]]) (.join [] [] [] (.seq (.region []) (.seq (.region []) (.join [] [] [] (.region []) .leaf))) .leaf))) (.seq (.seq (.region []) (.join [] [] [] (.region []) .leaf)) (.seq (.region []) .leaf))))) lim [a0] H = B145 N g22 g219 g220 g221 g222 lim a0 H := by kernel_rfl
theorem sim145 (N : Nat) : SimF Tryz.prog 145 (G145 N) := by
  refine SimF.gen [(22, G22 N), (219, G219 N), (220, G220 N), (221, G221 N), (222, G222 N)] [22, 219] { promo := [1], share := false } N (.seq (.region []) (.seq (.region []) (.seq (.seq (.region []) (.seq (.region [[25], [29], [30]]) (.join [] [] [] (.seq (.region []) (.seq (.region []) (.join [] [] [] (.region []) .leaf))) .leaf))) (.seq (.seq (.region []) (.join [] [] [] (.region []) .leaf)) (.seq (.region []) .leaf))))) Tryz.func145 (by kernel_rfl) (by kernel_rfl) (env_cons (sim22 N) (env_cons (sim219 N) (env_cons (sim220 N) (env_cons (sim221 N) (env_cons (sim222 N) env_nil))))) ?_
  intro lim args H r h
  unfold G145 w1 at h
  split at h
  · exact (eq145 N (F22 N) (F219 N) (F220 N) (F221 N) (F222 N) lim _ H).trans h
  · simp at h
/-- besom/flow.Next -/
def B146 (N : Nat) (g216 : RF2) (lim : Nat) (p0 at1 : Value) (H : IHeap) : RV :=
 retK ((cellsOf true 3 p0).bind fun cs1 =>
 (cellsOf true 2 at1).bind fun cs2 =>
 (iload true 3 cs1 0).bind fun t6 =>
 (iload true 2 cs2 0).bind fun t7 =>
 callK (g216 lim t6 t7 H) fun t8 H1 =>
 (ibin .eql .no t8 (.int .i64 1)).bind fun t9 =>
 (boolK t9 fun b1 => bif b1 then
 (some (.ret (.slice none 0 0), H1))
 else
 (iload false 1 cs1 2).bind fun t11 =>
 (iload false 1 cs2 0).bind fun t13 =>
 (iidx 5 t11 t13).bind fun t14 =>
 (paddr 4 t14).bind fun t15 =>
 (hload false 1 H1 t15).bind fun t16 =>
 (iload false 1 cs2 1).bind fun t18 =>
 (iidx 4 t16 t18).bind fun t19 =>
 (hload true 4 H1 t19).bind fun t20 =>
 (istore true 4 [(.int .i64 0), (.int .i64 0), (.int .i64 0), (.int .i64 0)] 0 t20).bind fun cs3 =>
 (iload false 1 cs3 0).bind fun t22 =>
 catchK 0 ((ibin .eql .no t22 (.int .i64 22)).bind fun t24 =>
 joinK (boolK t24 fun b2 => bif b2 then
 (some (.norm ([t24] ++ []), H1))
 else
 (ibin .eql .no t22 (.int .i64 25)).bind fun t25 =>
 joinK (boolK t25 fun b3 => bif b3 then
 (some (.norm ([t25] ++ []), H1))
 else
 (ibin .eql .no t22 (.int .i64 27)).bind fun t26 =>
 some (.norm ([t26] ++ []), H1)) fun vs1 H2 =>
 some (.norm ([(nthV 0 vs1)] ++ []), H2)) fun vs2 H3 =>
 (boolK (nthV 0 vs2) fun b4 => bif b4 then
 (some (.ret (.slice none 0 0), H3))
 else
 (ibin .eql .no t22 (.int .i64 9)).bind fun t28 =>
 (boolK t28 fun b5 => bif b5 then
 ((iload false 1 cs3 2).bind fun t30 =>
 (istore false 1 [(.int .i64 0)] 0 t30).bind fun cs4 =>
 some (.ret (slc 1 H3.next 0 1 2), (H3.push (.cells cs4 0))))
 else
 (ibin .eql .no t22 (.int .i64 10)).bind fun t33 =>
 joinK (boolK t33 fun b6 => bif b6 then
 ((iload false 1 cs3 2).bind fun t35 =>
 (iload false 1 cs2 1).bind fun t37 =>
 (ibin .add .no t37 (.int .i64 1)).bind fun t38 =>
 (ibin .neq .no t35 t38).bind fun t39 =>
 (boolK t39 fun b7 => bif b7 then
 ((iload false 1 cs2 1).bind fun t41 =>
 (ibin .add .no t41 (.int .i64 1)).bind fun t42 =>
 (iload false 1 cs3 2).bind fun t44 =>
 (istore false 1 [(.int .i64 0), (.int .i64 0)] 0 t42).bind fun cs5 =>
 (istore false 1 cs5 1 t44).bind fun cs6 =>
 some (.ret (slc 1 H3.next 0 2 3), (H3.push (.cells cs6 0))))
 else
 some (.norm ([] ++ []), H3)))
 else
 some (.norm ([] ++ []), H3)) fun vs3 H4 =>
 some (.norm ([] ++ []), H4)))) fun vs4 H5 =>
 (iload false 1 cs2 1).bind fun t47 =>
 (ibin .add .no t47 (.int .i64 1)).bind fun t48 =>
 (istore false 1 [(.int .i64 0)] 0 t48).bind fun cs7 =>
 some (.ret (slc 1 H5.next 0 1 2), (H5.push (.cells cs7 0)))))
def F146 (N lim : Nat) (a0 a1 : Value) (H : IHeap) : RV := B146 N (F216 N) lim a0 a1 H
def G146 (N : Nat) : G := w2 (F146 N)
theorem eq146 (N : Nat) (g216 : RF2) (lim : Nat) (a0 a1 : Value) (H : IHeap) : ifun Tryz.prog { fn := envOf [(216, Ideal.w2 g216)], wr := [] } { promo := [2, 3, 5], share := false } N (okOf Tryz.prog { promo := [2, 3, 5], share := false } []) Tryz.f146 (.seq (.region []) (.seq (.seq (.region []) (.inl (.seq (.region []) .leaf) .leaf)) (.seq (.region []) (.seq (.seq (.region []) (.block [] [] [] (.seq (.seq (.region []) (.join [23] [] [] .leaf (.seq (.region []) (.join [23] [] [] .leaf (.region []))))) (.inl (.seq (.region []) .leaf) (.seq (.region []) (.inl (.seq (.region []) .leaf) (.seq (.region []) (.join [] [] [] (.seq (.region []) (.inl (.seq (.region []) .leaf) .leaf)) .leaf)))))))) (.seq (.region []) .leaf))))) lim [a0, a1] H = B146 N g216 lim a0 a1 H := by kernel_rfl
theorem sim146 (N : Nat) : SimF Tryz.prog 146 (G146 N) := by
  refine SimF.gen [(216, G216 N)] [] { promo := [2, 3, 5], share := false } N (.seq (.region []) (.seq (.seq (.region []) (.inl (.seq (.region []) .leaf) .leaf)) (.seq (.region []) (.seq (.seq (.region []) (.block [] [] [] (.seq (.seq (.region []) (.join [23] [] [] .leaf (.seq (.region []) (.join [23] [] [] .leaf (.region []))))) (.inl (.seq (.region []) .leaf) (.seq (.region []) (.inl (.seq (.region []) .leaf) (.seq (.region []) (.join [] [] [] (.seq (.region []) (.inl (.seq (.region []) .leaf) .leaf)) .leaf)))))))) (.seq (.region []) .leaf))))) Tryz.func146 (by kernel_rfl) (by kernel_rfl) (env_cons (sim216 N) env_nil) ?_
  intro lim args H r h
  unfold G146 w2 at h
  split at h
  · exact (eq146 N (F216 N) lim _ _ H).trans h
  · simp at h
/-- (*besom/flow.walk).run -/
def B71 (N : Nat) (g144 : RF3) (g145 : RF1) (g146 : RF2) (lim : Nat) (w0 : Value) (H : IHeap) : RV :=
 retK ((inilc w0).bind fun t11 =>
 (paddr 0 t11).bind fun t12 =>
 (paddr 2 t12).bind fun t13 =>
 (hload false 1 H t13).bind fun t14 =>
 (inilc w0).bind fun t16 =>
 (paddr 3 t16).bind fun t17 =>
 (hload false 1 H t17).bind fun t18 =>
 (iidx 5 t14 t18).bind fun t19 =>
 (hload true 5 H t19).bind fun t20 =>
 (istore true 5 [(.slice none 0 0), (.int .i64 0), (.int .i64 0), (.slice none 0 0), (.slice none 0 0)] 0 t20).bind fun cs1 =>
 (iload false 1 cs1 2).bind fun t22 =>
 callK (imake 8 [(.int .i64 0)] H t22 t22) fun t23 H1 =>
 (iload false 1 cs1 0).bind fun t26 =>
 rowK (hrow 1 H1 t26) fun m1 new1 =>
 callK (icopy 1 lim H1 t23 m1 new1) fun t27 H2 =>
 callK (g144 lim w0 (.int .i64 0) t23 H2) fun t30 H3 =>
 catchK 0 (iloop (fun vs1 H4 =>
 (inilc w0).bind fun t32 =>
 (paddr 5 t32).bind fun t33 =>
 (hload false 1 H4 t33).bind fun t34 =>
 (ilenS t34).bind fun t35 =>
 (ibin .gtr .no t35 (.int .i64 0)).bind fun t36 =>
 (boolK t36 fun b1 => bif b1 then
 (catchK 1 ((inilc w0).bind fun t38 =>
 (paddr 5 t38).bind fun t39 =>
 (hload false 1 H4 t39).bind fun t40 =>
 (iidx 1 t40 (.int .i64 0)).bind fun t41 =>
 (hload false 1 H4 t41).bind fun t42 =>
 (inilc w0).bind fun t45 =>
 (paddr 5 t45).bind fun t46 =>
 (hload false 1 H4 t46).bind fun t47 =>
 (isliceS 1 t47 (some (.int .i64 1)) none none).bind fun t48 =>
 (inilc w0).bind fun t49 =>
 (paddr 5 t49).bind fun t50 =>
 (hstore false 1 lim H4 t50 t48).bind fun H5 =>
 (inilc w0).bind fun t52 =>
 (paddr 3 t52).bind fun t53 =>
 (hload false 1 H5 t53).bind fun t54 =>
 (istore false 1 [(.int .i64 0), (.int .i64 0)] 0 t54).bind fun cs2 =>
 (istore false 1 cs2 1 t42).bind fun cs3 =>
 (istore true 2 [(.int .i64 0), (.int .i64 0)] 0 (.agg ⟨cs3⟩)).bind fun cs4 =>
 (inilc w0).bind fun t59 =>
 (paddr 0 t59).bind fun t60 =>
 (hload true 3 H5 t60).bind fun t61 =>
 (iload true 5 cs1 0).bind fun t62 =>
 (iload false 1 cs1 4).bind fun t64 =>
 (iidx 4 t64 t42).bind fun t66 =>
 (hload true 4 H5 t66).bind fun t67 =>
 (inilc w0).bind fun t69 =>
 (paddr 4 t69).bind fun t70 =>
 (hload false 1 H5 t70).bind fun t71 =>
 (iload true 2 cs4 0).bind fun t72 =>
 (ilookup 3 (.slice none 0 0) false H5 t71 t72).bind fun t73 =>
 (istore true 3 [(.slice none 0 0), (.slice none 0 0), (.slice none 0 0), (.slice none 0 0), (.int .i64 0), (.int .i64 0), (.slice none 0 0), (.slice none 0 0), (.int .i64 0), (.int .i64 0), (.int .i64 0), (.int .i64 0), (.slice none 0 0)] 0 t61).bind fun cs5 =>
 (istore true 5 cs5 3 t62).bind fun cs6 =>
 (istore true 4 cs6 8 t67).bind fun cs7 =>
 (istore false 1 cs7 12 t73).bind fun cs8 =>
 callK (g145 lim (.agg ⟨cs8⟩) H5) fun t75 H6 =>
 (iextract 0 t75).bind fun t76 =>
 (iextract 1 t75).bind fun t77 =>
 (inilc w0).bind fun t79 =>
 (paddr 0 t79).bind fun t80 =>
 (hload true 3 H6 t80).bind fun t81 =>
 (iload true 2 cs4 0).bind fun t82 =>
 callK (g146 lim t81 t82 H6) fun t83 H7 =>
 (ilenS t83).bind fun t84 =>
 catchK 2 (iloop (fun vs2 H8 =>
 (ibin .lss .no (nthV 0 vs2) t84).bind fun t86 =>
 (boolK t86 fun b2 => bif b2 then
 (catchK 3 ((iidx 1 t83 (nthV 0 vs2)).bind fun t87 =>
 (hload false 1 H8 t87).bind fun t88 =>
 (iload false 1 cs1 4).bind fun t91 =>
 (ilenS t91).bind fun t92 =>
 (ibin .lss .no t88 t92).bind fun t93 =>
 joinK (boolK t93 fun b3 => bif b3 then
 (callK (g144 lim w0 t88 t76 H8) fun t97 H9 =>
 some (.norm ([] ++ []), H9))
 else
 some (.norm ([] ++ []), H8)) fun vs3 H10 =>
 some (.norm ([] ++ []), H10)) fun vs4 H11 =>
 (ibin .add .no (nthV 0 vs2) (.int .i64 1)).bind fun t98 =>
 some (.norm ([t98] ++ []), H11))
 else
 some (.exit 2 ([] ++ []), H8))) N ([(.int .i64 0)] ++ []) H7) fun vs5 H12 =>
 some (.norm ([] ++ []), H12)) fun vs6 H13 =>
 some (.norm ([] ++ []), H13))
 else
 some (.exit 0 ([] ++ []), H4))) N ([] ++ []) H3) fun vs7 H14 =>
 some (.ret (.tuple ⟨[]⟩), H14))
def F71 (N lim : Nat) (a0 : Value) (H : IHeap) : RV := B71 N (F144 N) (F145 N) (F146 N) lim a0 H
def G71 (N : Nat) : G := w1 (F71 N)
theorem eq71 (N : Nat) (g144 : RF3) (g145 : RF1) (g146 : RF2) (lim : Nat) (a0 : Value) (H : IHeap) : ifun Tryz.prog { fn := envOf [(144, Ideal.w3 g144), (145, Ideal.w1 g145), (146, Ideal.w2 g146)], wr := [145, 146] } { promo := [2, 5], share := false } N (okOf Tryz.prog { promo := [2, 5], share := false } [145, 146]) Tryz.f71 (.seq (.region []) (.seq (.region []) (.seq (.region []) (.seq (.region []) (.block [] [] [5] (.loop [] [] [5] (.seq (.seq (.region []) (.inl .leaf .leaf)) (.block [] [] [5] (.seq (.region []) (.seq (.region []) (.seq (.region []) (.seq (.region []) (.seq (.region []) (.block [] [] [] (.loop [85] [] [] (.seq (.region []) (.seq (.inl .leaf .leaf) (.seq (.block [] [] [] (.seq (.region []) (.seq (.region []) (.join [] [] [] (.region []) .leaf)))) (.region []))))))))))))))))))) lim [a0] H = B71 N g144 g145 g146 lim a0 H := by kernel_rfl
theorem sim71 (N : Nat) : SimF Tryz.prog 71 (G71 N) := by
  refine SimF.gen [(144, G144 N), (145, G145 N), (146, G146 N)] [145, 146] { promo := [2, 5], share := false } N (.seq (.region []) (.seq (.region []) (.seq (.region []) (.seq (.region []) (.block [] [] [5] (.loop [] [] [5] (.seq (.seq (.region []) (.inl .leaf .leaf)) (.block [] [] [5] (.seq (.region []) (.seq (.region []) (.seq (.region []) (.seq (.region []) (.seq (.region []) (.block [] [] [] (.loop [85] [] [] (.seq (.region []) (.seq (.inl .leaf .leaf) (.seq (.block [] [] [] (.seq (.region []) (.seq (.region []) (.join [] [] [] (.region []) .leaf)))) (.region []))))))))))))))))))) Tryz.func71 (by kernel_rfl) (by kernel_rfl) (env_cons (sim144 N) (env_cons (sim145 N) (env_cons (sim146 N) env_nil))) ?_
  intro lim args H r h
  unfold G71 w1 at h
  split at h
  · exact (eq71 N (F144 N) (F145 N) (F146 N) lim _ H).trans h
  · simp at h
/-- (*besom/flow.walk).runsOut -/
def B73 (N : Nat) (g146 : RF2) (g147 : RF2) (lim : Nat) (w0 at1 : Value) (H : IHeap) : RV :=
 retK ((cellsOf true 2 at1).bind fun cs1 =>
 (inilc w0).bind fun t6 =>
 (paddr 0 t6).bind fun t7 =>
 (hload true 3 H t7).bind fun t8 =>
 (iload true 2 cs1 0).bind fun t9 =>
 callK (g146 H.next t8 t9 H) fun t10 H1 =>
 (inilc w0).bind fun t12 =>
 (paddr 0 t12).bind fun t13 =>
 (paddr 2 t13).bind fun t14 =>
 (hload false 1 H1 t14).bind fun t15 =>
 (inilc w0).bind fun t17 =>
 (paddr 3 t17).bind fun t18 =>
 (hload false 1 H1 t18).bind fun t19 =>
 (iidx 5 t15 t19).bind fun t20 =>
 (paddr 4 t20).bind fun t21 =>
 (hload false 1 H1 t21).bind fun t22 =>
 (ilenS t22).bind fun t23 =>
 callK (g147 lim t10 t23 H1) fun t24 H2 =>
 some (.ret t24, H2))
def F73 (N lim : Nat) (a0 a1 : Value) (H : IHeap) : RV := B73 N (F146 N) (F147 N) lim a0 a1 H
def G73 (N : Nat) : G := w2 (F73 N)
theorem eq73 (N : Nat) (g146 : RF2) (g147 : RF2) (lim : Nat) (a0 a1 : Value) (H : IHeap) : ifun Tryz.prog { fn := envOf [(146, Ideal.w2 g146), (147, Ideal.w2 g147)], wr := [147] } { promo := [3], share := false } N (okOf Tryz.prog { promo := [3], share := false } [147]) Tryz.f73 (.seq (.region []) (.seq (.region []) .leaf)) lim [a0, a1] H = B73 N g146 g147 lim a0 a1 H := by kernel_rfl
theorem sim73 (N : Nat) : SimF Tryz.prog 73 (G73 N) := by
  refine SimF.gen [(146, G146 N), (147, G147 N)] [147] { promo := [3], share := false } N (.seq (.region []) (.seq (.region []) .leaf)) Tryz.func73 (by kernel_rfl) (by kernel_rfl) (env_cons (sim146 N) (env_cons (sim147 N) env_nil)) ?_
  intro lim args H r h
  unfold G73 w2 at h
  split at h
  · exact (eq73 N (F146 N) (F147 N) lim _ _ H).trans h
  · simp at h
/-- besom/flow.Step -/
def B148 (N : Nat) (g145 : RF1) (g216 : RF2) (lim : Nat) (p0 at1 kinds2 : Value) (H : IHeap) : RV :=
 retK ((cellsOf true 3 p0).bind fun cs1 =>
 (cellsOf true 2 at1).bind fun cs2 =>
 (iload true 3 cs1 0).bind fun t11 =>
 (iload true 2 cs2 0).bind fun t12 =>
 callK (g216 lim t11 t12 H) fun t13 H1 =>
 (ibin .eql .no t13 (.int .i64 1)).bind fun t14 =>
 (gval false t14).bind fun w1 => grpK (bif w1 then
 ((ilenS kinds2).bind fun t17 =>
 (iload false 1 cs1 2).bind fun t19 =>
 (iload false 1 cs2 0).bind fun t21 =>
 (iidx 5 t19 t21).bind fun t22 =>
 (paddr 2 t22).bind fun t23 =>
 (hload false 1 H1 t23).bind fun t24 =>
 (ibin .neq .no t17 t24).bind fun t25 =>
 some ([t25], H1))
 else some ([Value.tuple #[]], H1)) fun vs1 H2 =>
 (pickK t14 (.bool true) (nthV 0 vs1)).bind fun t26 =>
 (boolK t26 fun b2 => bif b2 then
 (some (.ret (.tuple ⟨[(.slice none 0 0), (.int .i64 1)]⟩), H2))
 else
 (iload false 1 cs1 2).bind fun t28 =>
 (iload false 1 cs2 0).bind fun t30 =>
 (iidx 5 t28 t30).bind fun t31 =>
 (hload true 5 H2 t31).bind fun t32 =>
 (istore true 5 [(.slice none 0 0), (.int .i64 0), (.int .i64 0), (.slice none 0 0), (.slice none 0 0)] 0 t32).bind fun cs3 =>
 (iload true 3 cs1 0).bind fun t34 =>
 (iload true 5 cs3 0).bind fun t35 =>
 (iload false 1 cs3 4).bind fun t37 =>
 (iload false 1 cs2 1).bind fun t39 =>
 (iidx 4 t37 t39).bind fun t40 =>
 (hload true 4 H2 t40).bind fun t41 =>
 (istore true 3 [(.slice none 0 0), (.slice none 0 0), (.slice none 0 0), (.slice none 0 0), (.int .i64 0), (.int .i64 0), (.slice none 0 0), (.slice none 0 0), (.int .i64 0), (.int .i64 0), (.int .i64 0), (.int .i64 0), (.slice none 0 0)] 0 t34).bind fun cs4 =>
 (istore true 5 cs4 3 t35).bind fun cs5 =>
 (istore true 4 cs5 8 t41).bind fun cs6 =>
 (istore false 1 cs6 12 kinds2).bind fun cs7 =>
 callK (g145 lim (.agg ⟨cs7⟩) H2) fun t44 H3 =>
 (iextract 0 t44).bind fun t45 =>
 (iextract 1 t44).bind fun t46 =>
 (iun .not t46).bind fun t48 =>
 (boolK t48 fun b3 => bif b3 then
 (some (.ret (.tuple ⟨[(.slice none 0 0), (.int .i64 3)]⟩), H3))
 else
 some (.ret (.tuple ⟨[t45, (.int .i64 0)]⟩), H3))))
def F148 (N lim : Nat) (a0 a1 a2 : Value) (H : IHeap) : RV := B148 N (F145 N) (F216 N) lim a0 a1 a2 H
def G148 (N : Nat) : G := w3 (F148 N)
theorem eq148 (N : Nat) (g145 : RF1) (g216 : RF2) (lim : Nat) (a0 a1 a2 : Value) (H : IHeap) : ifun Tryz.prog { fn := envOf [(145, Ideal.w1 g145), (216, Ideal.w2 g216)], wr := [145] } { promo := [3, 4, 8], share := false } N (okOf Tryz.prog { promo := [3, 4, 8], share := false } [145]) Tryz.f148 (.seq (.region []) (.seq (.seq (.region [[25]]) (.inl (.seq (.region []) .leaf) .leaf)) (.seq (.region []) (.seq (.region []) (.seq (.seq (.region []) (.inl (.seq (.region []) .leaf) .leaf)) (.seq (.region []) .leaf)))))) lim [a0, a1, a2] H = B148 N g145 g216 lim a0 a1 a2 H := by kernel_rfl
theorem sim148 (N : Nat) : SimF Tryz.prog 148 (G148 N) := by
  refine SimF.gen [(145, G145 N), (216, G216 N)] [145] { promo := [3, 4, 8], share := false } N (.seq (.region []) (.seq (.seq (.region [[25]]) (.inl (.seq (.region []) .leaf) .leaf)) (.seq (.region []) (.seq (.region []) (.seq (.seq (.region []) (.inl (.seq (.region []) .leaf) .leaf)) (.seq (.region []) .leaf)))))) Tryz.func148 (by kernel_rfl) (by kernel_rfl) (env_cons (sim145 N) (env_cons (sim216 N) env_nil)) ?_
  intro lim args H r h
  unfold G148 w3 at h
  split at h
  · exact (eq148 N (F145 N) (F216 N) lim _ _ _ H).trans h
  · simp at h
/-- (*besom/flow.walk).wrong -/
def B74 (N : Nat) (g148 : RF3) (lim : Nat) (w0 at1 : Value) (H : IHeap) : RV :=
 retK ((cellsOf true 2 at1).bind fun cs1 =>
 (inilc w0).bind fun t9 =>
 (paddr 0 t9).bind fun t10 =>
 (hload true 3 H t10).bind fun t11 =>
 (iload true 2 cs1 0).bind fun t12 =>
 (inilc w0).bind fun t14 =>
 (paddr 4 t14).bind fun t15 =>
 (hload false 1 H t15).bind fun t16 =>
 (iload true 2 cs1 0).bind fun t17 =>
 (ilookup 3 (.slice none 0 0) false H t16 t17).bind fun t18 =>
 callK (g148 lim t11 t12 t18 H) fun t19 H1 =>
 (iextract 0 t19).bind fun t20 =>
 (iextract 1 t19).bind fun t21 =>
 (ibin .neq .no t21 (.int .i64 0)).bind fun t23 =>
 some (.ret t23, H1))
def F74 (N lim : Nat) (a0 a1 : Value) (H : IHeap) : RV := B74 N (F148 N) lim a0 a1 H
def G74 (N : Nat) : G := w2 (F74 N)
theorem eq74 (N : Nat) (g148 : RF3) (lim : Nat) (a0 a1 : Value) (H : IHeap) : ifun Tryz.prog { fn := envOf [(148, Ideal.w3 g148)], wr := [148] } { promo := [3], share := false } N (okOf Tryz.prog { promo := [3], share := false } [148]) Tryz.f74 (.seq (.region []) (.seq (.region []) (.seq (.region []) .leaf))) lim [a0, a1] H = B74 N g148 lim a0 a1 H := by kernel_rfl
theorem sim74 (N : Nat) : SimF Tryz.prog 74 (G74 N) := by
  refine SimF.gen [(148, G148 N)] [148] { promo := [3], share := false } N (.seq (.region []) (.seq (.region []) (.seq (.region []) .leaf))) Tryz.func74 (by kernel_rfl) (by kernel_rfl) (env_cons (sim148 N) env_nil) ?_
  intro lim args H r h
  unfold G74 w2 at h
  split at h
  · exact (eq74 N (F148 N) lim _ _ H).trans h
  · simp at h
/-- (*besom/flow.walk).look -/
def B72 (N : Nat) (g73 : RF2) (g74 : RF2) (lim : Nat) (w0 question1 : Value) (H : IHeap) : RV :=
 retK ((inilc w0).bind fun t11 =>
 (paddr 0 t11).bind fun t12 =>
 (paddr 2 t12).bind fun t13 =>
 (hload false 1 H t13).bind fun t14 =>
 (inilc w0).bind fun t16 =>
 (paddr 3 t16).bind fun t17 =>
 (hload false 1 H t17).bind fun t18 =>
 (iidx 5 t14 t18).bind fun t19 =>
 (paddr 4 t19).bind fun t20 =>
 (hload false 1 H t20).bind fun t21 =>
 (ilenS t21).bind fun t22 =>
 catchK 0 (iloop (fun vs1 H1 =>
 (ibin .lss .no (nthV 0 vs1) t22).bind fun t24 =>
 (boolK t24 fun b1 => bif b1 then
 (catchK 1 ((inilc w0).bind fun t27 =>
 (paddr 3 t27).bind fun t28 =>
 (hload false 1 H1 t28).bind fun t29 =>
 (istore false 1 [(.int .i64 0), (.int .i64 0)] 0 t29).bind fun cs1 =>
 (istore false 1 cs1 1 (nthV 0 vs1)).bind fun cs2 =>
 (istore true 2 [(.int .i64 0), (.int .i64 0)] 0 (.agg ⟨cs2⟩)).bind fun cs3 =>
 (inilc w0).bind fun t34 =>
 (paddr 4 t34).bind fun t35 =>
 (hload false 1 H1 t35).bind fun t36 =>
 (iload true 2 cs3 0).bind fun t37 =>
 (ilookup 3 (.slice none 0 0) true H1 t36 t37).bind fun t38 =>
 (iextract 0 t38).bind fun t39 =>
 (iextract 1 t38).bind fun t40 =>
 (gval true t40).bind fun w1 => grpK (bif w1 then
 ((iload true 2 cs3 0).bind fun t44 =>
 funcK question1 fun fid1 fi1 ca1 => (envOf [(73, Ideal.w2 g73), (74, Ideal.w2 g74)] fid1).bind fun g1 =>
 callK (g1 lim (fi1 ++ [t44] ++ ca1) H1) fun t45 H3 =>
 some ([t45], H3))
 else some ([Value.tuple #[]], H1)) fun vs2 H2 =>
 (pickK t40 (nthV 0 vs2) (.bool false)).bind fun t46 =>
 (boolK t46 fun b3 => bif b3 then
 ((iload true 2 cs3 0).bind fun t47 =>
 (aggs (nthV 0 (vs1.drop 1))).bind fun cs4 =>
 (istore true 2 cs4 0 t47).bind fun cs5 =>
 (iload true 2 cs5 0).bind fun r1 =>
 some (.ret (.tuple ⟨[r1, (.bool true)]⟩), H2))
 else
 (aggs (nthV 0 (vs1.drop 1))).bind fun cs6 =>
 some (.norm ([] ++ [.agg ⟨cs6⟩]), H2))) fun vs3 H4 =>
 (ibin .add .no (nthV 0 vs1) (.int .i64 1)).bind fun t48 =>
 (aggs (nthV 0 (vs3.drop 0))).bind fun cs7 =>
 some (.norm ([t48] ++ [.agg ⟨cs7⟩]), H4))
 else
 (aggs (nthV 0 (vs1.drop 1))).bind fun cs8 =>
 some (.exit 0 ([] ++ [.agg ⟨cs8⟩]), H1))) N ([(.int .i64 0)] ++ [.agg ⟨[(.int .i64 0), (.int .i64 0)]⟩]) H) fun vs4 H5 =>
 (aggs (nthV 0 (vs4.drop 0))).bind fun cs9 =>
 (istore true 2 cs9 0 (.agg ⟨[(.int .i64 0), (.int .i64 0)]⟩)).bind fun cs10 =>
 (iload true 2 cs10 0).bind fun r2 =>
 some (.ret (.tuple ⟨[r2, (.bool false)]⟩), H5))
def F72 (N lim : Nat) (a0 a1 : Value) (H : IHeap) : RV := B72 N (F73 N) (F74 N) lim a0 a1 H
def G72 (N : Nat) : G := w2 (F72 N)
theorem eq72 (N : Nat) (g73 : RF2) (g74 : RF2) (lim : Nat) (a0 a1 : Value) (H : IHeap) : ifun Tryz.prog { fn := envOf [(73, Ideal.w2 g73), (74, Ideal.w2 g74)], wr := [] } { promo := [4, 7], share := false } N (okOf Tryz.prog { promo := [4, 7], share := false } []) Tryz.f72 (.seq (.region []) (.seq (.seq (.region []) (.block [] [4] [4, 7] (.loop [23] [4] [4, 7] (.seq (.region []) (.seq (.inl .leaf .leaf) (.seq (.block [] [4] [4, 7] (.seq (.region []) (.seq (.region []) (.seq (.region []) (.seq (.region [[45]]) (.inl (.seq (.region []) .leaf) .leaf)))))) (.region []))))))) (.seq (.region []) .leaf))) lim [a0, a1] H = B72 N g73 g74 lim a0 a1 H := by kernel_rfl
theorem sim72 (N : Nat) : SimF Tryz.prog 72 (G72 N) := by
  refine SimF.gen [(73, G73 N), (74, G74 N)] [] { promo := [4, 7], share := false } N (.seq (.region []) (.seq (.seq (.region []) (.block [] [4] [4, 7] (.loop [23] [4] [4, 7] (.seq (.region []) (.seq (.inl .leaf .leaf) (.seq (.block [] [4] [4, 7] (.seq (.region []) (.seq (.region []) (.seq (.region []) (.seq (.region [[45]]) (.inl (.seq (.region []) .leaf) .leaf)))))) (.region []))))))) (.seq (.region []) .leaf))) Tryz.func72 (by kernel_rfl) (by kernel_rfl) (env_cons (sim73 N) (env_cons (sim74 N) env_nil)) ?_
  intro lim args H r h
  unfold G72 w2 at h
  split at h
  · exact (eq72 N (F73 N) (F74 N) lim _ _ H).trans h
  · simp at h
/-- besom/flow.Program -/
def B26 (N : Nat) (g70 : RF1) (g71 : RF1) (g72 : RF2) (lim : Nat) (p0 : Value) (H : IHeap) : RV :=
 retK ((cellsOf true 3 p0).bind fun cs1 =>
 (iload true 3 cs1 0).bind fun t15 =>
 callK (g70 lim t15 H) fun t16 H1 =>
 (iextract 0 t16).bind fun t17 =>
 (iextract 1 t16).bind fun t18 =>
 (istore true 2 [(.int .i64 0), (.int .i64 0)] 0 t18).bind fun cs2 =>
 (ibin .neq .no t17 (.int .i64 0)).bind fun t20 =>
 (boolK t20 fun b1 => bif b1 then
 ((iload true 2 cs2 0).bind fun t22 =>
 (istore true 2 [(.int .i64 0), (.int .i64 0)] 0 t22).bind fun cs3 =>
 (iload true 2 cs3 0).bind fun r1 =>
 some (.ret (.tuple ⟨[(.pointer none), t17, r1]⟩), H1))
 else
 (iload false 1 cs1 2).bind fun t25 =>
 (ilenS t25).bind fun t26 =>
 catchK 0 (iloop (fun vs1 H2 =>
 (ibin .lss .no (nthV 0 vs1) t26).bind fun t28 =>
 (boolK t28 fun b2 => bif b2 then
 (catchK 1 ((iload true 3 cs1 0).bind fun t30 =>
 (istore true 3 [(.slice none 0 0), (.slice none 0 0), (.slice none 0 0), (.int .i64 0), (.map none), (.slice none 0 0)] 0 t30).bind fun cs4 =>
 (istore false 1 cs4 3 (nthV 0 vs1)).bind fun cs5 =>
 (istore false 1 cs5 4 (.map (some H1.next))).bind fun cs6 =>
 (cellsOf true 6 (.agg ⟨cs6⟩)).bind fun cs7 =>
 callK (g71 lim (ptr H2.next 0) (H2.push (.cells cs7 0))) fun t36 H3 =>
 callK (g72 lim (ptr H2.next 0) (.func (.func 73) ⟨[(ptr H2.next 0)]⟩ ⟨[]⟩) H3) fun t41 H4 =>
 (iextract 0 t41).bind fun t42 =>
 (iextract 1 t41).bind fun t43 =>
 (istore true 2 [(.int .i64 0), (.int .i64 0)] 0 t42).bind fun cs8 =>
 (boolK t43 fun b3 => bif b3 then
 ((iload true 2 cs8 0).bind fun t45 =>
 (aggs (nthV 0 (vs1.drop 1))).bind fun cs9 =>
 (istore true 2 cs9 0 t45).bind fun cs10 =>
 (iload true 2 cs10 0).bind fun r2 =>
 some (.ret (.tuple ⟨[(.pointer none), (.int .i64 7), r2]⟩), H4))
 else
 callK (g72 lim (ptr H2.next 0) (.func (.func 74) ⟨[(ptr H2.next 0)]⟩ ⟨[]⟩) H4) fun t50 H5 =>
 (iextract 0 t50).bind fun t51 =>
 (iextract 1 t50).bind fun t52 =>
 (istore true 2 [(.int .i64 0), (.int .i64 0)] 0 t51).bind fun cs11 =>
 (boolK t52 fun b4 => bif b4 then
 ((iload true 2 cs11 0).bind fun t54 =>
 (aggs (nthV 0 (vs1.drop 1))).bind fun cs12 =>
 (istore true 2 cs12 0 t54).bind fun cs13 =>
 (iload true 2 cs13 0).bind fun r3 =>
 some (.ret (.tuple ⟨[(.pointer none), (.int .i64 3), r3]⟩), H5))
 else
 (aggs (nthV 0 (vs1.drop 1))).bind fun cs14 =>
 some (.norm ([] ++ [.agg ⟨cs14⟩]), H5)))) fun vs2 H6 =>
 (ibin .add .no (nthV 0 vs1) (.int .i64 1)).bind fun t55 =>
 (aggs (nthV 0 (vs2.drop 0))).bind fun cs15 =>
 some (.norm ([t55] ++ [.agg ⟨cs15⟩]), H6))
 else
 (aggs (nthV 0 (vs1.drop 1))).bind fun cs16 =>
 some (.exit 0 ([] ++ [.agg ⟨cs16⟩]), H2))) N ([(.int .i64 0)] ++ [.agg ⟨[(.int .i64 0), (.int .i64 0)]⟩]) (H1.push (.map 3 [] 0))) fun vs3 H7 =>
 (istore false 1 [(.map none)] 0 (.map (some H1.next))).bind fun cs17 =>
 (cellsOf true 1 (.agg ⟨cs17⟩)).bind fun cs18 =>
 (aggs (nthV 0 (vs3.drop 0))).bind fun cs19 =>
 (istore true 2 cs19 0 (.agg ⟨[(.int .i64 0), (.int .i64 0)]⟩)).bind fun cs20 =>
 (iload true 2 cs20 0).bind fun r4 =>
 some (.ret (.tuple ⟨[(ptr H7.next 0), (.int .i64 0), r4]⟩), (H7.push (.cells cs18 0)))))
def F26 (N lim : Nat) (a0 : Value) (H : IHeap) : RV := B26 N (F70 N) (F71 N) (F72 N) lim a0 H
def G26 (N : Nat) : G := w1 (F26 N)
theorem eq26 (N : Nat) (g70 : RF1) (g71 : RF1) (g72 : RF2) (lim : Nat) (a0 : Value) (H : IHeap) : ifun Tryz.prog { fn := envOf [(70, Ideal.w1 g70), (71, Ideal.w1 g71), (72, Ideal.w2 g72)], wr := [] } { promo := [1, 4, 6, 10, 12], share := false } N (okOf Tryz.prog { promo := [1, 4, 6, 10, 12], share := false } []) Tryz.f26 (.seq (.region []) (.seq (.seq (.region []) (.seq (.region []) (.inl (.seq (.region []) .leaf) .leaf))) (.seq (.region []) (.seq (.seq (.region []) (.block [] [4] [4, 10, 12] (.loop [27] [4] [4, 10, 12] (.seq (.region []) (.seq (.inl .leaf .leaf) (.seq (.block [] [4] [4, 10, 12] (.seq (.region []) (.seq (.region []) (.seq (.region []) (.seq (.seq (.region []) (.seq (.region []) (.inl (.seq (.region []) .leaf) .leaf))) (.seq (.region []) (.seq (.region []) (.inl (.seq (.region []) .leaf) .leaf)))))))) (.region []))))))) (.seq (.region []) .leaf))))) lim [a0] H = B26 N g70 g71 g72 lim a0 H := by kernel_rfl
theorem sim26 (N : Nat) : SimF Tryz.prog 26 (G26 N) := by
  refine SimF.gen [(70, G70 N), (71, G71 N), (72, G72 N)] [] { promo := [1, 4, 6, 10, 12], share := false } N (.seq (.region []) (.seq (.seq (.region []) (.seq (.region []) (.inl (.seq (.region []) .leaf) .leaf))) (.seq (.region []) (.seq (.seq (.region []) (.block [] [4] [4, 10, 12] (.loop [27] [4] [4, 10, 12] (.seq (.region []) (.seq (.inl .leaf .leaf) (.seq (.block [] [4] [4, 10, 12] (.seq (.region []) (.seq (.region []) (.seq (.region []) (.seq (.seq (.region []) (.seq (.region []) (.inl (.seq (.region []) .leaf) .leaf))) (.seq (.region []) (.seq (.region []) (.inl (.seq (.region []) .leaf) .leaf)))))))) (.region []))))))) (.seq (.region []) .leaf))))) Tryz.func26 (by kernel_rfl) (by kernel_rfl) (env_cons (sim70 N) (env_cons (sim71 N) (env_cons (sim72 N) env_nil))) ?_
  intro lim args H r h
  unfold G26 w1 at h
  split at h
  · exact (eq26 N (F70 N) (F71 N) (F72 N) lim _ H).trans h
  · simp at h
/-- slices.Clone[[]besom/api.Instr,besom/api.Instr] -/
def B76 (N : Nat) (lim : Nat) (s0 : Value) (H : IHeap) : RV :=
 retK ((ibin .eql .slice s0 (.slice none 0 0)).bind fun t4 =>
 (boolK t4 fun b1 => bif b1 then
 (some (.ret (.slice none 0 0), H))
 else
 rowK (hrow 4 (H.push (.cells [] 0)) s0) fun m1 new1 =>
 callK (iappend false 4 32 lim (H.push (.cells [] 0)) (slc 4 H.next 0 0 1) m1 new1) fun t7 H1 =>
 some (.ret t7, H1)))
def F76 (N lim : Nat) (a0 : Value) (H : IHeap) : RV := B76 N lim a0 H
def G76 (N : Nat) : G := w1 (F76 N)
theorem eq76 (N : Nat) (lim : Nat) (a0 : Value) (H : IHeap) : ifun Tryz.prog { fn := envOf [], wr := [] } { promo := [], share := false } N (okOf Tryz.prog { promo := [], share := false } []) Tryz.f76 (.seq (.region []) (.seq (.seq (.region []) (.inl (.seq (.region []) .leaf) .leaf)) (.seq (.region []) .leaf))) lim [a0] H = B76 N lim a0 H := by kernel_rfl
theorem sim76 (N : Nat) : SimF Tryz.prog 76 (G76 N) := by
  refine SimF.gen [] [] { promo := [], share := false } N (.seq (.region []) (.seq (.seq (.region []) (.inl (.seq (.region []) .leaf) .leaf)) (.seq (.region []) .leaf))) Tryz.func76 (by kernel_rfl) (by kernel_rfl) env_nil ?_
  intro lim args H r h
  unfold G76 w1 at h
  split at h
  · exact (eq76 N lim _ H).trans h
  · simp at h
/-- besom/image.Copy -/
def B28 (N : Nat) (g22 : RF1) (g76 : RF1) (lim : Nat) (p0 : Value) (H : IHeap) : RV :=
 retK ((cellsOf true 3 p0).bind fun cs1 =>
 (iload false 1 cs1 0).bind fun t9 =>
 callK (g22 lim t9 H) fun t10 H1 =>
 (istore false 1 [(.slice none 0 0), (.slice none 0 0), (.slice none 0 0)] 0 t10).bind fun cs2 =>
 (istore true 3 [(.slice none 0 0), (.slice none 0 0), (.slice none 0 0)] 0 (.agg ⟨cs2⟩)).bind fun cs3 =>
 (iload false 1 cs1 1).bind fun t13 =>
 (ilenS t13).bind fun t14 =>
 catchK 0 (iloop (fun vs1 H2 =>
 (ibin .lss .no (nthV 0 vs1) t14).bind fun t16 =>
 (boolK t16 fun b1 => bif b1 then
 (catchK 1 ((iidx 1 t13 (nthV 0 vs1)).bind fun t17 =>
 (hload true 1 H2 t17).bind fun t18 =>
 (istore true 1 [(.slice none 0 0)] 0 t18).bind fun cs4 =>
 (aggs (nthV 0 (vs1.drop 1))).bind fun cs5 =>
 (iload false 1 cs5 1).bind fun t20 =>
 (iload false 1 cs4 0).bind fun t22 =>
 callK (g22 lim t22 H2) fun t23 H3 =>
 (istore false 1 [(.slice none 0 0)] 0 t23).bind fun cs6 =>
 (istore true 1 [(.slice none 0 0)] 0 (.agg ⟨cs6⟩)).bind fun cs7 =>
 rowK (lrow 1 1 cs7) fun m1 new1 =>
 callK (iappend false 1 24 lim H3 t20 m1 new1) fun t26 H4 =>
 (aggs (nthV 0 (vs1.drop 1))).bind fun cs8 =>
 (istore false 1 cs8 1 t26).bind fun cs9 =>
 some (.norm ([] ++ [.agg ⟨cs9⟩]), H4)) fun vs2 H5 =>
 (ibin .add .no (nthV 0 vs1) (.int .i64 1)).bind fun t28 =>
 (aggs (nthV 0 (vs2.drop 0))).bind fun cs10 =>
 some (.norm ([t28] ++ [.agg ⟨cs10⟩]), H5))
 else
 (aggs (nthV 0 (vs1.drop 1))).bind fun cs11 =>
 some (.exit 0 ([] ++ [.agg ⟨cs11⟩]), H2))) N ([(.int .i64 0)] ++ [.agg ⟨cs3⟩]) H1) fun vs3 H6 =>
 (iload false 1 cs1 2).bind fun t30 =>
 (ilenS t30).bind fun t31 =>
 catchK 2 ((aggs (nthV 0 (vs3.drop 0))).bind fun cs22 =>
 iloop (fun vs4 H7 =>
 (ibin .lss .no (nthV 0 vs4) t31).bind fun t33 =>
 (boolK t33 fun b2 => bif b2 then
 (catchK 3 ((iidx 5 t30 (nthV 0 vs4)).bind fun t34 =>
 (hload true 5 H7 t34).bind fun t35 =>
 (istore true 5 [(.slice none 0 0), (.int .i64 0), (.int .i64 0), (.slice none 0 0), (.slice none 0 0)] 0 t35).bind fun cs12 =>
 (iload false 1 cs12 0).bind fun t37 =>
 callK (g22 lim t37 H7) fun t38 H8 =>
 (iload false 1 cs12 3).bind fun t40 =>
 callK (g22 lim t40 H8) fun t41 H9 =>
 (iload false 1 cs12 4).bind fun t43 =>
 callK (g76 lim t43 H9) fun t44 H10 =>
 (istore false 1 cs12 0 t38).bind fun cs13 =>
 (istore false 1 cs13 3 t41).bind fun cs14 =>
 (istore false 1 cs14 4 t44).bind fun cs15 =>
 (aggs (nthV 0 (vs4.drop 1))).bind fun cs16 =>
 (iload false 1 cs16 2).bind fun t49 =>
 (iload true 5 cs15 0).bind fun t50 =>
 (istore true 5 [(.slice none 0 0), (.int .i64 0), (.int .i64 0), (.slice none 0 0), (.slice none 0 0)] 0 t50).bind fun cs17 =>
 rowK (lrow 5 1 cs17) fun m2 new2 =>
 callK (iappend false 5 88 lim H10 t49 m2 new2) fun t52 H11 =>
 (aggs (nthV 0 (vs4.drop 1))).bind fun cs18 =>
 (istore false 1 cs18 2 t52).bind fun cs19 =>
 some (.norm ([] ++ [.agg ⟨cs19⟩]), H11)) fun vs5 H12 =>
 (ibin .add .no (nthV 0 vs4) (.int .i64 1)).bind fun t54 =>
 (aggs (nthV 0 (vs5.drop 0))).bind fun cs20 =>
 some (.norm ([t54] ++ [.agg ⟨cs20⟩]), H12))
 else
 (aggs (nthV 0 (vs4.drop 1))).bind fun cs21 =>
 some (.exit 2 ([] ++ [.agg ⟨cs21⟩]), H7))) N ([(.int .i64 0)] ++ [.agg ⟨cs22⟩]) H6) fun vs6 H13 =>
 (aggs (nthV 0 (vs6.drop 0))).bind fun cs23 =>
 (iload true 3 cs23 0).bind fun t55 =>
 (istore true 3 [(.slice none 0 0), (.slice none 0 0), (.slice none 0 0)] 0 t55).bind fun cs24 =>
 (iload true 3 cs24 0).bind fun r1 =>
 some (.ret r1, H13))
def F28 (N lim : Nat) (a0 : Value) (H : IHeap) : RV := B28 N (F22 N) (F76 N) lim a0 H
def G28 (N : Nat) : G := w1 (F28 N)
theorem eq28 (N : Nat) (g22 : RF1) (g76 : RF1) (lim : Nat) (a0 : Value) (H : IHeap) : ifun Tryz.prog { fn := envOf [(22, Ideal.w1 g22), (76, Ideal.w1 g76)], wr := [22, 76] } { promo := [1, 2, 3, 5, 7, 25, 51], share := false } N (okOf Tryz.prog { promo := [1, 2, 3, 5, 7, 25, 51], share := false } [22, 76]) Tryz.f28 (.seq (.region []) (.seq (.region []) (.seq (.seq (.region []) (.block [] [3] [3, 5, 25] (.loop [15] [3] [3, 5, 25] (.seq (.region []) (.seq (.inl .leaf .leaf) (.seq (.block [] [3] [3, 5, 25] (.seq (.region []) (.region []))) (.region []))))))) (.seq (.seq (.region []) (.block [] [3] [3, 7, 51] (.loop [32] [3] [3, 7, 51] (.seq (.region []) (.seq (.inl .leaf .leaf) (.seq (.block [] [3] [3, 7, 51] (.seq (.region []) (.seq (.region []) (.region [])))) (.region []))))))) (.seq (.region []) .leaf))))) lim [a0] H = B28 N g22 g76 lim a0 H := by kernel_rfl
theorem sim28 (N : Nat) : SimF Tryz.prog 28 (G28 N) := by
  refine SimF.gen [(22, G22 N), (76, G76 N)] [22, 76] { promo := [1, 2, 3, 5, 7, 25, 51], share := false } N (.seq (.region []) (.seq (.region []) (.seq (.seq (.region []) (.block [] [3] [3, 5, 25] (.loop [15] [3] [3, 5, 25] (.seq (.region []) (.seq (.inl .leaf .leaf) (.seq (.block [] [3] [3, 5, 25] (.seq (.region []) (.region []))) (.region []))))))) (.seq (.seq (.region []) (.block [] [3] [3, 7, 51] (.loop [32] [3] [3, 7, 51] (.seq (.region []) (.seq (.inl .leaf .leaf) (.seq (.block [] [3] [3, 7, 51] (.seq (.region []) (.seq (.region []) (.region [])))) (.region []))))))) (.seq (.region []) .leaf))))) Tryz.func28 (by kernel_rfl) (by kernel_rfl) (env_cons (sim22 N) (env_cons (sim76 N) env_nil)) ?_
  intro lim args H r h
  unfold G28 w1 at h
  split at h
  · exact (eq28 N (F22 N) (F76 N) lim _ H).trans h
  · simp at h
/-- besom/arena.New -/
def B78 (N : Nat) (lim : Nat) (pages0 : Value) (H : IHeap) : RV :=
 retK ((iminmax false [pages0, (.int .i64 0)]).bind fun t5 =>
 (iminmax true [t5, (.int .i64 64)]).bind fun t6 =>
 callK (imake 8 [(.pointer none)] H t6 t6) fun t8 H1 =>
 (ibin .shl .no t6 (.int .u64 5)).bind fun t10 =>
 callK (imake 8 [(.int .i64 0)] H1 t10 t10) fun t11 H2 =>
 (istore false 1 [(.slice none 0 0), (.slice none 0 0)] 0 t8).bind fun cs1 =>
 (istore false 1 cs1 1 t11).bind fun cs2 =>
 (cellsOf true 2 (.agg ⟨cs2⟩)).bind fun cs3 =>
 some (.ret (ptr H2.next 0), (H2.push (.cells cs3 0))))
def F78 (N lim : Nat) (a0 : Value) (H : IHeap) : RV := B78 N lim a0 H
def G78 (N : Nat) : G := w1 (F78 N)
theorem eq78 (N : Nat) (lim : Nat) (a0 : Value) (H : IHeap) : ifun Tryz.prog { fn := envOf [], wr := [] } { promo := [], share := false } N (okOf Tryz.prog { promo := [], share := false } []) Tryz.f78 (.seq (.region []) (.seq (.region []) (.seq (.region []) .leaf))) lim [a0] H = B78 N lim a0 H := by kernel_rfl
theorem sim78 (N : Nat) : SimF Tryz.prog 78 (G78 N) := by
  refine SimF.gen [] [] { promo := [], share := false } N (.seq (.region []) (.seq (.region []) (.seq (.region []) .leaf))) Tryz.func78 (by kernel_rfl) (by kernel_rfl) env_nil ?_
  intro lim args H r h
  unfold G78 w1 at h
  split at h
  · exact (eq78 N lim _ H).trans h
  · simp at h
/-- besom/heap.New -/
def B29 (N : Nat) (g77 : RF1) (g78 : RF1) (lim : Nat) (pages0 shapes1 : Value) (H : IHeap) : RV :=
 retK (callK (g77 lim shapes1 H) fun t11 H1 =>
 (ibin .neq .no t11 (.int .i64 0)).bind fun t13 =>
 (boolK t13 fun b1 => bif b1 then
 (some (.ret (.tuple ⟨[(.pointer none), t11]⟩), H1))
 else
 (ilenS shapes1).bind fun t16 =>
 catchK 0 (iloop (fun vs1 H2 =>
 (ibin .lss .no (nthV 1 vs1) t16).bind fun t18 =>
 (boolK t18 fun b2 => bif b2 then
 (catchK 1 ((iidx 1 shapes1 (nthV 1 vs1)).bind fun t19 =>
 (hload true 1 H2 t19).bind fun t20 =>
 (istore true 1 [(.slice none 0 0)] 0 t20).bind fun cs1 =>
 (iload false 1 cs1 0).bind fun t23 =>
 rowK (hrow 1 H2 t23) fun m1 new1 =>
 callK (iappend false 1 8 lim H2 (.slice none 0 0) m1 new1) fun t24 H3 =>
 (istore false 1 [(.slice none 0 0)] 0 t24).bind fun cs2 =>
 (istore true 1 [(.slice none 0 0)] 0 (.agg ⟨cs2⟩)).bind fun cs3 =>
 rowK (lrow 1 1 cs3) fun m2 new2 =>
 callK (iappend false 1 24 lim H3 (nthV 0 vs1) m2 new2) fun t27 H4 =>
 some (.norm ([t27] ++ []), H4)) fun vs2 H5 =>
 (ibin .add .no (nthV 1 vs1) (.int .i64 1)).bind fun t28 =>
 some (.norm ([(nthV 0 vs2), t28] ++ []), H5))
 else
 some (.exit 0 ([(nthV 0 vs1)] ++ []), H2))) N ([(.slice none 0 0), (.int .i64 0)] ++ []) H1) fun vs3 H6 =>
 callK (g78 lim pages0 H6) fun t30 H7 =>
 (istore false 1 [(.pointer none), (.slice none 0 0), (.map none), (.int .i64 0), (.int .i64 0)] 0 t30).bind fun cs4 =>
 (istore false 1 cs4 1 (nthV 0 vs3)).bind fun cs5 =>
 (istore false 1 cs5 2 (.map (some H7.next))).bind fun cs6 =>
 (cellsOf true 5 (.agg ⟨cs6⟩)).bind fun cs7 =>
 some (.ret (.tuple ⟨[(ptr (H7.push (.map 3 [] 0)).next 0), (.int .i64 0)]⟩), ((H7.push (.map 3 [] 0)).push (.cells cs7 0)))))
def F29 (N lim : Nat) (a0 a1 : Value) (H : IHeap) : RV := B29 N (F77 N) (F78 N) lim a0 a1 H
def G29 (N : Nat) : G := w2 (F29 N)
theorem eq29 (N : Nat) (g77 : RF1) (g78 : RF1) (lim : Nat) (a0 a1 : Value) (H : IHeap) : ifun Tryz.prog { fn := envOf [(77, Ideal.w1 g77), (78, Ideal.w1 g78)], wr := [] } { promo := [9, 26], share := false } N (okOf Tryz.prog { promo := [9, 26], share := false } []) Tryz.f29 (.seq (.region []) (.seq (.seq (.region []) (.seq (.region []) (.inl (.seq (.region []) .leaf) .leaf))) (.seq (.region []) (.seq (.seq (.region []) (.block [7] [] [9, 26] (.loop [7, 17] [] [9, 26] (.seq (.region []) (.seq (.inl .leaf .leaf) (.seq (.block [7] [] [9, 26] (.seq (.region []) (.region []))) (.region []))))))) (.seq (.region []) .leaf))))) lim [a0, a1] H = B29 N g77 g78 lim a0 a1 H := by kernel_rfl
theorem sim29 (N : Nat) : SimF Tryz.prog 29 (G29 N) := by
  refine SimF.gen [(77, G77 N), (78, G78 N)] [] { promo := [9, 26], share := false } N (.seq (.region []) (.seq (.seq (.region []) (.seq (.region []) (.inl (.seq (.region []) .leaf) .leaf))) (.seq (.region []) (.seq (.seq (.region []) (.block [7] [] [9, 26] (.loop [7, 17] [] [9, 26] (.seq (.region []) (.seq (.inl .leaf .leaf) (.seq (.block [7] [] [9, 26] (.seq (.region []) (.region []))) (.region []))))))) (.seq (.region []) .leaf))))) Tryz.func29 (by kernel_rfl) (by kernel_rfl) (env_cons (sim77 N) (env_cons (sim78 N) env_nil)) ?_
  intro lim args H r h
  unfold G29 w2 at h
  split at h
  · exact (eq29 N (F77 N) (F78 N) lim _ _ H).trans h
  · simp at h
/-- besom/pile.New -/
def B30 (N : Nat) (lim : Nat) (room0 : Value) (H : IHeap) : RV :=
 retK ((iminmax false [room0, (.int .i64 1)]).bind fun t4 =>
 (iminmax true [t4, (.int .i64 1000)]).bind fun t5 =>
 (istore false 1 [(.int .i64 0), (.slice none 0 0), (.bool false)] 0 t5).bind fun cs1 =>
 (cellsOf true 3 (.agg ⟨cs1⟩)).bind fun cs2 =>
 some (.ret (ptr H.next 0), (H.push (.cells cs2 0))))
def F30 (N lim : Nat) (a0 : Value) (H : IHeap) : RV := B30 N lim a0 H
def G30 (N : Nat) : G := w1 (F30 N)
theorem eq30 (N : Nat) (lim : Nat) (a0 : Value) (H : IHeap) : ifun Tryz.prog { fn := envOf [], wr := [] } { promo := [], share := false } N (okOf Tryz.prog { promo := [], share := false } []) Tryz.f30 (.seq (.region []) (.seq (.region []) .leaf)) lim [a0] H = B30 N lim a0 H := by kernel_rfl
theorem sim30 (N : Nat) : SimF Tryz.prog 30 (G30 N) := by
  refine SimF.gen [] [] { promo := [], share := false } N (.seq (.region []) (.seq (.region []) .leaf)) Tryz.func30 (by kernel_rfl) (by kernel_rfl) env_nil ?_
  intro lim args H r h
  unfold G30 w1 at h
  split at h
  · exact (eq30 N lim _ H).trans h
  · simp at h
end Go.Ideal
