/- This text proves no statement of the seat: it says what functions of the program do on the ideal machine, part 2. By program (emitall.py). -/
import Derived.Test.YtpiddcbddilamaaGreatDoorFb
namespace Go.Ideal
open Go.Proofs
set_option maxRecDepth 100000
set_option linter.unusedVariables false
/-- (besom/mutator.step).run -/
def B93 (N : Nat) (g159 : RF2) (g161 : RF3) (g162 : RF1) (g163 : RF2) (g168 : RF1) (g169 : RF1) (lim : Nat) (s0 : Value) (H : IHeap) : RV :=
 retK ((cellsOf true 9 s0).bind fun cs1 =>
 (iload true 4 cs1 5).bind fun t8 =>
 (iload false 1 cs1 4).bind fun t10 =>
 (istore true 4 [(.int .i64 0), (.int .i64 0), (.int .i64 0), (.int .i64 0)] 0 t8).bind fun cs2 =>
 (iload false 1 cs2 0).bind fun t12 =>
 catchK 0 ((ibin .eql .no t12 (.int .i64 1)).bind fun t14 =>
 (boolK t14 fun b1 => bif b1 then
 ((iload true 9 cs1 0).bind fun t15 =>
 (iload false 1 cs2 1).bind fun t17 =>
 (iload false 1 cs2 2).bind fun t19 =>
 callK (g162 lim t19 H) fun t20 H1 =>
 callK (g161 lim t15 t17 t20 H1) fun t21 H2 =>
 (istore true 7 [(.int .i64 0), (.int .i64 0), (.int .i64 0), (.int .i64 0), (.int .i64 0), (.bool false), (.slice none 0 0)] 0 t21).bind fun cs3 =>
 (iload true 7 cs3 0).bind fun r1 =>
 some (.ret r1, H2))
 else
 (ibin .eql .no t12 (.int .i64 2)).bind fun t23 =>
 (boolK t23 fun b2 => bif b2 then
 ((iload true 9 cs1 0).bind fun t24 =>
 (iload false 1 cs2 1).bind fun t26 =>
 (iload false 1 cs2 2).bind fun t29 =>
 callK (g163 lim t10 t29 H) fun t30 H3 =>
 callK (g161 lim t24 t26 t30 H3) fun t31 H4 =>
 (istore true 7 [(.int .i64 0), (.int .i64 0), (.int .i64 0), (.int .i64 0), (.int .i64 0), (.bool false), (.slice none 0 0)] 0 t31).bind fun cs4 =>
 (iload true 7 cs4 0).bind fun r2 =>
 some (.ret r2, H4))
 else
 (ibin .eql .no t12 (.int .i64 3)).bind fun t33 =>
 joinK (boolK t33 fun b3 => bif b3 then
 (some (.norm ([t33] ++ []), H))
 else
 (ibin .eql .no t12 (.int .i64 4)).bind fun t34 =>
 joinK (boolK t34 fun b4 => bif b4 then
 (some (.norm ([t34] ++ []), H))
 else
 (ibin .eql .no t12 (.int .i64 5)).bind fun t35 =>
 joinK (boolK t35 fun b5 => bif b5 then
 (some (.norm ([t35] ++ []), H))
 else
 (ibin .eql .no t12 (.int .i64 6)).bind fun t36 =>
 joinK (boolK t36 fun b6 => bif b6 then
 (some (.norm ([t36] ++ []), H))
 else
 (ibin .eql .no t12 (.int .i64 7)).bind fun t37 =>
 joinK (boolK t37 fun b7 => bif b7 then
 (some (.norm ([t37] ++ []), H))
 else
 (ibin .eql .no t12 (.int .i64 8)).bind fun t38 =>
 some (.norm ([t38] ++ []), H)) fun vs1 H5 =>
 some (.norm ([(nthV 0 vs1)] ++ []), H5)) fun vs2 H6 =>
 some (.norm ([(nthV 0 vs2)] ++ []), H6)) fun vs3 H7 =>
 some (.norm ([(nthV 0 vs3)] ++ []), H7)) fun vs4 H8 =>
 some (.norm ([(nthV 0 vs4)] ++ []), H8)) fun vs5 H9 =>
 (boolK (nthV 0 vs5) fun b8 => bif b8 then
 ((iload false 1 cs2 0).bind fun t41 =>
 (iload false 1 cs2 2).bind fun t44 =>
 callK (g163 lim t10 t44 H9) fun t45 H10 =>
 (iload false 1 cs2 3).bind fun t48 =>
 callK (g163 lim t10 t48 H10) fun t49 H11 =>
 none)
 else
 (ibin .eql .no t12 (.int .i64 11)).bind fun t59 =>
 (boolK t59 fun b9 => bif b9 then
 ((iload true 9 cs1 0).bind fun t60 =>
 (iload false 1 cs2 1).bind fun t62 =>
 callK (g161 lim t60 t62 (.int .i64 0) H9) fun t63 H12 =>
 (istore true 7 [(.int .i64 0), (.int .i64 0), (.int .i64 0), (.int .i64 0), (.int .i64 0), (.bool false), (.slice none 0 0)] 0 t63).bind fun cs5 =>
 (iload true 7 cs5 0).bind fun r3 =>
 some (.ret r3, H12))
 else
 (ibin .eql .no t12 (.int .i64 12)).bind fun t65 =>
 (boolK t65 fun b10 => bif b10 then
 ((iload true 9 cs1 0).bind fun t66 =>
 (iload false 1 cs2 1).bind fun t68 =>
 (iload false 1 cs2 2).bind fun t71 =>
 callK (g163 lim t10 t71 H9) fun t72 H13 =>
 (ibin .eql .no t72 (.int .i64 0)).bind fun t73 =>
 none)
 else
 (ibin .eql .no t12 (.int .i64 18)).bind fun t77 =>
 joinK (boolK t77 fun b11 => bif b11 then
 (some (.norm ([t77] ++ []), H9))
 else
 (ibin .eql .no t12 (.int .i64 19)).bind fun t78 =>
 joinK (boolK t78 fun b12 => bif b12 then
 (some (.norm ([t78] ++ []), H9))
 else
 (ibin .eql .no t12 (.int .i64 20)).bind fun t79 =>
 some (.norm ([t79] ++ []), H9)) fun vs6 H14 =>
 some (.norm ([(nthV 0 vs6)] ++ []), H14)) fun vs7 H15 =>
 (boolK (nthV 0 vs7) fun b13 => bif b13 then
 ((iload true 9 cs1 0).bind fun t80 =>
 none)
 else
 (ibin .eql .no t12 (.int .i64 14)).bind fun t83 =>
 joinK (boolK t83 fun b14 => bif b14 then
 (some (.norm ([t83] ++ []), H15))
 else
 (ibin .eql .no t12 (.int .i64 15)).bind fun t84 =>
 joinK (boolK t84 fun b15 => bif b15 then
 (some (.norm ([t84] ++ []), H15))
 else
 (ibin .eql .no t12 (.int .i64 13)).bind fun t85 =>
 joinK (boolK t85 fun b16 => bif b16 then
 (some (.norm ([t85] ++ []), H15))
 else
 (ibin .eql .no t12 (.int .i64 16)).bind fun t86 =>
 joinK (boolK t86 fun b17 => bif b17 then
 (some (.norm ([t86] ++ []), H15))
 else
 (ibin .eql .no t12 (.int .i64 17)).bind fun t87 =>
 some (.norm ([t87] ++ []), H15)) fun vs8 H16 =>
 some (.norm ([(nthV 0 vs8)] ++ []), H16)) fun vs9 H17 =>
 some (.norm ([(nthV 0 vs9)] ++ []), H17)) fun vs10 H18 =>
 some (.norm ([(nthV 0 vs10)] ++ []), H18)) fun vs11 H19 =>
 (boolK (nthV 0 vs11) fun b18 => bif b18 then
 ((iload true 9 cs1 0).bind fun t88 =>
 none)
 else
 (ibin .eql .no t12 (.int .i64 9)).bind fun t91 =>
 (boolK t91 fun b19 => bif b19 then
 ((iload false 1 cs2 2).bind fun t94 =>
 callK (g159 lim t10 t94 H19) fun t95 H20 =>
 (istore true 7 [(.int .i64 0), (.int .i64 0), (.int .i64 0), (.int .i64 0), (.int .i64 0), (.bool false), (.slice none 0 0)] 0 (.agg ⟨[(.int .i64 0), (.int .i64 0), (.int .i64 0), (.int .i64 0), (.int .i64 0), (.bool false), (.slice none 0 0)]⟩)).bind fun cs6 =>
 (iload true 7 cs6 0).bind fun r4 =>
 some (.ret r4, H20))
 else
 (ibin .eql .no t12 (.int .i64 10)).bind fun t98 =>
 (boolK t98 fun b20 => bif b20 then
 ((iload false 1 cs2 1).bind fun t101 =>
 callK (g163 lim t10 t101 H19) fun t102 H21 =>
 (ibin .neq .no t102 (.int .i64 0)).bind fun t103 =>
 (boolK t103 fun b21 => bif b21 then
 ((iload false 1 cs2 2).bind fun t106 =>
 callK (g159 lim t10 t106 H21) fun t107 H22 =>
 (istore true 7 [(.int .i64 0), (.int .i64 0), (.int .i64 0), (.int .i64 0), (.int .i64 0), (.bool false), (.slice none 0 0)] 0 (.agg ⟨[(.int .i64 0), (.int .i64 0), (.int .i64 0), (.int .i64 0), (.int .i64 0), (.bool false), (.slice none 0 0)]⟩)).bind fun cs7 =>
 (iload true 7 cs7 0).bind fun r5 =>
 some (.ret r5, H22))
 else
 (iload true 9 cs1 0).bind fun t109 =>
 callK (g168 lim t109 H21) fun t110 H23 =>
 (istore true 7 [(.int .i64 0), (.int .i64 0), (.int .i64 0), (.int .i64 0), (.int .i64 0), (.bool false), (.slice none 0 0)] 0 t110).bind fun cs8 =>
 (iload true 7 cs8 0).bind fun r6 =>
 some (.ret r6, H23)))
 else
 (ibin .eql .no t12 (.int .i64 29)).bind fun t112 =>
 (boolK t112 fun b22 => bif b22 then
 ((iload true 9 cs1 0).bind fun t113 =>
 callK (g168 lim t113 H19) fun t114 H24 =>
 (iload false 1 cs2 1).bind fun t117 =>
 callK (g163 lim t10 t117 H24) fun t118 H25 =>
 (istore false 1 [(.int .i64 0), (.int .i64 0), (.int .i64 0), (.int .i64 0), (.int .i64 0), (.bool false), (.slice none 0 0)] 0 (.int .i64 2)).bind fun cs9 =>
 (istore false 1 cs9 3 t118).bind fun cs10 =>
 (istore true 7 [(.int .i64 0), (.int .i64 0), (.int .i64 0), (.int .i64 0), (.int .i64 0), (.bool false), (.slice none 0 0)] 0 (.agg ⟨cs10⟩)).bind fun cs11 =>
 (iload true 7 cs11 0).bind fun r7 =>
 some (.ret r7, H25))
 else
 some (.norm ([] ++ [.agg ⟨[(.int .i64 0), (.int .i64 0), (.int .i64 0), (.int .i64 0), (.int .i64 0), (.bool false), (.slice none 0 0)]⟩]), H19)))))))))))) fun vs12 H26 =>
 (iload true 9 cs1 0).bind fun t120 =>
 callK (g169 lim t120 H26) fun t121 H27 =>
 (aggs (nthV 0 (vs12.drop 0))).bind fun cs12 =>
 (istore true 7 cs12 0 t121).bind fun cs13 =>
 (iload true 7 cs13 0).bind fun r8 =>
 some (.ret r8, H27))
def F93 (N lim : Nat) (a0 : Value) (H : IHeap) : RV := B93 N (F159 N) (F161 N) (F162 N) (F163 N) (F168 N) (F169 N) lim a0 H
def G93 (N : Nat) : G := w1 (F93 N)
theorem eq93 (N : Nat) (g159 : RF2) (g161 : RF3) (g162 : RF1) (g163 : RF2) (g168 : RF1) (g169 : RF1) (lim : Nat) (a0 : Value) (H : IHeap) : ifun Tryz.prog { fn := envOf [(159, Ideal.w2 g159), (161, Ideal.w3 g161), (162, Ideal.w1 g162), (163, Ideal.w2 g163), (168, Ideal.w1 g168), (169, Ideal.w1 g169)], wr := [161, 162, 163, 164, 165] } { promo := [1, 2, 3], share := false } N (okOf Tryz.prog { promo := [1, 2, 3], share := false } [161, 162, 163, 164, 165]) Tryz.f93 (.seq (.region []) (.seq (.region []) (.seq (.seq (.region []) (.block [] [2] [2] (.seq (.region []) (.inl (.seq (.region []) .leaf) (.seq (.region []) (.inl (.seq (.region []) .leaf) (.seq (.seq (.region []) (.join [32] [] [] .leaf (.seq (.region []) (.join [32] [] [] .leaf (.seq (.region []) (.join [32] [] [] .leaf (.seq (.region []) (.join [32] [] [] .leaf (.seq (.region []) (.join [32] [] [] .leaf (.region []))))))))))) (.inl (.seq (.region []) (.seq (.region []) .leaf)) (.seq (.region []) (.inl (.seq (.region []) .leaf) (.seq (.region []) (.inl (.seq (.region []) .leaf) (.seq (.seq (.region []) (.join [76] [] [] .leaf (.seq (.region []) (.join [76] [] [] .leaf (.region []))))) (.inl (.seq (.region []) .leaf) (.seq (.seq (.region []) (.join [82] [] [] .leaf (.seq (.region []) (.join [82] [] [] .leaf (.seq (.region []) (.join [82] [] [] .leaf (.seq (.region []) (.join [82] [] [] .leaf (.region []))))))))) (.inl (.seq (.region []) .leaf) (.seq (.region []) (.inl (.seq (.region []) (.seq (.region []) .leaf)) (.seq (.region []) (.inl (.seq (.seq (.region []) (.inl (.seq (.region []) (.seq (.region []) .leaf)) .leaf)) (.seq (.region []) .leaf)) (.seq (.region []) (.inl (.seq (.region []) (.seq (.region []) .leaf)) .leaf)))))))))))))))))))))) (.seq (.region []) .leaf)))) lim [a0] H = B93 N g159 g161 g162 g163 g168 g169 lim a0 H := by kernel_rfl
theorem sim93 (N : Nat) : SimF Tryz.prog 93 (G93 N) := by
  refine SimF.gen [(159, G159 N), (161, G161 N), (162, G162 N), (163, G163 N), (168, G168 N), (169, G169 N)] [161, 162, 163, 164, 165] { promo := [1, 2, 3], share := false } N (.seq (.region []) (.seq (.region []) (.seq (.seq (.region []) (.block [] [2] [2] (.seq (.region []) (.inl (.seq (.region []) .leaf) (.seq (.region []) (.inl (.seq (.region []) .leaf) (.seq (.seq (.region []) (.join [32] [] [] .leaf (.seq (.region []) (.join [32] [] [] .leaf (.seq (.region []) (.join [32] [] [] .leaf (.seq (.region []) (.join [32] [] [] .leaf (.seq (.region []) (.join [32] [] [] .leaf (.region []))))))))))) (.inl (.seq (.region []) (.seq (.region []) .leaf)) (.seq (.region []) (.inl (.seq (.region []) .leaf) (.seq (.region []) (.inl (.seq (.region []) .leaf) (.seq (.seq (.region []) (.join [76] [] [] .leaf (.seq (.region []) (.join [76] [] [] .leaf (.region []))))) (.inl (.seq (.region []) .leaf) (.seq (.seq (.region []) (.join [82] [] [] .leaf (.seq (.region []) (.join [82] [] [] .leaf (.seq (.region []) (.join [82] [] [] .leaf (.seq (.region []) (.join [82] [] [] .leaf (.region []))))))))) (.inl (.seq (.region []) .leaf) (.seq (.region []) (.inl (.seq (.region []) (.seq (.region []) .leaf)) (.seq (.region []) (.inl (.seq (.seq (.region []) (.inl (.seq (.region []) (.seq (.region []) .leaf)) .leaf)) (.seq (.region []) .leaf)) (.seq (.region []) (.inl (.seq (.region []) (.seq (.region []) .leaf)) .leaf)))))))))))))))))))))) (.seq (.region []) .leaf)))) Tryz.func93 (by kernel_rfl) (by kernel_rfl) (env_cons (sim159 N) (env_cons (sim161 N) (env_cons (sim162 N) (env_cons (sim163 N) (env_cons (sim168 N) (env_cons (sim169 N) env_nil)))))) ?_
  intro lim args H r h
  unfold G93 w1 at h
  split at h
  · exact (eq93 N (F159 N) (F161 N) (F162 N) (F163 N) (F168 N) (F169 N) lim _ H).trans h
  · simp at h
/-- besom/mutator.Step -/
def B39 (N : Nat) (g87 : RF1) (g88 : RF1) (g90 : RF2) (g91 : RF1) (g92 : RF1) (g93 : RF1) (lim : Nat) (p0 m1 t2 : Value) (H : IHeap) : RV :=
 retK ((cellsOf true 3 p0).bind fun cs1 =>
 callK (g87 lim t2 H) fun t9 H1 =>
 catchK 0 ((ibin .eql .no t9 (.int .i64 3)).bind fun t11 =>
 (boolK t11 fun b1 => bif b1 then
 ((istore false 1 [(.int .i64 0), (.int .i64 0), (.int .i64 0), (.int .i64 0), (.int .i64 0), (.bool false), (.slice none 0 0)] 0 (.int .i64 10)).bind fun cs2 =>
 (istore true 7 [(.int .i64 0), (.int .i64 0), (.int .i64 0), (.int .i64 0), (.int .i64 0), (.bool false), (.slice none 0 0)] 0 (.agg ⟨cs2⟩)).bind fun cs3 =>
 (iload true 7 cs3 0).bind fun r1 =>
 some (.ret r1, H1))
 else
 (ibin .eql .no t9 (.int .i64 4)).bind fun t14 =>
 (boolK t14 fun b2 => bif b2 then
 (callK (g88 lim t2 H1) fun t16 H2 =>
 (istore true 7 [(.int .i64 0), (.int .i64 0), (.int .i64 0), (.slice none 0 0), (.slice none 0 0), (.slice none 0 0), (.bool false)] 0 t16).bind fun cs4 =>
 (iload false 1 cs4 5).bind fun t18 =>
 (iload false 1 cs4 5).bind fun t20 =>
 (ilenS t20).bind fun t21 =>
 (ibin .sub .no t21 (.int .i64 1)).bind fun t22 =>
 (iidx 5 t18 t22).bind fun t23 =>
 (paddr 0 t23).bind fun t24 =>
 (hload false 1 H2 t24).bind fun t25 =>
 (istore false 1 [(.int .i64 0), (.int .i64 0), (.int .i64 0), (.int .i64 0), (.int .i64 0), (.bool false), (.slice none 0 0)] 0 (.int .i64 11)).bind fun cs5 =>
 (istore false 1 cs5 3 t25).bind fun cs6 =>
 (istore true 7 [(.int .i64 0), (.int .i64 0), (.int .i64 0), (.int .i64 0), (.int .i64 0), (.bool false), (.slice none 0 0)] 0 (.agg ⟨cs6⟩)).bind fun cs7 =>
 (iload true 7 cs7 0).bind fun r2 =>
 some (.ret r2, H2))
 else
 (ibin .eql .no t9 (.int .i64 1)).bind fun t28 =>
 (boolK t28 fun b3 => bif b3 then
 (none)
 else
 (ibin .eql .no t9 (.int .i64 2)).bind fun t32 =>
 (boolK t32 fun b4 => bif b4 then
 ((iload true 3 cs1 0).bind fun t33 =>
 callK (g90 lim t33 t2 H1) fun t35 H3 =>
 (istore true 7 [(.int .i64 0), (.int .i64 0), (.int .i64 0), (.int .i64 0), (.int .i64 0), (.bool false), (.slice none 0 0)] 0 t35).bind fun cs8 =>
 (iload true 7 cs8 0).bind fun r3 =>
 some (.ret r3, H3))
 else
 some (.norm ([] ++ [.agg ⟨[(.int .i64 0), (.int .i64 0), (.int .i64 0), (.int .i64 0), (.int .i64 0), (.bool false), (.slice none 0 0)]⟩]), H1)))))) fun vs1 H4 =>
 (iload true 3 cs1 0).bind fun t36 =>
 (iload false 1 cs1 2).bind fun t40 =>
 callK (g91 lim t2 H4) fun t42 H5 =>
 (iidx 5 t40 t42).bind fun t43 =>
 (paddr 4 t43).bind fun t44 =>
 (hload false 1 H5 t44).bind fun t45 =>
 callK (g92 H5.next t2 H5) fun t47 H6 =>
 (iidx 4 t45 t47).bind fun t48 =>
 (hload true 4 H6 t48).bind fun t49 =>
 (istore true 3 [(.slice none 0 0), (.slice none 0 0), (.slice none 0 0), (.pointer none), (.pointer none), (.int .i64 0), (.int .i64 0), (.int .i64 0), (.int .i64 0)] 0 t36).bind fun cs9 =>
 (istore false 1 cs9 3 m1).bind fun cs10 =>
 (istore false 1 cs10 4 t2).bind fun cs11 =>
 (istore true 4 cs11 5 t49).bind fun cs12 =>
 callK (g93 lim (.agg ⟨cs12⟩) H6) fun t51 H7 =>
 (aggs (nthV 0 (vs1.drop 0))).bind fun cs13 =>
 (istore true 7 cs13 0 t51).bind fun cs14 =>
 (iload true 7 cs14 0).bind fun r4 =>
 some (.ret r4, H7))
def F39 (N lim : Nat) (a0 a1 a2 : Value) (H : IHeap) : RV := B39 N (F87 N) (F88 N) (F90 N) (F91 N) (F92 N) (F93 N) lim a0 a1 a2 H
def G39 (N : Nat) : G := w3 (F39 N)
theorem eq39 (N : Nat) (g87 : RF1) (g88 : RF1) (g90 : RF2) (g91 : RF1) (g92 : RF1) (g93 : RF1) (lim : Nat) (a0 a1 a2 : Value) (H : IHeap) : ifun Tryz.prog { fn := envOf [(87, Ideal.w1 g87), (88, Ideal.w1 g88), (90, Ideal.w2 g90), (91, Ideal.w1 g91), (92, Ideal.w1 g92), (93, Ideal.w1 g93)], wr := [91, 93] } { promo := [3, 6, 7], share := false } N (okOf Tryz.prog { promo := [3, 6, 7], share := false } [91, 93]) Tryz.f39 (.seq (.region []) (.seq (.seq (.region []) (.block [] [6] [6, 7] (.seq (.region []) (.inl (.seq (.region []) .leaf) (.seq (.region []) (.inl (.seq (.region []) (.seq (.region []) .leaf)) (.seq (.region []) (.inl (.seq (.region []) .leaf) (.seq (.region []) (.inl (.seq (.region []) .leaf) .leaf)))))))))) (.seq (.region []) .leaf))) lim [a0, a1, a2] H = B39 N g87 g88 g90 g91 g92 g93 lim a0 a1 a2 H := by kernel_rfl
theorem sim39 (N : Nat) : SimF Tryz.prog 39 (G39 N) := by
  refine SimF.gen [(87, G87 N), (88, G88 N), (90, G90 N), (91, G91 N), (92, G92 N), (93, G93 N)] [91, 93] { promo := [3, 6, 7], share := false } N (.seq (.region []) (.seq (.seq (.region []) (.block [] [6] [6, 7] (.seq (.region []) (.inl (.seq (.region []) .leaf) (.seq (.region []) (.inl (.seq (.region []) (.seq (.region []) .leaf)) (.seq (.region []) (.inl (.seq (.region []) .leaf) (.seq (.region []) (.inl (.seq (.region []) .leaf) .leaf)))))))))) (.seq (.region []) .leaf))) Tryz.func39 (by kernel_rfl) (by kernel_rfl) (env_cons (sim87 N) (env_cons (sim88 N) (env_cons (sim90 N) (env_cons (sim91 N) (env_cons (sim92 N) (env_cons (sim93 N) env_nil)))))) ?_
  intro lim args H r h
  unfold G39 w3 at h
  split at h
  · exact (eq39 N (F87 N) (F88 N) (F90 N) (F91 N) (F92 N) (F93 N) lim _ _ _ H).trans h
  · simp at h
/-- (*besom/world.World).next -/
def B41 (N : Nat) (lim : Nat) (w0 : Value) (H : IHeap) : RV :=
 retK ((inilc w0).bind fun t4 =>
 (paddr 19 t4).bind fun t5 =>
 (hload false 1 H t5).bind fun t6 =>
 (ibin .add .no t6 (.int .i64 1)).bind fun t7 =>
 (inilc w0).bind fun t8 =>
 (paddr 19 t8).bind fun t9 =>
 (hstore false 1 lim H t9 t7).bind fun H1 =>
 (inilc w0).bind fun t11 =>
 (paddr 19 t11).bind fun t12 =>
 (hload false 1 H1 t12).bind fun t13 =>
 (ibin .sub .no t13 (.int .i64 1)).bind fun t14 =>
 some (.ret t14, H1))
def F41 (N lim : Nat) (a0 : Value) (H : IHeap) : RV := B41 N lim a0 H
def G41 (N : Nat) : G := w1 (F41 N)
theorem eq41 (N : Nat) (lim : Nat) (a0 : Value) (H : IHeap) : ifun Tryz.prog { fn := envOf [], wr := [] } { promo := [], share := false } N (okOf Tryz.prog { promo := [], share := false } []) Tryz.f41 (.seq (.region []) (.seq (.region []) (.seq (.region []) .leaf))) lim [a0] H = B41 N lim a0 H := by kernel_rfl
theorem sim41 (N : Nat) : SimF Tryz.prog 41 (G41 N) := by
  refine SimF.gen [] [] { promo := [], share := false } N (.seq (.region []) (.seq (.region []) (.seq (.region []) .leaf))) Tryz.func41 (by kernel_rfl) (by kernel_rfl) env_nil ?_
  intro lim args H r h
  unfold G41 w1 at h
  split at h
  · exact (eq41 N lim _ H).trans h
  · simp at h
/-- besom/stack.Fit -/
def B42 (N : Nat) (lim : Nat) (first0 need1 : Value) (H : IHeap) : RV :=
 retK ((iminmax false [first0, (.int .i64 1)]).bind fun t6 =>
 catchK 0 (iloop (fun vs1 H1 =>
 (ibin .lss .no (nthV 0 vs1) need1).bind fun t9 =>
 (gval true t9).bind fun w1 => grpK (bif w1 then
 ((ibin .lss .no (nthV 0 vs1) (.int .i64 1000000)).bind fun t12 =>
 some ([t12], H1))
 else some ([Value.tuple #[]], H1)) fun vs2 H2 =>
 (pickK t9 (nthV 0 vs2) (.bool false)).bind fun t13 =>
 (boolK t13 fun b2 => bif b2 then
 (catchK 1 ((ibin .shl .no (nthV 0 vs1) (.int .u64 1)).bind fun t15 =>
 some (.norm ([t15] ++ []), H2)) fun vs3 H3 =>
 some (.norm ([(nthV 0 vs3)] ++ []), H3))
 else
 some (.exit 0 ([(nthV 0 vs1)] ++ []), H2))) N ([t6] ++ []) H) fun vs4 H4 =>
 (iminmax true [(nthV 0 vs4), (.int .i64 1000000)]).bind fun t17 =>
 some (.ret t17, H4))
def F42 (N lim : Nat) (a0 a1 : Value) (H : IHeap) : RV := B42 N lim a0 a1 H
def G42 (N : Nat) : G := w2 (F42 N)
theorem eq42 (N : Nat) (lim : Nat) (a0 a1 : Value) (H : IHeap) : ifun Tryz.prog { fn := envOf [], wr := [] } { promo := [], share := false } N (okOf Tryz.prog { promo := [], share := false } []) Tryz.f42 (.seq (.region []) (.seq (.region []) (.seq (.block [0] [] [] (.loop [0] [] [] (.seq (.seq (.region [[12]]) (.inl .leaf .leaf)) (.block [0] [] [] (.region []))))) (.seq (.region []) .leaf)))) lim [a0, a1] H = B42 N lim a0 a1 H := by kernel_rfl
theorem sim42 (N : Nat) : SimF Tryz.prog 42 (G42 N) := by
  refine SimF.gen [] [] { promo := [], share := false } N (.seq (.region []) (.seq (.region []) (.seq (.block [0] [] [] (.loop [0] [] [] (.seq (.seq (.region [[12]]) (.inl .leaf .leaf)) (.block [0] [] [] (.region []))))) (.seq (.region []) .leaf)))) Tryz.func42 (by kernel_rfl) (by kernel_rfl) env_nil ?_
  intro lim args H r h
  unfold G42 w2 at h
  split at h
  · exact (eq42 N lim _ _ H).trans h
  · simp at h
/-- besom/mutator.Asks -/
def B44 (N : Nat) (lim : Nat) (kind0 : Value) (H : IHeap) : RV :=
 retK ((ibin .geq .no kind0 (.int .i64 3)).bind fun t4 =>
 (gval true t4).bind fun w1 => grpK (bif w1 then
 ((ibin .leq .no kind0 (.int .i64 7)).bind fun t7 =>
 some ([t7], H))
 else some ([Value.tuple #[]], H)) fun vs1 H1 =>
 (pickK t4 (nthV 0 vs1) (.bool false)).bind fun t8 =>
 some (.ret t8, H1))
def F44 (N lim : Nat) (a0 : Value) (H : IHeap) : RV := B44 N lim a0 H
def G44 (N : Nat) : G := w1 (F44 N)
theorem eq44 (N : Nat) (lim : Nat) (a0 : Value) (H : IHeap) : ifun Tryz.prog { fn := envOf [], wr := [] } { promo := [], share := false } N (okOf Tryz.prog { promo := [], share := false } []) Tryz.f44 (.seq (.region []) (.seq (.region [[7]]) .leaf)) lim [a0] H = B44 N lim a0 H := by kernel_rfl
theorem sim44 (N : Nat) : SimF Tryz.prog 44 (G44 N) := by
  refine SimF.gen [] [] { promo := [], share := false } N (.seq (.region []) (.seq (.region [[7]]) .leaf)) Tryz.func44 (by kernel_rfl) (by kernel_rfl) env_nil ?_
  intro lim args H r h
  unfold G44 w1 at h
  split at h
  · exact (eq44 N lim _ H).trans h
  · simp at h
/-- besom/stack.New -/
def B140 (N : Nat) (lim : Nat) (serial0 words1 : Value) (H : IHeap) : RV :=
 retK ((iminmax false [serial0, (.int .i64 0)]).bind fun t6 =>
 (iminmax true [t6, (.int .i64 100000)]).bind fun t7 =>
 (ibin .shl .no t7 (.int .u64 13)).bind fun t9 =>
 (ibin .add .no (.int .i64 1073741824) t9).bind fun t10 =>
 (iminmax false [words1, (.int .i64 1)]).bind fun t12 =>
 (iminmax true [t12, (.int .i64 4096)]).bind fun t13 =>
 callK (imake 8 [(.int .i64 0)] H t13 t13) fun t14 H1 =>
 (istore false 1 [(.int .i64 0), (.slice none 0 0)] 0 t10).bind fun cs1 =>
 (istore false 1 cs1 1 t14).bind fun cs2 =>
 (cellsOf true 2 (.agg ⟨cs2⟩)).bind fun cs3 =>
 some (.ret (ptr H1.next 0), (H1.push (.cells cs3 0))))
def F140 (N lim : Nat) (a0 a1 : Value) (H : IHeap) : RV := B140 N lim a0 a1 H
def G140 (N : Nat) : G := w2 (F140 N)
theorem eq140 (N : Nat) (lim : Nat) (a0 a1 : Value) (H : IHeap) : ifun Tryz.prog { fn := envOf [], wr := [] } { promo := [], share := false } N (okOf Tryz.prog { promo := [], share := false } []) Tryz.f140 (.seq (.region []) (.seq (.region []) (.seq (.region []) .leaf))) lim [a0, a1] H = B140 N lim a0 a1 H := by kernel_rfl
theorem sim140 (N : Nat) : SimF Tryz.prog 140 (G140 N) := by
  refine SimF.gen [] [] { promo := [], share := false } N (.seq (.region []) (.seq (.region []) (.seq (.region []) .leaf))) Tryz.func140 (by kernel_rfl) (by kernel_rfl) env_nil ?_
  intro lim args H r h
  unfold G140 w2 at h
  split at h
  · exact (eq140 N lim _ _ H).trans h
  · simp at h
/-- besom/task.New -/
def B74 (N : Nat) (g25 : RF2) (g42 : RF2) (g140 : RF2) (g141 : RF4) (lim : Nat) (p0 fn1 args2 serial3 first4 limit5 : Value) (H : IHeap) : RV :=
 retK ((cellsOf true 3 p0).bind fun cs1 =>
 catchK 0 ((ibin .lss .no fn1 (.int .i64 0)).bind fun t19 =>
 (gval false t19).bind fun w1 => grpK (bif w1 then
 ((iload false 1 cs1 2).bind fun t23 =>
 (ilenS t23).bind fun t24 =>
 (ibin .geq .no fn1 t24).bind fun t25 =>
 some ([t25], H))
 else some ([Value.tuple #[]], H)) fun vs1 H1 =>
 (pickK t19 (.bool true) (nthV 0 vs1)).bind fun t26 =>
 (boolK t26 fun b2 => bif b2 then
 (some (.ret (.tuple ⟨[(.pointer none), (.int .i64 4)]⟩), H1))
 else
 (ilenS args2).bind fun t29 =>
 (iload false 1 cs1 2).bind fun t31 =>
 (iidx 5 t31 fn1).bind fun t33 =>
 (paddr 0 t33).bind fun t34 =>
 (hload false 1 H1 t34).bind fun t35 =>
 (ilenS t35).bind fun t36 =>
 (ibin .neq .no t29 t36).bind fun t37 =>
 (boolK t37 fun b3 => bif b3 then
 (some (.ret (.tuple ⟨[(.pointer none), (.int .i64 1)]⟩), H1))
 else
 some (.norm ([] ++ []), H1)))) fun vs2 H2 =>
 (iload true 3 cs1 0).bind fun t38 =>
 callK (g25 lim t38 fn1 H2) fun t40 H3 =>
 callK (g42 lim first4 t40 H3) fun t43 H4 =>
 (ibin .geq .no limit5 t40).bind fun t46 =>
 joinK (boolK t46 fun b4 => bif b4 then
 ((iminmax true [t43, limit5]).bind fun t49 =>
 some (.norm ([t49] ++ []), H4))
 else
 some (.norm ([t43] ++ []), H4)) fun vs3 H5 =>
 (iload true 3 cs1 0).bind fun t50 =>
 callK (g140 H5.next serial3 (nthV 0 vs3) H5) fun t53 H6 =>
 (istore true 3 [(.slice none 0 0), (.slice none 0 0), (.slice none 0 0), (.pointer none), (.slice none 0 0), (.slice none 0 0), (.slice none 0 0), (.map none)] 0 t50).bind fun cs2 =>
 (istore false 1 cs2 3 t53).bind fun cs3 =>
 (istore false 1 cs3 7 (.map (some H6.next))).bind fun cs4 =>
 (cellsOf true 8 (.agg ⟨cs4⟩)).bind fun cs5 =>
 callK (g141 lim (ptr (H6.push (.map 3 [] 0)).next 0) fn1 args2 (.int .i64 (-1)) ((H6.push (.map 3 [] 0)).push (.cells cs5 0))) fun t60 H7 =>
 some (.ret (.tuple ⟨[(ptr (H6.push (.map 3 [] 0)).next 0), (.int .i64 0)]⟩), H7))
def F74 (N lim : Nat) (a0 a1 a2 a3 a4 a5 : Value) (H : IHeap) : RV := B74 N (F25 N) (F42 N) (F140 N) (F141 N) lim a0 a1 a2 a3 a4 a5 H
def G74 (N : Nat) : G := w6 (F74 N)
theorem eq74 (N : Nat) (g25 : RF2) (g42 : RF2) (g140 : RF2) (g141 : RF4) (lim : Nat) (a0 a1 a2 a3 a4 a5 : Value) (H : IHeap) : ifun Tryz.prog { fn := envOf [(25, Ideal.w2 g25), (42, Ideal.w2 g42), (140, Ideal.w2 g140), (141, Ideal.w4 g141)], wr := [] } { promo := [6], share := false } N (okOf Tryz.prog { promo := [6], share := false } []) Tryz.f74 (.seq (.region []) (.seq (.block [] [] [] (.seq (.region [[25]]) (.inl (.seq (.region []) .leaf) (.seq (.region []) (.inl (.seq (.region []) .leaf) .leaf))))) (.seq (.region []) (.seq (.region []) (.seq (.seq (.region []) (.join [15] [] [] (.region []) .leaf)) (.seq (.region []) (.seq (.region []) (.seq (.region []) .leaf)))))))) lim [a0, a1, a2, a3, a4, a5] H = B74 N g25 g42 g140 g141 lim a0 a1 a2 a3 a4 a5 H := by kernel_rfl
theorem sim74 (N : Nat) : SimF Tryz.prog 74 (G74 N) := by
  refine SimF.gen [(25, G25 N), (42, G42 N), (140, G140 N), (141, G141 N)] [] { promo := [6], share := false } N (.seq (.region []) (.seq (.block [] [] [] (.seq (.region [[25]]) (.inl (.seq (.region []) .leaf) (.seq (.region []) (.inl (.seq (.region []) .leaf) .leaf))))) (.seq (.region []) (.seq (.region []) (.seq (.seq (.region []) (.join [15] [] [] (.region []) .leaf)) (.seq (.region []) (.seq (.region []) (.seq (.region []) .leaf)))))))) Tryz.func74 (by kernel_rfl) (by kernel_rfl) (env_cons (sim25 N) (env_cons (sim42 N) (env_cons (sim140 N) (env_cons (sim141 N) env_nil)))) ?_
  intro lim args H r h
  unfold G74 w6 at h
  split at h
  · exact (eq74 N (F25 N) (F42 N) (F140 N) (F141 N) lim _ _ _ _ _ _ H).trans h
  · simp at h
/-- (*besom/world.World).spawn -/
def B29 (N : Nat) (g41 : RF1) (g74 : RF6) (lim : Nat) (w0 fn1 args2 : Value) (H : IHeap) : RV :=
 retK ((inilc w0).bind fun t10 =>
 (paddr 0 t10).bind fun t11 =>
 (hload true 3 H t11).bind fun t12 =>
 callK (g41 lim w0 H) fun t16 H1 =>
 (inilc w0).bind fun t18 =>
 (paddr 3 t18).bind fun t19 =>
 (paddr 1 t19).bind fun t20 =>
 (hload false 1 H1 t20).bind fun t21 =>
 (inilc w0).bind fun t23 =>
 (paddr 3 t23).bind fun t24 =>
 (paddr 2 t24).bind fun t25 =>
 (hload false 1 H1 t25).bind fun t26 =>
 callK (g74 lim t12 fn1 args2 t16 t21 t26 H1) fun t27 H2 =>
 (iextract 0 t27).bind fun t28 =>
 (iextract 1 t27).bind fun t29 =>
 (bif ((chk1 (hload true 3 H1 t11) t12) && ((chk1 (hload false 1 H t20) t21) && ((chk1 (hload false 1 H t25) t26) && true))) then
 ((inilc w0).bind fun t32 =>
 (paddr 15 t32).bind fun t33 =>
 (hload false 1 H2 t33).bind fun t34 =>
 (istore false 1 [(.pointer none)] 0 t28).bind fun cs1 =>
 rowK (lrow 1 1 cs1) fun m1 new1 =>
 callK (iappend false 1 8 lim H2 t34 m1 new1) fun t37 H3 =>
 (inilc w0).bind fun t38 =>
 (paddr 15 t38).bind fun t39 =>
 (hstore false 1 lim H3 t39 t37).bind fun H4 =>
 (inilc w0).bind fun t42 =>
 (paddr 16 t42).bind fun t43 =>
 (hload false 1 H4 t43).bind fun t44 =>
 (inilc w0).bind fun t46 =>
 (paddr 12 t46).bind fun t47 =>
 (paddr 0 t47).bind fun t48 =>
 (hload false 1 H4 t48).bind fun t49 =>
 (ibin .eql .no t49 (.int .i64 1)).bind fun t50 =>
 (istore false 1 [(.int .i64 0), (.bool false)] 0 (.int .i64 0)).bind fun cs2 =>
 (istore false 1 cs2 1 t50).bind fun cs3 =>
 (istore true 2 [(.int .i64 0), (.bool false)] 0 (.agg ⟨cs3⟩)).bind fun cs4 =>
 rowK (lrow 2 1 cs4) fun m2 new2 =>
 callK (iappend false 2 16 lim H4 t44 m2 new2) fun t53 H5 =>
 (inilc w0).bind fun t54 =>
 (paddr 16 t54).bind fun t55 =>
 (hstore false 1 lim H5 t55 t53).bind fun H6 =>
 some (.ret (.tuple ⟨[]⟩), H6))
 else none))
def F29 (N lim : Nat) (a0 a1 a2 : Value) (H : IHeap) : RV := B29 N (F41 N) (F74 N) lim a0 a1 a2 H
def G29 (N : Nat) : G := w3 (F29 N)
theorem eq29 (N : Nat) (g41 : RF1) (g74 : RF6) (lim : Nat) (a0 a1 a2 : Value) (H : IHeap) : ifun Tryz.prog { fn := envOf [(41, Ideal.w1 g41), (74, Ideal.w6 g74)], wr := [41, 74] } { promo := [36, 52], share := false } N (okOf Tryz.prog { promo := [36, 52], share := false } [41, 74]) Tryz.f29 (.seq (.late 7 [3, 12, 17]) (.seq (.region []) (.region []))) lim [a0, a1, a2] H = B29 N g41 g74 lim a0 a1 a2 H := by kernel_rfl
theorem sim29 (N : Nat) : SimF Tryz.prog 29 (G29 N) := by
  refine SimF.gen [(41, G41 N), (74, G74 N)] [41, 74] { promo := [36, 52], share := false } N (.seq (.late 7 [3, 12, 17]) (.seq (.region []) (.region []))) Tryz.func29 (by kernel_rfl) (by kernel_rfl) (env_cons (sim41 N) (env_cons (sim74 N) env_nil)) ?_
  intro lim args H r h
  unfold G29 w3 at h
  split at h
  · exact (eq29 N (F41 N) (F74 N) lim _ _ _ H).trans h
  · simp at h
/-- besom/tint.Shade -/
def B113 (N : Nat) (lim : Nat) (h0 p1 l2 : Value) (H : IHeap) : RV :=
 retK ((ilenS l2).bind fun t13 =>
 catchK 0 (iloop (fun vs1 H1 =>
 (ibin .lss .no (nthV 1 vs1) t13).bind fun t15 =>
 (boolK t15 fun b1 => bif b1 then
 (catchK 1 ((iidx 1 l2 (nthV 1 vs1)).bind fun t16 =>
 (hload false 1 H1 t16).bind fun t17 =>
 none) fun vs2 H2 =>
 (ibin .add .no (nthV 1 vs1) (.int .i64 1)).bind fun t36 =>
 some (.norm ([(nthV 0 vs2), t36] ++ []), H2))
 else
 some (.exit 0 ([(nthV 0 vs1)] ++ []), H1))) N ([(.int .i64 0), (.int .i64 0)] ++ []) H) fun vs3 H3 =>
 some (.ret (nthV 0 vs3), H3))
def F113 (N lim : Nat) (a0 a1 a2 : Value) (H : IHeap) : RV := B113 N lim a0 a1 a2 H
def G113 (N : Nat) : G := w3 (F113 N)
theorem eq113 (N : Nat) (lim : Nat) (a0 a1 a2 : Value) (H : IHeap) : ifun Tryz.prog { fn := envOf [], wr := [] } { promo := [], share := false } N (okOf Tryz.prog { promo := [], share := false } []) Tryz.f113 (.seq (.region []) (.seq (.region []) (.seq (.seq (.region []) (.block [7] [] [] (.loop [7, 14] [] [] (.seq (.region []) (.seq (.inl .leaf .leaf) (.seq (.block [7] [] [] (.seq (.region []) (.seq (.region []) (.seq (.region [[28]]) (.join [7] [] [] (.seq (.region []) (.region [])) .leaf))))) (.region []))))))) (.seq (.region []) .leaf)))) lim [a0, a1, a2] H = B113 N lim a0 a1 a2 H := by kernel_rfl
theorem sim113 (N : Nat) : SimF Tryz.prog 113 (G113 N) := by
  refine SimF.gen [] [] { promo := [], share := false } N (.seq (.region []) (.seq (.region []) (.seq (.seq (.region []) (.block [7] [] [] (.loop [7, 14] [] [] (.seq (.region []) (.seq (.inl .leaf .leaf) (.seq (.block [7] [] [] (.seq (.region []) (.seq (.region []) (.seq (.region [[28]]) (.join [7] [] [] (.seq (.region []) (.region [])) .leaf))))) (.region []))))))) (.seq (.region []) .leaf)))) Tryz.func113 (by kernel_rfl) (by kernel_rfl) env_nil ?_
  intro lim args H r h
  unfold G113 w3 at h
  split at h
  · exact (eq113 N lim _ _ _ H).trans h
  · simp at h
/-- (*besom/world.World).shade -/
def B63 (N : Nat) (g113 : RF3) (lim : Nat) (w0 l1 : Value) (H : IHeap) : RV :=
 retK ((inilc w0).bind fun t5 =>
 (paddr 9 t5).bind fun t6 =>
 (hload false 1 H t6).bind fun t7 =>
 (inilc w0).bind fun t9 =>
 (paddr 10 t9).bind fun t10 =>
 (hload false 1 H t10).bind fun t11 =>
 callK (g113 lim t7 t11 l1 H) fun t13 H1 =>
 some (.ret (.tuple ⟨[]⟩), H1))
def F63 (N lim : Nat) (a0 a1 : Value) (H : IHeap) : RV := B63 N (F113 N) lim a0 a1 H
def G63 (N : Nat) : G := w2 (F63 N)
theorem eq63 (N : Nat) (g113 : RF3) (lim : Nat) (a0 a1 : Value) (H : IHeap) : ifun Tryz.prog { fn := envOf [(113, Ideal.w3 g113)], wr := [113] } { promo := [], share := false } N (okOf Tryz.prog { promo := [], share := false } [113]) Tryz.f63 (.region []) lim [a0, a1] H = B63 N g113 lim a0 a1 H := by kernel_rfl
theorem sim63 (N : Nat) : SimF Tryz.prog 63 (G63 N) := by
  refine SimF.gen [(113, G113 N)] [113] { promo := [], share := false } N (.region []) Tryz.func63 (by kernel_rfl) (by kernel_rfl) (env_cons (sim113 N) env_nil) ?_
  intro lim args H r h
  unfold G63 w2 at h
  split at h
  · exact (eq63 N (F113 N) lim _ _ H).trans h
  · simp at h
/-- besom/barrier.Args -/
def B186 (N : Nat) (lim : Nat) (phase0 p1 fn2 args3 : Value) (H : IHeap) : RV :=
 retK ((cellsOf true 3 p1).bind fun cs1 =>
 (ibin .neq .no phase0 (.int .i64 1)).bind fun t15 =>
 (gval false t15).bind fun w1 => grpK (bif w1 then
 ((ibin .lss .no fn2 (.int .i64 0)).bind fun t18 =>
 some ([t18], H))
 else some ([Value.tuple #[]], H)) fun vs1 H1 =>
 (pickK t15 (.bool true) (nthV 0 vs1)).bind fun t19 =>
 (gval false t19).bind fun w2 => grpK (bif w2 then
 ((iload false 1 cs1 2).bind fun t23 =>
 (ilenS t23).bind fun t24 =>
 (ibin .geq .no fn2 t24).bind fun t25 =>
 some ([t25], H1))
 else some ([Value.tuple #[]], H1)) fun vs2 H2 =>
 (pickK t19 (.bool true) (nthV 0 vs2)).bind fun t26 =>
 (boolK t26 fun b3 => bif b3 then
 (some (.ret (.slice none 0 0), H2))
 else
 (istore false 1 [(.map none), (.slice none 0 0)] 0 (.map (some H2.next))).bind fun cs2 =>
 (cellsOf true 2 (.agg ⟨cs2⟩)).bind fun cs3 =>
 (iload false 1 cs1 2).bind fun t31 =>
 (iidx 5 t31 fn2).bind fun t33 =>
 (paddr 0 t33).bind fun t34 =>
 (hload false 1 ((H2.push (.map 0 [] 0)).push (.cells cs3 0)) t34).bind fun t35 =>
 (ilenS t35).bind fun t36 =>
 catchK 0 (iloop (fun vs3 H3 =>
 (ibin .lss .no (nthV 0 vs3) t36).bind fun t38 =>
 (boolK t38 fun b4 => bif b4 then
 (catchK 1 ((iidx 1 t35 (nthV 0 vs3)).bind fun t40 =>
 (hload false 1 H3 t40).bind fun t41 =>
 none) fun vs4 H4 =>
 (ibin .add .no (nthV 0 vs3) (.int .i64 1)).bind fun t60 =>
 some (.norm ([t60] ++ []), H4))
 else
 some (.exit 0 ([] ++ []), H3))) N ([(.int .i64 0)] ++ []) ((H2.push (.map 0 [] 0)).push (.cells cs3 0))) fun vs5 H5 =>
 (inilc (ptr (H2.push (.map 0 [] 0)).next 0)).bind fun t62 =>
 (paddr 1 t62).bind fun t63 =>
 (hload false 1 H5 t63).bind fun t64 =>
 some (.ret t64, H5)))
def F186 (N lim : Nat) (a0 a1 a2 a3 : Value) (H : IHeap) : RV := B186 N lim a0 a1 a2 a3 H
def G186 (N : Nat) : G := w4 (F186 N)
theorem eq186 (N : Nat) (lim : Nat) (a0 a1 a2 a3 : Value) (H : IHeap) : ifun Tryz.prog { fn := envOf [], wr := [] } { promo := [5], share := false } N (okOf Tryz.prog { promo := [5], share := false } []) Tryz.f186 (.seq (.region []) (.seq (.seq (.region [[18], [25]]) (.inl (.seq (.region []) .leaf) .leaf)) (.seq (.region []) (.seq (.seq (.region []) (.block [] [] [] (.loop [37] [] [] (.seq (.region []) (.seq (.inl .leaf .leaf) (.seq (.block [] [] [] (.seq (.region []) (.seq (.region []) (.seq (.region [[52]]) (.join [] [] [] (.region []) .leaf))))) (.region []))))))) (.seq (.region []) .leaf))))) lim [a0, a1, a2, a3] H = B186 N lim a0 a1 a2 a3 H := by kernel_rfl
theorem sim186 (N : Nat) : SimF Tryz.prog 186 (G186 N) := by
  refine SimF.gen [] [] { promo := [5], share := false } N (.seq (.region []) (.seq (.seq (.region [[18], [25]]) (.inl (.seq (.region []) .leaf) .leaf)) (.seq (.region []) (.seq (.seq (.region []) (.block [] [] [] (.loop [37] [] [] (.seq (.region []) (.seq (.inl .leaf .leaf) (.seq (.block [] [] [] (.seq (.region []) (.seq (.region []) (.seq (.region [[52]]) (.join [] [] [] (.region []) .leaf))))) (.region []))))))) (.seq (.region []) .leaf))))) Tryz.func186 (by kernel_rfl) (by kernel_rfl) env_nil ?_
  intro lim args H r h
  unfold G186 w4 at h
  split at h
  · exact (eq186 N lim _ _ _ _ H).trans h
  · simp at h
/-- (*besom/world.World).spawned -/
def B108 (N : Nat) (g25 : RF2) (g29 : RF3) (g63 : RF2) (g186 : RF4) (lim : Nat) (w0 k1 a2 : Value) (H : IHeap) : RV :=
 retK ((cellsOf true 7 a2).bind fun cs1 =>
 catchK 0 ((inilc w0).bind fun t30 =>
 (paddr 15 t30).bind fun t31 =>
 (hload false 1 H t31).bind fun t32 =>
 (ilenS t32).bind fun t33 =>
 (ibin .geq .no t33 (.int .i64 12)).bind fun t34 =>
 joinK (boolK t34 fun b1 => bif b1 then
 (none)
 else
 (inilc w0).bind fun t40 =>
 (paddr 0 t40).bind fun t41 =>
 (hload true 3 H t41).bind fun t42 =>
 (iload false 1 cs1 4).bind fun t44 =>
 callK (g25 H.next t42 t44 H) fun t45 H1 =>
 (inilc w0).bind fun t47 =>
 (paddr 3 t47).bind fun t48 =>
 (paddr 2 t48).bind fun t49 =>
 (hload false 1 H1 t49).bind fun t50 =>
 (ibin .gtr .no t45 t50).bind fun t51 =>
 joinK (boolK t51 fun b2 => bif b2 then
 (none)
 else
 (inilc w0).bind fun t8 =>
 (paddr 12 t8).bind fun t9 =>
 (paddr 0 t9).bind fun t10 =>
 (hload false 1 H1 t10).bind fun t11 =>
 (inilc w0).bind fun t13 =>
 (paddr 0 t13).bind fun t14 =>
 (hload true 3 H1 t14).bind fun t15 =>
 (iload false 1 cs1 4).bind fun t17 =>
 (iload false 1 cs1 6).bind fun t19 =>
 callK (g186 lim t11 t15 t17 t19 H1) fun t20 H2 =>
 callK (g63 lim w0 t20 H2) fun t21 H3 =>
 (iload false 1 cs1 4).bind fun t24 =>
 (iload false 1 cs1 6).bind fun t26 =>
 callK (g29 lim w0 t24 t26 H3) fun t27 H4 =>
 some (.norm ([] ++ []), H4)) fun vs1 H5 =>
 some (.norm ([] ++ []), H5)) fun vs2 H6 =>
 some (.norm ([] ++ []), H6)) fun vs3 H7 =>
 some (.ret (.tuple ⟨[]⟩), H7))
def F108 (N lim : Nat) (a0 a1 a2 : Value) (H : IHeap) : RV := B108 N (F25 N) (F29 N) (F63 N) (F186 N) lim a0 a1 a2 H
def G108 (N : Nat) : G := w3 (F108 N)
theorem eq108 (N : Nat) (g25 : RF2) (g29 : RF3) (g63 : RF2) (g186 : RF4) (lim : Nat) (a0 a1 a2 : Value) (H : IHeap) : ifun Tryz.prog { fn := envOf [(25, Ideal.w2 g25), (29, Ideal.w3 g29), (63, Ideal.w2 g63), (186, Ideal.w4 g186)], wr := [63, 186] } { promo := [5], share := false } N (okOf Tryz.prog { promo := [5], share := false } [63, 186]) Tryz.f108 (.seq (.region []) (.block [] [] [] (.seq (.region []) (.join [] [] [] (.region []) (.seq (.region []) (.join [] [] [] (.region []) (.seq (.region []) (.region [])))))))) lim [a0, a1, a2] H = B108 N g25 g29 g63 g186 lim a0 a1 a2 H := by kernel_rfl
theorem sim108 (N : Nat) : SimF Tryz.prog 108 (G108 N) := by
  refine SimF.gen [(25, G25 N), (29, G29 N), (63, G63 N), (186, G186 N)] [63, 186] { promo := [5], share := false } N (.seq (.region []) (.block [] [] [] (.seq (.region []) (.join [] [] [] (.region []) (.seq (.region []) (.join [] [] [] (.region []) (.seq (.region []) (.region [])))))))) Tryz.func108 (by kernel_rfl) (by kernel_rfl) (env_cons (sim25 N) (env_cons (sim29 N) (env_cons (sim63 N) (env_cons (sim186 N) env_nil)))) ?_
  intro lim args H r h
  unfold G108 w3 at h
  split at h
  · exact (eq108 N (F25 N) (F29 N) (F63 N) (F186 N) lim _ _ _ H).trans h
  · simp at h
/-- (besom/ask.Hand).End -/
def B110 (N : Nat) (lim : Nat) (h0 : Value) (H : IHeap) : RV :=
 retK ((cellsOf true 2 h0).bind fun cs1 =>
 (istore false 1 cs1 0 (.int .i64 4)).bind fun cs2 =>
 (iload true 2 cs2 0).bind fun t4 =>
 (istore true 2 [(.int .i64 0), (.bool false)] 0 t4).bind fun cs3 =>
 (iload true 2 cs3 0).bind fun r1 =>
 some (.ret r1, H))
def F110 (N lim : Nat) (a0 : Value) (H : IHeap) : RV := B110 N lim a0 H
def G110 (N : Nat) : G := w1 (F110 N)
theorem eq110 (N : Nat) (lim : Nat) (a0 : Value) (H : IHeap) : ifun Tryz.prog { fn := envOf [], wr := [] } { promo := [1, 2], share := false } N (okOf Tryz.prog { promo := [1, 2], share := false } []) Tryz.f110 (.seq (.region []) (.seq (.region []) (.seq (.region []) .leaf))) lim [a0] H = B110 N lim a0 H := by kernel_rfl
theorem sim110 (N : Nat) : SimF Tryz.prog 110 (G110 N) := by
  refine SimF.gen [] [] { promo := [1, 2], share := false } N (.seq (.region []) (.seq (.region []) (.seq (.region []) .leaf))) Tryz.func110 (by kernel_rfl) (by kernel_rfl) env_nil ?_
  intro lim args H r h
  unfold G110 w1 at h
  split at h
  · exact (eq110 N lim _ H).trans h
  · simp at h
/-- (*besom/world.World).do -/
def B46 (N : Nat) (g108 : RF3) (g110 : RF1) (lim : Nat) (w0 k1 a2 : Value) (H : IHeap) : RV :=
 retK ((cellsOf true 7 a2).bind fun cs1 =>
 (iload false 1 cs1 0).bind fun t9 =>
 catchK 0 ((ibin .eql .no t9 (.int .i64 1)).bind fun t11 =>
 joinK (boolK t11 fun b1 => bif b1 then
 ((iload true 7 cs1 0).bind fun t14 =>
 callK (g108 lim w0 k1 t14 H) fun t15 H1 =>
 some (.norm ([] ++ []), H1))
 else
 (ibin .eql .no t9 (.int .i64 2)).bind fun t17 =>
 joinK (boolK t17 fun b2 => bif b2 then
 ((inilc w0).bind fun t19 =>
 (paddr 18 t19).bind fun t20 =>
 (hload false 1 H t20).bind fun t21 =>
 (ilenS t21).bind fun t22 =>
 (ibin .geq .no t22 (.int .i64 500)).bind fun t23 =>
 (boolK t23 fun b3 => bif b3 then
 (none)
 else
 (inilc w0).bind fun t29 =>
 (paddr 18 t29).bind fun t30 =>
 (hload false 1 H t30).bind fun t31 =>
 (iload false 1 cs1 3).bind fun t33 =>
 (istore false 1 [(.int .i64 0)] 0 t33).bind fun cs2 =>
 rowK (lrow 1 1 cs2) fun m1 new1 =>
 callK (iappend false 1 8 lim H t31 m1 new1) fun t35 H2 =>
 (inilc w0).bind fun t36 =>
 (paddr 18 t36).bind fun t37 =>
 (hstore false 1 lim H2 t37 t35).bind fun H3 =>
 some (.norm ([] ++ []), H3)))
 else
 (ibin .eql .no t9 (.int .i64 9)).bind fun t39 =>
 joinK (boolK t39 fun b4 => bif b4 then
 ((inilc w0).bind fun t41 =>
 (paddr 20 t41).bind fun t42 =>
 (hstore false 1 lim H t42 (.int .i64 5)).bind fun H4 =>
 some (.norm ([] ++ []), H4))
 else
 (ibin .eql .no t9 (.int .i64 10)).bind fun t44 =>
 joinK (boolK t44 fun b5 => bif b5 then
 ((inilc w0).bind fun t46 =>
 (paddr 16 t46).bind fun t47 =>
 (hload false 1 H t47).bind fun t48 =>
 (inilc w0).bind fun t51 =>
 (paddr 16 t51).bind fun t52 =>
 (hload false 1 H t52).bind fun t53 =>
 (iidx 2 t53 k1).bind fun t55 =>
 (hload true 2 H t55).bind fun t56 =>
 callK (g110 H.next t56 H) fun t57 H5 =>
 (iidx 2 t48 k1).bind fun t58 =>
 (hstore true 2 lim H5 t58 t57).bind fun H6 =>
 (inilc w0).bind fun t60 =>
 (paddr 20 t60).bind fun t61 =>
 (hstore false 1 lim H6 t61 (.int .i64 1)).bind fun H7 =>
 (inilc w0).bind fun t63 =>
 (paddr 16 t63).bind fun t64 =>
 (hload false 1 H7 t64).bind fun t65 =>
 (ilenS t65).bind fun t66 =>
 catchK 1 (iloop (fun vs1 H8 =>
 (ibin .lss .no (nthV 0 vs1) t66).bind fun t68 =>
 (boolK t68 fun b6 => bif b6 then
 (catchK 2 ((iidx 2 t65 (nthV 0 vs1)).bind fun t69 =>
 (hload true 2 H8 t69).bind fun t70 =>
 (istore true 2 [(.int .i64 0), (.bool false)] 0 t70).bind fun cs3 =>
 (iload false 1 cs3 0).bind fun t72 =>
 (ibin .neq .no t72 (.int .i64 4)).bind fun t73 =>
 joinK (boolK t73 fun b7 => bif b7 then
 ((inilc w0).bind fun t75 =>
 (paddr 20 t75).bind fun t76 =>
 (hstore false 1 lim H8 t76 (.int .i64 0)).bind fun H9 =>
 some (.norm ([] ++ []), H9))
 else
 some (.norm ([] ++ []), H8)) fun vs2 H10 =>
 some (.norm ([] ++ []), H10)) fun vs3 H11 =>
 (ibin .add .no (nthV 0 vs1) (.int .i64 1)).bind fun t77 =>
 some (.norm ([t77] ++ []), H11))
 else
 some (.exit 1 ([] ++ []), H8))) N ([(.int .i64 0)] ++ []) H7) fun vs4 H12 =>
 some (.norm ([] ++ []), H12))
 else
 (ibin .eql .no t9 (.int .i64 11)).bind fun t79 =>
 joinK (boolK t79 fun b8 => bif b8 then
 ((iload false 1 cs1 3).bind fun t83 =>
 (inilc w0).bind fun t84 =>
 (paddr 20 t84).bind fun t85 =>
 (hstore false 1 lim H t85 (.int .i64 2)).bind fun H13 =>
 (inilc w0).bind fun t86 =>
 (paddr 21 t86).bind fun t87 =>
 (hstore false 1 lim H13 t87 t83).bind fun H14 =>
 some (.norm ([] ++ []), H14))
 else
 some (.norm ([] ++ []), H)) fun vs5 H15 =>
 some (.norm ([] ++ []), H15)) fun vs6 H16 =>
 some (.norm ([] ++ []), H16)) fun vs7 H17 =>
 some (.norm ([] ++ []), H17)) fun vs8 H18 =>
 some (.norm ([] ++ []), H18)) fun vs9 H19 =>
 some (.norm ([] ++ []), H19)) fun vs10 H20 =>
 some (.ret (.tuple ⟨[]⟩), H20))
def F46 (N lim : Nat) (a0 a1 a2 : Value) (H : IHeap) : RV := B46 N (F108 N) (F110 N) lim a0 a1 a2 H
def G46 (N : Nat) : G := w3 (F46 N)
theorem eq46 (N : Nat) (g108 : RF3) (g110 : RF1) (lim : Nat) (a0 a1 a2 : Value) (H : IHeap) : ifun Tryz.prog { fn := envOf [(108, Ideal.w3 g108), (110, Ideal.w1 g110)], wr := [] } { promo := [5, 7, 34], share := false } N (okOf Tryz.prog { promo := [5, 7, 34], share := false } []) Tryz.f46 (.seq (.region []) (.seq (.region []) (.block [] [] [7, 34] (.seq (.region []) (.join [] [] [7, 34] (.region []) (.seq (.region []) (.join [] [] [7, 34] (.seq (.seq (.region []) (.inl (.seq (.region []) .leaf) .leaf)) (.region [])) (.seq (.region []) (.join [] [] [7] (.region []) (.seq (.region []) (.join [] [] [7] (.seq (.region []) (.seq (.region []) (.seq (.region []) (.block [] [] [7] (.loop [67] [] [7] (.seq (.region []) (.seq (.inl .leaf .leaf) (.seq (.block [] [] [7] (.seq (.region []) (.seq (.region []) (.join [] [] [] (.region []) .leaf)))) (.region []))))))))) (.seq (.region []) (.join [] [] [] (.region []) .leaf))))))))))))) lim [a0, a1, a2] H = B46 N g108 g110 lim a0 a1 a2 H := by kernel_rfl
theorem sim46 (N : Nat) : SimF Tryz.prog 46 (G46 N) := by
  refine SimF.gen [(108, G108 N), (110, G110 N)] [] { promo := [5, 7, 34], share := false } N (.seq (.region []) (.seq (.region []) (.block [] [] [7, 34] (.seq (.region []) (.join [] [] [7, 34] (.region []) (.seq (.region []) (.join [] [] [7, 34] (.seq (.seq (.region []) (.inl (.seq (.region []) .leaf) .leaf)) (.region [])) (.seq (.region []) (.join [] [] [7] (.region []) (.seq (.region []) (.join [] [] [7] (.seq (.region []) (.seq (.region []) (.seq (.region []) (.block [] [] [7] (.loop [67] [] [7] (.seq (.region []) (.seq (.inl .leaf .leaf) (.seq (.block [] [] [7] (.seq (.region []) (.seq (.region []) (.join [] [] [] (.region []) .leaf)))) (.region []))))))))) (.seq (.region []) (.join [] [] [] (.region []) .leaf))))))))))))) Tryz.func46 (by kernel_rfl) (by kernel_rfl) (env_cons (sim108 N) (env_cons (sim110 N) env_nil)) ?_
  intro lim args H r h
  unfold G46 w3 at h
  split at h
  · exact (eq46 N (F108 N) (F110 N) lim _ _ _ H).trans h
  · simp at h
/-- (*besom/world.World).task -/
def B17 (N : Nat) (g36 : RF1) (g37 : RF2) (g38 : RF2) (g39 : RF3) (g41 : RF1) (g42 : RF2) (g43 : RF1) (g44 : RF1) (g46 : RF3) (lim : Nat) (w0 k1 : Value) (H : IHeap) : RV :=
 retK ((ibin .lss .no k1 (.int .i64 0)).bind fun t10 =>
 (gval false t10).bind fun w1 => grpK (bif w1 then
 ((inilc w0).bind fun t14 =>
 (paddr 15 t14).bind fun t15 =>
 (hload false 1 H t15).bind fun t16 =>
 (ilenS t16).bind fun t17 =>
 (ibin .geq .no k1 t17).bind fun t18 =>
 some ([t18], H))
 else some ([Value.tuple #[]], H)) fun vs1 H1 =>
 (pickK t10 (.bool true) (nthV 0 vs1)).bind fun t19 =>
 (gval false t19).bind fun w2 => grpK (bif w2 then
 ((inilc w0).bind fun t22 =>
 (paddr 16 t22).bind fun t23 =>
 (hload false 1 H1 t23).bind fun t24 =>
 (iidx 2 t24 k1).bind fun t26 =>
 (hload true 2 H1 t26).bind fun t27 =>
 callK (g36 lim t27 H1) fun t28 H3 =>
 (iun .not t28).bind fun t29 =>
 some ([t29], H3))
 else some ([Value.tuple #[]], H1)) fun vs2 H2 =>
 (pickK t19 (.bool true) (nthV 0 vs2)).bind fun t30 =>
 (boolK t30 fun b3 => bif b3 then
 (some (.ret (.bool false), H2))
 else
 (inilc w0).bind fun t32 =>
 (paddr 15 t32).bind fun t33 =>
 (hload false 1 H2 t33).bind fun t34 =>
 (iidx 1 t34 k1).bind fun t36 =>
 (hload false 1 H2 t36).bind fun t37 =>
 (inilc w0).bind fun t40 =>
 (paddr 16 t40).bind fun t41 =>
 (hload false 1 H2 t41).bind fun t42 =>
 (iidx 2 t42 k1).bind fun t44 =>
 (hload true 2 H2 t44).bind fun t45 =>
 (inilc w0).bind fun t47 =>
 (paddr 0 t47).bind fun t48 =>
 (hload true 3 H2 t48).bind fun t49 =>
 callK (g38 H2.next t49 t37 H2) fun t51 H4 =>
 callK (g37 lim t45 t51 H4) fun t52 H5 =>
 (iextract 0 t52).bind fun t53 =>
 (iextract 1 t52).bind fun t54 =>
 (istore true 2 [(.int .i64 0), (.bool false)] 0 t53).bind fun cs1 =>
 (inilc w0).bind fun t56 =>
 (paddr 16 t56).bind fun t57 =>
 (hload false 1 H5 t57).bind fun t58 =>
 (iload true 2 cs1 0).bind fun t60 =>
 (iidx 2 t58 k1).bind fun t61 =>
 (hstore true 2 lim H5 t61 t60).bind fun H6 =>
 (boolK t54 fun b4 => bif b4 then
 (some (.ret (.bool true), H6))
 else
 (inilc w0).bind fun t64 =>
 (paddr 0 t64).bind fun t65 =>
 (hload true 3 H6 t65).bind fun t66 =>
 (inilc w0).bind fun t68 =>
 (paddr 8 t68).bind fun t69 =>
 (hload false 1 H6 t69).bind fun t70 =>
 callK (g39 lim t66 t70 t37 H6) fun t72 H7 =>
 (istore true 7 [(.int .i64 0), (.int .i64 0), (.int .i64 0), (.int .i64 0), (.int .i64 0), (.bool false), (.slice none 0 0)] 0 t72).bind fun cs2 =>
 (iload false 1 cs2 0).bind fun t74 =>
 (ibin .eql .no t74 (.int .i64 8)).bind fun t75 =>
 joinK (boolK t75 fun b5 => bif b5 then
 ((iload false 1 cs2 3).bind fun t77 =>
 (inilc w0).bind fun t79 =>
 (paddr 3 t79).bind fun t80 =>
 (paddr 2 t80).bind fun t81 =>
 (hload false 1 H7 t81).bind fun t82 =>
 (ibin .gtr .no t77 t82).bind fun t83 =>
 (boolK t83 fun b6 => bif b6 then
 ((inilc w0).bind fun t85 =>
 (paddr 20 t85).bind fun t86 =>
 (hstore false 1 lim H7 t86 (.int .i64 4)).bind fun H8 =>
 some (.ret (.bool true), H8))
 else
 (inilc w0).bind fun t89 =>
 (paddr 8 t89).bind fun t90 =>
 (hload false 1 H7 t90).bind fun t91 =>
 callK (g41 lim w0 H7) fun t93 H9 =>
 callK (g43 H9.next t37 H9) fun t95 H10 =>
 (iload false 1 cs2 3).bind fun t97 =>
 callK (g42 H10.next t95 t97 H10) fun t98 H11 =>
 (inilc w0).bind fun t100 =>
 (paddr 3 t100).bind fun t101 =>
 (paddr 2 t101).bind fun t102 =>
 (hload false 1 H11 t102).bind fun t103 =>
 (iminmax true [t98, t103]).bind fun t104 =>
 none))
 else
 some (.norm ([] ++ [.agg ⟨cs2⟩]), H7)) fun vs3 H12 =>
 (aggs (nthV 0 (vs3.drop 0))).bind fun cs3 =>
 (iload false 1 cs3 0).bind fun t117 =>
 callK (g44 lim t117 H12) fun t118 H13 =>
 joinK (boolK t118 fun b7 => bif b7 then
 ((aggs (nthV 0 (vs3.drop 0))).bind fun cs4 =>
 (iload true 7 cs4 0).bind fun t121 =>
 none)
 else
 (aggs (nthV 0 (vs3.drop 0))).bind fun cs5 =>
 (iload true 7 cs5 0).bind fun t125 =>
 callK (g46 lim w0 k1 t125 H13) fun t126 H14 =>
 some (.norm ([] ++ []), H14)) fun vs4 H15 =>
 some (.ret (.bool true), H15))))
def F17 (N lim : Nat) (a0 a1 : Value) (H : IHeap) : RV := B17 N (F36 N) (F37 N) (F38 N) (F39 N) (F41 N) (F42 N) (F43 N) (F44 N) (F46 N) lim a0 a1 H
def G17 (N : Nat) : G := w2 (F17 N)
theorem eq17 (N : Nat) (g36 : RF1) (g37 : RF2) (g38 : RF2) (g39 : RF3) (g41 : RF1) (g42 : RF2) (g43 : RF1) (g44 : RF1) (g46 : RF3) (lim : Nat) (a0 a1 : Value) (H : IHeap) : ifun Tryz.prog { fn := envOf [(36, Ideal.w1 g36), (37, Ideal.w2 g37), (38, Ideal.w2 g38), (39, Ideal.w3 g39), (41, Ideal.w1 g41), (42, Ideal.w2 g42), (43, Ideal.w1 g43), (44, Ideal.w1 g44), (46, Ideal.w3 g46)], wr := [37, 39, 40, 41] } { promo := [6, 8], share := false } N (okOf Tryz.prog { promo := [6, 8], share := false } [37, 39, 40, 41]) Tryz.f17 (.seq (.region []) (.seq (.seq (.region [[18], [29]]) (.inl (.seq (.region []) .leaf) .leaf)) (.seq (.region []) (.seq (.region []) (.seq (.seq (.region []) (.seq (.region []) (.inl (.seq (.region []) .leaf) .leaf))) (.seq (.region []) (.seq (.seq (.region []) (.join [] [8] [8] (.seq (.seq (.region []) (.inl (.seq (.region []) (.seq (.region []) .leaf)) .leaf)) (.seq (.late 6 [4, 16]) (.region []))) .leaf)) (.seq (.seq (.region []) (.join [] [] [] (.region []) (.region []))) (.seq (.region []) .leaf))))))))) lim [a0, a1] H = B17 N g36 g37 g38 g39 g41 g42 g43 g44 g46 lim a0 a1 H := by kernel_rfl
theorem sim17 (N : Nat) : SimF Tryz.prog 17 (G17 N) := by
  refine SimF.gen [(36, G36 N), (37, G37 N), (38, G38 N), (39, G39 N), (41, G41 N), (42, G42 N), (43, G43 N), (44, G44 N), (46, G46 N)] [37, 39, 40, 41] { promo := [6, 8], share := false } N (.seq (.region []) (.seq (.seq (.region [[18], [29]]) (.inl (.seq (.region []) .leaf) .leaf)) (.seq (.region []) (.seq (.region []) (.seq (.seq (.region []) (.seq (.region []) (.inl (.seq (.region []) .leaf) .leaf))) (.seq (.region []) (.seq (.seq (.region []) (.join [] [8] [8] (.seq (.seq (.region []) (.inl (.seq (.region []) (.seq (.region []) .leaf)) .leaf)) (.seq (.late 6 [4, 16]) (.region []))) .leaf)) (.seq (.seq (.region []) (.join [] [] [] (.region []) (.region []))) (.seq (.region []) .leaf))))))))) Tryz.func17 (by kernel_rfl) (by kernel_rfl) (env_cons (sim36 N) (env_cons (sim37 N) (env_cons (sim38 N) (env_cons (sim39 N) (env_cons (sim41 N) (env_cons (sim42 N) (env_cons (sim43 N) (env_cons (sim44 N) (env_cons (sim46 N) env_nil))))))))) ?_
  intro lim args H r h
  unfold G17 w2 at h
  split at h
  · exact (eq17 N (F36 N) (F37 N) (F38 N) (F39 N) (F41 N) (F42 N) (F43 N) (F44 N) (F46 N) lim _ _ H).trans h
  · simp at h
/-- (*besom/world.World).Step -/
def B8 (N : Nat) (g16 : RF1) (g17 : RF2) (lim : Nat) (w0 l1 : Value) (H : IHeap) : RV :=
 retK (callK (g16 lim w0 H) fun t12 H1 =>
 (boolK t12 fun b1 => bif b1 then
 (some (.ret (.int .i64 0), H1))
 else
 (istore false 1 [(.int .i64 0)] 0 (.int .i64 0)).bind fun cs1 =>
 (ikey 2 (.agg ⟨cs1⟩)).bind fun key1 =>
 bif isMapAt H1.next (.map (some H1.next)) && (ifind key1 []).isNone then
 ((istore false 1 [(.int .i64 0)] 0 (.int .i64 1)).bind fun cs2 =>
 (ikey 2 (.agg ⟨cs2⟩)).bind fun key2 =>
 bif isMapAt H1.next (.map (some H1.next)) && (ifind key2 ([] ++ [(key1, (.func (.func 17) ⟨[w0]⟩ ⟨[]⟩), 0)])).isNone then
 ((istore false 1 [(.int .i64 0)] 0 (.int .i64 2)).bind fun cs3 =>
 (ikey 2 (.agg ⟨cs3⟩)).bind fun key3 =>
 bif isMapAt H1.next (.map (some H1.next)) && (ifind key3 (([] ++ [(key1, (.func (.func 17) ⟨[w0]⟩ ⟨[]⟩), 0)]) ++ [(key2, (.func (.func 18) ⟨[w0]⟩ ⟨[]⟩), 0)])).isNone then
 ((istore false 1 [(.int .i64 0)] 0 (.int .i64 3)).bind fun cs4 =>
 (ikey 2 (.agg ⟨cs4⟩)).bind fun key4 =>
 bif isMapAt H1.next (.map (some H1.next)) && (ifind key4 ((([] ++ [(key1, (.func (.func 17) ⟨[w0]⟩ ⟨[]⟩), 0)]) ++ [(key2, (.func (.func 18) ⟨[w0]⟩ ⟨[]⟩), 0)]) ++ [(key3, (.func (.func 19) ⟨[w0]⟩ ⟨[]⟩), 0)])).isNone then
 ((istore false 1 [(.int .i64 0)] 0 (.int .i64 4)).bind fun cs5 =>
 (ikey 2 (.agg ⟨cs5⟩)).bind fun key5 =>
 bif isMapAt H1.next (.map (some H1.next)) && (ifind key5 (((([] ++ [(key1, (.func (.func 17) ⟨[w0]⟩ ⟨[]⟩), 0)]) ++ [(key2, (.func (.func 18) ⟨[w0]⟩ ⟨[]⟩), 0)]) ++ [(key3, (.func (.func 19) ⟨[w0]⟩ ⟨[]⟩), 0)]) ++ [(key4, (.func (.func 20) ⟨[w0]⟩ ⟨[]⟩), 0)])).isNone then
 ((istore false 1 [(.int .i64 0)] 0 (.int .i64 5)).bind fun cs6 =>
 (ikey 2 (.agg ⟨cs6⟩)).bind fun key6 =>
 bif isMapAt H1.next (.map (some H1.next)) && (ifind key6 ((((([] ++ [(key1, (.func (.func 17) ⟨[w0]⟩ ⟨[]⟩), 0)]) ++ [(key2, (.func (.func 18) ⟨[w0]⟩ ⟨[]⟩), 0)]) ++ [(key3, (.func (.func 19) ⟨[w0]⟩ ⟨[]⟩), 0)]) ++ [(key4, (.func (.func 20) ⟨[w0]⟩ ⟨[]⟩), 0)]) ++ [(key5, (.func (.func 21) ⟨[w0]⟩ ⟨[]⟩), 0)])).isNone then
 ((ilenS l1).bind fun t34 =>
 catchK 0 (iloop (fun vs1 H2 =>
 (ibin .lss .no (nthV 1 vs1) t34).bind fun t36 =>
 (boolK t36 fun b2 => bif b2 then
 (catchK 1 ((iidx 2 l1 (nthV 1 vs1)).bind fun t37 =>
 (hload true 2 H2 t37).bind fun t38 =>
 (istore true 2 [(.int .i64 0), (.int .i64 0)] 0 t38).bind fun cs7 =>
 (iload false 1 cs7 0).bind fun t42 =>
 (istore false 1 [(.int .i64 0)] 0 t42).bind fun cs8 =>
 (ilookup 2 .nilFunc true H2 (.map (some H1.next)) (.agg ⟨cs8⟩)).bind fun t44 =>
 (iextract 0 t44).bind fun t45 =>
 (iextract 1 t44).bind fun t46 =>
 (gval true t46).bind fun w1 => grpK (bif w1 then
 ((inilc w0).bind fun t50 =>
 (paddr 20 t50).bind fun t51 =>
 (hload false 1 H2 t51).bind fun t52 =>
 (ibin .eql .no t52 (.int .i64 0)).bind fun t53 =>
 some ([t53], H2))
 else some ([Value.tuple #[]], H2)) fun vs2 H3 =>
 (pickK t46 (nthV 0 vs2) (.bool false)).bind fun t54 =>
 (gval true t54).bind fun w2 => grpK (bif w2 then
 ((iload false 1 cs7 1).bind fun t58 =>
 funcK t45 fun fid1 fi1 ca1 => (envOf [(16, Ideal.w1 g16), (17, Ideal.w2 g17)] fid1).bind fun g1 =>
 callK (g1 lim (fi1 ++ [t58] ++ ca1) H3) fun t59 H5 =>
 some ([t59], H5))
 else some ([Value.tuple #[]], H3)) fun vs3 H4 =>
 (pickK t54 (nthV 0 vs3) (.bool false)).bind fun t60 =>
 joinK (boolK t60 fun b5 => bif b5 then
 ((ibin .add .no (nthV 0 vs1) (.int .i64 1)).bind fun t62 =>
 some (.norm ([t62] ++ []), H4))
 else
 some (.norm ([(nthV 0 vs1)] ++ []), H4)) fun vs4 H6 =>
 some (.norm ([(nthV 0 vs4)] ++ []), H6)) fun vs5 H7 =>
 (ibin .add .no (nthV 1 vs1) (.int .i64 1)).bind fun t63 =>
 some (.norm ([(nthV 0 vs5), t63] ++ []), H7))
 else
 some (.exit 0 ([(nthV 0 vs1)] ++ []), H2))) N ([(.int .i64 0), (.int .i64 0)] ++ []) (H1.push (.fmap 2 (((((([] ++ [(key1, (.func (.func 17) ⟨[w0]⟩ ⟨[]⟩), 0)]) ++ [(key2, (.func (.func 18) ⟨[w0]⟩ ⟨[]⟩), 0)]) ++ [(key3, (.func (.func 19) ⟨[w0]⟩ ⟨[]⟩), 0)]) ++ [(key4, (.func (.func 20) ⟨[w0]⟩ ⟨[]⟩), 0)]) ++ [(key5, (.func (.func 21) ⟨[w0]⟩ ⟨[]⟩), 0)]) ++ [(key6, (.func (.func 22) ⟨[w0]⟩ ⟨[]⟩), 0)])))) fun vs6 H8 =>
 some (.ret (nthV 0 vs6), H8))
 else none)
 else none)
 else none)
 else none)
 else none)
 else none))
def F8 (N lim : Nat) (a0 a1 : Value) (H : IHeap) : RV := B8 N (F16 N) (F17 N) lim a0 a1 H
def G8 (N : Nat) : G := w2 (F8 N)
theorem eq8 (N : Nat) (g16 : RF1) (g17 : RF2) (lim : Nat) (a0 a1 : Value) (H : IHeap) : ifun Tryz.prog { fn := envOf [(16, Ideal.w1 g16), (17, Ideal.w2 g17)], wr := [] } { promo := [8], share := false } N (okOf Tryz.prog { promo := [8], share := false } []) Tryz.f8 (.seq (.region []) (.seq (.seq (.region []) (.inl (.seq (.region []) .leaf) .leaf)) (.seq .lit (.seq (.region []) (.seq (.seq (.region []) (.block [6] [] [8] (.loop [6, 35] [] [8] (.seq (.region []) (.seq (.inl .leaf .leaf) (.seq (.block [6] [] [8] (.seq (.region []) (.seq (.region []) (.seq (.region [[53], [59]]) (.join [6] [] [] (.region []) .leaf))))) (.region []))))))) (.seq (.region []) .leaf)))))) lim [a0, a1] H = B8 N g16 g17 lim a0 a1 H := by kernel_rfl
theorem sim8 (N : Nat) : SimF Tryz.prog 8 (G8 N) := by
  refine SimF.gen [(16, G16 N), (17, G17 N)] [] { promo := [8], share := false } N (.seq (.region []) (.seq (.seq (.region []) (.inl (.seq (.region []) .leaf) .leaf)) (.seq .lit (.seq (.region []) (.seq (.seq (.region []) (.block [6] [] [8] (.loop [6, 35] [] [8] (.seq (.region []) (.seq (.inl .leaf .leaf) (.seq (.block [6] [] [8] (.seq (.region []) (.seq (.region []) (.seq (.region [[53], [59]]) (.join [6] [] [] (.region []) .leaf))))) (.region []))))))) (.seq (.region []) .leaf)))))) Tryz.func8 (by kernel_rfl) (by kernel_rfl) (env_cons (sim16 N) (env_cons (sim17 N) env_nil)) ?_
  intro lim args H r h
  unfold G8 w2 at h
  split at h
  · exact (eq8 N (F16 N) (F17 N) lim _ _ H).trans h
  · simp at h
/-- (*besom/world.World).Status -/
def B9 (N : Nat) (g16 : RF1) (lim : Nat) (w0 : Value) (H : IHeap) : RV :=
 retK (callK (g16 lim w0 H) fun t4 H1 =>
 (boolK t4 fun b1 => bif b1 then
 (some (.ret (.int .i64 0), H1))
 else
 (inilc w0).bind fun t6 =>
 (paddr 20 t6).bind fun t7 =>
 (hload false 1 H1 t7).bind fun t8 =>
 some (.ret t8, H1)))
def F9 (N lim : Nat) (a0 : Value) (H : IHeap) : RV := B9 N (F16 N) lim a0 H
def G9 (N : Nat) : G := w1 (F9 N)
theorem eq9 (N : Nat) (g16 : RF1) (lim : Nat) (a0 : Value) (H : IHeap) : ifun Tryz.prog { fn := envOf [(16, Ideal.w1 g16)], wr := [] } { promo := [], share := false } N (okOf Tryz.prog { promo := [], share := false } []) Tryz.f9 (.seq (.region []) (.seq (.seq (.region []) (.inl (.seq (.region []) .leaf) .leaf)) (.seq (.region []) .leaf))) lim [a0] H = B9 N g16 lim a0 H := by kernel_rfl
theorem sim9 (N : Nat) : SimF Tryz.prog 9 (G9 N) := by
  refine SimF.gen [(16, G16 N)] [] { promo := [], share := false } N (.seq (.region []) (.seq (.seq (.region []) (.inl (.seq (.region []) .leaf) .leaf)) (.seq (.region []) .leaf))) Tryz.func9 (by kernel_rfl) (by kernel_rfl) (env_cons (sim16 N) env_nil) ?_
  intro lim args H r h
  unfold G9 w1 at h
  split at h
  · exact (eq9 N (F16 N) lim _ H).trans h
  · simp at h
end Go.Ideal
