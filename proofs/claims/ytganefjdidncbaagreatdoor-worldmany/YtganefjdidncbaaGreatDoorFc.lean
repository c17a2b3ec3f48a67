/- This text proves no statement of the seat: it says what functions of the program do on the ideal machine, part 2. By program (emitall.py). -/
import Derived.Test.YtganefjdidncbaaGreatDoorFb
namespace Go.Ideal
open Go.Proofs
set_option maxRecDepth 100000
set_option linter.unusedVariables false
/-- (besom/unwind.State).Exit -/
def B293 (N : Nat) (g284 : RF1) (lim : Nat) (s0 : Value) (H : IHeap) : RV :=
 retK ((cellsOf true 2 s0).bind fun cs1 =>
 (iload true 2 cs1 0).bind fun t3 =>
 callK (g284 lim t3 H) fun t4 H1 =>
 (istore true 2 cs1 0 t4).bind fun cs2 =>
 (iload false 1 cs2 1).bind fun t6 =>
 (istore false 1 [(.int .i64 0), (.int .i64 0), (.int .i64 0), (.bool false), (.bool false)] 3 (.bool true)).bind fun cs3 =>
 (istore true 5 [(.int .i64 0), (.int .i64 0), (.int .i64 0), (.bool false), (.bool false)] 0 (.agg ⟨cs3⟩)).bind fun cs4 =>
 rowK (lrow 5 1 cs4) fun m1 new1 =>
 callK (iappend false 5 32 lim H1 t6 m1 new1) fun t9 H2 =>
 (istore false 1 cs2 1 t9).bind fun cs5 =>
 (iload true 2 cs5 0).bind fun t11 =>
 (istore true 2 [(.slice none 0 0), (.slice none 0 0)] 0 t11).bind fun cs6 =>
 (iload true 2 cs6 0).bind fun r1 =>
 some (.ret r1, H2))
def F293 (N lim : Nat) (a0 : Value) (H : IHeap) : RV := B293 N (F284 N) lim a0 H
def G293 (N : Nat) : G := w1 (F293 N)
theorem eq293 (N : Nat) (g284 : RF1) (lim : Nat) (a0 : Value) (H : IHeap) : ifun Tryz.prog { fn := envOf [(284, Ideal.w1 g284)], wr := [] } { promo := [1, 2, 8], share := false } N (okOf Tryz.prog { promo := [1, 2, 8], share := false } []) Tryz.f293 (.seq (.region []) (.seq (.region []) (.seq (.region []) (.seq (.region []) .leaf)))) lim [a0] H = B293 N g284 lim a0 H := by kernel_rfl
theorem sim293 (N : Nat) : SimF Tryz.prog 293 (G293 N) := by
  refine SimF.gen [(284, G284 N)] [] { promo := [1, 2, 8], share := false } N (.seq (.region []) (.seq (.region []) (.seq (.region []) (.seq (.region []) .leaf)))) Tryz.func293 (by kernel_rfl) (by kernel_rfl) (env_cons (sim284 N) env_nil) ?_
  intro lim args H r h
  unfold G293 w1 at h
  split at h
  · exact (eq293 N (F284 N) lim _ H).trans h
  · simp at h
/-- (*besom/task.Task).Exit -/
def B249 (N : Nat) (g293 : RF1) (lim : Nat) (t0 : Value) (H : IHeap) : RV :=
 retK ((ibin .neq .ptr t0 (.pointer none)).bind fun t3 =>
 joinK (boolK t3 fun b1 => bif b1 then
 ((inilc t0).bind fun t6 =>
 (paddr 5 t6).bind fun t7 =>
 (hload true 2 H t7).bind fun t8 =>
 callK (g293 lim t8 H) fun t9 H1 =>
 (inilc t0).bind fun t10 =>
 (paddr 5 t10).bind fun t11 =>
 (hstore true 2 lim H1 t11 t9).bind fun H2 =>
 some (.norm ([] ++ []), H2))
 else
 some (.norm ([] ++ []), H)) fun vs1 H3 =>
 some (.ret (.tuple ⟨[]⟩), H3))
def F249 (N lim : Nat) (a0 : Value) (H : IHeap) : RV := B249 N (F293 N) lim a0 H
def G249 (N : Nat) : G := w1 (F249 N)
theorem eq249 (N : Nat) (g293 : RF1) (lim : Nat) (a0 : Value) (H : IHeap) : ifun Tryz.prog { fn := envOf [(293, Ideal.w1 g293)], wr := [] } { promo := [], share := false } N (okOf Tryz.prog { promo := [], share := false } []) Tryz.f249 (.seq (.region []) (.join [] [] [] (.region []) .leaf)) lim [a0] H = B249 N g293 lim a0 H := by kernel_rfl
theorem sim249 (N : Nat) : SimF Tryz.prog 249 (G249 N) := by
  refine SimF.gen [(293, G293 N)] [] { promo := [], share := false } N (.seq (.region []) (.join [] [] [] (.region []) .leaf)) Tryz.func249 (by kernel_rfl) (by kernel_rfl) (env_cons (sim293 N) env_nil) ?_
  intro lim args H r h
  unfold G249 w1 at h
  split at h
  · exact (eq249 N (F293 N) lim _ H).trans h
  · simp at h
/-- (besom/mutator.step).calls -/
def B176 (N : Nat) (g95 : RF1) (g151 : RF4) (g170 : RF2) (g175 : RF1) (g244 : RF2) (g249 : RF1) (lim : Nat) (s0 : Value) (H : IHeap) : RV :=
 retK ((cellsOf true 9 s0).bind fun cs1 =>
 (iload true 4 cs1 5).bind fun t11 =>
 (iload false 1 cs1 4).bind fun t13 =>
 (istore true 4 [(.int .i64 0), (.int .i64 0), (.int .i64 0), (.int .i64 0)] 0 t11).bind fun cs2 =>
 (iload false 1 cs2 0).bind fun t15 =>
 catchK 0 ((ibin .eql .no t15 (.int .i64 21)).bind fun t19 =>
 joinK (boolK t19 fun b1 => bif b1 then
 ((iload false 1 cs2 1).bind fun t21 =>
 (iload false 1 cs1 2).bind fun t24 =>
 (iload false 1 cs2 2).bind fun t26 =>
 (iidx 5 t24 t26).bind fun t27 =>
 (paddr 1 t27).bind fun t28 =>
 (hload false 1 H t28).bind fun t29 =>
 (ibin .eql .no t29 (.int .i64 0)).bind fun t30 =>
 joinK (boolK t30 fun b2 => bif b2 then
 (some (.norm ([(.int .i64 (-1))] ++ []), H))
 else
 some (.norm ([t21] ++ []), H)) fun vs1 H1 =>
 (iload false 1 cs2 2).bind fun t33 =>
 (iload true 9 cs1 0).bind fun t34 =>
 (iload false 1 cs2 2).bind fun t36 =>
 callK (g244 lim t34 t36 H1) fun t37 H2 =>
 callK (g151 lim t13 t33 t37 (nthV 0 vs1) H2) fun t39 H3 =>
 (iun .not t39).bind fun t40 =>
 (boolK t40 fun b3 => bif b3 then
 ((iload false 1 cs2 2).bind fun t43 =>
 none)
 else
 some (.norm ([] ++ [.agg ⟨[(.int .i64 0), (.int .i64 0), (.int .i64 0), (.int .i64 0), (.int .i64 0), (.bool false), (.slice none 0 0)]⟩]), H3)))
 else
 (ibin .eql .no t15 (.int .i64 22)).bind fun t46 =>
 joinK (boolK t46 fun b4 => bif b4 then
 ((iload false 1 cs1 2).bind fun t49 =>
 callK (g95 lim t13 H) fun t51 H4 =>
 (iidx 5 t49 t51).bind fun t52 =>
 (paddr 1 t52).bind fun t53 =>
 (hload false 1 H4 t53).bind fun t54 =>
 (ibin .neq .no t54 (.int .i64 0)).bind fun t55 =>
 joinK (boolK t55 fun b5 => bif b5 then
 ((iload false 1 cs2 1).bind fun t59 =>
 callK (g170 lim t13 t59 H4) fun t60 H5 =>
 none)
 else
 some (.norm ([] ++ []), H4)) fun vs2 H6 =>
 none)
 else
 (ibin .eql .no t15 (.int .i64 23)).bind fun t65 =>
 (boolK t65 fun b6 => bif b6 then
 ((iload true 9 cs1 0).bind fun t66 =>
 (iload false 1 cs2 2).bind fun t68 =>
 callK (g244 lim t66 t68 H) fun t69 H7 =>
 (iload true 9 cs1 0).bind fun t70 =>
 callK (g175 lim t70 H7) fun t71 H8 =>
 (iload false 1 cs2 2).bind fun t73 =>
 (istore false 1 [(.int .i64 0), (.int .i64 0), (.int .i64 0), (.int .i64 0), (.int .i64 0), (.bool false), (.slice none 0 0)] 0 (.int .i64 1)).bind fun cs3 =>
 (istore false 1 cs3 4 t73).bind fun cs4 =>
 (istore false 1 cs4 6 t69).bind fun cs5 =>
 (istore true 7 [(.int .i64 0), (.int .i64 0), (.int .i64 0), (.int .i64 0), (.int .i64 0), (.bool false), (.slice none 0 0)] 0 (.agg ⟨cs5⟩)).bind fun cs6 =>
 (iload true 7 cs6 0).bind fun r1 =>
 some (.ret r1, H8))
 else
 (ibin .eql .no t15 (.int .i64 24)).bind fun t77 =>
 (boolK t77 fun b7 => bif b7 then
 ((iload false 1 cs2 2).bind fun t80 =>
 (iload true 9 cs1 0).bind fun t81 =>
 (iload false 1 cs2 2).bind fun t83 =>
 callK (g244 lim t81 t83 H) fun t84 H9 =>
 none)
 else
 (ibin .eql .no t15 (.int .i64 25)).bind fun t91 =>
 joinK (boolK t91 fun b8 => bif b8 then
 ((iload false 1 cs2 1).bind fun t95 =>
 callK (g170 lim t13 t95 H) fun t96 H10 =>
 (iload false 1 cs2 2).bind fun t99 =>
 callK (g170 lim t13 t99 H10) fun t100 H11 =>
 none)
 else
 (ibin .eql .no t15 (.int .i64 26)).bind fun t103 =>
 (boolK t103 fun b9 => bif b9 then
 (none)
 else
 (ibin .eql .no t15 (.int .i64 27)).bind fun t121 =>
 (boolK t121 fun b10 => bif b10 then
 (callK (g249 lim t13 H) fun t123 H12 =>
 some (.norm ([] ++ [.agg ⟨[(.int .i64 0), (.int .i64 0), (.int .i64 0), (.int .i64 0), (.int .i64 0), (.bool false), (.slice none 0 0)]⟩]), H12))
 else
 (iload true 9 cs1 0).bind fun t16 =>
 callK (g175 lim t16 H) fun t17 H13 =>
 (istore true 7 [(.int .i64 0), (.int .i64 0), (.int .i64 0), (.int .i64 0), (.int .i64 0), (.bool false), (.slice none 0 0)] 0 t17).bind fun cs7 =>
 (iload true 7 cs7 0).bind fun r2 =>
 some (.ret r2, H13)))) fun vs3 H14 =>
 (aggs (nthV 0 (vs3.drop 0))).bind fun cs8 =>
 some (.norm ([] ++ [.agg ⟨cs8⟩]), H14)))) fun vs4 H15 =>
 (aggs (nthV 0 (vs4.drop 0))).bind fun cs9 =>
 some (.norm ([] ++ [.agg ⟨cs9⟩]), H15)) fun vs5 H16 =>
 (aggs (nthV 0 (vs5.drop 0))).bind fun cs10 =>
 some (.norm ([] ++ [.agg ⟨cs10⟩]), H16)) fun vs6 H17 =>
 (aggs (nthV 0 (vs6.drop 0))).bind fun cs11 =>
 (istore true 7 cs11 0 (.agg ⟨[(.int .i64 0), (.int .i64 0), (.int .i64 0), (.int .i64 0), (.int .i64 0), (.bool false), (.slice none 0 0)]⟩)).bind fun cs12 =>
 (iload true 7 cs12 0).bind fun r3 =>
 some (.ret r3, H17))
def F176 (N lim : Nat) (a0 : Value) (H : IHeap) : RV := B176 N (F95 N) (F151 N) (F170 N) (F175 N) (F244 N) (F249 N) lim a0 H
def G176 (N : Nat) : G := w1 (F176 N)
theorem eq176 (N : Nat) (g95 : RF1) (g151 : RF4) (g170 : RF2) (g175 : RF1) (g244 : RF2) (g249 : RF1) (lim : Nat) (a0 : Value) (H : IHeap) : ifun Tryz.prog { fn := envOf [(95, Ideal.w1 g95), (151, Ideal.w4 g151), (170, Ideal.w2 g170), (175, Ideal.w1 g175), (244, Ideal.w2 g244), (249, Ideal.w1 g249)], wr := [95, 151, 170, 243, 244, 247] } { promo := [1, 2, 3], share := false } N (okOf Tryz.prog { promo := [1, 2, 3], share := false } [95, 151, 170, 243, 244, 247]) Tryz.f176 (.seq (.region []) (.seq (.region []) (.seq (.seq (.region []) (.block [] [2] [2] (.seq (.region []) (.join [] [2] [2] (.seq (.region []) (.seq (.seq (.region []) (.join [5] [] [] (.region []) .leaf)) (.seq (.region []) (.inl (.seq (.region []) .leaf) .leaf)))) (.seq (.region []) (.join [] [2] [2] (.seq (.seq (.region []) (.join [] [] [] (.region []) .leaf)) (.region [])) (.seq (.region []) (.inl (.seq (.region []) (.seq (.region []) (.seq (.region []) .leaf))) (.seq (.region []) (.inl (.seq (.seq (.region []) (.inl (.seq (.region []) .leaf) .leaf)) (.seq (.region []) .leaf)) (.seq (.region []) (.join [] [2] [2] (.region []) (.seq (.region []) (.inl (.seq (.region []) (.seq (.region []) (.seq (.region []) .leaf))) (.seq (.region []) (.inl (.region []) (.seq (.region []) .leaf))))))))))))))))) (.seq (.region []) .leaf)))) lim [a0] H = B176 N g95 g151 g170 g175 g244 g249 lim a0 H := by kernel_rfl
theorem sim176 (N : Nat) : SimF Tryz.prog 176 (G176 N) := by
  refine SimF.gen [(95, G95 N), (151, G151 N), (170, G170 N), (175, G175 N), (244, G244 N), (249, G249 N)] [95, 151, 170, 243, 244, 247] { promo := [1, 2, 3], share := false } N (.seq (.region []) (.seq (.region []) (.seq (.seq (.region []) (.block [] [2] [2] (.seq (.region []) (.join [] [2] [2] (.seq (.region []) (.seq (.seq (.region []) (.join [5] [] [] (.region []) .leaf)) (.seq (.region []) (.inl (.seq (.region []) .leaf) .leaf)))) (.seq (.region []) (.join [] [2] [2] (.seq (.seq (.region []) (.join [] [] [] (.region []) .leaf)) (.region [])) (.seq (.region []) (.inl (.seq (.region []) (.seq (.region []) (.seq (.region []) .leaf))) (.seq (.region []) (.inl (.seq (.seq (.region []) (.inl (.seq (.region []) .leaf) .leaf)) (.seq (.region []) .leaf)) (.seq (.region []) (.join [] [2] [2] (.region []) (.seq (.region []) (.inl (.seq (.region []) (.seq (.region []) (.seq (.region []) .leaf))) (.seq (.region []) (.inl (.region []) (.seq (.region []) .leaf))))))))))))))))) (.seq (.region []) .leaf)))) Tryz.func176 (by kernel_rfl) (by kernel_rfl) (env_cons (sim95 N) (env_cons (sim151 N) (env_cons (sim170 N) (env_cons (sim175 N) (env_cons (sim244 N) (env_cons (sim249 N) env_nil)))))) ?_
  intro lim args H r h
  unfold G176 w1 at h
  split at h
  · exact (eq176 N (F95 N) (F151 N) (F170 N) (F175 N) (F244 N) (F249 N) lim _ H).trans h
  · simp at h
/-- (besom/mutator.step).run -/
def B97 (N : Nat) (g166 : RF2) (g168 : RF3) (g169 : RF1) (g170 : RF2) (g175 : RF1) (g176 : RF1) (lim : Nat) (s0 : Value) (H : IHeap) : RV :=
 retK ((cellsOf true 9 s0).bind fun cs1 =>
 (iload true 4 cs1 5).bind fun t8 =>
 (iload false 1 cs1 4).bind fun t10 =>
 (istore true 4 [(.int .i64 0), (.int .i64 0), (.int .i64 0), (.int .i64 0)] 0 t8).bind fun cs2 =>
 (iload false 1 cs2 0).bind fun t12 =>
 catchK 0 ((ibin .eql .no t12 (.int .i64 1)).bind fun t14 =>
 (boolK t14 fun b1 => bif b1 then
 ((iload true 9 cs1 0).bind fun t15 =>
 (iload false 1 cs2 1).bind fun t17 =>
 (iload false 1 cs2 2).bind fun t19 =>
 callK (g169 lim t19 H) fun t20 H1 =>
 callK (g168 lim t15 t17 t20 H1) fun t21 H2 =>
 (istore true 7 [(.int .i64 0), (.int .i64 0), (.int .i64 0), (.int .i64 0), (.int .i64 0), (.bool false), (.slice none 0 0)] 0 t21).bind fun cs3 =>
 (iload true 7 cs3 0).bind fun r1 =>
 some (.ret r1, H2))
 else
 (ibin .eql .no t12 (.int .i64 2)).bind fun t23 =>
 (boolK t23 fun b2 => bif b2 then
 ((iload true 9 cs1 0).bind fun t24 =>
 (iload false 1 cs2 1).bind fun t26 =>
 (iload false 1 cs2 2).bind fun t29 =>
 callK (g170 lim t10 t29 H) fun t30 H3 =>
 callK (g168 lim t24 t26 t30 H3) fun t31 H4 =>
 (istore true 7 [(.int .i64 0), (.int .i64 0), (.int .i64 0), (.int .i64 0), (.int .i64 0), (.bool false), (.slice none 0 0)] 0 t31).bind fun cs4 =>
 (iload true 7 cs4 0).bind fun r2 =>
 some (.ret r2, H4))
 else
 (ibin .eql .no t12 (.int .i64 3)).bind fun t33 =>
 joinK (boolK t33 fun b3 => bif b3 then
 (some (.norm ([t33] ++ []), H))
 else
 (ibin .eql .no t12 (.int .i64 4)).bind fun t34 =>
 joinK (boolK t34 fun b4 => bif b4 then
 (some (.norm ([t34] ++ []), H))
 else
 (ibin .eql .no t12 (.int .i64 5)).bind fun t35 =>
 joinK (boolK t35 fun b5 => bif b5 then
 (some (.norm ([t35] ++ []), H))
 else
 (ibin .eql .no t12 (.int .i64 6)).bind fun t36 =>
 joinK (boolK t36 fun b6 => bif b6 then
 (some (.norm ([t36] ++ []), H))
 else
 (ibin .eql .no t12 (.int .i64 7)).bind fun t37 =>
 joinK (boolK t37 fun b7 => bif b7 then
 (some (.norm ([t37] ++ []), H))
 else
 (ibin .eql .no t12 (.int .i64 8)).bind fun t38 =>
 some (.norm ([t38] ++ []), H)) fun vs1 H5 =>
 some (.norm ([(nthV 0 vs1)] ++ []), H5)) fun vs2 H6 =>
 some (.norm ([(nthV 0 vs2)] ++ []), H6)) fun vs3 H7 =>
 some (.norm ([(nthV 0 vs3)] ++ []), H7)) fun vs4 H8 =>
 some (.norm ([(nthV 0 vs4)] ++ []), H8)) fun vs5 H9 =>
 (boolK (nthV 0 vs5) fun b8 => bif b8 then
 ((iload false 1 cs2 0).bind fun t41 =>
 (iload false 1 cs2 2).bind fun t44 =>
 callK (g170 lim t10 t44 H9) fun t45 H10 =>
 (iload false 1 cs2 3).bind fun t48 =>
 callK (g170 lim t10 t48 H10) fun t49 H11 =>
 none)
 else
 (ibin .eql .no t12 (.int .i64 11)).bind fun t59 =>
 (boolK t59 fun b9 => bif b9 then
 ((iload true 9 cs1 0).bind fun t60 =>
 (iload false 1 cs2 1).bind fun t62 =>
 callK (g168 lim t60 t62 (.int .i64 0) H9) fun t63 H12 =>
 (istore true 7 [(.int .i64 0), (.int .i64 0), (.int .i64 0), (.int .i64 0), (.int .i64 0), (.bool false), (.slice none 0 0)] 0 t63).bind fun cs5 =>
 (iload true 7 cs5 0).bind fun r3 =>
 some (.ret r3, H12))
 else
 (ibin .eql .no t12 (.int .i64 12)).bind fun t65 =>
 (boolK t65 fun b10 => bif b10 then
 ((iload true 9 cs1 0).bind fun t66 =>
 (iload false 1 cs2 1).bind fun t68 =>
 (iload false 1 cs2 2).bind fun t71 =>
 callK (g170 lim t10 t71 H9) fun t72 H13 =>
 (ibin .eql .no t72 (.int .i64 0)).bind fun t73 =>
 none)
 else
 (ibin .eql .no t12 (.int .i64 18)).bind fun t77 =>
 joinK (boolK t77 fun b11 => bif b11 then
 (some (.norm ([t77] ++ []), H9))
 else
 (ibin .eql .no t12 (.int .i64 19)).bind fun t78 =>
 joinK (boolK t78 fun b12 => bif b12 then
 (some (.norm ([t78] ++ []), H9))
 else
 (ibin .eql .no t12 (.int .i64 20)).bind fun t79 =>
 some (.norm ([t79] ++ []), H9)) fun vs6 H14 =>
 some (.norm ([(nthV 0 vs6)] ++ []), H14)) fun vs7 H15 =>
 (boolK (nthV 0 vs7) fun b13 => bif b13 then
 ((iload true 9 cs1 0).bind fun t80 =>
 none)
 else
 (ibin .eql .no t12 (.int .i64 14)).bind fun t83 =>
 joinK (boolK t83 fun b14 => bif b14 then
 (some (.norm ([t83] ++ []), H15))
 else
 (ibin .eql .no t12 (.int .i64 15)).bind fun t84 =>
 joinK (boolK t84 fun b15 => bif b15 then
 (some (.norm ([t84] ++ []), H15))
 else
 (ibin .eql .no t12 (.int .i64 13)).bind fun t85 =>
 joinK (boolK t85 fun b16 => bif b16 then
 (some (.norm ([t85] ++ []), H15))
 else
 (ibin .eql .no t12 (.int .i64 16)).bind fun t86 =>
 joinK (boolK t86 fun b17 => bif b17 then
 (some (.norm ([t86] ++ []), H15))
 else
 (ibin .eql .no t12 (.int .i64 17)).bind fun t87 =>
 some (.norm ([t87] ++ []), H15)) fun vs8 H16 =>
 some (.norm ([(nthV 0 vs8)] ++ []), H16)) fun vs9 H17 =>
 some (.norm ([(nthV 0 vs9)] ++ []), H17)) fun vs10 H18 =>
 some (.norm ([(nthV 0 vs10)] ++ []), H18)) fun vs11 H19 =>
 (boolK (nthV 0 vs11) fun b18 => bif b18 then
 ((iload true 9 cs1 0).bind fun t88 =>
 none)
 else
 (ibin .eql .no t12 (.int .i64 9)).bind fun t91 =>
 (boolK t91 fun b19 => bif b19 then
 ((iload false 1 cs2 2).bind fun t94 =>
 callK (g166 lim t10 t94 H19) fun t95 H20 =>
 (istore true 7 [(.int .i64 0), (.int .i64 0), (.int .i64 0), (.int .i64 0), (.int .i64 0), (.bool false), (.slice none 0 0)] 0 (.agg ⟨[(.int .i64 0), (.int .i64 0), (.int .i64 0), (.int .i64 0), (.int .i64 0), (.bool false), (.slice none 0 0)]⟩)).bind fun cs6 =>
 (iload true 7 cs6 0).bind fun r4 =>
 some (.ret r4, H20))
 else
 (ibin .eql .no t12 (.int .i64 10)).bind fun t98 =>
 (boolK t98 fun b20 => bif b20 then
 ((iload false 1 cs2 1).bind fun t101 =>
 callK (g170 lim t10 t101 H19) fun t102 H21 =>
 (ibin .neq .no t102 (.int .i64 0)).bind fun t103 =>
 (boolK t103 fun b21 => bif b21 then
 ((iload false 1 cs2 2).bind fun t106 =>
 callK (g166 lim t10 t106 H21) fun t107 H22 =>
 (istore true 7 [(.int .i64 0), (.int .i64 0), (.int .i64 0), (.int .i64 0), (.int .i64 0), (.bool false), (.slice none 0 0)] 0 (.agg ⟨[(.int .i64 0), (.int .i64 0), (.int .i64 0), (.int .i64 0), (.int .i64 0), (.bool false), (.slice none 0 0)]⟩)).bind fun cs7 =>
 (iload true 7 cs7 0).bind fun r5 =>
 some (.ret r5, H22))
 else
 (iload true 9 cs1 0).bind fun t109 =>
 callK (g175 lim t109 H21) fun t110 H23 =>
 (istore true 7 [(.int .i64 0), (.int .i64 0), (.int .i64 0), (.int .i64 0), (.int .i64 0), (.bool false), (.slice none 0 0)] 0 t110).bind fun cs8 =>
 (iload true 7 cs8 0).bind fun r6 =>
 some (.ret r6, H23)))
 else
 (ibin .eql .no t12 (.int .i64 29)).bind fun t112 =>
 (boolK t112 fun b22 => bif b22 then
 ((iload true 9 cs1 0).bind fun t113 =>
 callK (g175 lim t113 H19) fun t114 H24 =>
 (iload false 1 cs2 1).bind fun t117 =>
 callK (g170 lim t10 t117 H24) fun t118 H25 =>
 (istore false 1 [(.int .i64 0), (.int .i64 0), (.int .i64 0), (.int .i64 0), (.int .i64 0), (.bool false), (.slice none 0 0)] 0 (.int .i64 2)).bind fun cs9 =>
 (istore false 1 cs9 3 t118).bind fun cs10 =>
 (istore true 7 [(.int .i64 0), (.int .i64 0), (.int .i64 0), (.int .i64 0), (.int .i64 0), (.bool false), (.slice none 0 0)] 0 (.agg ⟨cs10⟩)).bind fun cs11 =>
 (iload true 7 cs11 0).bind fun r7 =>
 some (.ret r7, H25))
 else
 some (.norm ([] ++ [.agg ⟨[(.int .i64 0), (.int .i64 0), (.int .i64 0), (.int .i64 0), (.int .i64 0), (.bool false), (.slice none 0 0)]⟩]), H19)))))))))))) fun vs12 H26 =>
 (iload true 9 cs1 0).bind fun t120 =>
 callK (g176 lim t120 H26) fun t121 H27 =>
 (aggs (nthV 0 (vs12.drop 0))).bind fun cs12 =>
 (istore true 7 cs12 0 t121).bind fun cs13 =>
 (iload true 7 cs13 0).bind fun r8 =>
 some (.ret r8, H27))
def F97 (N lim : Nat) (a0 : Value) (H : IHeap) : RV := B97 N (F166 N) (F168 N) (F169 N) (F170 N) (F175 N) (F176 N) lim a0 H
def G97 (N : Nat) : G := w1 (F97 N)
theorem eq97 (N : Nat) (g166 : RF2) (g168 : RF3) (g169 : RF1) (g170 : RF2) (g175 : RF1) (g176 : RF1) (lim : Nat) (a0 : Value) (H : IHeap) : ifun Tryz.prog { fn := envOf [(166, Ideal.w2 g166), (168, Ideal.w3 g168), (169, Ideal.w1 g169), (170, Ideal.w2 g170), (175, Ideal.w1 g175), (176, Ideal.w1 g176)], wr := [168, 169, 170, 171, 172] } { promo := [1, 2, 3], share := false } N (okOf Tryz.prog { promo := [1, 2, 3], share := false } [168, 169, 170, 171, 172]) Tryz.f97 (.seq (.region []) (.seq (.region []) (.seq (.seq (.region []) (.block [] [2] [2] (.seq (.region []) (.inl (.seq (.region []) .leaf) (.seq (.region []) (.inl (.seq (.region []) .leaf) (.seq (.seq (.region []) (.join [32] [] [] .leaf (.seq (.region []) (.join [32] [] [] .leaf (.seq (.region []) (.join [32] [] [] .leaf (.seq (.region []) (.join [32] [] [] .leaf (.seq (.region []) (.join [32] [] [] .leaf (.region []))))))))))) (.inl (.seq (.region []) (.seq (.region []) .leaf)) (.seq (.region []) (.inl (.seq (.region []) .leaf) (.seq (.region []) (.inl (.seq (.region []) .leaf) (.seq (.seq (.region []) (.join [76] [] [] .leaf (.seq (.region []) (.join [76] [] [] .leaf (.region []))))) (.inl (.seq (.region []) .leaf) (.seq (.seq (.region []) (.join [82] [] [] .leaf (.seq (.region []) (.join [82] [] [] .leaf (.seq (.region []) (.join [82] [] [] .leaf (.seq (.region []) (.join [82] [] [] .leaf (.region []))))))))) (.inl (.seq (.region []) .leaf) (.seq (.region []) (.inl (.seq (.region []) (.seq (.region []) .leaf)) (.seq (.region []) (.inl (.seq (.seq (.region []) (.inl (.seq (.region []) (.seq (.region []) .leaf)) .leaf)) (.seq (.region []) .leaf)) (.seq (.region []) (.inl (.seq (.region []) (.seq (.region []) .leaf)) .leaf)))))))))))))))))))))) (.seq (.region []) .leaf)))) lim [a0] H = B97 N g166 g168 g169 g170 g175 g176 lim a0 H := by kernel_rfl
theorem sim97 (N : Nat) : SimF Tryz.prog 97 (G97 N) := by
  refine SimF.gen [(166, G166 N), (168, G168 N), (169, G169 N), (170, G170 N), (175, G175 N), (176, G176 N)] [168, 169, 170, 171, 172] { promo := [1, 2, 3], share := false } N (.seq (.region []) (.seq (.region []) (.seq (.seq (.region []) (.block [] [2] [2] (.seq (.region []) (.inl (.seq (.region []) .leaf) (.seq (.region []) (.inl (.seq (.region []) .leaf) (.seq (.seq (.region []) (.join [32] [] [] .leaf (.seq (.region []) (.join [32] [] [] .leaf (.seq (.region []) (.join [32] [] [] .leaf (.seq (.region []) (.join [32] [] [] .leaf (.seq (.region []) (.join [32] [] [] .leaf (.region []))))))))))) (.inl (.seq (.region []) (.seq (.region []) .leaf)) (.seq (.region []) (.inl (.seq (.region []) .leaf) (.seq (.region []) (.inl (.seq (.region []) .leaf) (.seq (.seq (.region []) (.join [76] [] [] .leaf (.seq (.region []) (.join [76] [] [] .leaf (.region []))))) (.inl (.seq (.region []) .leaf) (.seq (.seq (.region []) (.join [82] [] [] .leaf (.seq (.region []) (.join [82] [] [] .leaf (.seq (.region []) (.join [82] [] [] .leaf (.seq (.region []) (.join [82] [] [] .leaf (.region []))))))))) (.inl (.seq (.region []) .leaf) (.seq (.region []) (.inl (.seq (.region []) (.seq (.region []) .leaf)) (.seq (.region []) (.inl (.seq (.seq (.region []) (.inl (.seq (.region []) (.seq (.region []) .leaf)) .leaf)) (.seq (.region []) .leaf)) (.seq (.region []) (.inl (.seq (.region []) (.seq (.region []) .leaf)) .leaf)))))))))))))))))))))) (.seq (.region []) .leaf)))) Tryz.func97 (by kernel_rfl) (by kernel_rfl) (env_cons (sim166 N) (env_cons (sim168 N) (env_cons (sim169 N) (env_cons (sim170 N) (env_cons (sim175 N) (env_cons (sim176 N) env_nil)))))) ?_
  intro lim args H r h
  unfold G97 w1 at h
  split at h
  · exact (eq97 N (F166 N) (F168 N) (F169 N) (F170 N) (F175 N) (F176 N) lim _ H).trans h
  · simp at h
/-- besom/mutator.Step -/
def B40 (N : Nat) (g69 : RF1) (g92 : RF1) (g94 : RF2) (g95 : RF1) (g96 : RF1) (g97 : RF1) (lim : Nat) (p0 m1 t2 : Value) (H : IHeap) : RV :=
 retK ((cellsOf true 3 p0).bind fun cs1 =>
 callK (g92 lim t2 H) fun t9 H1 =>
 catchK 0 ((ibin .eql .no t9 (.int .i64 3)).bind fun t11 =>
 (boolK t11 fun b1 => bif b1 then
 ((istore false 1 [(.int .i64 0), (.int .i64 0), (.int .i64 0), (.int .i64 0), (.int .i64 0), (.bool false), (.slice none 0 0)] 0 (.int .i64 10)).bind fun cs2 =>
 (istore true 7 [(.int .i64 0), (.int .i64 0), (.int .i64 0), (.int .i64 0), (.int .i64 0), (.bool false), (.slice none 0 0)] 0 (.agg ⟨cs2⟩)).bind fun cs3 =>
 (iload true 7 cs3 0).bind fun r1 =>
 some (.ret r1, H1))
 else
 (ibin .eql .no t9 (.int .i64 4)).bind fun t14 =>
 (boolK t14 fun b2 => bif b2 then
 (callK (g69 lim t2 H1) fun t16 H2 =>
 (istore true 7 [(.int .i64 0), (.int .i64 0), (.int .i64 0), (.slice none 0 0), (.slice none 0 0), (.slice none 0 0), (.bool false)] 0 t16).bind fun cs4 =>
 (iload false 1 cs4 5).bind fun t18 =>
 (iload false 1 cs4 5).bind fun t20 =>
 (ilenS t20).bind fun t21 =>
 (ibin .sub .no t21 (.int .i64 1)).bind fun t22 =>
 (iidx 5 t18 t22).bind fun t23 =>
 (paddr 0 t23).bind fun t24 =>
 (hload false 1 H2 t24).bind fun t25 =>
 (istore false 1 [(.int .i64 0), (.int .i64 0), (.int .i64 0), (.int .i64 0), (.int .i64 0), (.bool false), (.slice none 0 0)] 0 (.int .i64 11)).bind fun cs5 =>
 (istore false 1 cs5 3 t25).bind fun cs6 =>
 (istore true 7 [(.int .i64 0), (.int .i64 0), (.int .i64 0), (.int .i64 0), (.int .i64 0), (.bool false), (.slice none 0 0)] 0 (.agg ⟨cs6⟩)).bind fun cs7 =>
 (iload true 7 cs7 0).bind fun r2 =>
 some (.ret r2, H2))
 else
 (ibin .eql .no t9 (.int .i64 1)).bind fun t28 =>
 (boolK t28 fun b3 => bif b3 then
 (none)
 else
 (ibin .eql .no t9 (.int .i64 2)).bind fun t32 =>
 (boolK t32 fun b4 => bif b4 then
 ((iload true 3 cs1 0).bind fun t33 =>
 callK (g94 lim t33 t2 H1) fun t35 H3 =>
 (istore true 7 [(.int .i64 0), (.int .i64 0), (.int .i64 0), (.int .i64 0), (.int .i64 0), (.bool false), (.slice none 0 0)] 0 t35).bind fun cs8 =>
 (iload true 7 cs8 0).bind fun r3 =>
 some (.ret r3, H3))
 else
 some (.norm ([] ++ [.agg ⟨[(.int .i64 0), (.int .i64 0), (.int .i64 0), (.int .i64 0), (.int .i64 0), (.bool false), (.slice none 0 0)]⟩]), H1)))))) fun vs1 H4 =>
 (iload true 3 cs1 0).bind fun t36 =>
 (iload false 1 cs1 2).bind fun t40 =>
 callK (g95 lim t2 H4) fun t42 H5 =>
 (iidx 5 t40 t42).bind fun t43 =>
 (paddr 4 t43).bind fun t44 =>
 (hload false 1 H5 t44).bind fun t45 =>
 callK (g96 H5.next t2 H5) fun t47 H6 =>
 (iidx 4 t45 t47).bind fun t48 =>
 (hload true 4 H6 t48).bind fun t49 =>
 (istore true 3 [(.slice none 0 0), (.slice none 0 0), (.slice none 0 0), (.pointer none), (.pointer none), (.int .i64 0), (.int .i64 0), (.int .i64 0), (.int .i64 0)] 0 t36).bind fun cs9 =>
 (istore false 1 cs9 3 m1).bind fun cs10 =>
 (istore false 1 cs10 4 t2).bind fun cs11 =>
 (istore true 4 cs11 5 t49).bind fun cs12 =>
 callK (g97 lim (.agg ⟨cs12⟩) H6) fun t51 H7 =>
 (aggs (nthV 0 (vs1.drop 0))).bind fun cs13 =>
 (istore true 7 cs13 0 t51).bind fun cs14 =>
 (iload true 7 cs14 0).bind fun r4 =>
 some (.ret r4, H7))
def F40 (N lim : Nat) (a0 a1 a2 : Value) (H : IHeap) : RV := B40 N (F69 N) (F92 N) (F94 N) (F95 N) (F96 N) (F97 N) lim a0 a1 a2 H
def G40 (N : Nat) : G := w3 (F40 N)
theorem eq40 (N : Nat) (g69 : RF1) (g92 : RF1) (g94 : RF2) (g95 : RF1) (g96 : RF1) (g97 : RF1) (lim : Nat) (a0 a1 a2 : Value) (H : IHeap) : ifun Tryz.prog { fn := envOf [(69, Ideal.w1 g69), (92, Ideal.w1 g92), (94, Ideal.w2 g94), (95, Ideal.w1 g95), (96, Ideal.w1 g96), (97, Ideal.w1 g97)], wr := [95, 97] } { promo := [3, 6, 7], share := false } N (okOf Tryz.prog { promo := [3, 6, 7], share := false } [95, 97]) Tryz.f40 (.seq (.region []) (.seq (.seq (.region []) (.block [] [6] [6, 7] (.seq (.region []) (.inl (.seq (.region []) .leaf) (.seq (.region []) (.inl (.seq (.region []) (.seq (.region []) .leaf)) (.seq (.region []) (.inl (.seq (.region []) .leaf) (.seq (.region []) (.inl (.seq (.region []) .leaf) .leaf)))))))))) (.seq (.region []) .leaf))) lim [a0, a1, a2] H = B40 N g69 g92 g94 g95 g96 g97 lim a0 a1 a2 H := by kernel_rfl
theorem sim40 (N : Nat) : SimF Tryz.prog 40 (G40 N) := by
  refine SimF.gen [(69, G69 N), (92, G92 N), (94, G94 N), (95, G95 N), (96, G96 N), (97, G97 N)] [95, 97] { promo := [3, 6, 7], share := false } N (.seq (.region []) (.seq (.seq (.region []) (.block [] [6] [6, 7] (.seq (.region []) (.inl (.seq (.region []) .leaf) (.seq (.region []) (.inl (.seq (.region []) (.seq (.region []) .leaf)) (.seq (.region []) (.inl (.seq (.region []) .leaf) (.seq (.region []) (.inl (.seq (.region []) .leaf) .leaf)))))))))) (.seq (.region []) .leaf))) Tryz.func40 (by kernel_rfl) (by kernel_rfl) (env_cons (sim69 N) (env_cons (sim92 N) (env_cons (sim94 N) (env_cons (sim95 N) (env_cons (sim96 N) (env_cons (sim97 N) env_nil)))))) ?_
  intro lim args H r h
  unfold G40 w3 at h
  split at h
  · exact (eq40 N (F69 N) (F92 N) (F94 N) (F95 N) (F96 N) (F97 N) lim _ _ _ H).trans h
  · simp at h
/-- (*besom/world.World).next -/
def B42 (N : Nat) (lim : Nat) (w0 : Value) (H : IHeap) : RV :=
 retK ((inilc w0).bind fun t4 =>
 (paddr 19 t4).bind fun t5 =>
 (hload false 1 H t5).bind fun t6 =>
 (ibin .add .no t6 (.int .i64 1)).bind fun t7 =>
 (inilc w0).bind fun t8 =>
 (paddr 19 t8).bind fun t9 =>
 (hstore false 1 lim H t9 t7).bind fun H1 =>
 (inilc w0).bind fun t11 =>
 (paddr 19 t11).bind fun t12 =>
 (hload false 1 H1 t12).bind fun t13 =>
 (ibin .sub .no t13 (.int .i64 1)).bind fun t14 =>
 some (.ret t14, H1))
def F42 (N lim : Nat) (a0 : Value) (H : IHeap) : RV := B42 N lim a0 H
def G42 (N : Nat) : G := w1 (F42 N)
theorem eq42 (N : Nat) (lim : Nat) (a0 : Value) (H : IHeap) : ifun Tryz.prog { fn := envOf [], wr := [] } { promo := [], share := false } N (okOf Tryz.prog { promo := [], share := false } []) Tryz.f42 (.seq (.region []) (.seq (.region []) (.seq (.region []) .leaf))) lim [a0] H = B42 N lim a0 H := by kernel_rfl
theorem sim42 (N : Nat) : SimF Tryz.prog 42 (G42 N) := by
  refine SimF.gen [] [] { promo := [], share := false } N (.seq (.region []) (.seq (.region []) (.seq (.region []) .leaf))) Tryz.func42 (by kernel_rfl) (by kernel_rfl) env_nil ?_
  intro lim args H r h
  unfold G42 w1 at h
  split at h
  · exact (eq42 N lim _ H).trans h
  · simp at h
/-- besom/stack.Fit -/
def B43 (N : Nat) (lim : Nat) (first0 need1 : Value) (H : IHeap) : RV :=
 retK ((iminmax false [first0, (.int .i64 1)]).bind fun t6 =>
 catchK 0 (iloop (fun vs1 H1 =>
 (ibin .lss .no (nthV 0 vs1) need1).bind fun t9 =>
 (gval true t9).bind fun w1 => grpK (bif w1 then
 ((ibin .lss .no (nthV 0 vs1) (.int .i64 1000000)).bind fun t12 =>
 some ([t12], H1))
 else some ([Value.tuple #[]], H1)) fun vs2 H2 =>
 (pickK t9 (nthV 0 vs2) (.bool false)).bind fun t13 =>
 (boolK t13 fun b2 => bif b2 then
 (catchK 1 ((ibin .shl .no (nthV 0 vs1) (.int .u64 1)).bind fun t15 =>
 some (.norm ([t15] ++ []), H2)) fun vs3 H3 =>
 some (.norm ([(nthV 0 vs3)] ++ []), H3))
 else
 some (.exit 0 ([(nthV 0 vs1)] ++ []), H2))) N ([t6] ++ []) H) fun vs4 H4 =>
 (iminmax true [(nthV 0 vs4), (.int .i64 1000000)]).bind fun t17 =>
 some (.ret t17, H4))
def F43 (N lim : Nat) (a0 a1 : Value) (H : IHeap) : RV := B43 N lim a0 a1 H
def G43 (N : Nat) : G := w2 (F43 N)
theorem eq43 (N : Nat) (lim : Nat) (a0 a1 : Value) (H : IHeap) : ifun Tryz.prog { fn := envOf [], wr := [] } { promo := [], share := false } N (okOf Tryz.prog { promo := [], share := false } []) Tryz.f43 (.seq (.region []) (.seq (.region []) (.seq (.block [0] [] [] (.loop [0] [] [] (.seq (.seq (.region [[12]]) (.inl .leaf .leaf)) (.block [0] [] [] (.region []))))) (.seq (.region []) .leaf)))) lim [a0, a1] H = B43 N lim a0 a1 H := by kernel_rfl
theorem sim43 (N : Nat) : SimF Tryz.prog 43 (G43 N) := by
  refine SimF.gen [] [] { promo := [], share := false } N (.seq (.region []) (.seq (.region []) (.seq (.block [0] [] [] (.loop [0] [] [] (.seq (.seq (.region [[12]]) (.inl .leaf .leaf)) (.block [0] [] [] (.region []))))) (.seq (.region []) .leaf)))) Tryz.func43 (by kernel_rfl) (by kernel_rfl) env_nil ?_
  intro lim args H r h
  unfold G43 w2 at h
  split at h
  · exact (eq43 N lim _ _ H).trans h
  · simp at h
/-- besom/mutator.Asks -/
def B45 (N : Nat) (lim : Nat) (kind0 : Value) (H : IHeap) : RV :=
 retK ((ibin .geq .no kind0 (.int .i64 3)).bind fun t4 =>
 (gval true t4).bind fun w1 => grpK (bif w1 then
 ((ibin .leq .no kind0 (.int .i64 7)).bind fun t7 =>
 some ([t7], H))
 else some ([Value.tuple #[]], H)) fun vs1 H1 =>
 (pickK t4 (nthV 0 vs1) (.bool false)).bind fun t8 =>
 some (.ret t8, H1))
def F45 (N lim : Nat) (a0 : Value) (H : IHeap) : RV := B45 N lim a0 H
def G45 (N : Nat) : G := w1 (F45 N)
theorem eq45 (N : Nat) (lim : Nat) (a0 : Value) (H : IHeap) : ifun Tryz.prog { fn := envOf [], wr := [] } { promo := [], share := false } N (okOf Tryz.prog { promo := [], share := false } []) Tryz.f45 (.seq (.region []) (.seq (.region [[7]]) .leaf)) lim [a0] H = B45 N lim a0 H := by kernel_rfl
theorem sim45 (N : Nat) : SimF Tryz.prog 45 (G45 N) := by
  refine SimF.gen [] [] { promo := [], share := false } N (.seq (.region []) (.seq (.region [[7]]) .leaf)) Tryz.func45 (by kernel_rfl) (by kernel_rfl) env_nil ?_
  intro lim args H r h
  unfold G45 w1 at h
  split at h
  · exact (eq45 N lim _ H).trans h
  · simp at h
/-- besom/stack.New -/
def B150 (N : Nat) (lim : Nat) (serial0 words1 : Value) (H : IHeap) : RV :=
 retK ((iminmax false [serial0, (.int .i64 0)]).bind fun t6 =>
 (iminmax true [t6, (.int .i64 100000)]).bind fun t7 =>
 (ibin .shl .no t7 (.int .u64 13)).bind fun t9 =>
 (ibin .add .no (.int .i64 1073741824) t9).bind fun t10 =>
 (iminmax false [words1, (.int .i64 1)]).bind fun t12 =>
 (iminmax true [t12, (.int .i64 4096)]).bind fun t13 =>
 callK (imake 8 [(.int .i64 0)] H t13 t13) fun t14 H1 =>
 (istore false 1 [(.int .i64 0), (.slice none 0 0)] 0 t10).bind fun cs1 =>
 (istore false 1 cs1 1 t14).bind fun cs2 =>
 (cellsOf true 2 (.agg ⟨cs2⟩)).bind fun cs3 =>
 some (.ret (ptr H1.next 0), (H1.push (.cells cs3 0))))
def F150 (N lim : Nat) (a0 a1 : Value) (H : IHeap) : RV := B150 N lim a0 a1 H
def G150 (N : Nat) : G := w2 (F150 N)
theorem eq150 (N : Nat) (lim : Nat) (a0 a1 : Value) (H : IHeap) : ifun Tryz.prog { fn := envOf [], wr := [] } { promo := [], share := false } N (okOf Tryz.prog { promo := [], share := false } []) Tryz.f150 (.seq (.region []) (.seq (.region []) (.seq (.region []) .leaf))) lim [a0, a1] H = B150 N lim a0 a1 H := by kernel_rfl
theorem sim150 (N : Nat) : SimF Tryz.prog 150 (G150 N) := by
  refine SimF.gen [] [] { promo := [], share := false } N (.seq (.region []) (.seq (.region []) (.seq (.region []) .leaf))) Tryz.func150 (by kernel_rfl) (by kernel_rfl) env_nil ?_
  intro lim args H r h
  unfold G150 w2 at h
  split at h
  · exact (eq150 N lim _ _ H).trans h
  · simp at h
/-- besom/task.New -/
def B79 (N : Nat) (g27 : RF2) (g43 : RF2) (g150 : RF2) (g151 : RF4) (lim : Nat) (p0 fn1 args2 serial3 first4 limit5 : Value) (H : IHeap) : RV :=
 retK ((cellsOf true 3 p0).bind fun cs1 =>
 catchK 0 ((ibin .lss .no fn1 (.int .i64 0)).bind fun t19 =>
 (gval false t19).bind fun w1 => grpK (bif w1 then
 ((iload false 1 cs1 2).bind fun t23 =>
 (ilenS t23).bind fun t24 =>
 (ibin .geq .no fn1 t24).bind fun t25 =>
 some ([t25], H))
 else some ([Value.tuple #[]], H)) fun vs1 H1 =>
 (pickK t19 (.bool true) (nthV 0 vs1)).bind fun t26 =>
 (boolK t26 fun b2 => bif b2 then
 (some (.ret (.tuple ⟨[(.pointer none), (.int .i64 4)]⟩), H1))
 else
 (ilenS args2).bind fun t29 =>
 (iload false 1 cs1 2).bind fun t31 =>
 (iidx 5 t31 fn1).bind fun t33 =>
 (paddr 0 t33).bind fun t34 =>
 (hload false 1 H1 t34).bind fun t35 =>
 (ilenS t35).bind fun t36 =>
 (ibin .neq .no t29 t36).bind fun t37 =>
 (boolK t37 fun b3 => bif b3 then
 (some (.ret (.tuple ⟨[(.pointer none), (.int .i64 1)]⟩), H1))
 else
 some (.norm ([] ++ []), H1)))) fun vs2 H2 =>
 (iload true 3 cs1 0).bind fun t38 =>
 callK (g27 lim t38 fn1 H2) fun t40 H3 =>
 callK (g43 lim first4 t40 H3) fun t43 H4 =>
 (ibin .geq .no limit5 t40).bind fun t46 =>
 joinK (boolK t46 fun b4 => bif b4 then
 ((iminmax true [t43, limit5]).bind fun t49 =>
 some (.norm ([t49] ++ []), H4))
 else
 some (.norm ([t43] ++ []), H4)) fun vs3 H5 =>
 (iload true 3 cs1 0).bind fun t50 =>
 callK (g150 H5.next serial3 (nthV 0 vs3) H5) fun t53 H6 =>
 (istore true 3 [(.slice none 0 0), (.slice none 0 0), (.slice none 0 0), (.pointer none), (.slice none 0 0), (.slice none 0 0), (.slice none 0 0), (.map none)] 0 t50).bind fun cs2 =>
 (istore false 1 cs2 3 t53).bind fun cs3 =>
 (istore false 1 cs3 7 (.map (some H6.next))).bind fun cs4 =>
 (cellsOf true 8 (.agg ⟨cs4⟩)).bind fun cs5 =>
 callK (g151 lim (ptr (H6.push (.map 3 [] 0)).next 0) fn1 args2 (.int .i64 (-1)) ((H6.push (.map 3 [] 0)).push (.cells cs5 0))) fun t60 H7 =>
 some (.ret (.tuple ⟨[(ptr (H6.push (.map 3 [] 0)).next 0), (.int .i64 0)]⟩), H7))
def F79 (N lim : Nat) (a0 a1 a2 a3 a4 a5 : Value) (H : IHeap) : RV := B79 N (F27 N) (F43 N) (F150 N) (F151 N) lim a0 a1 a2 a3 a4 a5 H
def G79 (N : Nat) : G := w6 (F79 N)
theorem eq79 (N : Nat) (g27 : RF2) (g43 : RF2) (g150 : RF2) (g151 : RF4) (lim : Nat) (a0 a1 a2 a3 a4 a5 : Value) (H : IHeap) : ifun Tryz.prog { fn := envOf [(27, Ideal.w2 g27), (43, Ideal.w2 g43), (150, Ideal.w2 g150), (151, Ideal.w4 g151)], wr := [] } { promo := [6], share := false } N (okOf Tryz.prog { promo := [6], share := false } []) Tryz.f79 (.seq (.region []) (.seq (.block [] [] [] (.seq (.region [[25]]) (.inl (.seq (.region []) .leaf) (.seq (.region []) (.inl (.seq (.region []) .leaf) .leaf))))) (.seq (.region []) (.seq (.region []) (.seq (.seq (.region []) (.join [15] [] [] (.region []) .leaf)) (.seq (.region []) (.seq (.region []) (.seq (.region []) .leaf)))))))) lim [a0, a1, a2, a3, a4, a5] H = B79 N g27 g43 g150 g151 lim a0 a1 a2 a3 a4 a5 H := by kernel_rfl
theorem sim79 (N : Nat) : SimF Tryz.prog 79 (G79 N) := by
  refine SimF.gen [(27, G27 N), (43, G43 N), (150, G150 N), (151, G151 N)] [] { promo := [6], share := false } N (.seq (.region []) (.seq (.block [] [] [] (.seq (.region [[25]]) (.inl (.seq (.region []) .leaf) (.seq (.region []) (.inl (.seq (.region []) .leaf) .leaf))))) (.seq (.region []) (.seq (.region []) (.seq (.seq (.region []) (.join [15] [] [] (.region []) .leaf)) (.seq (.region []) (.seq (.region []) (.seq (.region []) .leaf)))))))) Tryz.func79 (by kernel_rfl) (by kernel_rfl) (env_cons (sim27 N) (env_cons (sim43 N) (env_cons (sim150 N) (env_cons (sim151 N) env_nil)))) ?_
  intro lim args H r h
  unfold G79 w6 at h
  split at h
  · exact (eq79 N (F27 N) (F43 N) (F150 N) (F151 N) lim _ _ _ _ _ _ H).trans h
  · simp at h
/-- (*besom/world.World).spawn -/
def B31 (N : Nat) (g42 : RF1) (g79 : RF6) (lim : Nat) (w0 fn1 args2 : Value) (H : IHeap) : RV :=
 retK ((inilc w0).bind fun t10 =>
 (paddr 0 t10).bind fun t11 =>
 (hload true 3 H t11).bind fun t12 =>
 callK (g42 lim w0 H) fun t16 H1 =>
 (inilc w0).bind fun t18 =>
 (paddr 3 t18).bind fun t19 =>
 (paddr 1 t19).bind fun t20 =>
 (hload false 1 H1 t20).bind fun t21 =>
 (inilc w0).bind fun t23 =>
 (paddr 3 t23).bind fun t24 =>
 (paddr 2 t24).bind fun t25 =>
 (hload false 1 H1 t25).bind fun t26 =>
 callK (g79 lim t12 fn1 args2 t16 t21 t26 H1) fun t27 H2 =>
 (iextract 0 t27).bind fun t28 =>
 (iextract 1 t27).bind fun t29 =>
 (bif ((chk1 (hload true 3 H1 t11) t12) && ((chk1 (hload false 1 H t20) t21) && ((chk1 (hload false 1 H t25) t26) && true))) then
 ((inilc w0).bind fun t32 =>
 (paddr 15 t32).bind fun t33 =>
 (hload false 1 H2 t33).bind fun t34 =>
 (istore false 1 [(.pointer none)] 0 t28).bind fun cs1 =>
 rowK (lrow 1 1 cs1) fun m1 new1 =>
 callK (iappend false 1 8 lim H2 t34 m1 new1) fun t37 H3 =>
 (inilc w0).bind fun t38 =>
 (paddr 15 t38).bind fun t39 =>
 (hstore false 1 lim H3 t39 t37).bind fun H4 =>
 (inilc w0).bind fun t42 =>
 (paddr 16 t42).bind fun t43 =>
 (hload false 1 H4 t43).bind fun t44 =>
 (inilc w0).bind fun t46 =>
 (paddr 12 t46).bind fun t47 =>
 (paddr 0 t47).bind fun t48 =>
 (hload false 1 H4 t48).bind fun t49 =>
 (ibin .eql .no t49 (.int .i64 1)).bind fun t50 =>
 (istore false 1 [(.int .i64 0), (.bool false)] 0 (.int .i64 0)).bind fun cs2 =>
 (istore false 1 cs2 1 t50).bind fun cs3 =>
 (istore true 2 [(.int .i64 0), (.bool false)] 0 (.agg ⟨cs3⟩)).bind fun cs4 =>
 rowK (lrow 2 1 cs4) fun m2 new2 =>
 callK (iappend false 2 16 lim H4 t44 m2 new2) fun t53 H5 =>
 (inilc w0).bind fun t54 =>
 (paddr 16 t54).bind fun t55 =>
 (hstore false 1 lim H5 t55 t53).bind fun H6 =>
 some (.ret (.tuple ⟨[]⟩), H6))
 else none))
def F31 (N lim : Nat) (a0 a1 a2 : Value) (H : IHeap) : RV := B31 N (F42 N) (F79 N) lim a0 a1 a2 H
def G31 (N : Nat) : G := w3 (F31 N)
theorem eq31 (N : Nat) (g42 : RF1) (g79 : RF6) (lim : Nat) (a0 a1 a2 : Value) (H : IHeap) : ifun Tryz.prog { fn := envOf [(42, Ideal.w1 g42), (79, Ideal.w6 g79)], wr := [42, 79] } { promo := [36, 52], share := false } N (okOf Tryz.prog { promo := [36, 52], share := false } [42, 79]) Tryz.f31 (.seq (.late 7 [3, 12, 17]) (.seq (.region []) (.region []))) lim [a0, a1, a2] H = B31 N g42 g79 lim a0 a1 a2 H := by kernel_rfl
theorem sim31 (N : Nat) : SimF Tryz.prog 31 (G31 N) := by
  refine SimF.gen [(42, G42 N), (79, G79 N)] [42, 79] { promo := [36, 52], share := false } N (.seq (.late 7 [3, 12, 17]) (.seq (.region []) (.region []))) Tryz.func31 (by kernel_rfl) (by kernel_rfl) (env_cons (sim42 N) (env_cons (sim79 N) env_nil)) ?_
  intro lim args H r h
  unfold G31 w3 at h
  split at h
  · exact (eq31 N (F42 N) (F79 N) lim _ _ _ H).trans h
  · simp at h
/-- besom/tint.Shade -/
def B117 (N : Nat) (lim : Nat) (h0 p1 l2 : Value) (H : IHeap) : RV :=
 retK ((ilenS l2).bind fun t13 =>
 catchK 0 (iloop (fun vs1 H1 =>
 (ibin .lss .no (nthV 1 vs1) t13).bind fun t15 =>
 (boolK t15 fun b1 => bif b1 then
 (catchK 1 ((iidx 1 l2 (nthV 1 vs1)).bind fun t16 =>
 (hload false 1 H1 t16).bind fun t17 =>
 none) fun vs2 H2 =>
 (ibin .add .no (nthV 1 vs1) (.int .i64 1)).bind fun t36 =>
 some (.norm ([(nthV 0 vs2), t36] ++ []), H2))
 else
 some (.exit 0 ([(nthV 0 vs1)] ++ []), H1))) N ([(.int .i64 0), (.int .i64 0)] ++ []) H) fun vs3 H3 =>
 some (.ret (nthV 0 vs3), H3))
def F117 (N lim : Nat) (a0 a1 a2 : Value) (H : IHeap) : RV := B117 N lim a0 a1 a2 H
def G117 (N : Nat) : G := w3 (F117 N)
theorem eq117 (N : Nat) (lim : Nat) (a0 a1 a2 : Value) (H : IHeap) : ifun Tryz.prog { fn := envOf [], wr := [] } { promo := [], share := false } N (okOf Tryz.prog { promo := [], share := false } []) Tryz.f117 (.seq (.region []) (.seq (.region []) (.seq (.seq (.region []) (.block [7] [] [] (.loop [7, 14] [] [] (.seq (.region []) (.seq (.inl .leaf .leaf) (.seq (.block [7] [] [] (.seq (.region []) (.seq (.region []) (.seq (.region [[28]]) (.join [7] [] [] (.seq (.region []) (.region [])) .leaf))))) (.region []))))))) (.seq (.region []) .leaf)))) lim [a0, a1, a2] H = B117 N lim a0 a1 a2 H := by kernel_rfl
theorem sim117 (N : Nat) : SimF Tryz.prog 117 (G117 N) := by
  refine SimF.gen [] [] { promo := [], share := false } N (.seq (.region []) (.seq (.region []) (.seq (.seq (.region []) (.block [7] [] [] (.loop [7, 14] [] [] (.seq (.region []) (.seq (.inl .leaf .leaf) (.seq (.block [7] [] [] (.seq (.region []) (.seq (.region []) (.seq (.region [[28]]) (.join [7] [] [] (.seq (.region []) (.region [])) .leaf))))) (.region []))))))) (.seq (.region []) .leaf)))) Tryz.func117 (by kernel_rfl) (by kernel_rfl) env_nil ?_
  intro lim args H r h
  unfold G117 w3 at h
  split at h
  · exact (eq117 N lim _ _ _ H).trans h
  · simp at h
/-- (*besom/world.World).shade -/
def B64 (N : Nat) (g117 : RF3) (lim : Nat) (w0 l1 : Value) (H : IHeap) : RV :=
 retK ((inilc w0).bind fun t5 =>
 (paddr 9 t5).bind fun t6 =>
 (hload false 1 H t6).bind fun t7 =>
 (inilc w0).bind fun t9 =>
 (paddr 10 t9).bind fun t10 =>
 (hload false 1 H t10).bind fun t11 =>
 callK (g117 lim t7 t11 l1 H) fun t13 H1 =>
 some (.ret (.tuple ⟨[]⟩), H1))
def F64 (N lim : Nat) (a0 a1 : Value) (H : IHeap) : RV := B64 N (F117 N) lim a0 a1 H
def G64 (N : Nat) : G := w2 (F64 N)
theorem eq64 (N : Nat) (g117 : RF3) (lim : Nat) (a0 a1 : Value) (H : IHeap) : ifun Tryz.prog { fn := envOf [(117, Ideal.w3 g117)], wr := [117] } { promo := [], share := false } N (okOf Tryz.prog { promo := [], share := false } [117]) Tryz.f64 (.region []) lim [a0, a1] H = B64 N g117 lim a0 a1 H := by kernel_rfl
theorem sim64 (N : Nat) : SimF Tryz.prog 64 (G64 N) := by
  refine SimF.gen [(117, G117 N)] [117] { promo := [], share := false } N (.region []) Tryz.func64 (by kernel_rfl) (by kernel_rfl) (env_cons (sim117 N) env_nil) ?_
  intro lim args H r h
  unfold G64 w2 at h
  split at h
  · exact (eq64 N (F117 N) lim _ _ H).trans h
  · simp at h
/-- (*besom/world.World).end -/
def B113 (N : Nat) (g96 : RF1) (g166 : RF2) (lim : Nat) (w0 k1 status2 : Value) (H : IHeap) : RV :=
 retK ((inilc w0).bind fun t8 =>
 (paddr 20 t8).bind fun t9 =>
 (hstore false 1 lim H t9 status2).bind fun H1 =>
 (inilc w0).bind fun t11 =>
 (paddr 15 t11).bind fun t12 =>
 (hload false 1 H1 t12).bind fun t13 =>
 (iidx 1 t13 k1).bind fun t15 =>
 (hload false 1 H1 t15).bind fun t16 =>
 (inilc w0).bind fun t18 =>
 (paddr 15 t18).bind fun t19 =>
 (hload false 1 H1 t19).bind fun t20 =>
 (iidx 1 t20 k1).bind fun t22 =>
 (hload false 1 H1 t22).bind fun t23 =>
 callK (g96 H1.next t23 H1) fun t24 H2 =>
 (ibin .sub .no t24 (.int .i64 1)).bind fun t25 =>
 callK (g166 lim t16 t25 H2) fun t26 H3 =>
 some (.ret (.tuple ⟨[]⟩), H3))
def F113 (N lim : Nat) (a0 a1 a2 : Value) (H : IHeap) : RV := B113 N (F96 N) (F166 N) lim a0 a1 a2 H
def G113 (N : Nat) : G := w3 (F113 N)
theorem eq113 (N : Nat) (g96 : RF1) (g166 : RF2) (lim : Nat) (a0 a1 a2 : Value) (H : IHeap) : ifun Tryz.prog { fn := envOf [(96, Ideal.w1 g96), (166, Ideal.w2 g166)], wr := [166] } { promo := [], share := false } N (okOf Tryz.prog { promo := [], share := false } [166]) Tryz.f113 (.seq (.region []) (.region [])) lim [a0, a1, a2] H = B113 N g96 g166 lim a0 a1 a2 H := by kernel_rfl
theorem sim113 (N : Nat) : SimF Tryz.prog 113 (G113 N) := by
  refine SimF.gen [(96, G96 N), (166, G166 N)] [166] { promo := [], share := false } N (.seq (.region []) (.region [])) Tryz.func113 (by kernel_rfl) (by kernel_rfl) (env_cons (sim96 N) (env_cons (sim166 N) env_nil)) ?_
  intro lim args H r h
  unfold G113 w3 at h
  split at h
  · exact (eq113 N (F96 N) (F166 N) lim _ _ _ H).trans h
  · simp at h
/-- besom/barrier.Args -/
def B192 (N : Nat) (lim : Nat) (phase0 p1 fn2 args3 : Value) (H : IHeap) : RV :=
 retK ((cellsOf true 3 p1).bind fun cs1 =>
 (ibin .neq .no phase0 (.int .i64 1)).bind fun t15 =>
 (gval false t15).bind fun w1 => grpK (bif w1 then
 ((ibin .lss .no fn2 (.int .i64 0)).bind fun t18 =>
 some ([t18], H))
 else some ([Value.tuple #[]], H)) fun vs1 H1 =>
 (pickK t15 (.bool true) (nthV 0 vs1)).bind fun t19 =>
 (gval false t19).bind fun w2 => grpK (bif w2 then
 ((iload false 1 cs1 2).bind fun t23 =>
 (ilenS t23).bind fun t24 =>
 (ibin .geq .no fn2 t24).bind fun t25 =>
 some ([t25], H1))
 else some ([Value.tuple #[]], H1)) fun vs2 H2 =>
 (pickK t19 (.bool true) (nthV 0 vs2)).bind fun t26 =>
 (boolK t26 fun b3 => bif b3 then
 (some (.ret (.slice none 0 0), H2))
 else
 (istore false 1 [(.map none), (.slice none 0 0)] 0 (.map (some H2.next))).bind fun cs2 =>
 (cellsOf true 2 (.agg ⟨cs2⟩)).bind fun cs3 =>
 (iload false 1 cs1 2).bind fun t31 =>
 (iidx 5 t31 fn2).bind fun t33 =>
 (paddr 0 t33).bind fun t34 =>
 (hload false 1 ((H2.push (.map 0 [] 0)).push (.cells cs3 0)) t34).bind fun t35 =>
 (ilenS t35).bind fun t36 =>
 catchK 0 (iloop (fun vs3 H3 =>
 (ibin .lss .no (nthV 0 vs3) t36).bind fun t38 =>
 (boolK t38 fun b4 => bif b4 then
 (catchK 1 ((iidx 1 t35 (nthV 0 vs3)).bind fun t40 =>
 (hload false 1 H3 t40).bind fun t41 =>
 none) fun vs4 H4 =>
 (ibin .add .no (nthV 0 vs3) (.int .i64 1)).bind fun t60 =>
 some (.norm ([t60] ++ []), H4))
 else
 some (.exit 0 ([] ++ []), H3))) N ([(.int .i64 0)] ++ []) ((H2.push (.map 0 [] 0)).push (.cells cs3 0))) fun vs5 H5 =>
 (inilc (ptr (H2.push (.map 0 [] 0)).next 0)).bind fun t62 =>
 (paddr 1 t62).bind fun t63 =>
 (hload false 1 H5 t63).bind fun t64 =>
 some (.ret t64, H5)))
def F192 (N lim : Nat) (a0 a1 a2 a3 : Value) (H : IHeap) : RV := B192 N lim a0 a1 a2 a3 H
def G192 (N : Nat) : G := w4 (F192 N)
theorem eq192 (N : Nat) (lim : Nat) (a0 a1 a2 a3 : Value) (H : IHeap) : ifun Tryz.prog { fn := envOf [], wr := [] } { promo := [5], share := false } N (okOf Tryz.prog { promo := [5], share := false } []) Tryz.f192 (.seq (.region []) (.seq (.seq (.region [[18], [25]]) (.inl (.seq (.region []) .leaf) .leaf)) (.seq (.region []) (.seq (.seq (.region []) (.block [] [] [] (.loop [37] [] [] (.seq (.region []) (.seq (.inl .leaf .leaf) (.seq (.block [] [] [] (.seq (.region []) (.seq (.region []) (.seq (.region [[52]]) (.join [] [] [] (.region []) .leaf))))) (.region []))))))) (.seq (.region []) .leaf))))) lim [a0, a1, a2, a3] H = B192 N lim a0 a1 a2 a3 H := by kernel_rfl
theorem sim192 (N : Nat) : SimF Tryz.prog 192 (G192 N) := by
  refine SimF.gen [] [] { promo := [5], share := false } N (.seq (.region []) (.seq (.seq (.region [[18], [25]]) (.inl (.seq (.region []) .leaf) .leaf)) (.seq (.region []) (.seq (.seq (.region []) (.block [] [] [] (.loop [37] [] [] (.seq (.region []) (.seq (.inl .leaf .leaf) (.seq (.block [] [] [] (.seq (.region []) (.seq (.region []) (.seq (.region [[52]]) (.join [] [] [] (.region []) .leaf))))) (.region []))))))) (.seq (.region []) .leaf))))) Tryz.func192 (by kernel_rfl) (by kernel_rfl) env_nil ?_
  intro lim args H r h
  unfold G192 w4 at h
  split at h
  · exact (eq192 N lim _ _ _ _ H).trans h
  · simp at h
/-- (*besom/world.World).spawned -/
def B112 (N : Nat) (g27 : RF2) (g31 : RF3) (g64 : RF2) (g113 : RF3) (g192 : RF4) (lim : Nat) (w0 k1 a2 : Value) (H : IHeap) : RV :=
 retK ((cellsOf true 7 a2).bind fun cs1 =>
 catchK 0 ((inilc w0).bind fun t30 =>
 (paddr 15 t30).bind fun t31 =>
 (hload false 1 H t31).bind fun t32 =>
 (ilenS t32).bind fun t33 =>
 (ibin .geq .no t33 (.int .i64 12)).bind fun t34 =>
 joinK (boolK t34 fun b1 => bif b1 then
 (callK (g113 lim w0 k1 (.int .i64 5) H) fun t37 H1 =>
 some (.norm ([] ++ []), H1))
 else
 (inilc w0).bind fun t40 =>
 (paddr 0 t40).bind fun t41 =>
 (hload true 3 H t41).bind fun t42 =>
 (iload false 1 cs1 4).bind fun t44 =>
 callK (g27 H.next t42 t44 H) fun t45 H2 =>
 (inilc w0).bind fun t47 =>
 (paddr 3 t47).bind fun t48 =>
 (paddr 2 t48).bind fun t49 =>
 (hload false 1 H2 t49).bind fun t50 =>
 (ibin .gtr .no t45 t50).bind fun t51 =>
 joinK (boolK t51 fun b2 => bif b2 then
 (callK (g113 lim w0 k1 (.int .i64 4) H2) fun t54 H3 =>
 some (.norm ([] ++ []), H3))
 else
 (inilc w0).bind fun t8 =>
 (paddr 12 t8).bind fun t9 =>
 (paddr 0 t9).bind fun t10 =>
 (hload false 1 H2 t10).bind fun t11 =>
 (inilc w0).bind fun t13 =>
 (paddr 0 t13).bind fun t14 =>
 (hload true 3 H2 t14).bind fun t15 =>
 (iload false 1 cs1 4).bind fun t17 =>
 (iload false 1 cs1 6).bind fun t19 =>
 callK (g192 lim t11 t15 t17 t19 H2) fun t20 H4 =>
 callK (g64 lim w0 t20 H4) fun t21 H5 =>
 (iload false 1 cs1 4).bind fun t24 =>
 (iload false 1 cs1 6).bind fun t26 =>
 callK (g31 lim w0 t24 t26 H5) fun t27 H6 =>
 some (.norm ([] ++ []), H6)) fun vs1 H7 =>
 some (.norm ([] ++ []), H7)) fun vs2 H8 =>
 some (.norm ([] ++ []), H8)) fun vs3 H9 =>
 some (.ret (.tuple ⟨[]⟩), H9))
def F112 (N lim : Nat) (a0 a1 a2 : Value) (H : IHeap) : RV := B112 N (F27 N) (F31 N) (F64 N) (F113 N) (F192 N) lim a0 a1 a2 H
def G112 (N : Nat) : G := w3 (F112 N)
theorem eq112 (N : Nat) (g27 : RF2) (g31 : RF3) (g64 : RF2) (g113 : RF3) (g192 : RF4) (lim : Nat) (a0 a1 a2 : Value) (H : IHeap) : ifun Tryz.prog { fn := envOf [(27, Ideal.w2 g27), (31, Ideal.w3 g31), (64, Ideal.w2 g64), (113, Ideal.w3 g113), (192, Ideal.w4 g192)], wr := [64, 192] } { promo := [5], share := false } N (okOf Tryz.prog { promo := [5], share := false } [64, 192]) Tryz.f112 (.seq (.region []) (.block [] [] [] (.seq (.region []) (.join [] [] [] (.region []) (.seq (.region []) (.join [] [] [] (.region []) (.seq (.region []) (.region [])))))))) lim [a0, a1, a2] H = B112 N g27 g31 g64 g113 g192 lim a0 a1 a2 H := by kernel_rfl
theorem sim112 (N : Nat) : SimF Tryz.prog 112 (G112 N) := by
  refine SimF.gen [(27, G27 N), (31, G31 N), (64, G64 N), (113, G113 N), (192, G192 N)] [64, 192] { promo := [5], share := false } N (.seq (.region []) (.block [] [] [] (.seq (.region []) (.join [] [] [] (.region []) (.seq (.region []) (.join [] [] [] (.region []) (.seq (.region []) (.region [])))))))) Tryz.func112 (by kernel_rfl) (by kernel_rfl) (env_cons (sim27 N) (env_cons (sim31 N) (env_cons (sim64 N) (env_cons (sim113 N) (env_cons (sim192 N) env_nil))))) ?_
  intro lim args H r h
  unfold G112 w3 at h
  split at h
  · exact (eq112 N (F27 N) (F31 N) (F64 N) (F113 N) (F192 N) lim _ _ _ H).trans h
  · simp at h
/-- (besom/ask.Hand).End -/
def B114 (N : Nat) (lim : Nat) (h0 : Value) (H : IHeap) : RV :=
 retK ((cellsOf true 2 h0).bind fun cs1 =>
 (istore false 1 cs1 0 (.int .i64 4)).bind fun cs2 =>
 (iload true 2 cs2 0).bind fun t4 =>
 (istore true 2 [(.int .i64 0), (.bool false)] 0 t4).bind fun cs3 =>
 (iload true 2 cs3 0).bind fun r1 =>
 some (.ret r1, H))
def F114 (N lim : Nat) (a0 : Value) (H : IHeap) : RV := B114 N lim a0 H
def G114 (N : Nat) : G := w1 (F114 N)
theorem eq114 (N : Nat) (lim : Nat) (a0 : Value) (H : IHeap) : ifun Tryz.prog { fn := envOf [], wr := [] } { promo := [1, 2], share := false } N (okOf Tryz.prog { promo := [1, 2], share := false } []) Tryz.f114 (.seq (.region []) (.seq (.region []) (.seq (.region []) .leaf))) lim [a0] H = B114 N lim a0 H := by kernel_rfl
theorem sim114 (N : Nat) : SimF Tryz.prog 114 (G114 N) := by
  refine SimF.gen [] [] { promo := [1, 2], share := false } N (.seq (.region []) (.seq (.region []) (.seq (.region []) .leaf))) Tryz.func114 (by kernel_rfl) (by kernel_rfl) env_nil ?_
  intro lim args H r h
  unfold G114 w1 at h
  split at h
  · exact (eq114 N lim _ H).trans h
  · simp at h
/-- (*besom/world.World).do -/
def B47 (N : Nat) (g112 : RF3) (g113 : RF3) (g114 : RF1) (lim : Nat) (w0 k1 a2 : Value) (H : IHeap) : RV :=
 retK ((cellsOf true 7 a2).bind fun cs1 =>
 (iload false 1 cs1 0).bind fun t9 =>
 catchK 0 ((ibin .eql .no t9 (.int .i64 1)).bind fun t11 =>
 joinK (boolK t11 fun b1 => bif b1 then
 ((iload true 7 cs1 0).bind fun t14 =>
 callK (g112 lim w0 k1 t14 H) fun t15 H1 =>
 some (.norm ([] ++ []), H1))
 else
 (ibin .eql .no t9 (.int .i64 2)).bind fun t17 =>
 joinK (boolK t17 fun b2 => bif b2 then
 ((inilc w0).bind fun t19 =>
 (paddr 18 t19).bind fun t20 =>
 (hload false 1 H t20).bind fun t21 =>
 (ilenS t21).bind fun t22 =>
 (ibin .geq .no t22 (.int .i64 500)).bind fun t23 =>
 (boolK t23 fun b3 => bif b3 then
 (callK (g113 lim w0 k1 (.int .i64 5) H) fun t26 H2 =>
 some (.ret (.tuple ⟨[]⟩), H2))
 else
 (inilc w0).bind fun t29 =>
 (paddr 18 t29).bind fun t30 =>
 (hload false 1 H t30).bind fun t31 =>
 (iload false 1 cs1 3).bind fun t33 =>
 (istore false 1 [(.int .i64 0)] 0 t33).bind fun cs2 =>
 rowK (lrow 1 1 cs2) fun m1 new1 =>
 callK (iappend false 1 8 lim H t31 m1 new1) fun t35 H3 =>
 (inilc w0).bind fun t36 =>
 (paddr 18 t36).bind fun t37 =>
 (hstore false 1 lim H3 t37 t35).bind fun H4 =>
 some (.norm ([] ++ []), H4)))
 else
 (ibin .eql .no t9 (.int .i64 9)).bind fun t39 =>
 joinK (boolK t39 fun b4 => bif b4 then
 ((inilc w0).bind fun t41 =>
 (paddr 20 t41).bind fun t42 =>
 (hstore false 1 lim H t42 (.int .i64 5)).bind fun H5 =>
 some (.norm ([] ++ []), H5))
 else
 (ibin .eql .no t9 (.int .i64 10)).bind fun t44 =>
 joinK (boolK t44 fun b5 => bif b5 then
 ((inilc w0).bind fun t46 =>
 (paddr 16 t46).bind fun t47 =>
 (hload false 1 H t47).bind fun t48 =>
 (inilc w0).bind fun t51 =>
 (paddr 16 t51).bind fun t52 =>
 (hload false 1 H t52).bind fun t53 =>
 (iidx 2 t53 k1).bind fun t55 =>
 (hload true 2 H t55).bind fun t56 =>
 callK (g114 H.next t56 H) fun t57 H6 =>
 (iidx 2 t48 k1).bind fun t58 =>
 (hstore true 2 lim H6 t58 t57).bind fun H7 =>
 (inilc w0).bind fun t60 =>
 (paddr 20 t60).bind fun t61 =>
 (hstore false 1 lim H7 t61 (.int .i64 1)).bind fun H8 =>
 (inilc w0).bind fun t63 =>
 (paddr 16 t63).bind fun t64 =>
 (hload false 1 H8 t64).bind fun t65 =>
 (ilenS t65).bind fun t66 =>
 catchK 1 (iloop (fun vs1 H9 =>
 (ibin .lss .no (nthV 0 vs1) t66).bind fun t68 =>
 (boolK t68 fun b6 => bif b6 then
 (catchK 2 ((iidx 2 t65 (nthV 0 vs1)).bind fun t69 =>
 (hload true 2 H9 t69).bind fun t70 =>
 (istore true 2 [(.int .i64 0), (.bool false)] 0 t70).bind fun cs3 =>
 (iload false 1 cs3 0).bind fun t72 =>
 (ibin .neq .no t72 (.int .i64 4)).bind fun t73 =>
 joinK (boolK t73 fun b7 => bif b7 then
 ((inilc w0).bind fun t75 =>
 (paddr 20 t75).bind fun t76 =>
 (hstore false 1 lim H9 t76 (.int .i64 0)).bind fun H10 =>
 some (.norm ([] ++ []), H10))
 else
 some (.norm ([] ++ []), H9)) fun vs2 H11 =>
 some (.norm ([] ++ []), H11)) fun vs3 H12 =>
 (ibin .add .no (nthV 0 vs1) (.int .i64 1)).bind fun t77 =>
 some (.norm ([t77] ++ []), H12))
 else
 some (.exit 1 ([] ++ []), H9))) N ([(.int .i64 0)] ++ []) H8) fun vs4 H13 =>
 some (.norm ([] ++ []), H13))
 else
 (ibin .eql .no t9 (.int .i64 11)).bind fun t79 =>
 joinK (boolK t79 fun b8 => bif b8 then
 ((iload false 1 cs1 3).bind fun t83 =>
 (inilc w0).bind fun t84 =>
 (paddr 20 t84).bind fun t85 =>
 (hstore false 1 lim H t85 (.int .i64 2)).bind fun H14 =>
 (inilc w0).bind fun t86 =>
 (paddr 21 t86).bind fun t87 =>
 (hstore false 1 lim H14 t87 t83).bind fun H15 =>
 some (.norm ([] ++ []), H15))
 else
 some (.norm ([] ++ []), H)) fun vs5 H16 =>
 some (.norm ([] ++ []), H16)) fun vs6 H17 =>
 some (.norm ([] ++ []), H17)) fun vs7 H18 =>
 some (.norm ([] ++ []), H18)) fun vs8 H19 =>
 some (.norm ([] ++ []), H19)) fun vs9 H20 =>
 some (.norm ([] ++ []), H20)) fun vs10 H21 =>
 some (.ret (.tuple ⟨[]⟩), H21))
def F47 (N lim : Nat) (a0 a1 a2 : Value) (H : IHeap) : RV := B47 N (F112 N) (F113 N) (F114 N) lim a0 a1 a2 H
def G47 (N : Nat) : G := w3 (F47 N)
theorem eq47 (N : Nat) (g112 : RF3) (g113 : RF3) (g114 : RF1) (lim : Nat) (a0 a1 a2 : Value) (H : IHeap) : ifun Tryz.prog { fn := envOf [(112, Ideal.w3 g112), (113, Ideal.w3 g113), (114, Ideal.w1 g114)], wr := [] } { promo := [5, 7, 34], share := false } N (okOf Tryz.prog { promo := [5, 7, 34], share := false } []) Tryz.f47 (.seq (.region []) (.seq (.region []) (.block [] [] [7, 34] (.seq (.region []) (.join [] [] [7, 34] (.region []) (.seq (.region []) (.join [] [] [7, 34] (.seq (.seq (.region []) (.inl (.seq (.region []) .leaf) .leaf)) (.region [])) (.seq (.region []) (.join [] [] [7] (.region []) (.seq (.region []) (.join [] [] [7] (.seq (.region []) (.seq (.region []) (.seq (.region []) (.block [] [] [7] (.loop [67] [] [7] (.seq (.region []) (.seq (.inl .leaf .leaf) (.seq (.block [] [] [7] (.seq (.region []) (.seq (.region []) (.join [] [] [] (.region []) .leaf)))) (.region []))))))))) (.seq (.region []) (.join [] [] [] (.region []) .leaf))))))))))))) lim [a0, a1, a2] H = B47 N g112 g113 g114 lim a0 a1 a2 H := by kernel_rfl
theorem sim47 (N : Nat) : SimF Tryz.prog 47 (G47 N) := by
  refine SimF.gen [(112, G112 N), (113, G113 N), (114, G114 N)] [] { promo := [5, 7, 34], share := false } N (.seq (.region []) (.seq (.region []) (.block [] [] [7, 34] (.seq (.region []) (.join [] [] [7, 34] (.region []) (.seq (.region []) (.join [] [] [7, 34] (.seq (.seq (.region []) (.inl (.seq (.region []) .leaf) .leaf)) (.region [])) (.seq (.region []) (.join [] [] [7] (.region []) (.seq (.region []) (.join [] [] [7] (.seq (.region []) (.seq (.region []) (.seq (.region []) (.block [] [] [7] (.loop [67] [] [7] (.seq (.region []) (.seq (.inl .leaf .leaf) (.seq (.block [] [] [7] (.seq (.region []) (.seq (.region []) (.join [] [] [] (.region []) .leaf)))) (.region []))))))))) (.seq (.region []) (.join [] [] [] (.region []) .leaf))))))))))))) Tryz.func47 (by kernel_rfl) (by kernel_rfl) (env_cons (sim112 N) (env_cons (sim113 N) (env_cons (sim114 N) env_nil))) ?_
  intro lim args H r h
  unfold G47 w3 at h
  split at h
  · exact (eq47 N (F112 N) (F113 N) (F114 N) lim _ _ _ H).trans h
  · simp at h
end Go.Ideal
