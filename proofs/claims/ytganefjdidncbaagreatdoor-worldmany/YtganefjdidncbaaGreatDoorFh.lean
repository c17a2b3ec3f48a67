/- This text proves no statement of the seat: it says what functions of the program do on the ideal machine, part 7. By program (emitall.py). -/
import Derived.Test.YtganefjdidncbaaGreatDoorFg
namespace Go.Ideal
open Go.Proofs
set_option maxRecDepth 100000
set_option linter.unusedVariables false
/-- besom/besomref1.Check -/
def B32 (N : Nat) (g80 : RF1) (g82 : RF2) (lim : Nat) (p0 : Value) (H : IHeap) : RV :=
 retK ((cellsOf true 3 p0).bind fun cs1 =>
 (iload false 1 cs1 1).bind fun t11 =>
 callK (g80 lim t11 H) fun t12 H1 =>
 (ibin .neq .no t12 (.int .i64 0)).bind fun t14 =>
 (boolK t14 fun b1 => bif b1 then
 (some (.ret (.tuple ⟨[t12, (.int .i64 0), (.int .i64 0)]⟩), H1))
 else
 (iload false 1 cs1 0).bind fun t17 =>
 (ilenS t17).bind fun t18 =>
 (ibin .gtr .no t18 (.int .i64 16)).bind fun t19 =>
 (gval false t19).bind fun w1 => grpK (bif w1 then
 ((iload false 1 cs1 2).bind fun t22 =>
 (ilenS t22).bind fun t23 =>
 (ibin .lss .no t23 (.int .i64 1)).bind fun t24 =>
 some ([t24], H1))
 else some ([Value.tuple #[]], H1)) fun vs1 H2 =>
 (pickK t19 (.bool true) (nthV 0 vs1)).bind fun t25 =>
 (gval false t25).bind fun w2 => grpK (bif w2 then
 ((iload false 1 cs1 2).bind fun t28 =>
 (ilenS t28).bind fun t29 =>
 (ibin .gtr .no t29 (.int .i64 16)).bind fun t30 =>
 some ([t30], H2))
 else some ([Value.tuple #[]], H2)) fun vs2 H3 =>
 (pickK t25 (.bool true) (nthV 0 vs2)).bind fun t31 =>
 (boolK t31 fun b4 => bif b4 then
 (some (.ret (.tuple ⟨[(.int .i64 1), (.int .i64 0), (.int .i64 0)]⟩), H3))
 else
 catchK 0 (iloop (fun vs3 H4 =>
 (iload false 1 cs1 0).bind fun t34 =>
 (ilenS t34).bind fun t35 =>
 (ibin .lss .no (nthV 0 vs3) t35).bind fun t36 =>
 (boolK t36 fun b5 => bif b5 then
 (catchK 1 ((iload false 1 cs1 0).bind fun t40 =>
 (iidx 1 t40 (nthV 0 vs3)).bind fun t42 =>
 (hload false 1 H4 t42).bind fun t43 =>
 (iload false 1 cs1 1).bind fun t45 =>
 (ilenS t45).bind fun t46 =>
 none) fun vs4 H5 =>
 (ibin .add .no (nthV 0 vs3) (.int .i64 1)).bind fun t38 =>
 some (.norm ([t38] ++ []), H5))
 else
 some (.exit 0 ([] ++ []), H4))) N ([(.int .i64 0)] ++ []) H3) fun vs5 H6 =>
 (iload false 1 cs1 2).bind fun t50 =>
 (iidx 5 t50 (.int .i64 0)).bind fun t51 =>
 (paddr 0 t51).bind fun t52 =>
 (hload false 1 H6 t52).bind fun t53 =>
 (ilenS t53).bind fun t54 =>
 (ibin .gtr .no t54 (.int .i64 0)).bind fun t55 =>
 (gval false t55).bind fun w3 => grpK (bif w3 then
 ((iload false 1 cs1 2).bind fun t58 =>
 (iidx 5 t58 (.int .i64 0)).bind fun t59 =>
 (paddr 1 t59).bind fun t60 =>
 (hload false 1 H6 t60).bind fun t61 =>
 (ibin .neq .no t61 (.int .i64 0)).bind fun t62 =>
 some ([t62], H6))
 else some ([Value.tuple #[]], H6)) fun vs6 H7 =>
 (pickK t55 (.bool true) (nthV 0 vs6)).bind fun t63 =>
 (boolK t63 fun b7 => bif b7 then
 (some (.ret (.tuple ⟨[(.int .i64 3), (.int .i64 0), (.int .i64 0)]⟩), H7))
 else
 catchK 2 (iloop (fun vs7 H8 =>
 (iload false 1 cs1 2).bind fun t66 =>
 (ilenS t66).bind fun t67 =>
 (ibin .lss .no (nthV 0 vs7) t67).bind fun t68 =>
 (boolK t68 fun b8 => bif b8 then
 (catchK 3 ((iload true 3 cs1 0).bind fun t72 =>
 callK (g82 lim t72 (nthV 0 vs7) H8) fun t74 H9 =>
 (iextract 0 t74).bind fun t75 =>
 (iextract 1 t74).bind fun t76 =>
 (ibin .neq .no t75 (.int .i64 0)).bind fun t78 =>
 (boolK t78 fun b9 => bif b9 then
 (some (.ret (.tuple ⟨[t75, (nthV 0 vs7), t76]⟩), H9))
 else
 some (.norm ([] ++ []), H9))) fun vs8 H10 =>
 (ibin .add .no (nthV 0 vs7) (.int .i64 1)).bind fun t70 =>
 some (.norm ([t70] ++ []), H10))
 else
 some (.exit 2 ([] ++ []), H8))) N ([(.int .i64 0)] ++ []) H7) fun vs9 H11 =>
 some (.ret (.tuple ⟨[(.int .i64 0), (.int .i64 0), (.int .i64 0)]⟩), H11)))))
def F32 (N lim : Nat) (a0 : Value) (H : IHeap) : RV := B32 N (F80 N) (F82 N) lim a0 H
def G32 (N : Nat) : G := w1 (F32 N)
theorem eq32 (N : Nat) (g80 : RF1) (g82 : RF2) (lim : Nat) (a0 : Value) (H : IHeap) : ifun Tryz.prog { fn := envOf [(80, Ideal.w1 g80), (82, Ideal.w2 g82)], wr := [81] } { promo := [1], share := false } N (okOf Tryz.prog { promo := [1], share := false } [81]) Tryz.f32 (.seq (.region []) (.seq (.region []) (.seq (.seq (.region []) (.inl (.seq (.region []) .leaf) .leaf)) (.seq (.seq (.region [[24], [30]]) (.inl (.seq (.region []) .leaf) .leaf)) (.seq (.seq (.region []) (.block [] [] [] (.loop [6] [] [] (.seq (.seq (.region []) (.inl .leaf .leaf)) (.seq (.block [] [] [] (.seq (.region []) (.inl (.seq (.region []) .leaf) .leaf))) (.region [])))))) (.seq (.seq (.region [[62]]) (.inl (.seq (.region []) .leaf) .leaf)) (.seq (.seq (.region []) (.block [] [] [] (.loop [7] [] [] (.seq (.seq (.region []) (.inl .leaf .leaf)) (.seq (.block [] [] [] (.seq (.region []) (.seq (.region []) (.inl (.seq (.region []) .leaf) .leaf)))) (.region [])))))) (.seq (.region []) .leaf)))))))) lim [a0] H = B32 N g80 g82 lim a0 H := by kernel_rfl
theorem sim32 (N : Nat) : SimF Tryz.prog 32 (G32 N) := by
  refine SimF.gen [(80, G80 N), (82, G82 N)] [81] { promo := [1], share := false } N (.seq (.region []) (.seq (.region []) (.seq (.seq (.region []) (.inl (.seq (.region []) .leaf) .leaf)) (.seq (.seq (.region [[24], [30]]) (.inl (.seq (.region []) .leaf) .leaf)) (.seq (.seq (.region []) (.block [] [] [] (.loop [6] [] [] (.seq (.seq (.region []) (.inl .leaf .leaf)) (.seq (.block [] [] [] (.seq (.region []) (.inl (.seq (.region []) .leaf) .leaf))) (.region [])))))) (.seq (.seq (.region [[62]]) (.inl (.seq (.region []) .leaf) .leaf)) (.seq (.seq (.region []) (.block [] [] [] (.loop [7] [] [] (.seq (.seq (.region []) (.inl .leaf .leaf)) (.seq (.block [] [] [] (.seq (.region []) (.seq (.region []) (.inl (.seq (.region []) .leaf) .leaf)))) (.region [])))))) (.seq (.region []) .leaf)))))))) Tryz.func32 (by kernel_rfl) (by kernel_rfl) (env_cons (sim80 N) (env_cons (sim82 N) env_nil)) ?_
  intro lim args H r h
  unfold G32 w1 at h
  split at h
  · exact (eq32 N (F80 N) (F82 N) lim _ H).trans h
  · simp at h
/-- besom/besomref1.Writes -/
def B156 (N : Nat) (lim : Nat) (i0 : Value) (H : IHeap) : RV :=
 retK ((cellsOf true 4 i0).bind fun cs1 =>
 (iload false 1 cs1 0).bind fun t5 =>
 catchK 0 ((ibin .eql .no t5 (.int .i64 1)).bind fun t7 =>
 joinK (boolK t7 fun b1 => bif b1 then
 (some (.norm ([t7] ++ []), H))
 else
 (ibin .eql .no t5 (.int .i64 2)).bind fun t8 =>
 joinK (boolK t8 fun b2 => bif b2 then
 (some (.norm ([t8] ++ []), H))
 else
 (ibin .eql .no t5 (.int .i64 3)).bind fun t9 =>
 joinK (boolK t9 fun b3 => bif b3 then
 (some (.norm ([t9] ++ []), H))
 else
 (ibin .eql .no t5 (.int .i64 4)).bind fun t10 =>
 joinK (boolK t10 fun b4 => bif b4 then
 (some (.norm ([t10] ++ []), H))
 else
 (ibin .eql .no t5 (.int .i64 5)).bind fun t11 =>
 joinK (boolK t11 fun b5 => bif b5 then
 (some (.norm ([t11] ++ []), H))
 else
 (ibin .eql .no t5 (.int .i64 6)).bind fun t12 =>
 joinK (boolK t12 fun b6 => bif b6 then
 (some (.norm ([t12] ++ []), H))
 else
 (ibin .eql .no t5 (.int .i64 7)).bind fun t13 =>
 joinK (boolK t13 fun b7 => bif b7 then
 (some (.norm ([t13] ++ []), H))
 else
 (ibin .eql .no t5 (.int .i64 8)).bind fun t14 =>
 joinK (boolK t14 fun b8 => bif b8 then
 (some (.norm ([t14] ++ []), H))
 else
 (ibin .eql .no t5 (.int .i64 11)).bind fun t15 =>
 joinK (boolK t15 fun b9 => bif b9 then
 (some (.norm ([t15] ++ []), H))
 else
 (ibin .eql .no t5 (.int .i64 12)).bind fun t16 =>
 joinK (boolK t16 fun b10 => bif b10 then
 (some (.norm ([t16] ++ []), H))
 else
 (ibin .eql .no t5 (.int .i64 13)).bind fun t17 =>
 joinK (boolK t17 fun b11 => bif b11 then
 (some (.norm ([t17] ++ []), H))
 else
 (ibin .eql .no t5 (.int .i64 14)).bind fun t18 =>
 joinK (boolK t18 fun b12 => bif b12 then
 (some (.norm ([t18] ++ []), H))
 else
 (ibin .eql .no t5 (.int .i64 16)).bind fun t19 =>
 joinK (boolK t19 fun b13 => bif b13 then
 (some (.norm ([t19] ++ []), H))
 else
 (ibin .eql .no t5 (.int .i64 18)).bind fun t20 =>
 joinK (boolK t20 fun b14 => bif b14 then
 (some (.norm ([t20] ++ []), H))
 else
 (ibin .eql .no t5 (.int .i64 19)).bind fun t21 =>
 joinK (boolK t21 fun b15 => bif b15 then
 (some (.norm ([t21] ++ []), H))
 else
 (ibin .eql .no t5 (.int .i64 21)).bind fun t22 =>
 joinK (boolK t22 fun b16 => bif b16 then
 (some (.norm ([t22] ++ []), H))
 else
 (ibin .eql .no t5 (.int .i64 26)).bind fun t23 =>
 some (.norm ([t23] ++ []), H)) fun vs1 H1 =>
 some (.norm ([(nthV 0 vs1)] ++ []), H1)) fun vs2 H2 =>
 some (.norm ([(nthV 0 vs2)] ++ []), H2)) fun vs3 H3 =>
 some (.norm ([(nthV 0 vs3)] ++ []), H3)) fun vs4 H4 =>
 some (.norm ([(nthV 0 vs4)] ++ []), H4)) fun vs5 H5 =>
 some (.norm ([(nthV 0 vs5)] ++ []), H5)) fun vs6 H6 =>
 some (.norm ([(nthV 0 vs6)] ++ []), H6)) fun vs7 H7 =>
 some (.norm ([(nthV 0 vs7)] ++ []), H7)) fun vs8 H8 =>
 some (.norm ([(nthV 0 vs8)] ++ []), H8)) fun vs9 H9 =>
 some (.norm ([(nthV 0 vs9)] ++ []), H9)) fun vs10 H10 =>
 some (.norm ([(nthV 0 vs10)] ++ []), H10)) fun vs11 H11 =>
 some (.norm ([(nthV 0 vs11)] ++ []), H11)) fun vs12 H12 =>
 some (.norm ([(nthV 0 vs12)] ++ []), H12)) fun vs13 H13 =>
 some (.norm ([(nthV 0 vs13)] ++ []), H13)) fun vs14 H14 =>
 some (.norm ([(nthV 0 vs14)] ++ []), H14)) fun vs15 H15 =>
 some (.norm ([(nthV 0 vs15)] ++ []), H15)) fun vs16 H16 =>
 (boolK (nthV 0 vs16) fun b17 => bif b17 then
 ((iload false 1 cs1 1).bind fun t25 =>
 some (.ret (.tuple ⟨[t25, (.bool true)]⟩), H16))
 else
 some (.norm ([] ++ []), H16))) fun vs17 H17 =>
 some (.ret (.tuple ⟨[(.int .i64 0), (.bool false)]⟩), H17))
def F156 (N lim : Nat) (a0 : Value) (H : IHeap) : RV := B156 N lim a0 H
def G156 (N : Nat) : G := w1 (F156 N)
theorem eq156 (N : Nat) (lim : Nat) (a0 : Value) (H : IHeap) : ifun Tryz.prog { fn := envOf [], wr := [] } { promo := [1], share := false } N (okOf Tryz.prog { promo := [1], share := false } []) Tryz.f156 (.seq (.region []) (.seq (.seq (.region []) (.block [] [] [] (.seq (.seq (.region []) (.join [6] [] [] .leaf (.seq (.region []) (.join [6] [] [] .leaf (.seq (.region []) (.join [6] [] [] .leaf (.seq (.region []) (.join [6] [] [] .leaf (.seq (.region []) (.join [6] [] [] .leaf (.seq (.region []) (.join [6] [] [] .leaf (.seq (.region []) (.join [6] [] [] .leaf (.seq (.region []) (.join [6] [] [] .leaf (.seq (.region []) (.join [6] [] [] .leaf (.seq (.region []) (.join [6] [] [] .leaf (.seq (.region []) (.join [6] [] [] .leaf (.seq (.region []) (.join [6] [] [] .leaf (.seq (.region []) (.join [6] [] [] .leaf (.seq (.region []) (.join [6] [] [] .leaf (.seq (.region []) (.join [6] [] [] .leaf (.seq (.region []) (.join [6] [] [] .leaf (.region []))))))))))))))))))))))))))))))))) (.inl (.seq (.region []) .leaf) .leaf)))) (.seq (.region []) .leaf))) lim [a0] H = B156 N lim a0 H := by kernel_rfl
theorem sim156 (N : Nat) : SimF Tryz.prog 156 (G156 N) := by
  refine SimF.gen [] [] { promo := [1], share := false } N (.seq (.region []) (.seq (.seq (.region []) (.block [] [] [] (.seq (.seq (.region []) (.join [6] [] [] .leaf (.seq (.region []) (.join [6] [] [] .leaf (.seq (.region []) (.join [6] [] [] .leaf (.seq (.region []) (.join [6] [] [] .leaf (.seq (.region []) (.join [6] [] [] .leaf (.seq (.region []) (.join [6] [] [] .leaf (.seq (.region []) (.join [6] [] [] .leaf (.seq (.region []) (.join [6] [] [] .leaf (.seq (.region []) (.join [6] [] [] .leaf (.seq (.region []) (.join [6] [] [] .leaf (.seq (.region []) (.join [6] [] [] .leaf (.seq (.region []) (.join [6] [] [] .leaf (.seq (.region []) (.join [6] [] [] .leaf (.seq (.region []) (.join [6] [] [] .leaf (.seq (.region []) (.join [6] [] [] .leaf (.seq (.region []) (.join [6] [] [] .leaf (.region []))))))))))))))))))))))))))))))))) (.inl (.seq (.region []) .leaf) .leaf)))) (.seq (.region []) .leaf))) Tryz.func156 (by kernel_rfl) (by kernel_rfl) env_nil ?_
  intro lim args H r h
  unfold G156 w1 at h
  split at h
  · exact (eq156 N lim _ H).trans h
  · simp at h
/-- besom/besomref1.Step -/
def B83 (N : Nat) (g156 : RF1) (lim : Nat) (p0 fn1 pc2 kinds3 : Value) (H : IHeap) : RV :=
 retK ((cellsOf true 3 p0).bind fun cs1 =>
 (iload false 1 cs1 2).bind fun t21 =>
 (iidx 5 t21 fn1).bind fun t23 =>
 (hload true 5 H t23).bind fun t24 =>
 (istore true 5 [(.slice none 0 0), (.int .i64 0), (.int .i64 0), (.slice none 0 0), (.slice none 0 0)] 0 t24).bind fun cs2 =>
 (iload false 1 cs2 4).bind fun t26 =>
 (iidx 4 t26 pc2).bind fun t28 =>
 (hload true 4 H t28).bind fun t29 =>
 (istore true 4 [(.int .i64 0), (.int .i64 0), (.int .i64 0), (.int .i64 0)] 0 t29).bind fun cs3 =>
 (ilenS kinds3).bind fun t31 =>
 callK (imake 8 [(.int .i64 0)] H t31 t31) fun t32 H1 =>
 rowK (hrow 1 H1 kinds3) fun m1 new1 =>
 callK (icopy 1 lim H1 t32 m1 new1) fun t35 H2 =>
 (iload false 1 cs3 0).bind fun t37 =>
 catchK 0 ((ibin .eql .no t37 (.int .i64 1)).bind fun t39 =>
 joinK (boolK t39 fun b1 => bif b1 then
 ((iload false 1 cs3 1).bind fun t42 =>
 (iidx 1 t32 t42).bind fun t43 =>
 (hstore false 1 lim H2 t43 (.int .i64 1)).bind fun H3 =>
 some (.norm ([(.bool true)] ++ []), H3))
 else
 (ibin .eql .no t37 (.int .i64 2)).bind fun t45 =>
 joinK (boolK t45 fun b2 => bif b2 then
 ((iload false 1 cs3 2).bind fun t48 =>
 (iidx 1 kinds3 t48).bind fun t49 =>
 (hload false 1 H2 t49).bind fun t50 =>
 (ibin .neq .no t50 (.int .i64 0)).bind fun t51 =>
 (iload false 1 cs3 1).bind fun t54 =>
 (iload false 1 cs3 2).bind fun t57 =>
 (iidx 1 kinds3 t57).bind fun t58 =>
 (hload false 1 H2 t58).bind fun t59 =>
 (iidx 1 t32 t54).bind fun t60 =>
 (hstore false 1 lim H2 t60 t59).bind fun H4 =>
 some (.norm ([t51] ++ []), H4))
 else
 (ibin .eql .no t37 (.int .i64 3)).bind fun t62 =>
 joinK (boolK t62 fun b3 => bif b3 then
 (some (.norm ([t62] ++ []), H2))
 else
 (ibin .eql .no t37 (.int .i64 4)).bind fun t63 =>
 joinK (boolK t63 fun b4 => bif b4 then
 (some (.norm ([t63] ++ []), H2))
 else
 (ibin .eql .no t37 (.int .i64 5)).bind fun t64 =>
 joinK (boolK t64 fun b5 => bif b5 then
 (some (.norm ([t64] ++ []), H2))
 else
 (ibin .eql .no t37 (.int .i64 6)).bind fun t65 =>
 joinK (boolK t65 fun b6 => bif b6 then
 (some (.norm ([t65] ++ []), H2))
 else
 (ibin .eql .no t37 (.int .i64 7)).bind fun t66 =>
 joinK (boolK t66 fun b7 => bif b7 then
 (some (.norm ([t66] ++ []), H2))
 else
 (ibin .eql .no t37 (.int .i64 8)).bind fun t67 =>
 some (.norm ([t67] ++ []), H2)) fun vs1 H5 =>
 some (.norm ([(nthV 0 vs1)] ++ []), H5)) fun vs2 H6 =>
 some (.norm ([(nthV 0 vs2)] ++ []), H6)) fun vs3 H7 =>
 some (.norm ([(nthV 0 vs3)] ++ []), H7)) fun vs4 H8 =>
 some (.norm ([(nthV 0 vs4)] ++ []), H8)) fun vs5 H9 =>
 joinK (boolK (nthV 0 vs5) fun b8 => bif b8 then
 ((iload false 1 cs3 2).bind fun t70 =>
 (iidx 1 kinds3 t70).bind fun t71 =>
 (hload false 1 H9 t71).bind fun t72 =>
 (ibin .eql .no t72 (.int .i64 1)).bind fun t73 =>
 (gval true t73).bind fun w1 => grpK (bif w1 then
 ((iload false 1 cs3 3).bind fun t77 =>
 (iidx 1 kinds3 t77).bind fun t78 =>
 (hload false 1 H9 t78).bind fun t79 =>
 (ibin .eql .no t79 (.int .i64 1)).bind fun t80 =>
 some ([t80], H9))
 else some ([Value.tuple #[]], H9)) fun vs6 H10 =>
 (pickK t73 (nthV 0 vs6) (.bool false)).bind fun t81 =>
 (iload false 1 cs3 1).bind fun t84 =>
 (iidx 1 t32 t84).bind fun t85 =>
 (hstore false 1 lim H10 t85 (.int .i64 1)).bind fun H11 =>
 some (.norm ([t81] ++ []), H11))
 else
 (ibin .eql .no t37 (.int .i64 10)).bind fun t87 =>
 joinK (boolK t87 fun b10 => bif b10 then
 (some (.norm ([t87] ++ []), H9))
 else
 (ibin .eql .no t37 (.int .i64 29)).bind fun t88 =>
 some (.norm ([t88] ++ []), H9)) fun vs7 H12 =>
 joinK (boolK (nthV 0 vs7) fun b11 => bif b11 then
 ((iload false 1 cs3 1).bind fun t91 =>
 (iidx 1 kinds3 t91).bind fun t92 =>
 (hload false 1 H12 t92).bind fun t93 =>
 (ibin .eql .no t93 (.int .i64 1)).bind fun t94 =>
 some (.norm ([t94] ++ []), H12))
 else
 (ibin .eql .no t37 (.int .i64 11)).bind fun t96 =>
 joinK (boolK t96 fun b12 => bif b12 then
 (some (.norm ([t96] ++ []), H12))
 else
 (ibin .eql .no t37 (.int .i64 13)).bind fun t97 =>
 some (.norm ([t97] ++ []), H12)) fun vs8 H13 =>
 joinK (boolK (nthV 0 vs8) fun b13 => bif b13 then
 ((iload false 1 cs3 1).bind fun t100 =>
 (iload false 1 cs3 2).bind fun t102 =>
 (ibin .add .no (.int .i64 16) t102).bind fun t103 =>
 (iidx 1 t32 t100).bind fun t104 =>
 (hstore false 1 lim H13 t104 t103).bind fun H14 =>
 some (.norm ([(.bool true)] ++ []), H14))
 else
 (ibin .eql .no t37 (.int .i64 12)).bind fun t106 =>
 joinK (boolK t106 fun b14 => bif b14 then
 ((iload false 1 cs3 2).bind fun t109 =>
 (iidx 1 kinds3 t109).bind fun t110 =>
 (hload false 1 H13 t110).bind fun t111 =>
 none)
 else
 (ibin .eql .no t37 (.int .i64 14)).bind fun t118 =>
 joinK (boolK t118 fun b15 => bif b15 then
 ((iload false 1 cs3 1).bind fun t121 =>
 (iload true 3 cs1 0).bind fun t122 =>
 (iload false 1 cs3 2).bind fun t125 =>
 (iidx 1 kinds3 t125).bind fun t126 =>
 (hload false 1 H13 t126).bind fun t127 =>
 (iload false 1 cs3 3).bind fun t129 =>
 none)
 else
 (ibin .eql .no t37 (.int .i64 15)).bind fun t139 =>
 joinK (boolK t139 fun b16 => bif b16 then
 ((iload true 3 cs1 0).bind fun t140 =>
 (iload false 1 cs3 1).bind fun t143 =>
 (iidx 1 kinds3 t143).bind fun t144 =>
 (hload false 1 H13 t144).bind fun t145 =>
 (iload false 1 cs3 2).bind fun t147 =>
 none)
 else
 (ibin .eql .no t37 (.int .i64 16)).bind fun t161 =>
 joinK (boolK t161 fun b17 => bif b17 then
 ((iload false 1 cs3 1).bind fun t164 =>
 (iload false 1 cs1 0).bind fun t166 =>
 (iload false 1 cs3 2).bind fun t168 =>
 (iidx 1 t166 t168).bind fun t169 =>
 (hload false 1 H13 t169).bind fun t170 =>
 (iidx 1 t32 t164).bind fun t171 =>
 (hstore false 1 lim H13 t171 t170).bind fun H15 =>
 some (.norm ([(.bool true)] ++ []), H15))
 else
 (ibin .eql .no t37 (.int .i64 17)).bind fun t173 =>
 joinK (boolK t173 fun b18 => bif b18 then
 ((iload false 1 cs3 2).bind fun t176 =>
 (iidx 1 kinds3 t176).bind fun t177 =>
 (hload false 1 H13 t177).bind fun t178 =>
 (iload false 1 cs1 0).bind fun t180 =>
 (iload false 1 cs3 1).bind fun t182 =>
 (iidx 1 t180 t182).bind fun t183 =>
 (hload false 1 H13 t183).bind fun t184 =>
 (ibin .eql .no t178 t184).bind fun t185 =>
 some (.norm ([t185] ++ []), H13))
 else
 (ibin .eql .no t37 (.int .i64 18)).bind fun t187 =>
 joinK (boolK t187 fun b19 => bif b19 then
 ((iload false 1 cs3 1).bind fun t190 =>
 (iload false 1 cs2 3).bind fun t192 =>
 (iload false 1 cs3 2).bind fun t194 =>
 (iidx 1 t192 t194).bind fun t195 =>
 (hload false 1 H13 t195).bind fun t196 =>
 (ibin .add .no (.int .i64 64) t196).bind fun t197 =>
 (iidx 1 t32 t190).bind fun t198 =>
 (hstore false 1 lim H13 t198 t197).bind fun H16 =>
 some (.norm ([(.bool true)] ++ []), H16))
 else
 (ibin .eql .no t37 (.int .i64 19)).bind fun t200 =>
 joinK (boolK t200 fun b20 => bif b20 then
 ((iload false 1 cs3 1).bind fun t203 =>
 (iload true 3 cs1 0).bind fun t204 =>
 (iload false 1 cs3 2).bind fun t207 =>
 (iidx 1 kinds3 t207).bind fun t208 =>
 (hload false 1 H13 t208).bind fun t209 =>
 (iload false 1 cs3 3).bind fun t211 =>
 none)
 else
 (ibin .eql .no t37 (.int .i64 20)).bind fun t221 =>
 joinK (boolK t221 fun b21 => bif b21 then
 ((iload true 3 cs1 0).bind fun t222 =>
 (iload false 1 cs3 1).bind fun t225 =>
 (iidx 1 kinds3 t225).bind fun t226 =>
 (hload false 1 H13 t226).bind fun t227 =>
 (iload false 1 cs3 2).bind fun t229 =>
 none)
 else
 (ibin .eql .no t37 (.int .i64 21)).bind fun t243 =>
 joinK (boolK t243 fun b22 => bif b22 then
 (some (.norm ([t243] ++ []), H13))
 else
 (ibin .eql .no t37 (.int .i64 23)).bind fun t244 =>
 joinK (boolK t244 fun b23 => bif b23 then
 (some (.norm ([t244] ++ []), H13))
 else
 (ibin .eql .no t37 (.int .i64 24)).bind fun t245 =>
 some (.norm ([t245] ++ []), H13)) fun vs9 H17 =>
 some (.norm ([(nthV 0 vs9)] ++ []), H17)) fun vs10 H18 =>
 joinK (boolK (nthV 0 vs10) fun b24 => bif b24 then
 ((iload false 1 cs1 2).bind fun t247 =>
 (iload false 1 cs3 2).bind fun t249 =>
 (iidx 5 t247 t249).bind fun t250 =>
 (hload true 5 H18 t250).bind fun t251 =>
 (istore true 5 [(.slice none 0 0), (.int .i64 0), (.int .i64 0), (.slice none 0 0), (.slice none 0 0)] 0 t251).bind fun cs4 =>
 catchK 1 (iloop (fun vs11 H19 =>
 (iload false 1 cs4 0).bind fun t254 =>
 (ilenS t254).bind fun t255 =>
 (ibin .lss .no (nthV 1 vs11) t255).bind fun t256 =>
 (boolK t256 fun b25 => bif b25 then
 (catchK 2 ((gval true (nthV 0 vs11)).bind fun w2 => grpK (bif w2 then
 ((iload false 1 cs3 3).bind fun t263 =>
 (ibin .add .no t263 (nthV 1 vs11)).bind fun t265 =>
 (iidx 1 kinds3 t265).bind fun t266 =>
 (hload false 1 H19 t266).bind fun t267 =>
 (iload false 1 cs4 0).bind fun t269 =>
 (iidx 1 t269 (nthV 1 vs11)).bind fun t271 =>
 (hload false 1 H19 t271).bind fun t272 =>
 (ibin .eql .no t267 t272).bind fun t273 =>
 some ([t273], H19))
 else some ([Value.tuple #[]], H19)) fun vs12 H20 =>
 (pickK (nthV 0 vs11) (nthV 0 vs12) (.bool false)).bind fun t274 =>
 some (.norm ([t274] ++ []), H20)) fun vs13 H21 =>
 (ibin .add .no (nthV 1 vs11) (.int .i64 1)).bind fun t258 =>
 some (.norm ([(nthV 0 vs13), t258] ++ []), H21))
 else
 some (.exit 1 ([(nthV 0 vs11)] ++ []), H19))) N ([(.bool true), (.int .i64 0)] ++ []) H18) fun vs14 H22 =>
 (iload false 1 cs3 0).bind fun t276 =>
 (ibin .eql .no t276 (.int .i64 21)).bind fun t277 =>
 (gval true t277).bind fun w3 => grpK (bif w3 then
 ((iload false 1 cs4 1).bind fun t280 =>
 (ibin .neq .no t280 (.int .i64 0)).bind fun t281 =>
 some ([t281], H22))
 else some ([Value.tuple #[]], H22)) fun vs15 H23 =>
 (pickK t277 (nthV 0 vs15) (.bool false)).bind fun t282 =>
 joinK (boolK t282 fun b28 => bif b28 then
 ((iload false 1 cs3 1).bind fun t285 =>
 (iload false 1 cs4 1).bind fun t287 =>
 (iidx 1 t32 t285).bind fun t288 =>
 (hstore false 1 lim H23 t288 t287).bind fun H24 =>
 some (.norm ([] ++ []), H24))
 else
 some (.norm ([] ++ []), H23)) fun vs16 H25 =>
 some (.norm ([(nthV 0 vs14)] ++ []), H25))
 else
 (ibin .eql .no t37 (.int .i64 22)).bind fun t290 =>
 joinK (boolK t290 fun b29 => bif b29 then
 ((iload false 1 cs2 1).bind fun t292 =>
 (ibin .eql .no t292 (.int .i64 0)).bind fun t293 =>
 (gval false t293).bind fun w4 => grpK (bif w4 then
 ((iload false 1 cs3 1).bind fun t297 =>
 (iidx 1 kinds3 t297).bind fun t298 =>
 (hload false 1 H18 t298).bind fun t299 =>
 (iload false 1 cs2 1).bind fun t301 =>
 (ibin .eql .no t299 t301).bind fun t302 =>
 some ([t302], H18))
 else some ([Value.tuple #[]], H18)) fun vs17 H26 =>
 (pickK t293 (.bool true) (nthV 0 vs17)).bind fun t303 =>
 some (.norm ([t303] ++ []), H26))
 else
 (ibin .eql .no t37 (.int .i64 25)).bind fun t305 =>
 joinK (boolK t305 fun b31 => bif b31 then
 ((iload false 1 cs3 1).bind fun t308 =>
 (iidx 1 kinds3 t308).bind fun t309 =>
 (hload false 1 H18 t309).bind fun t310 =>
 (ibin .eql .no t310 (.int .i64 1)).bind fun t311 =>
 (gval true t311).bind fun w5 => grpK (bif w5 then
 ((iload false 1 cs3 2).bind fun t315 =>
 (iidx 1 kinds3 t315).bind fun t316 =>
 (hload false 1 H18 t316).bind fun t317 =>
 (ibin .eql .no t317 (.int .i64 16)).bind fun t318 =>
 some ([t318], H18))
 else some ([Value.tuple #[]], H18)) fun vs18 H27 =>
 (pickK t311 (nthV 0 vs18) (.bool false)).bind fun t319 =>
 some (.norm ([t319] ++ []), H27))
 else
 (ibin .eql .no t37 (.int .i64 26)).bind fun t321 =>
 joinK (boolK t321 fun b33 => bif b33 then
 ((iload false 1 cs3 1).bind fun t324 =>
 (iidx 1 t32 t324).bind fun t325 =>
 (hstore false 1 lim H18 t325 (.int .i64 1)).bind fun H28 =>
 (iload false 1 cs3 2).bind fun t328 =>
 (iidx 1 t32 t328).bind fun t329 =>
 (hstore false 1 lim H28 t329 (.int .i64 16)).bind fun H29 =>
 some (.norm ([] ++ []), H29))
 else
 some (.norm ([] ++ []), H18)) fun vs19 H30 =>
 some (.norm ([(.bool true)] ++ []), H30)) fun vs20 H31 =>
 some (.norm ([(nthV 0 vs20)] ++ []), H31)) fun vs21 H32 =>
 some (.norm ([(nthV 0 vs21)] ++ []), H32)) fun vs22 H33 =>
 some (.norm ([(nthV 0 vs22)] ++ []), H33)) fun vs23 H34 =>
 some (.norm ([(nthV 0 vs23)] ++ []), H34)) fun vs24 H35 =>
 some (.norm ([(nthV 0 vs24)] ++ []), H35)) fun vs25 H36 =>
 some (.norm ([(nthV 0 vs25)] ++ []), H36)) fun vs26 H37 =>
 some (.norm ([(nthV 0 vs26)] ++ []), H37)) fun vs27 H38 =>
 some (.norm ([(nthV 0 vs27)] ++ []), H38)) fun vs28 H39 =>
 some (.norm ([(nthV 0 vs28)] ++ []), H39)) fun vs29 H40 =>
 some (.norm ([(nthV 0 vs29)] ++ []), H40)) fun vs30 H41 =>
 some (.norm ([(nthV 0 vs30)] ++ []), H41)) fun vs31 H42 =>
 some (.norm ([(nthV 0 vs31)] ++ []), H42)) fun vs32 H43 =>
 some (.norm ([(nthV 0 vs32)] ++ []), H43)) fun vs33 H44 =>
 some (.norm ([(nthV 0 vs33)] ++ []), H44)) fun vs34 H45 =>
 some (.norm ([(nthV 0 vs34)] ++ []), H45)) fun vs35 H46 =>
 some (.norm ([(nthV 0 vs35)] ++ []), H46)) fun vs36 H47 =>
 (iload true 4 cs3 0).bind fun t331 =>
 callK (g156 lim t331 H47) fun t332 H48 =>
 (iextract 0 t332).bind fun t333 =>
 (iextract 1 t332).bind fun t334 =>
 (iun .not (nthV 0 vs36)).bind fun t336 =>
 (gval true t336).bind fun w6 => grpK (bif w6 then
 (some ([t334], H48))
 else some ([Value.tuple #[]], H48)) fun vs37 H49 =>
 (pickK t336 (nthV 0 vs37) (.bool false)).bind fun t339 =>
 (gval true t339).bind fun w7 => grpK (bif w7 then
 ((ilenS t32).bind fun t343 =>
 (ibin .lss .no t333 t343).bind fun t344 =>
 some ([t344], H49))
 else some ([Value.tuple #[]], H49)) fun vs38 H50 =>
 (pickK t339 (nthV 0 vs38) (.bool false)).bind fun t345 =>
 (gval true t345).bind fun w8 => grpK (bif w8 then
 ((iload false 1 cs3 0).bind fun t348 =>
 (ibin .neq .no t348 (.int .i64 21)).bind fun t349 =>
 some ([t349], H50))
 else some ([Value.tuple #[]], H50)) fun vs39 H51 =>
 (gval false (nthV 0 vs39)).bind fun w9 => grpK (bif w9 then
 ((iload false 1 cs1 2).bind fun t352 =>
 (iload false 1 cs3 2).bind fun t354 =>
 (iidx 5 t352 t354).bind fun t355 =>
 (paddr 1 t355).bind fun t356 =>
 (hload false 1 H51 t356).bind fun t357 =>
 (ibin .neq .no t357 (.int .i64 0)).bind fun t358 =>
 some ([t358], H51))
 else some ([Value.tuple #[]], H51)) fun vs40 H52 =>
 (gval true t345).bind fun w10 => grpK (bif w10 then
 ((pickK (nthV 0 vs39) (.bool true) (nthV 0 vs40)).bind fun t359 =>
 some ([t359], H52))
 else some ([Value.tuple #[]], H52)) fun vs41 H53 =>
 (pickK t345 (nthV 0 vs41) (.bool false)).bind fun t360 =>
 joinK (boolK t360 fun b38 => bif b38 then
 ((iidx 1 t32 t333).bind fun t363 =>
 (hstore false 1 lim H53 t363 (.int .i64 0)).bind fun H54 =>
 some (.norm ([] ++ []), H54))
 else
 some (.norm ([] ++ []), H53)) fun vs42 H55 =>
 some (.ret (.tuple ⟨[t32, (nthV 0 vs36)]⟩), H55))
def F83 (N lim : Nat) (a0 a1 a2 a3 : Value) (H : IHeap) : RV := B83 N (F156 N) lim a0 a1 a2 a3 H
def G83 (N : Nat) : G := w4 (F83 N)
theorem eq83 (N : Nat) (g156 : RF1) (lim : Nat) (a0 a1 a2 a3 : Value) (H : IHeap) : ifun Tryz.prog { fn := envOf [(156, Ideal.w1 g156)], wr := [155] } { promo := [4, 10, 11, 16], share := false } N (okOf Tryz.prog { promo := [4, 10, 11, 16], share := false } [155]) Tryz.f83 (.seq (.region []) (.seq (.region []) (.seq (.region []) (.seq (.region []) (.seq (.region []) (.seq (.region []) (.seq (.seq (.region []) (.block [13] [] [16] (.seq (.region []) (.join [13] [] [16] (.region []) (.seq (.region []) (.join [13] [] [16] (.seq (.region []) (.region [])) (.seq (.seq (.region []) (.join [61] [] [] .leaf (.seq (.region []) (.join [61] [] [] .leaf (.seq (.region []) (.join [61] [] [] .leaf (.seq (.region []) (.join [61] [] [] .leaf (.seq (.region []) (.join [61] [] [] .leaf (.region []))))))))))) (.join [13] [] [16] (.seq (.region [[80]]) (.region [])) (.seq (.seq (.region []) (.join [86] [] [] .leaf (.region []))) (.join [13] [] [16] (.region []) (.seq (.seq (.region []) (.join [95] [] [] .leaf (.region []))) (.join [13] [] [16] (.region []) (.seq (.region []) (.join [13] [] [16] (.seq (.region []) (.region [])) (.seq (.region []) (.join [13] [] [16] (.seq (.region []) (.region [])) (.seq (.region []) (.join [13] [] [16] (.seq (.region []) (.region [[158]])) (.seq (.region []) (.join [13] [] [16] (.region []) (.seq (.region []) (.join [13] [] [16] (.region []) (.seq (.region []) (.join [13] [] [16] (.region []) (.seq (.region []) (.join [13] [] [16] (.seq (.region []) (.region [])) (.seq (.region []) (.join [13] [] [16] (.seq (.region []) (.region [[240]])) (.seq (.seq (.region []) (.join [242] [] [] .leaf (.seq (.region []) (.join [242] [] [] .leaf (.region []))))) (.join [13] [] [16] (.seq (.region []) (.seq (.seq (.region []) (.block [13] [] [] (.loop [13, 17] [] [] (.seq (.seq (.region []) (.inl .leaf .leaf)) (.seq (.block [13] [] [] (.region [[273]])) (.region [])))))) (.seq (.region [[281]]) (.join [] [] [] (.region []) .leaf)))) (.seq (.region []) (.join [13] [] [] (.region [[302]]) (.seq (.region []) (.join [13] [] [] (.region [[318]]) (.seq (.region []) (.join [] [] [] (.seq (.region []) (.region [])) .leaf)))))))))))))))))))))))))))))))))))) (.seq (.region []) (.seq (.seq (.region [[338], [344], [350], [358], [359]]) (.join [] [] [] (.region []) .leaf)) (.seq (.region []) .leaf)))))))))) lim [a0, a1, a2, a3] H = B83 N g156 lim a0 a1 a2 a3 H := by kernel_rfl
theorem sim83 (N : Nat) : SimF Tryz.prog 83 (G83 N) := by
  refine SimF.gen [(156, G156 N)] [155] { promo := [4, 10, 11, 16], share := false } N (.seq (.region []) (.seq (.region []) (.seq (.region []) (.seq (.region []) (.seq (.region []) (.seq (.region []) (.seq (.seq (.region []) (.block [13] [] [16] (.seq (.region []) (.join [13] [] [16] (.region []) (.seq (.region []) (.join [13] [] [16] (.seq (.region []) (.region [])) (.seq (.seq (.region []) (.join [61] [] [] .leaf (.seq (.region []) (.join [61] [] [] .leaf (.seq (.region []) (.join [61] [] [] .leaf (.seq (.region []) (.join [61] [] [] .leaf (.seq (.region []) (.join [61] [] [] .leaf (.region []))))))))))) (.join [13] [] [16] (.seq (.region [[80]]) (.region [])) (.seq (.seq (.region []) (.join [86] [] [] .leaf (.region []))) (.join [13] [] [16] (.region []) (.seq (.seq (.region []) (.join [95] [] [] .leaf (.region []))) (.join [13] [] [16] (.region []) (.seq (.region []) (.join [13] [] [16] (.seq (.region []) (.region [])) (.seq (.region []) (.join [13] [] [16] (.seq (.region []) (.region [])) (.seq (.region []) (.join [13] [] [16] (.seq (.region []) (.region [[158]])) (.seq (.region []) (.join [13] [] [16] (.region []) (.seq (.region []) (.join [13] [] [16] (.region []) (.seq (.region []) (.join [13] [] [16] (.region []) (.seq (.region []) (.join [13] [] [16] (.seq (.region []) (.region [])) (.seq (.region []) (.join [13] [] [16] (.seq (.region []) (.region [[240]])) (.seq (.seq (.region []) (.join [242] [] [] .leaf (.seq (.region []) (.join [242] [] [] .leaf (.region []))))) (.join [13] [] [16] (.seq (.region []) (.seq (.seq (.region []) (.block [13] [] [] (.loop [13, 17] [] [] (.seq (.seq (.region []) (.inl .leaf .leaf)) (.seq (.block [13] [] [] (.region [[273]])) (.region [])))))) (.seq (.region [[281]]) (.join [] [] [] (.region []) .leaf)))) (.seq (.region []) (.join [13] [] [] (.region [[302]]) (.seq (.region []) (.join [13] [] [] (.region [[318]]) (.seq (.region []) (.join [] [] [] (.seq (.region []) (.region [])) .leaf)))))))))))))))))))))))))))))))))))) (.seq (.region []) (.seq (.seq (.region [[338], [344], [350], [358], [359]]) (.join [] [] [] (.region []) .leaf)) (.seq (.region []) .leaf)))))))))) Tryz.func83 (by kernel_rfl) (by kernel_rfl) (env_cons (sim156 N) env_nil) ?_
  intro lim args H r h
  unfold G83 w4 at h
  split at h
  · exact (eq83 N (F156 N) lim _ _ _ _ H).trans h
  · simp at h
/-- besom/besomref1.Next -/
def B84 (N : Nat) (lim : Nat) (i0 pc1 : Value) (H : IHeap) : RV :=
 retK ((cellsOf true 4 i0).bind fun cs1 =>
 (iload false 1 cs1 0).bind fun t6 =>
 catchK 0 ((ibin .eql .no t6 (.int .i64 9)).bind fun t8 =>
 (boolK t8 fun b1 => bif b1 then
 ((iload false 1 cs1 2).bind fun t10 =>
 (istore false 1 [(.int .i64 0)] 0 t10).bind fun cs2 =>
 some (.ret (slc 1 H.next 0 1 2), (H.push (.cells cs2 0))))
 else
 (ibin .eql .no t6 (.int .i64 10)).bind fun t13 =>
 (boolK t13 fun b2 => bif b2 then
 ((iload false 1 cs1 2).bind fun t15 =>
 (ibin .add .no pc1 (.int .i64 1)).bind fun t17 =>
 (ibin .eql .no t15 t17).bind fun t18 =>
 (boolK t18 fun b3 => bif b3 then
 ((iload false 1 cs1 2).bind fun t20 =>
 (istore false 1 [(.int .i64 0)] 0 t20).bind fun cs3 =>
 some (.ret (slc 1 H.next 0 1 2), (H.push (.cells cs3 0))))
 else
 (ibin .add .no pc1 (.int .i64 1)).bind fun t23 =>
 (iload false 1 cs1 2).bind fun t25 =>
 (istore false 1 [(.int .i64 0), (.int .i64 0)] 0 t23).bind fun cs4 =>
 (istore false 1 cs4 1 t25).bind fun cs5 =>
 some (.ret (slc 1 H.next 0 2 3), (H.push (.cells cs5 0)))))
 else
 (ibin .eql .no t6 (.int .i64 22)).bind fun t28 =>
 joinK (boolK t28 fun b4 => bif b4 then
 (some (.norm ([t28] ++ []), H))
 else
 (ibin .eql .no t6 (.int .i64 25)).bind fun t29 =>
 joinK (boolK t29 fun b5 => bif b5 then
 (some (.norm ([t29] ++ []), H))
 else
 (ibin .eql .no t6 (.int .i64 27)).bind fun t30 =>
 some (.norm ([t30] ++ []), H)) fun vs1 H1 =>
 some (.norm ([(nthV 0 vs1)] ++ []), H1)) fun vs2 H2 =>
 (boolK (nthV 0 vs2) fun b6 => bif b6 then
 (some (.ret (.slice none 0 0), H2))
 else
 some (.norm ([] ++ []), H2))))) fun vs3 H3 =>
 (ibin .add .no pc1 (.int .i64 1)).bind fun t32 =>
 (istore false 1 [(.int .i64 0)] 0 t32).bind fun cs6 =>
 some (.ret (slc 1 H3.next 0 1 2), (H3.push (.cells cs6 0))))
def F84 (N lim : Nat) (a0 a1 : Value) (H : IHeap) : RV := B84 N lim a0 a1 H
def G84 (N : Nat) : G := w2 (F84 N)
theorem eq84 (N : Nat) (lim : Nat) (a0 a1 : Value) (H : IHeap) : ifun Tryz.prog { fn := envOf [], wr := [] } { promo := [2], share := false } N (okOf Tryz.prog { promo := [2], share := false } []) Tryz.f84 (.seq (.region []) (.seq (.seq (.region []) (.block [] [] [] (.seq (.region []) (.inl (.seq (.region []) .leaf) (.seq (.region []) (.inl (.seq (.seq (.region []) (.inl (.seq (.region []) .leaf) .leaf)) (.seq (.region []) .leaf)) (.seq (.seq (.region []) (.join [27] [] [] .leaf (.seq (.region []) (.join [27] [] [] .leaf (.region []))))) (.inl (.seq (.region []) .leaf) .leaf)))))))) (.seq (.region []) .leaf))) lim [a0, a1] H = B84 N lim a0 a1 H := by kernel_rfl
theorem sim84 (N : Nat) : SimF Tryz.prog 84 (G84 N) := by
  refine SimF.gen [] [] { promo := [2], share := false } N (.seq (.region []) (.seq (.seq (.region []) (.block [] [] [] (.seq (.region []) (.inl (.seq (.region []) .leaf) (.seq (.region []) (.inl (.seq (.seq (.region []) (.inl (.seq (.region []) .leaf) .leaf)) (.seq (.region []) .leaf)) (.seq (.seq (.region []) (.join [27] [] [] .leaf (.seq (.region []) (.join [27] [] [] .leaf (.region []))))) (.inl (.seq (.region []) .leaf) .leaf)))))))) (.seq (.region []) .leaf))) Tryz.func84 (by kernel_rfl) (by kernel_rfl) env_nil ?_
  intro lim args H r h
  unfold G84 w2 at h
  split at h
  · exact (eq84 N lim _ _ H).trans h
  · simp at h
/-- besom/besomref1.Join -/
def B85 (N : Nat) (lim : Nat) (a0 b1 : Value) (H : IHeap) : RV :=
 retK (catchK 0 (iloop (fun vs1 H1 =>
 (ilenS a0).bind fun t9 =>
 (ibin .lss .no (nthV 1 vs1) t9).bind fun t10 =>
 (gval true t10).bind fun w1 => grpK (bif w1 then
 ((ilenS b1).bind fun t14 =>
 (ibin .lss .no (nthV 1 vs1) t14).bind fun t15 =>
 some ([t15], H1))
 else some ([Value.tuple #[]], H1)) fun vs2 H2 =>
 (pickK t10 (nthV 0 vs2) (.bool false)).bind fun t16 =>
 (boolK t16 fun b3 => bif b3 then
 (catchK 1 ((iidx 1 a0 (nthV 1 vs1)).bind fun t21 =>
 (hload false 1 H2 t21).bind fun t22 =>
 (iidx 1 b1 (nthV 1 vs1)).bind fun t25 =>
 (hload false 1 H2 t25).bind fun t26 =>
 (ibin .eql .no t22 t26).bind fun t27 =>
 joinK (boolK t27 fun b4 => bif b4 then
 ((iidx 1 a0 (nthV 1 vs1)).bind fun t31 =>
 (hload false 1 H2 t31).bind fun t32 =>
 (istore false 1 [(.int .i64 0)] 0 t32).bind fun cs1 =>
 rowK (lrow 1 1 cs1) fun m1 new1 =>
 callK (iappend false 1 8 lim H2 (nthV 0 vs1) m1 new1) fun t34 H3 =>
 some (.norm ([t34] ++ []), H3))
 else
 (istore false 1 [(.int .i64 0)] 0 (.int .i64 0)).bind fun cs2 =>
 rowK (lrow 1 1 cs2) fun m2 new2 =>
 callK (iappend false 1 8 lim H2 (nthV 0 vs1) m2 new2) fun t37 H4 =>
 some (.norm ([t37] ++ []), H4)) fun vs3 H5 =>
 some (.norm ([(nthV 0 vs3)] ++ []), H5)) fun vs4 H6 =>
 (ibin .add .no (nthV 1 vs1) (.int .i64 1)).bind fun t18 =>
 some (.norm ([(nthV 0 vs4), t18] ++ []), H6))
 else
 some (.exit 0 ([(nthV 0 vs1)] ++ []), H2))) N ([(.slice none 0 0), (.int .i64 0)] ++ []) H) fun vs5 H7 =>
 some (.ret (nthV 0 vs5), H7))
def F85 (N lim : Nat) (a0 a1 : Value) (H : IHeap) : RV := B85 N lim a0 a1 H
def G85 (N : Nat) : G := w2 (F85 N)
theorem eq85 (N : Nat) (lim : Nat) (a0 a1 : Value) (H : IHeap) : ifun Tryz.prog { fn := envOf [], wr := [] } { promo := [33, 36], share := false } N (okOf Tryz.prog { promo := [33, 36], share := false } []) Tryz.f85 (.seq (.region []) (.seq (.region []) (.seq (.seq (.region []) (.block [5] [] [33, 36] (.loop [5, 6] [] [33, 36] (.seq (.seq (.region [[15]]) (.inl .leaf .leaf)) (.seq (.block [5] [] [33, 36] (.seq (.region []) (.join [5] [] [33, 36] (.region []) (.region [])))) (.region [])))))) (.seq (.region []) .leaf)))) lim [a0, a1] H = B85 N lim a0 a1 H := by kernel_rfl
theorem sim85 (N : Nat) : SimF Tryz.prog 85 (G85 N) := by
  refine SimF.gen [] [] { promo := [33, 36], share := false } N (.seq (.region []) (.seq (.region []) (.seq (.seq (.region []) (.block [5] [] [33, 36] (.loop [5, 6] [] [33, 36] (.seq (.seq (.region [[15]]) (.inl .leaf .leaf)) (.seq (.block [5] [] [33, 36] (.seq (.region []) (.join [5] [] [33, 36] (.region []) (.region [])))) (.region [])))))) (.seq (.region []) .leaf)))) Tryz.func85 (by kernel_rfl) (by kernel_rfl) env_nil ?_
  intro lim args H r h
  unfold G85 w2 at h
  split at h
  · exact (eq85 N lim _ _ H).trans h
  · simp at h
/-- besom/besomref1.ints -/
def B86 (N : Nat) (lim : Nat) (a0 b1 : Value) (H : IHeap) : RV :=
 retK ((ilenS a0).bind fun t7 =>
 (ilenS b1).bind fun t9 =>
 (ibin .neq .no t7 t9).bind fun t10 =>
 (boolK t10 fun b2 => bif b2 then
 (some (.ret (.bool false), H))
 else
 catchK 0 (iloop (fun vs1 H1 =>
 (ilenS a0).bind fun t13 =>
 (ibin .lss .no (nthV 0 vs1) t13).bind fun t14 =>
 (boolK t14 fun b3 => bif b3 then
 (catchK 1 ((iidx 1 a0 (nthV 0 vs1)).bind fun t19 =>
 (hload false 1 H1 t19).bind fun t20 =>
 (iidx 1 b1 (nthV 0 vs1)).bind fun t23 =>
 (hload false 1 H1 t23).bind fun t24 =>
 (ibin .neq .no t20 t24).bind fun t25 =>
 (boolK t25 fun b4 => bif b4 then
 (some (.ret (.bool false), H1))
 else
 some (.norm ([] ++ []), H1))) fun vs2 H2 =>
 (ibin .add .no (nthV 0 vs1) (.int .i64 1)).bind fun t16 =>
 some (.norm ([t16] ++ []), H2))
 else
 some (.exit 0 ([] ++ []), H1))) N ([(.int .i64 0)] ++ []) H) fun vs3 H3 =>
 some (.ret (.bool true), H3)))
def F86 (N lim : Nat) (a0 a1 : Value) (H : IHeap) : RV := B86 N lim a0 a1 H
def G86 (N : Nat) : G := w2 (F86 N)
theorem eq86 (N : Nat) (lim : Nat) (a0 a1 : Value) (H : IHeap) : ifun Tryz.prog { fn := envOf [], wr := [] } { promo := [], share := false } N (okOf Tryz.prog { promo := [], share := false } []) Tryz.f86 (.seq (.region []) (.seq (.seq (.region []) (.inl (.seq (.region []) .leaf) .leaf)) (.seq (.seq (.region []) (.block [] [] [] (.loop [5] [] [] (.seq (.seq (.region []) (.inl .leaf .leaf)) (.seq (.block [] [] [] (.seq (.region []) (.inl (.seq (.region []) .leaf) .leaf))) (.region [])))))) (.seq (.region []) .leaf)))) lim [a0, a1] H = B86 N lim a0 a1 H := by kernel_rfl
theorem sim86 (N : Nat) : SimF Tryz.prog 86 (G86 N) := by
  refine SimF.gen [] [] { promo := [], share := false } N (.seq (.region []) (.seq (.seq (.region []) (.inl (.seq (.region []) .leaf) .leaf)) (.seq (.seq (.region []) (.block [] [] [] (.loop [5] [] [] (.seq (.seq (.region []) (.inl .leaf .leaf)) (.seq (.block [] [] [] (.seq (.region []) (.inl (.seq (.region []) .leaf) .leaf))) (.region [])))))) (.seq (.region []) .leaf)))) Tryz.func86 (by kernel_rfl) (by kernel_rfl) env_nil ?_
  intro lim args H r h
  unfold G86 w2 at h
  split at h
  · exact (eq86 N lim _ _ H).trans h
  · simp at h
/-- besom/besomref1.Flow -/
def B33 (N : Nat) (g83 : RF4) (g84 : RF2) (g85 : RF2) (g86 : RF2) (lim : Nat) (p0 fn1 : Value) (H : IHeap) : RV :=
 retK ((cellsOf true 3 p0).bind fun cs1 =>
 (iload false 1 cs1 2).bind fun t28 =>
 (iidx 5 t28 fn1).bind fun t30 =>
 (hload true 5 H t30).bind fun t31 =>
 (istore true 5 [(.slice none 0 0), (.int .i64 0), (.int .i64 0), (.slice none 0 0), (.slice none 0 0)] 0 t31).bind fun cs2 =>
 (iload false 1 cs2 4).bind fun t33 =>
 (ilenS t33).bind fun t34 =>
 callK (imake 24 [(.slice none 0 0)] H t34 t34) fun t35 H1 =>
 (iload false 1 cs2 4).bind fun t37 =>
 (ilenS t37).bind fun t38 =>
 callK (imake 1 [(.bool false)] H1 t38 t38) fun t39 H2 =>
 (iload false 1 cs2 2).bind fun t41 =>
 callK (imake 8 [(.int .i64 0)] H2 t41 t41) fun t42 H3 =>
 catchK 0 (iloop (fun vs1 H4 =>
 (iload false 1 cs2 0).bind fun t45 =>
 (ilenS t45).bind fun t46 =>
 (ibin .lss .no (nthV 0 vs1) t46).bind fun t47 =>
 (boolK t47 fun b1 => bif b1 then
 (catchK 1 ((iload false 1 cs2 0).bind fun t53 =>
 (iidx 1 t53 (nthV 0 vs1)).bind fun t55 =>
 (hload false 1 H4 t55).bind fun t56 =>
 (iidx 1 t42 (nthV 0 vs1)).bind fun t57 =>
 (hstore false 1 lim H4 t57 t56).bind fun H5 =>
 some (.norm ([] ++ []), H5)) fun vs2 H6 =>
 (ibin .add .no (nthV 0 vs1) (.int .i64 1)).bind fun t49 =>
 some (.norm ([t49] ++ []), H6))
 else
 some (.exit 0 ([] ++ []), H4))) N ([(.int .i64 0)] ++ []) H3) fun vs3 H7 =>
 (iidx 1 t35 (.int .i64 0)).bind fun t61 =>
 (hstore false 1 lim H7 t61 t42).bind fun H8 =>
 (iidx 1 t39 (.int .i64 0)).bind fun t62 =>
 (hstore false 1 lim H8 t62 (.bool true)).bind fun H9 =>
 catchK 2 (iloop (fun vs4 H10 =>
 (boolK (nthV 0 vs4) fun b2 => bif b2 then
 (catchK 3 (catchK 4 (iloop (fun vs5 H11 =>
 (iload false 1 cs2 4).bind fun t66 =>
 (ilenS t66).bind fun t67 =>
 (ibin .lss .no (nthV 1 vs5) t67).bind fun t68 =>
 (boolK t68 fun b3 => bif b3 then
 (catchK 5 ((iidx 1 t39 (nthV 1 vs5)).bind fun t73 =>
 (hload false 1 H11 t73).bind fun t74 =>
 (iun .not t74).bind fun t75 =>
 (boolK t75 fun b4 => bif b4 then
 (some (.exit 5 ([(nthV 0 vs5)] ++ []), H11))
 else
 (iload true 3 cs1 0).bind fun t77 =>
 (iidx 1 t35 (nthV 1 vs5)).bind fun t82 =>
 (hload false 1 H11 t82).bind fun t83 =>
 callK (g83 lim t77 fn1 (nthV 1 vs5) t83 H11) fun t84 H12 =>
 (iextract 0 t84).bind fun t85 =>
 (iextract 1 t84).bind fun t86 =>
 (iload false 1 cs2 4).bind fun t88 =>
 (iidx 4 t88 (nthV 1 vs5)).bind fun t90 =>
 (hload true 4 H12 t90).bind fun t91 =>
 callK (g84 lim t91 (nthV 1 vs5) H12) fun t93 H13 =>
 catchK 6 (iloop (fun vs6 H14 =>
 (ilenS t93).bind fun t96 =>
 (ibin .lss .no (nthV 1 vs6) t96).bind fun t97 =>
 (boolK t97 fun b5 => bif b5 then
 (catchK 7 ((iidx 1 t93 (nthV 1 vs6)).bind fun t102 =>
 (hload false 1 H14 t102).bind fun t103 =>
 (iload false 1 cs2 4).bind fun t106 =>
 (ilenS t106).bind fun t107 =>
 (ibin .geq .no t103 t107).bind fun t108 =>
 (boolK t108 fun b6 => bif b6 then
 (some (.exit 7 ([(nthV 0 vs6)] ++ []), H14))
 else
 (iidx 1 t39 t103).bind fun t111 =>
 (hload false 1 H14 t111).bind fun t112 =>
 (iun .not t112).bind fun t113 =>
 (boolK t113 fun b7 => bif b7 then
 ((iidx 1 t35 t103).bind fun t119 =>
 (hstore false 1 lim H14 t119 t85).bind fun H15 =>
 (iidx 1 t39 t103).bind fun t120 =>
 (hstore false 1 lim H15 t120 (.bool true)).bind fun H16 =>
 some (.exit 7 ([(.bool true)] ++ []), H16))
 else
 (iidx 1 t35 t103).bind fun t123 =>
 (hload false 1 H14 t123).bind fun t124 =>
 callK (g85 lim t124 t85 H14) fun t126 H17 =>
 (iidx 1 t35 t103).bind fun t130 =>
 (hload false 1 H17 t130).bind fun t131 =>
 callK (g86 lim t126 t131 H17) fun t132 H18 =>
 (iun .not t132).bind fun t133 =>
 joinK (boolK t133 fun b8 => bif b8 then
 ((iidx 1 t35 t103).bind fun t137 =>
 (hstore false 1 lim H18 t137 t126).bind fun H19 =>
 some (.norm ([(.bool true)] ++ []), H19))
 else
 some (.norm ([(nthV 0 vs6)] ++ []), H18)) fun vs7 H20 =>
 some (.norm ([(nthV 0 vs7)] ++ []), H20)))) fun vs8 H21 =>
 (ibin .add .no (nthV 1 vs6) (.int .i64 1)).bind fun t99 =>
 some (.norm ([(nthV 0 vs8), t99] ++ []), H21))
 else
 some (.exit 6 ([(nthV 0 vs6)] ++ []), H14))) N ([(nthV 0 vs5), (.int .i64 0)] ++ []) H13) fun vs9 H22 =>
 some (.norm ([(nthV 0 vs9)] ++ []), H22))) fun vs10 H23 =>
 (ibin .add .no (nthV 1 vs5) (.int .i64 1)).bind fun t70 =>
 some (.norm ([(nthV 0 vs10), t70] ++ []), H23))
 else
 some (.exit 4 ([(nthV 0 vs5)] ++ []), H11))) N ([(.bool false), (.int .i64 0)] ++ []) H10) fun vs11 H24 =>
 some (.norm ([(nthV 0 vs11)] ++ []), H24)) fun vs12 H25 =>
 some (.norm ([(nthV 0 vs12)] ++ []), H25))
 else
 some (.exit 2 ([] ++ []), H10))) N ([(.bool true)] ++ []) H9) fun vs13 H26 =>
 catchK 8 (iloop (fun vs14 H27 =>
 (iload false 1 cs2 4).bind fun t140 =>
 (ilenS t140).bind fun t141 =>
 (ibin .lss .no (nthV 0 vs14) t141).bind fun t142 =>
 (boolK t142 fun b9 => bif b9 then
 (catchK 9 ((iload false 1 cs2 4).bind fun t146 =>
 (iidx 4 t146 (nthV 0 vs14)).bind fun t148 =>
 (hload true 4 H27 t148).bind fun t149 =>
 callK (g84 lim t149 (nthV 0 vs14) H27) fun t151 H28 =>
 catchK 10 (iloop (fun vs15 H29 =>
 (ilenS t151).bind fun t154 =>
 (ibin .lss .no (nthV 0 vs15) t154).bind fun t155 =>
 (gval true t155).bind fun w1 => grpK (bif w1 then
 ((iidx 1 t39 (nthV 0 vs14)).bind fun t159 =>
 (hload false 1 H29 t159).bind fun t160 =>
 some ([t160], H29))
 else some ([Value.tuple #[]], H29)) fun vs16 H30 =>
 (pickK t155 (nthV 0 vs16) (.bool false)).bind fun t161 =>
 (boolK t161 fun b11 => bif b11 then
 (catchK 11 ((iidx 1 t151 (nthV 0 vs15)).bind fun t166 =>
 (hload false 1 H30 t166).bind fun t167 =>
 (iload false 1 cs2 4).bind fun t169 =>
 (ilenS t169).bind fun t170 =>
 (ibin .geq .no t167 t170).bind fun t171 =>
 (boolK t171 fun b12 => bif b12 then
 (some (.ret (.tuple ⟨[t35, (.int .i64 7), (nthV 0 vs14)]⟩), H30))
 else
 some (.norm ([] ++ []), H30))) fun vs17 H31 =>
 (ibin .add .no (nthV 0 vs15) (.int .i64 1)).bind fun t163 =>
 some (.norm ([t163] ++ []), H31))
 else
 some (.exit 10 ([] ++ []), H30))) N ([(.int .i64 0)] ++ []) H28) fun vs18 H32 =>
 some (.norm ([] ++ []), H32)) fun vs19 H33 =>
 (ibin .add .no (nthV 0 vs14) (.int .i64 1)).bind fun t144 =>
 some (.norm ([t144] ++ []), H33))
 else
 some (.exit 8 ([] ++ []), H27))) N ([(.int .i64 0)] ++ []) H26) fun vs20 H34 =>
 catchK 12 (iloop (fun vs21 H35 =>
 (iload false 1 cs2 4).bind fun t176 =>
 (ilenS t176).bind fun t177 =>
 (ibin .lss .no (nthV 0 vs21) t177).bind fun t178 =>
 (boolK t178 fun b13 => bif b13 then
 (catchK 13 ((iidx 1 t39 (nthV 0 vs21)).bind fun t183 =>
 (hload false 1 H35 t183).bind fun t184 =>
 (iun .not t184).bind fun t185 =>
 (boolK t185 fun b14 => bif b14 then
 (some (.exit 13 ([] ++ []), H35))
 else
 (iload true 3 cs1 0).bind fun t187 =>
 (iidx 1 t35 (nthV 0 vs21)).bind fun t192 =>
 (hload false 1 H35 t192).bind fun t193 =>
 callK (g83 lim t187 fn1 (nthV 0 vs21) t193 H35) fun t194 H36 =>
 (iextract 0 t194).bind fun t195 =>
 (iextract 1 t194).bind fun t196 =>
 (iun .not t196).bind fun t198 =>
 (boolK t198 fun b15 => bif b15 then
 (some (.ret (.tuple ⟨[t35, (.int .i64 3), (nthV 0 vs21)]⟩), H36))
 else
 some (.norm ([] ++ []), H36)))) fun vs22 H37 =>
 (ibin .add .no (nthV 0 vs21) (.int .i64 1)).bind fun t180 =>
 some (.norm ([t180] ++ []), H37))
 else
 some (.exit 12 ([] ++ []), H35))) N ([(.int .i64 0)] ++ []) H34) fun vs23 H38 =>
 catchK 14 (iloop (fun vs24 H39 =>
 (iload false 1 cs2 4).bind fun t203 =>
 (ilenS t203).bind fun t204 =>
 (ibin .lss .no (nthV 0 vs24) t204).bind fun t205 =>
 (boolK t205 fun b16 => bif b16 then
 (catchK 15 ((iidx 1 t39 (nthV 0 vs24)).bind fun t210 =>
 (hload false 1 H39 t210).bind fun t211 =>
 (iun .not t211).bind fun t212 =>
 joinK (boolK t212 fun b17 => bif b17 then
 ((iidx 1 t35 (nthV 0 vs24)).bind fun t215 =>
 (hstore false 1 lim H39 t215 (.slice none 0 0)).bind fun H40 =>
 some (.norm ([] ++ []), H40))
 else
 some (.norm ([] ++ []), H39)) fun vs25 H41 =>
 some (.norm ([] ++ []), H41)) fun vs26 H42 =>
 (ibin .add .no (nthV 0 vs24) (.int .i64 1)).bind fun t207 =>
 some (.norm ([t207] ++ []), H42))
 else
 some (.exit 14 ([] ++ []), H39))) N ([(.int .i64 0)] ++ []) H38) fun vs27 H43 =>
 some (.ret (.tuple ⟨[t35, (.int .i64 0), (.int .i64 0)]⟩), H43))
def F33 (N lim : Nat) (a0 a1 : Value) (H : IHeap) : RV := B33 N (F83 N) (F84 N) (F85 N) (F86 N) lim a0 a1 H
def G33 (N : Nat) : G := w2 (F33 N)
theorem eq33 (N : Nat) (g83 : RF4) (g84 : RF2) (g85 : RF2) (g86 : RF2) (lim : Nat) (a0 a1 : Value) (H : IHeap) : ifun Tryz.prog { fn := envOf [(83, Ideal.w4 g83), (84, Ideal.w2 g84), (85, Ideal.w2 g85), (86, Ideal.w2 g86)], wr := [83] } { promo := [2, 7], share := false } N (okOf Tryz.prog { promo := [2, 7], share := false } [83]) Tryz.f33 (.seq (.region []) (.seq (.region []) (.seq (.region []) (.seq (.region []) (.seq (.region []) (.seq (.seq (.region []) (.block [] [] [] (.loop [11] [] [] (.seq (.seq (.region []) (.inl .leaf .leaf)) (.seq (.block [] [] [] (.region [])) (.region [])))))) (.seq (.region []) (.seq (.region []) (.seq (.block [] [] [] (.loop [12] [] [] (.seq (.seq (.region []) (.inl .leaf .leaf)) (.block [12] [] [] (.seq (.region []) (.seq (.region []) (.block [12] [] [] (.loop [12, 13] [] [] (.seq (.seq (.region []) (.inl .leaf .leaf)) (.seq (.block [12] [] [] (.seq (.seq (.region []) (.inl .leaf .leaf)) (.seq (.region []) (.seq (.region []) (.seq (.region []) (.block [12] [] [] (.loop [12, 17] [] [] (.seq (.seq (.region []) (.inl .leaf .leaf)) (.seq (.block [12] [] [] (.seq (.region []) (.seq (.seq (.region []) (.inl .leaf .leaf)) (.seq (.seq (.region []) (.inl (.seq (.region []) .leaf) .leaf)) (.seq (.region []) (.seq (.region []) (.join [12] [] [] (.region []) .leaf))))))) (.region [])))))))))) (.region []))))))))))) (.seq (.seq (.region []) (.block [] [] [] (.loop [20] [] [] (.seq (.seq (.region []) (.inl .leaf .leaf)) (.seq (.block [] [] [] (.seq (.region []) (.seq (.region []) (.block [] [] [] (.loop [22] [] [] (.seq (.seq (.region [[160]]) (.inl .leaf .leaf)) (.seq (.block [] [] [] (.seq (.region []) (.inl (.seq (.region []) .leaf) .leaf))) (.region [])))))))) (.region [])))))) (.seq (.seq (.region []) (.block [] [] [] (.loop [23] [] [] (.seq (.seq (.region []) (.inl .leaf .leaf)) (.seq (.block [] [] [] (.seq (.seq (.region []) (.inl .leaf .leaf)) (.seq (.region []) (.seq (.region []) (.inl (.seq (.region []) .leaf) .leaf))))) (.region [])))))) (.seq (.seq (.region []) (.block [] [] [] (.loop [26] [] [] (.seq (.seq (.region []) (.inl .leaf .leaf)) (.seq (.block [] [] [] (.seq (.region []) (.join [] [] [] (.region []) .leaf))) (.region [])))))) (.seq (.region []) .leaf))))))))))))) lim [a0, a1] H = B33 N g83 g84 g85 g86 lim a0 a1 H := by kernel_rfl
theorem sim33 (N : Nat) : SimF Tryz.prog 33 (G33 N) := by
  refine SimF.gen [(83, G83 N), (84, G84 N), (85, G85 N), (86, G86 N)] [83] { promo := [2, 7], share := false } N (.seq (.region []) (.seq (.region []) (.seq (.region []) (.seq (.region []) (.seq (.region []) (.seq (.seq (.region []) (.block [] [] [] (.loop [11] [] [] (.seq (.seq (.region []) (.inl .leaf .leaf)) (.seq (.block [] [] [] (.region [])) (.region [])))))) (.seq (.region []) (.seq (.region []) (.seq (.block [] [] [] (.loop [12] [] [] (.seq (.seq (.region []) (.inl .leaf .leaf)) (.block [12] [] [] (.seq (.region []) (.seq (.region []) (.block [12] [] [] (.loop [12, 13] [] [] (.seq (.seq (.region []) (.inl .leaf .leaf)) (.seq (.block [12] [] [] (.seq (.seq (.region []) (.inl .leaf .leaf)) (.seq (.region []) (.seq (.region []) (.seq (.region []) (.block [12] [] [] (.loop [12, 17] [] [] (.seq (.seq (.region []) (.inl .leaf .leaf)) (.seq (.block [12] [] [] (.seq (.region []) (.seq (.seq (.region []) (.inl .leaf .leaf)) (.seq (.seq (.region []) (.inl (.seq (.region []) .leaf) .leaf)) (.seq (.region []) (.seq (.region []) (.join [12] [] [] (.region []) .leaf))))))) (.region [])))))))))) (.region []))))))))))) (.seq (.seq (.region []) (.block [] [] [] (.loop [20] [] [] (.seq (.seq (.region []) (.inl .leaf .leaf)) (.seq (.block [] [] [] (.seq (.region []) (.seq (.region []) (.block [] [] [] (.loop [22] [] [] (.seq (.seq (.region [[160]]) (.inl .leaf .leaf)) (.seq (.block [] [] [] (.seq (.region []) (.inl (.seq (.region []) .leaf) .leaf))) (.region [])))))))) (.region [])))))) (.seq (.seq (.region []) (.block [] [] [] (.loop [23] [] [] (.seq (.seq (.region []) (.inl .leaf .leaf)) (.seq (.block [] [] [] (.seq (.seq (.region []) (.inl .leaf .leaf)) (.seq (.region []) (.seq (.region []) (.inl (.seq (.region []) .leaf) .leaf))))) (.region [])))))) (.seq (.seq (.region []) (.block [] [] [] (.loop [26] [] [] (.seq (.seq (.region []) (.inl .leaf .leaf)) (.seq (.block [] [] [] (.seq (.region []) (.join [] [] [] (.region []) .leaf))) (.region [])))))) (.seq (.region []) .leaf))))))))))))) Tryz.func33 (by kernel_rfl) (by kernel_rfl) (env_cons (sim83 N) (env_cons (sim84 N) (env_cons (sim85 N) (env_cons (sim86 N) env_nil)))) ?_
  intro lim args H r h
  unfold G33 w2 at h
  split at h
  · exact (eq33 N (F83 N) (F84 N) (F85 N) (F86 N) lim _ _ H).trans h
  · simp at h
/-- besom/besomref1.Verify -/
def B13 (N : Nat) (g32 : RF1) (g33 : RF2) (lim : Nat) (p0 : Value) (H : IHeap) : RV :=
 retK ((cellsOf true 3 p0).bind fun cs1 =>
 (iload true 3 cs1 0).bind fun t15 =>
 callK (g32 lim t15 H) fun t16 H1 =>
 (iextract 0 t16).bind fun t17 =>
 (iextract 1 t16).bind fun t18 =>
 (iextract 2 t16).bind fun t19 =>
 (ibin .neq .no t17 (.int .i64 0)).bind fun t21 =>
 (boolK t21 fun b1 => bif b1 then
 (some (.ret (.tuple ⟨[(.slice none 0 0), t17, t18, t19]⟩), H1))
 else
 catchK 0 (iloop (fun vs1 H2 =>
 (iload false 1 cs1 2).bind fun t27 =>
 (ilenS t27).bind fun t28 =>
 (ibin .lss .no (nthV 1 vs1) t28).bind fun t29 =>
 (boolK t29 fun b2 => bif b2 then
 (catchK 1 ((iload true 3 cs1 0).bind fun t33 =>
 callK (g33 lim t33 (nthV 1 vs1) H2) fun t35 H3 =>
 (iextract 0 t35).bind fun t36 =>
 (iextract 1 t35).bind fun t37 =>
 (iextract 2 t35).bind fun t38 =>
 (ibin .neq .no t37 (.int .i64 0)).bind fun t40 =>
 (boolK t40 fun b3 => bif b3 then
 (some (.ret (.tuple ⟨[(.slice none 0 0), t37, (nthV 1 vs1), t38]⟩), H3))
 else
 (istore false 1 [(.slice none 0 0)] 0 t36).bind fun cs2 =>
 rowK (lrow 1 1 cs2) fun m1 new1 =>
 callK (iappend false 1 24 lim H3 (nthV 0 vs1) m1 new1) fun t47 H4 =>
 some (.norm ([t47] ++ []), H4))) fun vs2 H5 =>
 (ibin .add .no (nthV 1 vs1) (.int .i64 1)).bind fun t31 =>
 some (.norm ([(nthV 0 vs2), t31] ++ []), H5))
 else
 some (.exit 0 ([(nthV 0 vs1)] ++ []), H2))) N ([(.slice none 0 0), (.int .i64 0)] ++ []) H1) fun vs3 H6 =>
 some (.ret (.tuple ⟨[(nthV 0 vs3), (.int .i64 0), (.int .i64 0), (.int .i64 0)]⟩), H6)))
def F13 (N lim : Nat) (a0 : Value) (H : IHeap) : RV := B13 N (F32 N) (F33 N) lim a0 H
def G13 (N : Nat) : G := w1 (F13 N)
theorem eq13 (N : Nat) (g32 : RF1) (g33 : RF2) (lim : Nat) (a0 : Value) (H : IHeap) : ifun Tryz.prog { fn := envOf [(32, Ideal.w1 g32), (33, Ideal.w2 g33)], wr := [] } { promo := [1, 46], share := false } N (okOf Tryz.prog { promo := [1, 46], share := false } []) Tryz.f13 (.seq (.region []) (.seq (.region []) (.seq (.seq (.region []) (.inl (.seq (.region []) .leaf) .leaf)) (.seq (.region []) (.seq (.seq (.region []) (.block [9] [] [46] (.loop [9, 10] [] [46] (.seq (.seq (.region []) (.inl .leaf .leaf)) (.seq (.block [9] [] [46] (.seq (.region []) (.seq (.seq (.region []) (.inl (.seq (.region []) .leaf) .leaf)) (.region [])))) (.region [])))))) (.seq (.region []) .leaf)))))) lim [a0] H = B13 N g32 g33 lim a0 H := by kernel_rfl
theorem sim13 (N : Nat) : SimF Tryz.prog 13 (G13 N) := by
  refine SimF.gen [(32, G32 N), (33, G33 N)] [] { promo := [1, 46], share := false } N (.seq (.region []) (.seq (.region []) (.seq (.seq (.region []) (.inl (.seq (.region []) .leaf) .leaf)) (.seq (.region []) (.seq (.seq (.region []) (.block [9] [] [46] (.loop [9, 10] [] [46] (.seq (.seq (.region []) (.inl .leaf .leaf)) (.seq (.block [9] [] [46] (.seq (.region []) (.seq (.seq (.region []) (.inl (.seq (.region []) .leaf) .leaf)) (.region [])))) (.region [])))))) (.seq (.region []) .leaf)))))) Tryz.func13 (by kernel_rfl) (by kernel_rfl) (env_cons (sim32 N) (env_cons (sim33 N) env_nil)) ?_
  intro lim args H r h
  unfold G13 w1 at h
  split at h
  · exact (eq13 N (F32 N) (F33 N) lim _ H).trans h
  · simp at h
/-- besom/besomref1.Words -/
def B87 (N : Nat) (lim : Nat) (shapes0 l1 : Value) (H : IHeap) : RV :=
 retK (catchK 0 (iloop (fun vs1 H1 =>
 (ilenS l1).bind fun t9 =>
 (ibin .lss .no (nthV 1 vs1) t9).bind fun t10 =>
 (boolK t10 fun b1 => bif b1 then
 (catchK 1 ((iidx 1 l1 (nthV 1 vs1)).bind fun t15 =>
 (hload false 1 H1 t15).bind fun t16 =>
 (ibin .geq .no t16 (.int .i64 0)).bind fun t17 =>
 (gval true t17).bind fun w1 => grpK (bif w1 then
 ((iidx 1 l1 (nthV 1 vs1)).bind fun t21 =>
 (hload false 1 H1 t21).bind fun t22 =>
 (ilenS shapes0).bind fun t24 =>
 (ibin .lss .no t22 t24).bind fun t25 =>
 some ([t25], H1))
 else some ([Value.tuple #[]], H1)) fun vs2 H2 =>
 (pickK t17 (nthV 0 vs2) (.bool false)).bind fun t26 =>
 joinK (boolK t26 fun b3 => bif b3 then
 ((iidx 1 l1 (nthV 1 vs1)).bind fun t31 =>
 (hload false 1 H2 t31).bind fun t32 =>
 (iidx 1 shapes0 t32).bind fun t33 =>
 (paddr 0 t33).bind fun t34 =>
 (hload false 1 H2 t34).bind fun t35 =>
 (ilenS t35).bind fun t36 =>
 (ibin .add .no (nthV 0 vs1) t36).bind fun t37 =>
 some (.norm ([t37] ++ []), H2))
 else
 some (.norm ([(nthV 0 vs1)] ++ []), H2)) fun vs3 H3 =>
 some (.norm ([(nthV 0 vs3)] ++ []), H3)) fun vs4 H4 =>
 (ibin .add .no (nthV 1 vs1) (.int .i64 1)).bind fun t12 =>
 some (.norm ([(nthV 0 vs4), t12] ++ []), H4))
 else
 some (.exit 0 ([(nthV 0 vs1)] ++ []), H1))) N ([(.int .i64 0), (.int .i64 0)] ++ []) H) fun vs5 H5 =>
 some (.ret (nthV 0 vs5), H5))
def F87 (N lim : Nat) (a0 a1 : Value) (H : IHeap) : RV := B87 N lim a0 a1 H
def G87 (N : Nat) : G := w2 (F87 N)
theorem eq87 (N : Nat) (lim : Nat) (a0 a1 : Value) (H : IHeap) : ifun Tryz.prog { fn := envOf [], wr := [] } { promo := [], share := false } N (okOf Tryz.prog { promo := [], share := false } []) Tryz.f87 (.seq (.region []) (.seq (.region []) (.seq (.seq (.region []) (.block [5] [] [] (.loop [5, 6] [] [] (.seq (.seq (.region []) (.inl .leaf .leaf)) (.seq (.block [5] [] [] (.seq (.region [[25]]) (.join [5] [] [] (.region []) .leaf))) (.region [])))))) (.seq (.region []) .leaf)))) lim [a0, a1] H = B87 N lim a0 a1 H := by kernel_rfl
theorem sim87 (N : Nat) : SimF Tryz.prog 87 (G87 N) := by
  refine SimF.gen [] [] { promo := [], share := false } N (.seq (.region []) (.seq (.region []) (.seq (.seq (.region []) (.block [5] [] [] (.loop [5, 6] [] [] (.seq (.seq (.region []) (.inl .leaf .leaf)) (.seq (.block [5] [] [] (.seq (.region [[25]]) (.join [5] [] [] (.region []) .leaf))) (.region [])))))) (.seq (.region []) .leaf)))) Tryz.func87 (by kernel_rfl) (by kernel_rfl) env_nil ?_
  intro lim args H r h
  unfold G87 w2 at h
  split at h
  · exact (eq87 N lim _ _ H).trans h
  · simp at h
/-- besom/besomref1.FrameWords -/
def B34 (N : Nat) (g87 : RF2) (lim : Nat) (p0 fn1 : Value) (H : IHeap) : RV :=
 retK ((cellsOf true 3 p0).bind fun cs1 =>
 (ibin .lss .no fn1 (.int .i64 0)).bind fun t6 =>
 (gval false t6).bind fun w1 => grpK (bif w1 then
 ((iload false 1 cs1 2).bind fun t10 =>
 (ilenS t10).bind fun t11 =>
 (ibin .geq .no fn1 t11).bind fun t12 =>
 some ([t12], H))
 else some ([Value.tuple #[]], H)) fun vs1 H1 =>
 (pickK t6 (.bool true) (nthV 0 vs1)).bind fun t13 =>
 (boolK t13 fun b2 => bif b2 then
 (some (.ret (.int .i64 0), H1))
 else
 (iload false 1 cs1 2).bind fun t15 =>
 (iidx 5 t15 fn1).bind fun t17 =>
 (paddr 2 t17).bind fun t18 =>
 (hload false 1 H1 t18).bind fun t19 =>
 (ibin .add .no (.int .i64 2) t19).bind fun t20 =>
 (iload false 1 cs1 1).bind fun t22 =>
 (iload false 1 cs1 2).bind fun t24 =>
 (iidx 5 t24 fn1).bind fun t26 =>
 (paddr 3 t26).bind fun t27 =>
 (hload false 1 H1 t27).bind fun t28 =>
 callK (g87 H1.next t22 t28 H1) fun t29 H2 =>
 (ibin .add .no t20 t29).bind fun t30 =>
 some (.ret t30, H2)))
def F34 (N lim : Nat) (a0 a1 : Value) (H : IHeap) : RV := B34 N (F87 N) lim a0 a1 H
def G34 (N : Nat) : G := w2 (F34 N)
theorem eq34 (N : Nat) (g87 : RF2) (lim : Nat) (a0 a1 : Value) (H : IHeap) : ifun Tryz.prog { fn := envOf [(87, Ideal.w2 g87)], wr := [] } { promo := [2], share := false } N (okOf Tryz.prog { promo := [2], share := false } []) Tryz.f34 (.seq (.region []) (.seq (.seq (.region [[12]]) (.inl (.seq (.region []) .leaf) .leaf)) (.seq (.region []) .leaf))) lim [a0, a1] H = B34 N g87 lim a0 a1 H := by kernel_rfl
theorem sim34 (N : Nat) : SimF Tryz.prog 34 (G34 N) := by
  refine SimF.gen [(87, G87 N)] [] { promo := [2], share := false } N (.seq (.region []) (.seq (.seq (.region [[12]]) (.inl (.seq (.region []) .leaf) .leaf)) (.seq (.region []) .leaf))) Tryz.func34 (by kernel_rfl) (by kernel_rfl) (env_cons (sim87 N) env_nil) ?_
  intro lim args H r h
  unfold G34 w2 at h
  split at h
  · exact (eq34 N (F87 N) lim _ _ H).trans h
  · simp at h
end Go.Ideal
