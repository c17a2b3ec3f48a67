/- This text proves no statement of the seat: it says what functions of the program do on the ideal machine, part 4. By program (emitall.py). -/
import Derived.Test.YtpiddcbddilamaaGreatDoorFd
namespace Go.Ideal
open Go.Proofs
set_option maxRecDepth 100000
set_option linter.unusedVariables false
/-- besom/instr.once -/
def B334 (N : Nat) (g137 : RF2) (lim : Nat) (l0 : Value) (H : IHeap) : RV :=
 retK ((ilenS l0).bind fun t7 =>
 catchK 0 (iloop (fun vs1 H1 =>
 (ibin .lss .no (nthV 1 vs1) t7).bind fun t9 =>
 (boolK t9 fun b1 => bif b1 then
 (catchK 1 ((iidx 1 l0 (nthV 1 vs1)).bind fun t10 =>
 (hload false 1 H1 t10).bind fun t11 =>
 callK (g137 lim (nthV 0 vs1) t11 H1) fun t14 H2 =>
 (iun .not t14).bind fun t15 =>
 joinK (boolK t15 fun b2 => bif b2 then
 ((istore false 1 [(.int .i64 0)] 0 t11).bind fun cs1 =>
 rowK (lrow 1 1 cs1) fun m1 new1 =>
 callK (iappend false 1 8 lim H2 (nthV 0 vs1) m1 new1) fun t19 H3 =>
 some (.norm ([t19] ++ []), H3))
 else
 some (.norm ([(nthV 0 vs1)] ++ []), H2)) fun vs2 H4 =>
 some (.norm ([(nthV 0 vs2)] ++ []), H4)) fun vs3 H5 =>
 (ibin .add .no (nthV 1 vs1) (.int .i64 1)).bind fun t20 =>
 some (.norm ([(nthV 0 vs3), t20] ++ []), H5))
 else
 some (.exit 0 ([(nthV 0 vs1)] ++ []), H1))) N ([(.slice none 0 0), (.int .i64 0)] ++ []) H) fun vs4 H6 =>
 some (.ret (nthV 0 vs4), H6))
def F334 (N lim : Nat) (a0 : Value) (H : IHeap) : RV := B334 N (F137 N) lim a0 H
def G334 (N : Nat) : G := w1 (F334 N)
theorem eq334 (N : Nat) (g137 : RF2) (lim : Nat) (a0 : Value) (H : IHeap) : ifun Tryz.prog { fn := envOf [(137, Ideal.w2 g137)], wr := [] } { promo := [18], share := false } N (okOf Tryz.prog { promo := [18], share := false } []) Tryz.f334 (.seq (.region []) (.seq (.region []) (.seq (.seq (.region []) (.block [3] [] [18] (.loop [3, 8] [] [18] (.seq (.region []) (.seq (.inl .leaf .leaf) (.seq (.block [3] [] [18] (.seq (.region []) (.seq (.region []) (.join [3] [] [18] (.region []) .leaf)))) (.region []))))))) (.seq (.region []) .leaf)))) lim [a0] H = B334 N g137 lim a0 H := by kernel_rfl
theorem sim334 (N : Nat) : SimF Tryz.prog 334 (G334 N) := by
  refine SimF.gen [(137, G137 N)] [] { promo := [18], share := false } N (.seq (.region []) (.seq (.region []) (.seq (.seq (.region []) (.block [3] [] [18] (.loop [3, 8] [] [18] (.seq (.region []) (.seq (.inl .leaf .leaf) (.seq (.block [3] [] [18] (.seq (.region []) (.seq (.region []) (.join [3] [] [18] (.region []) .leaf)))) (.region []))))))) (.seq (.region []) .leaf)))) Tryz.func334 (by kernel_rfl) (by kernel_rfl) (env_cons (sim137 N) env_nil) ?_
  intro lim args H r h
  unfold G334 w1 at h
  split at h
  · exact (eq334 N (F137 N) lim _ H).trans h
  · simp at h
/-- besom/instr.Reads -/
def B307 (N : Nat) (g334 : RF1) (lim : Nat) (i0 args1 : Value) (H : IHeap) : RV :=
 retK ((cellsOf true 4 i0).bind fun cs1 =>
 (iload false 1 cs1 0).bind fun t8 =>
 catchK 0 ((ibin .eql .no t8 (.int .i64 2)).bind fun t10 =>
 joinK (boolK t10 fun b1 => bif b1 then
 (some (.norm ([t10] ++ []), H))
 else
 (ibin .eql .no t8 (.int .i64 12)).bind fun t11 =>
 joinK (boolK t11 fun b2 => bif b2 then
 (some (.norm ([t11] ++ []), H))
 else
 (ibin .eql .no t8 (.int .i64 14)).bind fun t12 =>
 joinK (boolK t12 fun b3 => bif b3 then
 (some (.norm ([t12] ++ []), H))
 else
 (ibin .eql .no t8 (.int .i64 17)).bind fun t13 =>
 joinK (boolK t13 fun b4 => bif b4 then
 (some (.norm ([t13] ++ []), H))
 else
 (ibin .eql .no t8 (.int .i64 19)).bind fun t14 =>
 some (.norm ([t14] ++ []), H)) fun vs1 H1 =>
 some (.norm ([(nthV 0 vs1)] ++ []), H1)) fun vs2 H2 =>
 some (.norm ([(nthV 0 vs2)] ++ []), H2)) fun vs3 H3 =>
 some (.norm ([(nthV 0 vs3)] ++ []), H3)) fun vs4 H4 =>
 (boolK (nthV 0 vs4) fun b5 => bif b5 then
 ((iload false 1 cs1 2).bind fun t16 =>
 (istore false 1 [(.int .i64 0)] 0 t16).bind fun cs2 =>
 callK (g334 lim (slc 1 H4.next 0 1 2) (H4.push (.cells cs2 0))) fun t18 H5 =>
 some (.ret t18, H5))
 else
 (ibin .eql .no t8 (.int .i64 3)).bind fun t20 =>
 joinK (boolK t20 fun b6 => bif b6 then
 (some (.norm ([t20] ++ []), H4))
 else
 (ibin .eql .no t8 (.int .i64 4)).bind fun t21 =>
 joinK (boolK t21 fun b7 => bif b7 then
 (some (.norm ([t21] ++ []), H4))
 else
 (ibin .eql .no t8 (.int .i64 5)).bind fun t22 =>
 joinK (boolK t22 fun b8 => bif b8 then
 (some (.norm ([t22] ++ []), H4))
 else
 (ibin .eql .no t8 (.int .i64 6)).bind fun t23 =>
 joinK (boolK t23 fun b9 => bif b9 then
 (some (.norm ([t23] ++ []), H4))
 else
 (ibin .eql .no t8 (.int .i64 7)).bind fun t24 =>
 joinK (boolK t24 fun b10 => bif b10 then
 (some (.norm ([t24] ++ []), H4))
 else
 (ibin .eql .no t8 (.int .i64 8)).bind fun t25 =>
 some (.norm ([t25] ++ []), H4)) fun vs5 H6 =>
 some (.norm ([(nthV 0 vs5)] ++ []), H6)) fun vs6 H7 =>
 some (.norm ([(nthV 0 vs6)] ++ []), H7)) fun vs7 H8 =>
 some (.norm ([(nthV 0 vs7)] ++ []), H8)) fun vs8 H9 =>
 some (.norm ([(nthV 0 vs8)] ++ []), H9)) fun vs9 H10 =>
 (boolK (nthV 0 vs9) fun b11 => bif b11 then
 ((iload false 1 cs1 2).bind fun t27 =>
 (iload false 1 cs1 3).bind fun t29 =>
 (istore false 1 [(.int .i64 0), (.int .i64 0)] 0 t27).bind fun cs3 =>
 (istore false 1 cs3 1 t29).bind fun cs4 =>
 callK (g334 lim (slc 1 H10.next 0 2 3) (H10.push (.cells cs4 0))) fun t31 H11 =>
 some (.ret t31, H11))
 else
 (ibin .eql .no t8 (.int .i64 10)).bind fun t33 =>
 joinK (boolK t33 fun b12 => bif b12 then
 (some (.norm ([t33] ++ []), H10))
 else
 (ibin .eql .no t8 (.int .i64 29)).bind fun t34 =>
 some (.norm ([t34] ++ []), H10)) fun vs10 H12 =>
 (boolK (nthV 0 vs10) fun b13 => bif b13 then
 ((iload false 1 cs1 1).bind fun t36 =>
 (istore false 1 [(.int .i64 0)] 0 t36).bind fun cs5 =>
 callK (g334 lim (slc 1 H12.next 0 1 2) (H12.push (.cells cs5 0))) fun t38 H13 =>
 some (.ret t38, H13))
 else
 (ibin .eql .no t8 (.int .i64 15)).bind fun t40 =>
 joinK (boolK t40 fun b14 => bif b14 then
 (some (.norm ([t40] ++ []), H12))
 else
 (ibin .eql .no t8 (.int .i64 20)).bind fun t41 =>
 some (.norm ([t41] ++ []), H12)) fun vs11 H14 =>
 (boolK (nthV 0 vs11) fun b15 => bif b15 then
 ((iload false 1 cs1 1).bind fun t43 =>
 (iload false 1 cs1 3).bind fun t45 =>
 (istore false 1 [(.int .i64 0), (.int .i64 0)] 0 t43).bind fun cs6 =>
 (istore false 1 cs6 1 t45).bind fun cs7 =>
 callK (g334 lim (slc 1 H14.next 0 2 3) (H14.push (.cells cs7 0))) fun t47 H15 =>
 some (.ret t47, H15))
 else
 (ibin .eql .no t8 (.int .i64 25)).bind fun t49 =>
 (boolK t49 fun b16 => bif b16 then
 ((iload false 1 cs1 1).bind fun t51 =>
 (iload false 1 cs1 2).bind fun t53 =>
 (istore false 1 [(.int .i64 0), (.int .i64 0)] 0 t51).bind fun cs8 =>
 (istore false 1 cs8 1 t53).bind fun cs9 =>
 callK (g334 lim (slc 1 H14.next 0 2 3) (H14.push (.cells cs9 0))) fun t55 H16 =>
 some (.ret t55, H16))
 else
 (ibin .eql .no t8 (.int .i64 21)).bind fun t57 =>
 joinK (boolK t57 fun b17 => bif b17 then
 (some (.norm ([t57] ++ []), H14))
 else
 (ibin .eql .no t8 (.int .i64 23)).bind fun t58 =>
 joinK (boolK t58 fun b18 => bif b18 then
 (some (.norm ([t58] ++ []), H14))
 else
 (ibin .eql .no t8 (.int .i64 24)).bind fun t59 =>
 some (.norm ([t59] ++ []), H14)) fun vs12 H17 =>
 some (.norm ([(nthV 0 vs12)] ++ []), H17)) fun vs13 H18 =>
 (boolK (nthV 0 vs13) fun b19 => bif b19 then
 ((iminmax false [args1, (.int .i64 0)]).bind fun t61 =>
 (iminmax true [t61, (.int .i64 16)]).bind fun t62 =>
 catchK 1 (iloop (fun vs14 H19 =>
 (ibin .lss .no (nthV 1 vs14) t62).bind fun t64 =>
 (boolK t64 fun b20 => bif b20 then
 (catchK 2 ((iload false 1 cs1 3).bind fun t68 =>
 (ibin .add .no t68 (nthV 1 vs14)).bind fun t70 =>
 (istore false 1 [(.int .i64 0)] 0 t70).bind fun cs10 =>
 rowK (lrow 1 1 cs10) fun m1 new1 =>
 callK (iappend false 1 8 lim H19 (nthV 0 vs14) m1 new1) fun t72 H20 =>
 some (.norm ([t72] ++ []), H20)) fun vs15 H21 =>
 (ibin .add .no (nthV 1 vs14) (.int .i64 1)).bind fun t73 =>
 some (.norm ([(nthV 0 vs15), t73] ++ []), H21))
 else
 some (.exit 1 ([(nthV 0 vs14)] ++ []), H19))) N ([(.slice none 0 0), (.int .i64 0)] ++ []) H18) fun vs16 H22 =>
 some (.ret (nthV 0 vs16), H22))
 else
 some (.norm ([] ++ []), H18)))))))) fun vs17 H23 =>
 some (.ret (.slice none 0 0), H23))
def F307 (N lim : Nat) (a0 a1 : Value) (H : IHeap) : RV := B307 N (F334 N) lim a0 a1 H
def G307 (N : Nat) : G := w2 (F307 N)
theorem eq307 (N : Nat) (g334 : RF1) (lim : Nat) (a0 a1 : Value) (H : IHeap) : ifun Tryz.prog { fn := envOf [(334, Ideal.w1 g334)], wr := [] } { promo := [2, 71], share := false } N (okOf Tryz.prog { promo := [2, 71], share := false } []) Tryz.f307 (.seq (.region []) (.seq (.seq (.region []) (.block [] [] [71] (.seq (.seq (.region []) (.join [9] [] [] .leaf (.seq (.region []) (.join [9] [] [] .leaf (.seq (.region []) (.join [9] [] [] .leaf (.seq (.region []) (.join [9] [] [] .leaf (.region []))))))))) (.inl (.seq (.region []) .leaf) (.seq (.seq (.region []) (.join [19] [] [] .leaf (.seq (.region []) (.join [19] [] [] .leaf (.seq (.region []) (.join [19] [] [] .leaf (.seq (.region []) (.join [19] [] [] .leaf (.seq (.region []) (.join [19] [] [] .leaf (.region []))))))))))) (.inl (.seq (.region []) .leaf) (.seq (.seq (.region []) (.join [32] [] [] .leaf (.region []))) (.inl (.seq (.region []) .leaf) (.seq (.seq (.region []) (.join [39] [] [] .leaf (.region []))) (.inl (.seq (.region []) .leaf) (.seq (.region []) (.inl (.seq (.region []) .leaf) (.seq (.seq (.region []) (.join [56] [] [] .leaf (.seq (.region []) (.join [56] [] [] .leaf (.region []))))) (.inl (.seq (.region []) (.seq (.seq (.region []) (.block [5] [] [71] (.loop [5, 63] [] [71] (.seq (.region []) (.seq (.inl .leaf .leaf) (.seq (.block [5] [] [71] (.seq (.region []) (.region []))) (.region []))))))) (.seq (.region []) .leaf))) .leaf)))))))))))))) (.seq (.region []) .leaf))) lim [a0, a1] H = B307 N g334 lim a0 a1 H := by kernel_rfl
theorem sim307 (N : Nat) : SimF Tryz.prog 307 (G307 N) := by
  refine SimF.gen [(334, G334 N)] [] { promo := [2, 71], share := false } N (.seq (.region []) (.seq (.seq (.region []) (.block [] [] [71] (.seq (.seq (.region []) (.join [9] [] [] .leaf (.seq (.region []) (.join [9] [] [] .leaf (.seq (.region []) (.join [9] [] [] .leaf (.seq (.region []) (.join [9] [] [] .leaf (.region []))))))))) (.inl (.seq (.region []) .leaf) (.seq (.seq (.region []) (.join [19] [] [] .leaf (.seq (.region []) (.join [19] [] [] .leaf (.seq (.region []) (.join [19] [] [] .leaf (.seq (.region []) (.join [19] [] [] .leaf (.seq (.region []) (.join [19] [] [] .leaf (.region []))))))))))) (.inl (.seq (.region []) .leaf) (.seq (.seq (.region []) (.join [32] [] [] .leaf (.region []))) (.inl (.seq (.region []) .leaf) (.seq (.seq (.region []) (.join [39] [] [] .leaf (.region []))) (.inl (.seq (.region []) .leaf) (.seq (.region []) (.inl (.seq (.region []) .leaf) (.seq (.seq (.region []) (.join [56] [] [] .leaf (.seq (.region []) (.join [56] [] [] .leaf (.region []))))) (.inl (.seq (.region []) (.seq (.seq (.region []) (.block [5] [] [71] (.loop [5, 63] [] [71] (.seq (.region []) (.seq (.inl .leaf .leaf) (.seq (.block [5] [] [71] (.seq (.region []) (.region []))) (.region []))))))) (.seq (.region []) .leaf))) .leaf)))))))))))))) (.seq (.region []) .leaf))) Tryz.func307 (by kernel_rfl) (by kernel_rfl) (env_cons (sim334 N) env_nil) ?_
  intro lim args H r h
  unfold G307 w2 at h
  split at h
  · exact (eq307 N (F334 N) lim _ _ H).trans h
  · simp at h
/-- (besom/check.look).slots -/
def B269 (N : Nat) (g203 : RF2) (g209 : RF1) (g304 : RF1) (g306 : RF1) (g307 : RF2) (lim : Nat) (l0 : Value) (H : IHeap) : RV :=
 retK ((cellsOf true 14 l0).bind fun cs1 =>
 (iload true 14 cs1 0).bind fun t12 =>
 callK (g306 lim t12 H) fun t13 H1 =>
 (iextract 0 t13).bind fun t14 =>
 (iextract 1 t13).bind fun t15 =>
 (istore true 5 [(.slice none 0 0), (.int .i64 0), (.int .i64 0), (.slice none 0 0), (.slice none 0 0)] 0 t14).bind fun cs2 =>
 (iload false 1 cs2 0).bind fun t17 =>
 (ilenS t17).bind fun t18 =>
 (gval true t15).bind fun w1 => grpK (bif w1 then
 ((iload false 1 cs1 11).bind fun t23 =>
 (ibin .lss .no t23 (.int .i64 0)).bind fun t24 =>
 some ([t24], H1))
 else some ([Value.tuple #[]], H1)) fun vs1 H2 =>
 (gval false (nthV 0 vs1)).bind fun w2 => grpK (bif w2 then
 ((iload false 1 cs1 5).bind fun t29 =>
 (ibin .gtr .no t18 t29).bind fun t30 =>
 some ([t30], H2))
 else some ([Value.tuple #[]], H2)) fun vs2 H3 =>
 (gval true t15).bind fun w3 => grpK (bif w3 then
 ((pickK (nthV 0 vs1) (.bool true) (nthV 0 vs2)).bind fun t31 =>
 some ([t31], H3))
 else some ([Value.tuple #[]], H3)) fun vs3 H4 =>
 (gval false (nthV 0 vs3)).bind fun w4 => grpK (bif w4 then
 ((iload false 1 cs1 11).bind fun t35 =>
 (iload false 1 cs1 5).bind fun t38 =>
 (ibin .sub .no t38 t18).bind fun t40 =>
 (ibin .gtr .no t35 t40).bind fun t41 =>
 some ([t41], H4))
 else some ([Value.tuple #[]], H4)) fun vs4 H5 =>
 (gval true t15).bind fun w5 => grpK (bif w5 then
 ((pickK (nthV 0 vs3) (.bool true) (nthV 0 vs4)).bind fun t42 =>
 some ([t42], H5))
 else some ([Value.tuple #[]], H5)) fun vs5 H6 =>
 (pickK t15 (nthV 0 vs5) (.bool false)).bind fun t43 =>
 (boolK t43 fun b4 => bif b4 then
 (some (.ret (.bool false), H6))
 else
 (iload true 4 cs1 8).bind fun t45 =>
 callK (g307 lim t45 t18 H6) fun t47 H7 =>
 (iload true 4 cs1 8).bind fun t50 =>
 callK (g209 lim t50 H7) fun t51 H8 =>
 (iextract 0 t51).bind fun t52 =>
 (iextract 1 t51).bind fun t53 =>
 (gval true t53).bind fun w6 => grpK (bif w6 then
 ((iload true 14 cs1 0).bind fun t56 =>
 callK (g304 lim t56 H8) fun t57 H10 =>
 (iun .not t57).bind fun t58 =>
 some ([t58], H10))
 else some ([Value.tuple #[]], H8)) fun vs6 H9 =>
 (pickK t53 (nthV 0 vs6) (.bool false)).bind fun t59 =>
 joinK (boolK t59 fun b6 => bif b6 then
 ((istore false 1 [(.int .i64 0)] 0 t52).bind fun cs3 =>
 rowK (lrow 1 1 cs3) fun m1 new1 =>
 callK (iappend false 1 8 lim H9 t47 m1 new1) fun t63 H11 =>
 some (.norm ([t63] ++ []), H11))
 else
 some (.norm ([t47] ++ []), H9)) fun vs7 H12 =>
 (iload false 1 cs1 8).bind fun t66 =>
 (ibin .eql .no t66 (.int .i64 26)).bind fun t67 =>
 joinK (boolK t67 fun b7 => bif b7 then
 ((iload false 1 cs1 10).bind fun t71 =>
 (istore false 1 [(.int .i64 0)] 0 t71).bind fun cs4 =>
 rowK (lrow 1 1 cs4) fun m2 new2 =>
 callK (iappend false 1 8 lim H12 (nthV 0 vs7) m2 new2) fun t73 H13 =>
 some (.norm ([t73] ++ []), H13))
 else
 some (.norm ([(nthV 0 vs7)] ++ []), H12)) fun vs8 H14 =>
 (iload false 1 cs1 8).bind fun t76 =>
 (ibin .eql .no t76 (.int .i64 22)).bind fun t77 =>
 (gval true t77).bind fun w7 => grpK (bif w7 then
 ((iload true 14 cs1 0).bind fun t79 =>
 callK (g304 lim t79 H14) fun t80 H16 =>
 (iun .not t80).bind fun t81 =>
 some ([t81], H16))
 else some ([Value.tuple #[]], H14)) fun vs9 H15 =>
 (pickK t77 (nthV 0 vs9) (.bool false)).bind fun t82 =>
 joinK (boolK t82 fun b9 => bif b9 then
 ((iload false 1 cs1 9).bind fun t86 =>
 (istore false 1 [(.int .i64 0)] 0 t86).bind fun cs5 =>
 rowK (lrow 1 1 cs5) fun m3 new3 =>
 callK (iappend false 1 8 lim H15 (nthV 0 vs8) m3 new3) fun t88 H17 =>
 some (.norm ([t88] ++ []), H17))
 else
 some (.norm ([(nthV 0 vs8)] ++ []), H15)) fun vs10 H18 =>
 (ilenS (nthV 0 vs10)).bind fun t90 =>
 catchK 0 (iloop (fun vs11 H19 =>
 (ibin .lss .no (nthV 0 vs11) t90).bind fun t92 =>
 (boolK t92 fun b10 => bif b10 then
 (catchK 1 ((iidx 1 (nthV 0 vs10) (nthV 0 vs11)).bind fun t93 =>
 (hload false 1 H19 t93).bind fun t94 =>
 (iload false 1 cs1 5).bind fun t98 =>
 callK (g203 lim t94 t98 H19) fun t99 H20 =>
 (iun .not t99).bind fun t100 =>
 (boolK t100 fun b11 => bif b11 then
 (some (.ret (.bool false), H20))
 else
 some (.norm ([] ++ []), H20))) fun vs12 H21 =>
 (ibin .add .no (nthV 0 vs11) (.int .i64 1)).bind fun t101 =>
 some (.norm ([t101] ++ []), H21))
 else
 some (.exit 0 ([] ++ []), H19))) N ([(.int .i64 0)] ++ []) H18) fun vs13 H22 =>
 some (.ret (.bool true), H22)))
def F269 (N lim : Nat) (a0 : Value) (H : IHeap) : RV := B269 N (F203 N) (F209 N) (F304 N) (F306 N) (F307 N) lim a0 H
def G269 (N : Nat) : G := w1 (F269 N)
theorem eq269 (N : Nat) (g203 : RF2) (g209 : RF1) (g304 : RF1) (g306 : RF1) (g307 : RF2) (lim : Nat) (a0 : Value) (H : IHeap) : ifun Tryz.prog { fn := envOf [(203, Ideal.w2 g203), (209, Ideal.w1 g209), (304, Ideal.w1 g304), (306, Ideal.w1 g306), (307, Ideal.w2 g307)], wr := [] } { promo := [1, 3, 62, 72, 87], share := false } N (okOf Tryz.prog { promo := [1, 3, 62, 72, 87], share := false } []) Tryz.f269 (.seq (.region []) (.seq (.region []) (.seq (.region []) (.seq (.seq (.region [[25], [30], [32], [41], [42]]) (.inl (.seq (.region []) .leaf) .leaf)) (.seq (.region []) (.seq (.seq (.region []) (.seq (.region [[58]]) (.join [6] [] [62] (.region []) .leaf))) (.seq (.seq (.region []) (.join [6] [] [72] (.region []) .leaf)) (.seq (.seq (.region [[81]]) (.join [6] [] [87] (.region []) .leaf)) (.seq (.seq (.region []) (.block [] [] [] (.loop [91] [] [] (.seq (.region []) (.seq (.inl .leaf .leaf) (.seq (.block [] [] [] (.seq (.region []) (.seq (.region []) (.inl (.seq (.region []) .leaf) .leaf)))) (.region []))))))) (.seq (.region []) .leaf)))))))))) lim [a0] H = B269 N g203 g209 g304 g306 g307 lim a0 H := by kernel_rfl
theorem sim269 (N : Nat) : SimF Tryz.prog 269 (G269 N) := by
  refine SimF.gen [(203, G203 N), (209, G209 N), (304, G304 N), (306, G306 N), (307, G307 N)] [] { promo := [1, 3, 62, 72, 87], share := false } N (.seq (.region []) (.seq (.region []) (.seq (.region []) (.seq (.seq (.region [[25], [30], [32], [41], [42]]) (.inl (.seq (.region []) .leaf) .leaf)) (.seq (.region []) (.seq (.seq (.region []) (.seq (.region [[58]]) (.join [6] [] [62] (.region []) .leaf))) (.seq (.seq (.region []) (.join [6] [] [72] (.region []) .leaf)) (.seq (.seq (.region [[81]]) (.join [6] [] [87] (.region []) .leaf)) (.seq (.seq (.region []) (.block [] [] [] (.loop [91] [] [] (.seq (.region []) (.seq (.inl .leaf .leaf) (.seq (.block [] [] [] (.seq (.region []) (.seq (.region []) (.inl (.seq (.region []) .leaf) .leaf)))) (.region []))))))) (.seq (.region []) .leaf)))))))))) Tryz.func269 (by kernel_rfl) (by kernel_rfl) (env_cons (sim203 N) (env_cons (sim209 N) (env_cons (sim304 N) (env_cons (sim306 N) (env_cons (sim307 N) env_nil))))) ?_
  intro lim args H r h
  unfold G269 w1 at h
  split at h
  · exact (eq269 N (F203 N) (F209 N) (F304 N) (F306 N) (F307 N) lim _ H).trans h
  · simp at h
/-- slices.IndexFunc[[]int,int] -/
def B335 (N : Nat) (lim : Nat) (s0 f1 : Value) (H : IHeap) : RV :=
 retK ((ilenS s0).bind fun t7 =>
 catchK 0 (iloop (fun vs1 H1 =>
 (ibin .lss .no (nthV 0 vs1) t7).bind fun t9 =>
 (boolK t9 fun b1 => bif b1 then
 (catchK 1 ((iidx 1 s0 (nthV 0 vs1)).bind fun t14 =>
 (hload false 1 H1 t14).bind fun t15 =>
 funcK f1 fun fid1 fi1 ca1 => (envOf [] fid1).bind fun g1 =>
 callK (g1 lim (fi1 ++ [t15] ++ ca1) H1) fun t16 H2 =>
 (boolK t16 fun b2 => bif b2 then
 (some (.ret (nthV 0 vs1), H2))
 else
 some (.norm ([] ++ []), H2))) fun vs2 H3 =>
 (ibin .add .no (nthV 0 vs1) (.int .i64 1)).bind fun t18 =>
 some (.norm ([t18] ++ []), H3))
 else
 some (.exit 0 ([] ++ []), H1))) N ([(.int .i64 0)] ++ []) H) fun vs3 H4 =>
 some (.ret (.int .i64 (-1)), H4))
def F335 (N lim : Nat) (a0 a1 : Value) (H : IHeap) : RV := B335 N lim a0 a1 H
def G335 (N : Nat) : G := w2 (F335 N)
theorem eq335 (N : Nat) (lim : Nat) (a0 a1 : Value) (H : IHeap) : ifun Tryz.prog { fn := envOf [], wr := [] } { promo := [], share := false } N (okOf Tryz.prog { promo := [], share := false } []) Tryz.f335 (.seq (.region []) (.seq (.seq (.region []) (.block [] [] [] (.loop [8] [] [] (.seq (.region []) (.seq (.inl .leaf .leaf) (.seq (.block [] [] [] (.seq (.region []) (.seq (.region []) (.inl (.seq (.region []) .leaf) .leaf)))) (.region []))))))) (.seq (.region []) .leaf))) lim [a0, a1] H = B335 N lim a0 a1 H := by kernel_rfl
theorem sim335 (N : Nat) : SimF Tryz.prog 335 (G335 N) := by
  refine SimF.gen [] [] { promo := [], share := false } N (.seq (.region []) (.seq (.seq (.region []) (.block [] [] [] (.loop [8] [] [] (.seq (.region []) (.seq (.inl .leaf .leaf) (.seq (.block [] [] [] (.seq (.region []) (.seq (.region []) (.inl (.seq (.region []) .leaf) .leaf)))) (.region []))))))) (.seq (.region []) .leaf))) Tryz.func335 (by kernel_rfl) (by kernel_rfl) env_nil ?_
  intro lim args H r h
  unfold G335 w2 at h
  split at h
  · exact (eq335 N lim _ _ H).trans h
  · simp at h
/-- slices.ContainsFunc[[]int,int] -/
def B308 (N : Nat) (g335 : RF2) (lim : Nat) (s0 f1 : Value) (H : IHeap) : RV :=
 retK (callK (g335 lim s0 f1 H) fun t7 H1 =>
 (ibin .geq .no t7 (.int .i64 0)).bind fun t8 =>
 some (.ret t8, H1))
def F308 (N lim : Nat) (a0 a1 : Value) (H : IHeap) : RV := B308 N (F335 N) lim a0 a1 H
def G308 (N : Nat) : G := w2 (F308 N)
theorem eq308 (N : Nat) (g335 : RF2) (lim : Nat) (a0 a1 : Value) (H : IHeap) : ifun Tryz.prog { fn := envOf [(335, Ideal.w2 g335)], wr := [] } { promo := [], share := false } N (okOf Tryz.prog { promo := [], share := false } []) Tryz.f308 (.seq (.region []) (.seq (.region []) .leaf)) lim [a0, a1] H = B308 N g335 lim a0 a1 H := by kernel_rfl
theorem sim308 (N : Nat) : SimF Tryz.prog 308 (G308 N) := by
  refine SimF.gen [(335, G335 N)] [] { promo := [], share := false } N (.seq (.region []) (.seq (.region []) .leaf)) Tryz.func308 (by kernel_rfl) (by kernel_rfl) (env_cons (sim335 N) env_nil) ?_
  intro lim args H r h
  unfold G308 w2 at h
  split at h
  · exact (eq308 N (F335 N) lim _ _ H).trans h
  · simp at h
/-- (besom/check.look).kinds -/
def B270 (N : Nat) (g306 : RF1) (g308 : RF2) (lim : Nat) (l0 : Value) (H : IHeap) : RV :=
 retK ((cellsOf true 14 l0).bind fun cs1 =>
 (iload true 14 cs1 0).bind fun t6 =>
 callK (g306 lim t6 H) fun t7 H1 =>
 (iextract 0 t7).bind fun t8 =>
 (iextract 1 t7).bind fun t9 =>
 (istore true 5 [(.slice none 0 0), (.int .i64 0), (.int .i64 0), (.slice none 0 0), (.slice none 0 0)] 0 t8).bind fun cs2 =>
 (iload false 1 cs1 8).bind fun t12 =>
 catchK 0 ((ibin .eql .no t12 (.int .i64 23)).bind fun t14 =>
 joinK (boolK t14 fun b1 => bif b1 then
 (some (.norm ([t14] ++ []), H1))
 else
 (ibin .eql .no t12 (.int .i64 24)).bind fun t15 =>
 some (.norm ([t15] ++ []), H1)) fun vs1 H2 =>
 (boolK (nthV 0 vs1) fun b2 => bif b2 then
 ((iload false 1 cs2 1).bind fun t17 =>
 (ibin .eql .no t17 (.int .i64 0)).bind fun t18 =>
 (gval true t18).bind fun w1 => grpK (bif w1 then
 ((iload false 1 cs2 0).bind fun t21 =>
 callK (g308 lim t21 (.func (.func 309) #[] #[]) H2) fun t22 H4 =>
 (iun .not t22).bind fun t23 =>
 some ([t23], H4))
 else some ([Value.tuple #[]], H2)) fun vs2 H3 =>
 (pickK t18 (nthV 0 vs2) (.bool false)).bind fun t24 =>
 some (.ret t24, H3))
 else
 (ibin .eql .no t12 (.int .i64 25)).bind fun t26 =>
 joinK (boolK t26 fun b4 => bif b4 then
 (some (.norm ([t26] ++ []), H2))
 else
 (ibin .eql .no t12 (.int .i64 26)).bind fun t27 =>
 some (.norm ([t27] ++ []), H2)) fun vs3 H5 =>
 (boolK (nthV 0 vs3) fun b5 => bif b5 then
 ((iload false 1 cs1 1).bind fun t30 =>
 (ilenS t30).bind fun t31 =>
 (ibin .gtr .no t31 (.int .i64 0)).bind fun t32 =>
 some (.ret t32, H5))
 else
 some (.norm ([] ++ []), H5)))) fun vs4 H6 =>
 some (.ret (.bool true), H6))
def F270 (N lim : Nat) (a0 : Value) (H : IHeap) : RV := B270 N (F306 N) (F308 N) lim a0 H
def G270 (N : Nat) : G := w1 (F270 N)
theorem eq270 (N : Nat) (g306 : RF1) (g308 : RF2) (lim : Nat) (a0 : Value) (H : IHeap) : ifun Tryz.prog { fn := envOf [(306, Ideal.w1 g306), (308, Ideal.w2 g308)], wr := [] } { promo := [1, 3], share := false } N (okOf Tryz.prog { promo := [1, 3], share := false } []) Tryz.f270 (.seq (.region []) (.seq (.region []) (.seq (.seq (.region []) (.block [] [] [] (.seq (.seq (.region []) (.join [13] [] [] .leaf (.region []))) (.inl (.seq (.region [[23]]) .leaf) (.seq (.seq (.region []) (.join [25] [] [] .leaf (.region []))) (.inl (.seq (.region []) .leaf) .leaf)))))) (.seq (.region []) .leaf)))) lim [a0] H = B270 N g306 g308 lim a0 H := by kernel_rfl
theorem sim270 (N : Nat) : SimF Tryz.prog 270 (G270 N) := by
  refine SimF.gen [(306, G306 N), (308, G308 N)] [] { promo := [1, 3], share := false } N (.seq (.region []) (.seq (.region []) (.seq (.seq (.region []) (.block [] [] [] (.seq (.seq (.region []) (.join [13] [] [] .leaf (.region []))) (.inl (.seq (.region [[23]]) .leaf) (.seq (.seq (.region []) (.join [25] [] [] .leaf (.region []))) (.inl (.seq (.region []) .leaf) .leaf)))))) (.seq (.region []) .leaf)))) Tryz.func270 (by kernel_rfl) (by kernel_rfl) (env_cons (sim306 N) (env_cons (sim308 N) env_nil)) ?_
  intro lim args H r h
  unfold G270 w1 at h
  split at h
  · exact (eq270 N (F306 N) (F308 N) lim _ H).trans h
  · simp at h
/-- besom/check.Instr -/
def B205 (N : Nat) (g266 : RF2) (g267 : RF1) (g268 : RF1) (g269 : RF1) (g270 : RF1) (lim : Nat) (p0 at1 : Value) (H : IHeap) : RV :=
 retK ((cellsOf true 3 p0).bind fun cs1 =>
 (cellsOf true 2 at1).bind fun cs2 =>
 (iload true 3 cs1 0).bind fun t9 =>
 (iload false 1 cs2 0).bind fun t11 =>
 callK (g266 lim t9 t11 H) fun t12 H1 =>
 (iload true 2 cs2 0).bind fun t13 =>
 (ilookup 3 (.agg #[(.int .i64 0), (.int .i64 0), (.int .i64 0), (.int .i64 0)]) true H1 t12 t13).bind fun t14 =>
 (iextract 0 t14).bind fun t15 =>
 (iextract 1 t14).bind fun t16 =>
 (istore true 4 [(.int .i64 0), (.int .i64 0), (.int .i64 0), (.int .i64 0)] 0 t15).bind fun cs3 =>
 (iun .not t16).bind fun t18 =>
 (boolK t18 fun b1 => bif b1 then
 (some (.ret (.int .i64 1), H1))
 else
 (iload true 3 cs1 0).bind fun t19 =>
 (iload false 1 cs1 2).bind fun t21 =>
 (iload false 1 cs2 0).bind fun t23 =>
 (iidx 5 t21 t23).bind fun t24 =>
 (hload true 5 H1 t24).bind fun t25 =>
 (iload true 4 cs3 0).bind fun t26 =>
 (iload true 2 cs2 0).bind fun t27 =>
 (istore true 3 [(.slice none 0 0), (.slice none 0 0), (.slice none 0 0), (.slice none 0 0), (.int .i64 0), (.int .i64 0), (.slice none 0 0), (.slice none 0 0), (.int .i64 0), (.int .i64 0), (.int .i64 0), (.int .i64 0), (.int .i64 0), (.int .i64 0)] 0 t19).bind fun cs4 =>
 (istore true 5 cs4 3 t25).bind fun cs5 =>
 (istore true 4 cs5 8 t26).bind fun cs6 =>
 (istore true 2 cs6 12 t27).bind fun cs7 =>
 (istore true 14 [(.slice none 0 0), (.slice none 0 0), (.slice none 0 0), (.slice none 0 0), (.int .i64 0), (.int .i64 0), (.slice none 0 0), (.slice none 0 0), (.int .i64 0), (.int .i64 0), (.int .i64 0), (.int .i64 0), (.int .i64 0), (.int .i64 0)] 0 (.agg ⟨cs7⟩)).bind fun cs8 =>
 catchK 0 ((iload true 14 cs8 0).bind fun t30 =>
 callK (g267 lim t30 H1) fun t31 H2 =>
 (iun .not t31).bind fun t32 =>
 (boolK t32 fun b2 => bif b2 then
 (some (.ret (.int .i64 2), H2))
 else
 (iload true 14 cs8 0).bind fun t34 =>
 callK (g268 lim t34 H2) fun t35 H3 =>
 (iun .not t35).bind fun t36 =>
 (gval false t36).bind fun w1 => grpK (bif w1 then
 ((iload true 14 cs8 0).bind fun t38 =>
 callK (g269 lim t38 H3) fun t39 H5 =>
 (iun .not t39).bind fun t40 =>
 some ([t40], H5))
 else some ([Value.tuple #[]], H3)) fun vs1 H4 =>
 (pickK t36 (.bool true) (nthV 0 vs1)).bind fun t41 =>
 (boolK t41 fun b4 => bif b4 then
 (some (.ret (.int .i64 4), H4))
 else
 (iload true 14 cs8 0).bind fun t43 =>
 callK (g270 lim t43 H4) fun t44 H6 =>
 (iun .not t44).bind fun t45 =>
 (boolK t45 fun b5 => bif b5 then
 (some (.ret (.int .i64 3), H6))
 else
 some (.norm ([] ++ []), H6))))) fun vs2 H7 =>
 some (.ret (.int .i64 0), H7)))
def F205 (N lim : Nat) (a0 a1 : Value) (H : IHeap) : RV := B205 N (F266 N) (F267 N) (F268 N) (F269 N) (F270 N) lim a0 a1 H
def G205 (N : Nat) : G := w2 (F205 N)
theorem eq205 (N : Nat) (g266 : RF2) (g267 : RF1) (g268 : RF1) (g269 : RF1) (g270 : RF1) (lim : Nat) (a0 a1 : Value) (H : IHeap) : ifun Tryz.prog { fn := envOf [(266, Ideal.w2 g266), (267, Ideal.w1 g267), (268, Ideal.w1 g268), (269, Ideal.w1 g269), (270, Ideal.w1 g270)], wr := [266] } { promo := [2, 3, 5, 7], share := false } N (okOf Tryz.prog { promo := [2, 3, 5, 7], share := false } [266]) Tryz.f205 (.seq (.region []) (.seq (.region []) (.seq (.seq (.region []) (.inl (.seq (.region []) .leaf) .leaf)) (.seq (.region []) (.seq (.block [] [] [] (.seq (.region []) (.inl (.seq (.region []) .leaf) (.seq (.region [[40]]) (.inl (.seq (.region []) .leaf) (.seq (.region []) (.inl (.seq (.region []) .leaf) .leaf))))))) (.seq (.region []) .leaf)))))) lim [a0, a1] H = B205 N g266 g267 g268 g269 g270 lim a0 a1 H := by kernel_rfl
theorem sim205 (N : Nat) : SimF Tryz.prog 205 (G205 N) := by
  refine SimF.gen [(266, G266 N), (267, G267 N), (268, G268 N), (269, G269 N), (270, G270 N)] [266] { promo := [2, 3, 5, 7], share := false } N (.seq (.region []) (.seq (.region []) (.seq (.seq (.region []) (.inl (.seq (.region []) .leaf) .leaf)) (.seq (.region []) (.seq (.block [] [] [] (.seq (.region []) (.inl (.seq (.region []) .leaf) (.seq (.region [[40]]) (.inl (.seq (.region []) .leaf) (.seq (.region []) (.inl (.seq (.region []) .leaf) .leaf))))))) (.seq (.region []) .leaf)))))) Tryz.func205 (by kernel_rfl) (by kernel_rfl) (env_cons (sim266 N) (env_cons (sim267 N) (env_cons (sim268 N) (env_cons (sim269 N) (env_cons (sim270 N) env_nil))))) ?_
  intro lim args H r h
  unfold G205 w2 at h
  split at h
  · exact (eq205 N (F266 N) (F267 N) (F268 N) (F269 N) (F270 N) lim _ _ H).trans h
  · simp at h
/-- besom/check.Func -/
def B133 (N : Nat) (g203 : RF2) (g204 : RF2) (g205 : RF2) (lim : Nat) (p0 fn1 : Value) (H : IHeap) : RV :=
 retK ((cellsOf true 3 p0).bind fun cs1 =>
 (iload false 1 cs1 2).bind fun t12 =>
 (ilenS t12).bind fun t13 =>
 callK (g203 lim fn1 t13 H) fun t14 H1 =>
 (iun .not t14).bind fun t15 =>
 (boolK t15 fun b1 => bif b1 then
 ((istore false 1 [(.int .i64 0), (.int .i64 0)] 0 fn1).bind fun cs2 =>
 (istore true 2 [(.int .i64 0), (.int .i64 0)] 0 (.agg ⟨cs2⟩)).bind fun cs3 =>
 (iload true 2 cs3 0).bind fun r1 =>
 some (.ret (.tuple ⟨[(.int .i64 1), r1]⟩), H1))
 else
 (iload false 1 cs1 2).bind fun t19 =>
 (iidx 5 t19 fn1).bind fun t21 =>
 (hload true 5 H1 t21).bind fun t22 =>
 (istore true 5 [(.slice none 0 0), (.int .i64 0), (.int .i64 0), (.slice none 0 0), (.slice none 0 0)] 0 t22).bind fun cs4 =>
 (iload true 3 cs1 0).bind fun t23 =>
 (iload true 5 cs4 0).bind fun t24 =>
 callK (g204 lim t23 t24 H1) fun t25 H2 =>
 (ibin .neq .no t25 (.int .i64 0)).bind fun t27 =>
 (boolK t27 fun b2 => bif b2 then
 ((istore false 1 [(.int .i64 0), (.int .i64 0)] 0 fn1).bind fun cs5 =>
 (istore true 2 [(.int .i64 0), (.int .i64 0)] 0 (.agg ⟨cs5⟩)).bind fun cs6 =>
 (iload true 2 cs6 0).bind fun r2 =>
 some (.ret (.tuple ⟨[t25, r2]⟩), H2))
 else
 (iload false 1 cs4 4).bind fun t32 =>
 (ilenS t32).bind fun t33 =>
 catchK 0 (iloop (fun vs1 H3 =>
 (ibin .lss .no (nthV 0 vs1) t33).bind fun t35 =>
 (boolK t35 fun b3 => bif b3 then
 (catchK 1 ((iload true 3 cs1 0).bind fun t37 =>
 (istore false 1 [(.int .i64 0), (.int .i64 0)] 0 fn1).bind fun cs7 =>
 (istore false 1 cs7 1 (nthV 0 vs1)).bind fun cs8 =>
 callK (g205 lim t37 (.agg ⟨cs8⟩) H3) fun t41 H4 =>
 (ibin .neq .no t41 (.int .i64 0)).bind fun t43 =>
 (boolK t43 fun b4 => bif b4 then
 ((istore false 1 [(.int .i64 0), (.int .i64 0)] 0 fn1).bind fun cs9 =>
 (istore false 1 cs9 1 (nthV 0 vs1)).bind fun cs10 =>
 (aggs (nthV 0 (vs1.drop 1))).bind fun cs11 =>
 (istore true 2 cs11 0 (.agg ⟨cs10⟩)).bind fun cs12 =>
 (iload true 2 cs12 0).bind fun r3 =>
 some (.ret (.tuple ⟨[t41, r3]⟩), H4))
 else
 (aggs (nthV 0 (vs1.drop 1))).bind fun cs13 =>
 some (.norm ([] ++ [.agg ⟨cs13⟩]), H4))) fun vs2 H5 =>
 (ibin .add .no (nthV 0 vs1) (.int .i64 1)).bind fun t48 =>
 (aggs (nthV 0 (vs2.drop 0))).bind fun cs14 =>
 some (.norm ([t48] ++ [.agg ⟨cs14⟩]), H5))
 else
 (aggs (nthV 0 (vs1.drop 1))).bind fun cs15 =>
 some (.exit 0 ([] ++ [.agg ⟨cs15⟩]), H3))) N ([(.int .i64 0)] ++ [.agg ⟨[(.int .i64 0), (.int .i64 0)]⟩]) H2) fun vs3 H6 =>
 (aggs (nthV 0 (vs3.drop 0))).bind fun cs16 =>
 (istore true 2 cs16 0 (.agg ⟨[(.int .i64 0), (.int .i64 0)]⟩)).bind fun cs17 =>
 (iload true 2 cs17 0).bind fun r4 =>
 some (.ret (.tuple ⟨[(.int .i64 0), r4]⟩), H6))))
def F133 (N lim : Nat) (a0 a1 : Value) (H : IHeap) : RV := B133 N (F203 N) (F204 N) (F205 N) lim a0 a1 H
def G133 (N : Nat) : G := w2 (F133 N)
theorem eq133 (N : Nat) (g203 : RF2) (g204 : RF2) (g205 : RF2) (lim : Nat) (a0 a1 : Value) (H : IHeap) : ifun Tryz.prog { fn := envOf [(203, Ideal.w2 g203), (204, Ideal.w2 g204), (205, Ideal.w2 g205)], wr := [] } { promo := [2, 5, 6], share := false } N (okOf Tryz.prog { promo := [2, 5, 6], share := false } []) Tryz.f133 (.seq (.region []) (.seq (.seq (.region []) (.inl (.seq (.region []) .leaf) .leaf)) (.seq (.region []) (.seq (.seq (.region []) (.seq (.region []) (.inl (.seq (.region []) .leaf) .leaf))) (.seq (.seq (.region []) (.block [] [5] [5] (.loop [34] [5] [5] (.seq (.region []) (.seq (.inl .leaf .leaf) (.seq (.block [] [5] [5] (.seq (.region []) (.seq (.region []) (.seq (.region []) (.inl (.seq (.region []) .leaf) .leaf))))) (.region []))))))) (.seq (.region []) .leaf)))))) lim [a0, a1] H = B133 N g203 g204 g205 lim a0 a1 H := by kernel_rfl
theorem sim133 (N : Nat) : SimF Tryz.prog 133 (G133 N) := by
  refine SimF.gen [(203, G203 N), (204, G204 N), (205, G205 N)] [] { promo := [2, 5, 6], share := false } N (.seq (.region []) (.seq (.seq (.region []) (.inl (.seq (.region []) .leaf) .leaf)) (.seq (.region []) (.seq (.seq (.region []) (.seq (.region []) (.inl (.seq (.region []) .leaf) .leaf))) (.seq (.seq (.region []) (.block [] [5] [5] (.loop [34] [5] [5] (.seq (.region []) (.seq (.inl .leaf .leaf) (.seq (.block [] [5] [5] (.seq (.region []) (.seq (.region []) (.seq (.region []) (.inl (.seq (.region []) .leaf) .leaf))))) (.region []))))))) (.seq (.region []) .leaf)))))) Tryz.func133 (by kernel_rfl) (by kernel_rfl) (env_cons (sim203 N) (env_cons (sim204 N) (env_cons (sim205 N) env_nil))) ?_
  intro lim args H r h
  unfold G133 w2 at h
  split at h
  · exact (eq133 N (F203 N) (F204 N) (F205 N) lim _ _ H).trans h
  · simp at h
/-- besom/check.Program -/
def B65 (N : Nat) (g132 : RF1) (g133 : RF2) (lim : Nat) (p0 : Value) (H : IHeap) : RV :=
 retK ((cellsOf true 3 p0).bind fun cs1 =>
 (iload true 3 cs1 0).bind fun t8 =>
 callK (g132 lim t8 H) fun t9 H1 =>
 (ibin .neq .no t9 (.int .i64 0)).bind fun t11 =>
 (boolK t11 fun b1 => bif b1 then
 ((istore true 2 [(.int .i64 0), (.int .i64 0)] 0 (.agg ⟨[(.int .i64 0), (.int .i64 0)]⟩)).bind fun cs2 =>
 (iload true 2 cs2 0).bind fun r1 =>
 some (.ret (.tuple ⟨[t9, r1]⟩), H1))
 else
 (iload false 1 cs1 2).bind fun t15 =>
 (ilenS t15).bind fun t16 =>
 catchK 0 (iloop (fun vs1 H2 =>
 (ibin .lss .no (nthV 0 vs1) t16).bind fun t18 =>
 (boolK t18 fun b2 => bif b2 then
 (catchK 1 ((iload true 3 cs1 0).bind fun t21 =>
 callK (g133 lim t21 (nthV 0 vs1) H2) fun t23 H3 =>
 (iextract 0 t23).bind fun t24 =>
 (iextract 1 t23).bind fun t25 =>
 (istore true 2 [(.int .i64 0), (.int .i64 0)] 0 t25).bind fun cs3 =>
 (ibin .neq .no t24 (.int .i64 0)).bind fun t27 =>
 (boolK t27 fun b3 => bif b3 then
 ((iload true 2 cs3 0).bind fun t29 =>
 (aggs (nthV 0 (vs1.drop 1))).bind fun cs4 =>
 (istore true 2 cs4 0 t29).bind fun cs5 =>
 (iload true 2 cs5 0).bind fun r2 =>
 some (.ret (.tuple ⟨[t24, r2]⟩), H3))
 else
 (aggs (nthV 0 (vs1.drop 1))).bind fun cs6 =>
 some (.norm ([] ++ [.agg ⟨cs6⟩]), H3))) fun vs2 H4 =>
 (ibin .add .no (nthV 0 vs1) (.int .i64 1)).bind fun t30 =>
 (aggs (nthV 0 (vs2.drop 0))).bind fun cs7 =>
 some (.norm ([t30] ++ [.agg ⟨cs7⟩]), H4))
 else
 (aggs (nthV 0 (vs1.drop 1))).bind fun cs8 =>
 some (.exit 0 ([] ++ [.agg ⟨cs8⟩]), H2))) N ([(.int .i64 0)] ++ [.agg ⟨[(.int .i64 0), (.int .i64 0)]⟩]) H1) fun vs3 H5 =>
 (aggs (nthV 0 (vs3.drop 0))).bind fun cs9 =>
 (istore true 2 cs9 0 (.agg ⟨[(.int .i64 0), (.int .i64 0)]⟩)).bind fun cs10 =>
 (iload true 2 cs10 0).bind fun r3 =>
 some (.ret (.tuple ⟨[(.int .i64 0), r3]⟩), H5)))
def F65 (N lim : Nat) (a0 : Value) (H : IHeap) : RV := B65 N (F132 N) (F133 N) lim a0 H
def G65 (N : Nat) : G := w1 (F65 N)
theorem eq65 (N : Nat) (g132 : RF1) (g133 : RF2) (lim : Nat) (a0 : Value) (H : IHeap) : ifun Tryz.prog { fn := envOf [(132, Ideal.w1 g132), (133, Ideal.w2 g133)], wr := [] } { promo := [1, 3, 7], share := false } N (okOf Tryz.prog { promo := [1, 3, 7], share := false } []) Tryz.f65 (.seq (.region []) (.seq (.seq (.region []) (.seq (.region []) (.inl (.seq (.region []) .leaf) .leaf))) (.seq (.seq (.region []) (.block [] [3] [3, 7] (.loop [17] [3] [3, 7] (.seq (.region []) (.seq (.inl .leaf .leaf) (.seq (.block [] [3] [3, 7] (.seq (.region []) (.seq (.region []) (.seq (.region []) (.inl (.seq (.region []) .leaf) .leaf))))) (.region []))))))) (.seq (.region []) .leaf)))) lim [a0] H = B65 N g132 g133 lim a0 H := by kernel_rfl
theorem sim65 (N : Nat) : SimF Tryz.prog 65 (G65 N) := by
  refine SimF.gen [(132, G132 N), (133, G133 N)] [] { promo := [1, 3, 7], share := false } N (.seq (.region []) (.seq (.seq (.region []) (.seq (.region []) (.inl (.seq (.region []) .leaf) .leaf))) (.seq (.seq (.region []) (.block [] [3] [3, 7] (.loop [17] [3] [3, 7] (.seq (.region []) (.seq (.inl .leaf .leaf) (.seq (.block [] [3] [3, 7] (.seq (.region []) (.seq (.region []) (.seq (.region []) (.inl (.seq (.region []) .leaf) .leaf))))) (.region []))))))) (.seq (.region []) .leaf)))) Tryz.func65 (by kernel_rfl) (by kernel_rfl) (env_cons (sim132 N) (env_cons (sim133 N) env_nil)) ?_
  intro lim args H r h
  unfold G65 w1 at h
  split at h
  · exact (eq65 N (F132 N) (F133 N) lim _ H).trans h
  · simp at h
/-- slices.Clone[[]int,int] -/
def B30 (N : Nat) (lim : Nat) (s0 : Value) (H : IHeap) : RV :=
 retK ((ibin .eql .slice s0 (.slice none 0 0)).bind fun t4 =>
 (boolK t4 fun b1 => bif b1 then
 (some (.ret (.slice none 0 0), H))
 else
 rowK (hrow 1 (H.push (.cells [] 0)) s0) fun m1 new1 =>
 callK (iappend false 1 8 lim (H.push (.cells [] 0)) (slc 1 H.next 0 0 1) m1 new1) fun t7 H1 =>
 some (.ret t7, H1)))
def F30 (N lim : Nat) (a0 : Value) (H : IHeap) : RV := B30 N lim a0 H
def G30 (N : Nat) : G := w1 (F30 N)
theorem eq30 (N : Nat) (lim : Nat) (a0 : Value) (H : IHeap) : ifun Tryz.prog { fn := envOf [], wr := [] } { promo := [], share := false } N (okOf Tryz.prog { promo := [], share := false } []) Tryz.f30 (.seq (.region []) (.seq (.seq (.region []) (.inl (.seq (.region []) .leaf) .leaf)) (.seq (.region []) .leaf))) lim [a0] H = B30 N lim a0 H := by kernel_rfl
theorem sim30 (N : Nat) : SimF Tryz.prog 30 (G30 N) := by
  refine SimF.gen [] [] { promo := [], share := false } N (.seq (.region []) (.seq (.seq (.region []) (.inl (.seq (.region []) .leaf) .leaf)) (.seq (.region []) .leaf))) Tryz.func30 (by kernel_rfl) (by kernel_rfl) env_nil ?_
  intro lim args H r h
  unfold G30 w1 at h
  split at h
  · exact (eq30 N lim _ H).trans h
  · simp at h
/-- besom/flow.Join -/
def B206 (N : Nat) (lim : Nat) (a0 b1 : Value) (H : IHeap) : RV :=
 retK ((ilenS a0).bind fun t8 =>
 (ilenS b1).bind fun t10 =>
 (iminmax true [t8, t10]).bind fun t11 =>
 catchK 0 (iloop (fun vs1 H1 =>
 (ibin .lss .no (nthV 1 vs1) t11).bind fun t13 =>
 (boolK t13 fun b2 => bif b2 then
 (catchK 1 ((iidx 1 a0 (nthV 1 vs1)).bind fun t17 =>
 (hload false 1 H1 t17).bind fun t18 =>
 (iidx 1 b1 (nthV 1 vs1)).bind fun t21 =>
 (hload false 1 H1 t21).bind fun t22 =>
 (ibin .eql .no t18 t22).bind fun t23 =>
 joinK (boolK t23 fun b3 => bif b3 then
 ((iidx 1 a0 (nthV 1 vs1)).bind fun t27 =>
 (hload false 1 H1 t27).bind fun t28 =>
 (istore false 1 [(.int .i64 0)] 0 t28).bind fun cs1 =>
 rowK (lrow 1 1 cs1) fun m1 new1 =>
 callK (iappend false 1 8 lim H1 (nthV 0 vs1) m1 new1) fun t30 H2 =>
 some (.norm ([t30] ++ []), H2))
 else
 (istore false 1 [(.int .i64 0)] 0 (.int .i64 0)).bind fun cs2 =>
 rowK (lrow 1 1 cs2) fun m2 new2 =>
 callK (iappend false 1 8 lim H1 (nthV 0 vs1) m2 new2) fun t33 H3 =>
 some (.norm ([t33] ++ []), H3)) fun vs2 H4 =>
 some (.norm ([(nthV 0 vs2)] ++ []), H4)) fun vs3 H5 =>
 (ibin .add .no (nthV 1 vs1) (.int .i64 1)).bind fun t34 =>
 some (.norm ([(nthV 0 vs3), t34] ++ []), H5))
 else
 some (.exit 0 ([(nthV 0 vs1)] ++ []), H1))) N ([(.slice none 0 0), (.int .i64 0)] ++ []) H) fun vs4 H6 =>
 some (.ret (nthV 0 vs4), H6))
def F206 (N lim : Nat) (a0 a1 : Value) (H : IHeap) : RV := B206 N lim a0 a1 H
def G206 (N : Nat) : G := w2 (F206 N)
theorem eq206 (N : Nat) (lim : Nat) (a0 a1 : Value) (H : IHeap) : ifun Tryz.prog { fn := envOf [], wr := [] } { promo := [29, 32], share := false } N (okOf Tryz.prog { promo := [29, 32], share := false } []) Tryz.f206 (.seq (.region []) (.seq (.region []) (.seq (.seq (.region []) (.block [5] [] [29, 32] (.loop [5, 12] [] [29, 32] (.seq (.region []) (.seq (.inl .leaf .leaf) (.seq (.block [5] [] [29, 32] (.seq (.region []) (.seq (.region []) (.join [5] [] [29, 32] (.region []) (.region []))))) (.region []))))))) (.seq (.region []) .leaf)))) lim [a0, a1] H = B206 N lim a0 a1 H := by kernel_rfl
theorem sim206 (N : Nat) : SimF Tryz.prog 206 (G206 N) := by
  refine SimF.gen [] [] { promo := [29, 32], share := false } N (.seq (.region []) (.seq (.region []) (.seq (.seq (.region []) (.block [5] [] [29, 32] (.loop [5, 12] [] [29, 32] (.seq (.region []) (.seq (.inl .leaf .leaf) (.seq (.block [5] [] [29, 32] (.seq (.region []) (.seq (.region []) (.join [5] [] [29, 32] (.region []) (.region []))))) (.region []))))))) (.seq (.region []) .leaf)))) Tryz.func206 (by kernel_rfl) (by kernel_rfl) env_nil ?_
  intro lim args H r h
  unfold G206 w2 at h
  split at h
  · exact (eq206 N lim _ _ H).trans h
  · simp at h
/-- slices.Equal[[]int,int] -/
def B207 (N : Nat) (lim : Nat) (s10 s21 : Value) (H : IHeap) : RV :=
 retK ((ilenS s10).bind fun t7 =>
 (ilenS s21).bind fun t9 =>
 (ibin .neq .no t7 t9).bind fun t10 =>
 (boolK t10 fun b1 => bif b1 then
 (some (.ret (.bool false), H))
 else
 (ilenS s10).bind fun t12 =>
 catchK 0 (iloop (fun vs1 H1 =>
 (ibin .lss .no (nthV 0 vs1) t12).bind fun t14 =>
 (boolK t14 fun b2 => bif b2 then
 (catchK 1 ((iidx 1 s10 (nthV 0 vs1)).bind fun t18 =>
 (hload false 1 H1 t18).bind fun t19 =>
 (iidx 1 s21 (nthV 0 vs1)).bind fun t22 =>
 (hload false 1 H1 t22).bind fun t23 =>
 (ibin .neq .no t19 t23).bind fun t24 =>
 (boolK t24 fun b3 => bif b3 then
 (some (.ret (.bool false), H1))
 else
 some (.norm ([] ++ []), H1))) fun vs2 H2 =>
 (ibin .add .no (nthV 0 vs1) (.int .i64 1)).bind fun t25 =>
 some (.norm ([t25] ++ []), H2))
 else
 some (.exit 0 ([] ++ []), H1))) N ([(.int .i64 0)] ++ []) H) fun vs3 H3 =>
 some (.ret (.bool true), H3)))
def F207 (N lim : Nat) (a0 a1 : Value) (H : IHeap) : RV := B207 N lim a0 a1 H
def G207 (N : Nat) : G := w2 (F207 N)
theorem eq207 (N : Nat) (lim : Nat) (a0 a1 : Value) (H : IHeap) : ifun Tryz.prog { fn := envOf [], wr := [] } { promo := [], share := false } N (okOf Tryz.prog { promo := [], share := false } []) Tryz.f207 (.seq (.region []) (.seq (.seq (.region []) (.inl (.seq (.region []) .leaf) .leaf)) (.seq (.seq (.region []) (.block [] [] [] (.loop [13] [] [] (.seq (.region []) (.seq (.inl .leaf .leaf) (.seq (.block [] [] [] (.seq (.region []) (.seq (.region []) (.inl (.seq (.region []) .leaf) .leaf)))) (.region []))))))) (.seq (.region []) .leaf)))) lim [a0, a1] H = B207 N lim a0 a1 H := by kernel_rfl
theorem sim207 (N : Nat) : SimF Tryz.prog 207 (G207 N) := by
  refine SimF.gen [] [] { promo := [], share := false } N (.seq (.region []) (.seq (.seq (.region []) (.inl (.seq (.region []) .leaf) .leaf)) (.seq (.seq (.region []) (.block [] [] [] (.loop [13] [] [] (.seq (.region []) (.seq (.inl .leaf .leaf) (.seq (.block [] [] [] (.seq (.region []) (.seq (.region []) (.inl (.seq (.region []) .leaf) .leaf)))) (.region []))))))) (.seq (.region []) .leaf)))) Tryz.func207 (by kernel_rfl) (by kernel_rfl) env_nil ?_
  intro lim args H r h
  unfold G207 w2 at h
  split at h
  · exact (eq207 N lim _ _ H).trans h
  · simp at h
/-- (*besom/flow.walk).come -/
def B134 (N : Nat) (g30 : RF1) (g206 : RF2) (g207 : RF2) (lim : Nat) (w0 pc1 kinds2 : Value) (H : IHeap) : RV :=
 retK ((inilc w0).bind fun t11 =>
 (paddr 3 t11).bind fun t12 =>
 (hload false 1 H t12).bind fun t13 =>
 (istore false 1 [(.int .i64 0), (.int .i64 0)] 0 t13).bind fun cs1 =>
 (istore false 1 cs1 1 pc1).bind fun cs2 =>
 (istore true 2 [(.int .i64 0), (.int .i64 0)] 0 (.agg ⟨cs2⟩)).bind fun cs3 =>
 (inilc w0).bind fun t18 =>
 (paddr 4 t18).bind fun t19 =>
 (hload false 1 H t19).bind fun t20 =>
 (iload true 2 cs3 0).bind fun t21 =>
 (ilookup 3 (.slice none 0 0) true H t20 t21).bind fun t22 =>
 (iextract 0 t22).bind fun t23 =>
 (iextract 1 t22).bind fun t24 =>
 joinK (boolK t24 fun b1 => bif b1 then
 (callK (g206 lim t23 kinds2 H) fun t29 H1 =>
 some (.norm ([t29] ++ []), H1))
 else
 some (.norm ([kinds2] ++ []), H)) fun vs1 H2 =>
 (iun .not t24).bind fun t31 =>
 (gval false t31).bind fun w1 => grpK (bif w1 then
 (callK (g207 lim t23 (nthV 0 vs1) H2) fun t35 H4 =>
 (iun .not t35).bind fun t36 =>
 some ([t36], H4))
 else some ([Value.tuple #[]], H2)) fun vs2 H3 =>
 (pickK t31 (.bool true) (nthV 0 vs2)).bind fun t37 =>
 joinK (boolK t37 fun b3 => bif b3 then
 ((inilc w0).bind fun t39 =>
 (paddr 4 t39).bind fun t40 =>
 (hload false 1 H3 t40).bind fun t41 =>
 (iload true 2 cs3 0).bind fun t42 =>
 callK (g30 H3.next (nthV 0 vs1) H3) fun t44 H5 =>
 (imapUpdate 3 lim H5 t41 t42 t44).bind fun H6 =>
 (inilc w0).bind fun t47 =>
 (paddr 5 t47).bind fun t48 =>
 (hload false 1 H6 t48).bind fun t49 =>
 (istore false 1 [(.int .i64 0)] 0 pc1).bind fun cs4 =>
 rowK (lrow 1 1 cs4) fun m1 new1 =>
 callK (iappend false 1 8 lim H6 t49 m1 new1) fun t52 H7 =>
 (inilc w0).bind fun t53 =>
 (paddr 5 t53).bind fun t54 =>
 (hstore false 1 lim H7 t54 t52).bind fun H8 =>
 some (.norm ([] ++ []), H8))
 else
 some (.norm ([] ++ []), H3)) fun vs3 H9 =>
 some (.ret (.tuple ⟨[]⟩), H9))
def F134 (N lim : Nat) (a0 a1 a2 : Value) (H : IHeap) : RV := B134 N (F30 N) (F206 N) (F207 N) lim a0 a1 a2 H
def G134 (N : Nat) : G := w3 (F134 N)
theorem eq134 (N : Nat) (g30 : RF1) (g206 : RF2) (g207 : RF2) (lim : Nat) (a0 a1 a2 : Value) (H : IHeap) : ifun Tryz.prog { fn := envOf [(30, Ideal.w1 g30), (206, Ideal.w2 g206), (207, Ideal.w2 g207)], wr := [] } { promo := [6, 51], share := false } N (okOf Tryz.prog { promo := [6, 51], share := false } []) Tryz.f134 (.seq (.region []) (.seq (.region []) (.seq (.region []) (.seq (.seq (.region []) (.join [9] [] [] (.region []) .leaf)) (.seq (.region [[36]]) (.join [] [] [51] (.seq (.region []) (.region [])) .leaf)))))) lim [a0, a1, a2] H = B134 N g30 g206 g207 lim a0 a1 a2 H := by kernel_rfl
theorem sim134 (N : Nat) : SimF Tryz.prog 134 (G134 N) := by
  refine SimF.gen [(30, G30 N), (206, G206 N), (207, G207 N)] [] { promo := [6, 51], share := false } N (.seq (.region []) (.seq (.region []) (.seq (.region []) (.seq (.seq (.region []) (.join [9] [] [] (.region []) .leaf)) (.seq (.region [[36]]) (.join [] [] [51] (.seq (.region []) (.region [])) .leaf)))))) Tryz.func134 (by kernel_rfl) (by kernel_rfl) (env_cons (sim30 N) (env_cons (sim206 N) (env_cons (sim207 N) env_nil))) ?_
  intro lim args H r h
  unfold G134 w3 at h
  split at h
  · exact (eq134 N (F30 N) (F206 N) (F207 N) lim _ _ _ H).trans h
  · simp at h
/-- (besom/flow.step).kind -/
def B271 (N : Nat) (lim : Nat) (s0 k1 : Value) (H : IHeap) : RV :=
 retK ((cellsOf true 13 s0).bind fun cs1 =>
 (ibin .lss .no k1 (.int .i64 0)).bind fun t6 =>
 (gval false t6).bind fun w1 => grpK (bif w1 then
 ((iload false 1 cs1 12).bind fun t10 =>
 (ilenS t10).bind fun t11 =>
 (ibin .geq .no k1 t11).bind fun t12 =>
 some ([t12], H))
 else some ([Value.tuple #[]], H)) fun vs1 H1 =>
 (pickK t6 (.bool true) (nthV 0 vs1)).bind fun t13 =>
 (boolK t13 fun b2 => bif b2 then
 (some (.ret (.int .i64 0), H1))
 else
 (iload false 1 cs1 12).bind fun t15 =>
 (iidx 1 t15 k1).bind fun t17 =>
 (hload false 1 H1 t17).bind fun t18 =>
 some (.ret t18, H1)))
def F271 (N lim : Nat) (a0 a1 : Value) (H : IHeap) : RV := B271 N lim a0 a1 H
def G271 (N : Nat) : G := w2 (F271 N)
theorem eq271 (N : Nat) (lim : Nat) (a0 a1 : Value) (H : IHeap) : ifun Tryz.prog { fn := envOf [], wr := [] } { promo := [2], share := false } N (okOf Tryz.prog { promo := [2], share := false } []) Tryz.f271 (.seq (.region []) (.seq (.seq (.region [[12]]) (.inl (.seq (.region []) .leaf) .leaf)) (.seq (.region []) .leaf))) lim [a0, a1] H = B271 N lim a0 a1 H := by kernel_rfl
theorem sim271 (N : Nat) : SimF Tryz.prog 271 (G271 N) := by
  refine SimF.gen [] [] { promo := [2], share := false } N (.seq (.region []) (.seq (.seq (.region [[12]]) (.inl (.seq (.region []) .leaf) .leaf)) (.seq (.region []) .leaf))) Tryz.func271 (by kernel_rfl) (by kernel_rfl) env_nil ?_
  intro lim args H r h
  unfold G271 w2 at h
  split at h
  · exact (eq271 N lim _ _ H).trans h
  · simp at h
/-- (besom/flow.step).callee -/
def B210 (N : Nat) (lim : Nat) (s0 : Value) (H : IHeap) : RV :=
 retK ((cellsOf true 13 s0).bind fun cs1 =>
 (iload false 1 cs1 2).bind fun t5 =>
 (iload false 1 cs1 10).bind fun t8 =>
 (iidx 5 t5 t8).bind fun t9 =>
 (hload true 5 H t9).bind fun t10 =>
 (istore true 5 [(.slice none 0 0), (.int .i64 0), (.int .i64 0), (.slice none 0 0), (.slice none 0 0)] 0 t10).bind fun cs2 =>
 (iload true 5 cs2 0).bind fun r1 =>
 some (.ret r1, H))
def F210 (N lim : Nat) (a0 : Value) (H : IHeap) : RV := B210 N lim a0 H
def G210 (N : Nat) : G := w1 (F210 N)
theorem eq210 (N : Nat) (lim : Nat) (a0 : Value) (H : IHeap) : ifun Tryz.prog { fn := envOf [], wr := [] } { promo := [1, 2], share := false } N (okOf Tryz.prog { promo := [1, 2], share := false } []) Tryz.f210 (.seq (.region []) (.seq (.region []) .leaf)) lim [a0] H = B210 N lim a0 H := by kernel_rfl
theorem sim210 (N : Nat) : SimF Tryz.prog 210 (G210 N) := by
  refine SimF.gen [] [] { promo := [1, 2], share := false } N (.seq (.region []) (.seq (.region []) .leaf)) Tryz.func210 (by kernel_rfl) (by kernel_rfl) env_nil ?_
  intro lim args H r h
  unfold G210 w1 at h
  split at h
  · exact (eq210 N lim _ H).trans h
  · simp at h
/-- (besom/flow.step).args -/
def B274 (N : Nat) (g210 : RF1) (g271 : RF2) (lim : Nat) (s0 : Value) (H : IHeap) : RV :=
 retK ((cellsOf true 13 s0).bind fun cs1 =>
 (iload true 13 cs1 0).bind fun t5 =>
 callK (g210 lim t5 H) fun t6 H1 =>
 (ifield false 1 0 t6).bind fun t7 =>
 (ilenS t7).bind fun t8 =>
 catchK 0 (iloop (fun vs1 H2 =>
 (ibin .lss .no (nthV 0 vs1) t8).bind fun t10 =>
 (boolK t10 fun b1 => bif b1 then
 (catchK 1 ((iidx 1 t7 (nthV 0 vs1)).bind fun t12 =>
 (hload false 1 H2 t12).bind fun t13 =>
 (iload true 13 cs1 0).bind fun t14 =>
 (iload false 1 cs1 11).bind fun t17 =>
 (ibin .add .no t17 (nthV 0 vs1)).bind fun t19 =>
 callK (g271 lim t14 t19 H2) fun t20 H3 =>
 (ibin .neq .no t20 t13).bind fun t22 =>
 (boolK t22 fun b2 => bif b2 then
 (some (.ret (.bool false), H3))
 else
 some (.norm ([] ++ []), H3))) fun vs2 H4 =>
 (ibin .add .no (nthV 0 vs1) (.int .i64 1)).bind fun t23 =>
 some (.norm ([t23] ++ []), H4))
 else
 some (.exit 0 ([] ++ []), H2))) N ([(.int .i64 0)] ++ []) H1) fun vs3 H5 =>
 some (.ret (.bool true), H5))
def F274 (N lim : Nat) (a0 : Value) (H : IHeap) : RV := B274 N (F210 N) (F271 N) lim a0 H
def G274 (N : Nat) : G := w1 (F274 N)
theorem eq274 (N : Nat) (g210 : RF1) (g271 : RF2) (lim : Nat) (a0 : Value) (H : IHeap) : ifun Tryz.prog { fn := envOf [(210, Ideal.w1 g210), (271, Ideal.w2 g271)], wr := [] } { promo := [1], share := false } N (okOf Tryz.prog { promo := [1], share := false } []) Tryz.f274 (.seq (.region []) (.seq (.seq (.region []) (.block [] [] [] (.loop [9] [] [] (.seq (.region []) (.seq (.inl .leaf .leaf) (.seq (.block [] [] [] (.seq (.region []) (.seq (.region []) (.inl (.seq (.region []) .leaf) .leaf)))) (.region []))))))) (.seq (.region []) .leaf))) lim [a0] H = B274 N g210 g271 lim a0 H := by kernel_rfl
theorem sim274 (N : Nat) : SimF Tryz.prog 274 (G274 N) := by
  refine SimF.gen [(210, G210 N), (271, G271 N)] [] { promo := [1], share := false } N (.seq (.region []) (.seq (.seq (.region []) (.block [] [] [] (.loop [9] [] [] (.seq (.region []) (.seq (.inl .leaf .leaf) (.seq (.block [] [] [] (.seq (.region []) (.seq (.region []) (.inl (.seq (.region []) .leaf) .leaf)))) (.region []))))))) (.seq (.region []) .leaf))) Tryz.func274 (by kernel_rfl) (by kernel_rfl) (env_cons (sim210 N) (env_cons (sim271 N) env_nil)) ?_
  intro lim args H r h
  unfold G274 w1 at h
  split at h
  · exact (eq274 N (F210 N) (F271 N) lim _ H).trans h
  · simp at h
/-- (besom/flow.step).reads -/
def B208 (N : Nat) (g271 : RF2) (g274 : RF1) (lim : Nat) (s0 : Value) (H : IHeap) : RV :=
 retK ((cellsOf true 13 s0).bind fun cs1 =>
 (iload true 4 cs1 8).bind fun t6 =>
 (istore true 4 [(.int .i64 0), (.int .i64 0), (.int .i64 0), (.int .i64 0)] 0 t6).bind fun cs2 =>
 (iload false 1 cs2 0).bind fun t8 =>
 catchK 0 ((ibin .eql .no t8 (.int .i64 3)).bind fun t10 =>
 joinK (boolK t10 fun b1 => bif b1 then
 (some (.norm ([t10] ++ []), H))
 else
 (ibin .eql .no t8 (.int .i64 4)).bind fun t11 =>
 joinK (boolK t11 fun b2 => bif b2 then
 (some (.norm ([t11] ++ []), H))
 else
 (ibin .eql .no t8 (.int .i64 5)).bind fun t12 =>
 joinK (boolK t12 fun b3 => bif b3 then
 (some (.norm ([t12] ++ []), H))
 else
 (ibin .eql .no t8 (.int .i64 6)).bind fun t13 =>
 joinK (boolK t13 fun b4 => bif b4 then
 (some (.norm ([t13] ++ []), H))
 else
 (ibin .eql .no t8 (.int .i64 7)).bind fun t14 =>
 joinK (boolK t14 fun b5 => bif b5 then
 (some (.norm ([t14] ++ []), H))
 else
 (ibin .eql .no t8 (.int .i64 8)).bind fun t15 =>
 some (.norm ([t15] ++ []), H)) fun vs1 H1 =>
 some (.norm ([(nthV 0 vs1)] ++ []), H1)) fun vs2 H2 =>
 some (.norm ([(nthV 0 vs2)] ++ []), H2)) fun vs3 H3 =>
 some (.norm ([(nthV 0 vs3)] ++ []), H3)) fun vs4 H4 =>
 some (.norm ([(nthV 0 vs4)] ++ []), H4)) fun vs5 H5 =>
 (boolK (nthV 0 vs5) fun b6 => bif b6 then
 ((iload true 13 cs1 0).bind fun t16 =>
 (iload false 1 cs2 2).bind fun t18 =>
 callK (g271 lim t16 t18 H5) fun t19 H6 =>
 (ibin .eql .no t19 (.int .i64 1)).bind fun t20 =>
 (gval true t20).bind fun w1 => grpK (bif w1 then
 ((iload true 13 cs1 0).bind fun t22 =>
 (iload false 1 cs2 3).bind fun t24 =>
 callK (g271 lim t22 t24 H6) fun t25 H8 =>
 (ibin .eql .no t25 (.int .i64 1)).bind fun t26 =>
 some ([t26], H8))
 else some ([Value.tuple #[]], H6)) fun vs6 H7 =>
 (pickK t20 (nthV 0 vs6) (.bool false)).bind fun t27 =>
 some (.ret t27, H7))
 else
 (ibin .eql .no t8 (.int .i64 2)).bind fun t29 =>
 (boolK t29 fun b8 => bif b8 then
 ((iload true 13 cs1 0).bind fun t30 =>
 (iload false 1 cs2 2).bind fun t32 =>
 callK (g271 lim t30 t32 H5) fun t33 H9 =>
 (ibin .neq .no t33 (.int .i64 0)).bind fun t34 =>
 some (.ret t34, H9))
 else
 (ibin .eql .no t8 (.int .i64 10)).bind fun t36 =>
 joinK (boolK t36 fun b9 => bif b9 then
 (some (.norm ([t36] ++ []), H5))
 else
 (ibin .eql .no t8 (.int .i64 29)).bind fun t37 =>
 some (.norm ([t37] ++ []), H5)) fun vs7 H10 =>
 (boolK (nthV 0 vs7) fun b10 => bif b10 then
 ((iload true 13 cs1 0).bind fun t38 =>
 (iload false 1 cs2 1).bind fun t40 =>
 callK (g271 lim t38 t40 H10) fun t41 H11 =>
 (ibin .eql .no t41 (.int .i64 1)).bind fun t42 =>
 some (.ret t42, H11))
 else
 (ibin .eql .no t8 (.int .i64 12)).bind fun t44 =>
 (boolK t44 fun b11 => bif b11 then
 ((iload true 13 cs1 0).bind fun t45 =>
 (iload false 1 cs2 2).bind fun t47 =>
 callK (g271 lim t45 t47 H10) fun t48 H12 =>
 none)
 else
 (ibin .eql .no t8 (.int .i64 14)).bind fun t51 =>
 joinK (boolK t51 fun b12 => bif b12 then
 (some (.norm ([t51] ++ []), H10))
 else
 (ibin .eql .no t8 (.int .i64 19)).bind fun t52 =>
 some (.norm ([t52] ++ []), H10)) fun vs8 H13 =>
 (boolK (nthV 0 vs8) fun b13 => bif b13 then
 ((iload true 13 cs1 0).bind fun t53 =>
 (iload false 1 cs2 2).bind fun t55 =>
 (iload false 1 cs2 3).bind fun t57 =>
 none)
 else
 (ibin .eql .no t8 (.int .i64 15)).bind fun t61 =>
 joinK (boolK t61 fun b14 => bif b14 then
 (some (.norm ([t61] ++ []), H13))
 else
 (ibin .eql .no t8 (.int .i64 20)).bind fun t62 =>
 some (.norm ([t62] ++ []), H13)) fun vs9 H14 =>
 (boolK (nthV 0 vs9) fun b15 => bif b15 then
 ((iload true 13 cs1 0).bind fun t63 =>
 (iload false 1 cs2 1).bind fun t65 =>
 (iload false 1 cs2 2).bind fun t67 =>
 none)
 else
 (ibin .eql .no t8 (.int .i64 17)).bind fun t80 =>
 (boolK t80 fun b16 => bif b16 then
 ((iload true 13 cs1 0).bind fun t81 =>
 (iload false 1 cs2 2).bind fun t83 =>
 callK (g271 H14.next t81 t83 H14) fun t84 H15 =>
 (iload false 1 cs1 0).bind fun t87 =>
 (iload false 1 cs2 1).bind fun t89 =>
 (iidx 1 t87 t89).bind fun t90 =>
 (hload false 1 H15 t90).bind fun t91 =>
 (ibin .eql .no t84 t91).bind fun t92 =>
 some (.ret t92, H15))
 else
 (ibin .eql .no t8 (.int .i64 21)).bind fun t94 =>
 joinK (boolK t94 fun b17 => bif b17 then
 (some (.norm ([t94] ++ []), H14))
 else
 (ibin .eql .no t8 (.int .i64 23)).bind fun t95 =>
 joinK (boolK t95 fun b18 => bif b18 then
 (some (.norm ([t95] ++ []), H14))
 else
 (ibin .eql .no t8 (.int .i64 24)).bind fun t96 =>
 some (.norm ([t96] ++ []), H14)) fun vs10 H16 =>
 some (.norm ([(nthV 0 vs10)] ++ []), H16)) fun vs11 H17 =>
 (boolK (nthV 0 vs11) fun b19 => bif b19 then
 ((iload true 13 cs1 0).bind fun t97 =>
 callK (g274 lim t97 H17) fun t98 H18 =>
 some (.ret t98, H18))
 else
 (ibin .eql .no t8 (.int .i64 22)).bind fun t100 =>
 (boolK t100 fun b20 => bif b20 then
 ((iload false 1 cs1 4).bind fun t103 =>
 (ibin .eql .no t103 (.int .i64 0)).bind fun t104 =>
 (gval false t104).bind fun w2 => grpK (bif w2 then
 ((iload true 13 cs1 0).bind fun t106 =>
 (iload false 1 cs2 1).bind fun t108 =>
 callK (g271 H17.next t106 t108 H17) fun t109 H20 =>
 (iload false 1 cs1 4).bind fun t112 =>
 (ibin .eql .no t109 t112).bind fun t113 =>
 some ([t113], H20))
 else some ([Value.tuple #[]], H17)) fun vs12 H19 =>
 (pickK t104 (.bool true) (nthV 0 vs12)).bind fun t114 =>
 some (.ret t114, H19))
 else
 (ibin .eql .no t8 (.int .i64 25)).bind fun t116 =>
 (boolK t116 fun b22 => bif b22 then
 ((iload true 13 cs1 0).bind fun t117 =>
 (iload false 1 cs2 1).bind fun t119 =>
 callK (g271 lim t117 t119 H17) fun t120 H21 =>
 (ibin .eql .no t120 (.int .i64 1)).bind fun t121 =>
 (gval true t121).bind fun w3 => grpK (bif w3 then
 ((iload true 13 cs1 0).bind fun t123 =>
 (iload false 1 cs2 2).bind fun t125 =>
 callK (g271 lim t123 t125 H21) fun t126 H23 =>
 (ibin .eql .no t126 (.int .i64 16)).bind fun t127 =>
 some ([t127], H23))
 else some ([Value.tuple #[]], H21)) fun vs13 H22 =>
 (pickK t121 (nthV 0 vs13) (.bool false)).bind fun t128 =>
 some (.ret t128, H22))
 else
 some (.norm ([] ++ []), H17)))))))))))) fun vs14 H24 =>
 some (.ret (.bool true), H24))
def F208 (N lim : Nat) (a0 : Value) (H : IHeap) : RV := B208 N (F271 N) (F274 N) lim a0 H
def G208 (N : Nat) : G := w1 (F208 N)
theorem eq208 (N : Nat) (g271 : RF2) (g274 : RF1) (lim : Nat) (a0 : Value) (H : IHeap) : ifun Tryz.prog { fn := envOf [(271, Ideal.w2 g271), (274, Ideal.w1 g274)], wr := [] } { promo := [1, 3], share := false } N (okOf Tryz.prog { promo := [1, 3], share := false } []) Tryz.f208 (.seq (.region []) (.seq (.region []) (.seq (.seq (.region []) (.block [] [] [] (.seq (.seq (.region []) (.join [9] [] [] .leaf (.seq (.region []) (.join [9] [] [] .leaf (.seq (.region []) (.join [9] [] [] .leaf (.seq (.region []) (.join [9] [] [] .leaf (.seq (.region []) (.join [9] [] [] .leaf (.region []))))))))))) (.inl (.seq (.region [[26]]) .leaf) (.seq (.region []) (.inl (.seq (.region []) .leaf) (.seq (.seq (.region []) (.join [35] [] [] .leaf (.region []))) (.inl (.seq (.region []) .leaf) (.seq (.region []) (.inl (.seq (.region []) .leaf) (.seq (.seq (.region []) (.join [50] [] [] .leaf (.region []))) (.inl (.seq (.region []) .leaf) (.seq (.seq (.region []) (.join [60] [] [] .leaf (.region []))) (.inl (.seq (.region []) (.seq (.region [[77]]) .leaf)) (.seq (.region []) (.inl (.seq (.region []) .leaf) (.seq (.seq (.region []) (.join [93] [] [] .leaf (.seq (.region []) (.join [93] [] [] .leaf (.region []))))) (.inl (.seq (.region []) .leaf) (.seq (.region []) (.inl (.seq (.region [[113]]) .leaf) (.seq (.region []) (.inl (.seq (.region [[127]]) .leaf) .leaf)))))))))))))))))))))) (.seq (.region []) .leaf)))) lim [a0] H = B208 N g271 g274 lim a0 H := by kernel_rfl
theorem sim208 (N : Nat) : SimF Tryz.prog 208 (G208 N) := by
  refine SimF.gen [(271, G271 N), (274, G274 N)] [] { promo := [1, 3], share := false } N (.seq (.region []) (.seq (.region []) (.seq (.seq (.region []) (.block [] [] [] (.seq (.seq (.region []) (.join [9] [] [] .leaf (.seq (.region []) (.join [9] [] [] .leaf (.seq (.region []) (.join [9] [] [] .leaf (.seq (.region []) (.join [9] [] [] .leaf (.seq (.region []) (.join [9] [] [] .leaf (.region []))))))))))) (.inl (.seq (.region [[26]]) .leaf) (.seq (.region []) (.inl (.seq (.region []) .leaf) (.seq (.seq (.region []) (.join [35] [] [] .leaf (.region []))) (.inl (.seq (.region []) .leaf) (.seq (.region []) (.inl (.seq (.region []) .leaf) (.seq (.seq (.region []) (.join [50] [] [] .leaf (.region []))) (.inl (.seq (.region []) .leaf) (.seq (.seq (.region []) (.join [60] [] [] .leaf (.region []))) (.inl (.seq (.region []) (.seq (.region [[77]]) .leaf)) (.seq (.region []) (.inl (.seq (.region []) .leaf) (.seq (.seq (.region []) (.join [93] [] [] .leaf (.seq (.region []) (.join [93] [] [] .leaf (.region []))))) (.inl (.seq (.region []) .leaf) (.seq (.region []) (.inl (.seq (.region [[113]]) .leaf) (.seq (.region []) (.inl (.seq (.region [[127]]) .leaf) .leaf)))))))))))))))))))))) (.seq (.region []) .leaf)))) Tryz.func208 (by kernel_rfl) (by kernel_rfl) (env_cons (sim271 N) (env_cons (sim274 N) env_nil)) ?_
  intro lim args H r h
  unfold G208 w1 at h
  split at h
  · exact (eq208 N (F271 N) (F274 N) lim _ H).trans h
  · simp at h
end Go.Ideal
