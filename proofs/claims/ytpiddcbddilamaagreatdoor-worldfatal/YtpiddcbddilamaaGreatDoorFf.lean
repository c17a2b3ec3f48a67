/- This text proves no statement of the seat: it says what functions of the program do on the ideal machine, part 5. By program (emitall.py). -/
import Derived.Test.YtpiddcbddilamaaGreatDoorFe
namespace Go.Ideal
open Go.Proofs
set_option maxRecDepth 100000
set_option linter.unusedVariables false
/-- (besom/flow.step).sets -/
def B211 (N : Nat) (g210 : RF1) (g271 : RF2) (lim : Nat) (s0 : Value) (H : IHeap) : RV :=
 retK ((cellsOf true 13 s0).bind fun cs1 =>
 (iload true 4 cs1 8).bind fun t5 =>
 (istore true 4 [(.int .i64 0), (.int .i64 0), (.int .i64 0), (.int .i64 0)] 0 t5).bind fun cs2 =>
 (iload false 1 cs2 0).bind fun t7 =>
 catchK 0 ((ibin .eql .no t7 (.int .i64 2)).bind fun t9 =>
 (boolK t9 fun b1 => bif b1 then
 ((iload true 13 cs1 0).bind fun t10 =>
 (iload false 1 cs2 2).bind fun t12 =>
 callK (g271 lim t10 t12 H) fun t13 H1 =>
 some (.ret t13, H1))
 else
 (ibin .eql .no t7 (.int .i64 11)).bind fun t15 =>
 joinK (boolK t15 fun b2 => bif b2 then
 (some (.norm ([t15] ++ []), H))
 else
 (ibin .eql .no t7 (.int .i64 13)).bind fun t16 =>
 some (.norm ([t16] ++ []), H)) fun vs1 H2 =>
 (boolK (nthV 0 vs1) fun b3 => bif b3 then
 ((iload false 1 cs2 2).bind fun t18 =>
 (ibin .add .no (.int .i64 16) t18).bind fun t19 =>
 some (.ret t19, H2))
 else
 (ibin .eql .no t7 (.int .i64 14)).bind fun t21 =>
 joinK (boolK t21 fun b4 => bif b4 then
 (some (.norm ([t21] ++ []), H2))
 else
 (ibin .eql .no t7 (.int .i64 19)).bind fun t22 =>
 some (.norm ([t22] ++ []), H2)) fun vs2 H3 =>
 (boolK (nthV 0 vs2) fun b5 => bif b5 then
 ((iload true 13 cs1 0).bind fun t23 =>
 (iload false 1 cs2 2).bind fun t25 =>
 (iload false 1 cs2 3).bind fun t27 =>
 none)
 else
 (ibin .eql .no t7 (.int .i64 16)).bind fun t30 =>
 (boolK t30 fun b6 => bif b6 then
 ((iload false 1 cs1 0).bind fun t33 =>
 (iload false 1 cs2 2).bind fun t35 =>
 (iidx 1 t33 t35).bind fun t36 =>
 (hload false 1 H3 t36).bind fun t37 =>
 some (.ret t37, H3))
 else
 (ibin .eql .no t7 (.int .i64 18)).bind fun t39 =>
 (boolK t39 fun b7 => bif b7 then
 ((iload false 1 cs1 6).bind fun t42 =>
 (iload false 1 cs2 2).bind fun t44 =>
 (iidx 1 t42 t44).bind fun t45 =>
 (hload false 1 H3 t45).bind fun t46 =>
 (ibin .add .no (.int .i64 64) t46).bind fun t47 =>
 some (.ret t47, H3))
 else
 (ibin .eql .no t7 (.int .i64 21)).bind fun t49 =>
 (boolK t49 fun b8 => bif b8 then
 ((iload true 13 cs1 0).bind fun t50 =>
 callK (g210 lim t50 H3) fun t51 H4 =>
 (ifield false 1 1 t51).bind fun t52 =>
 some (.ret t52, H4))
 else
 some (.norm ([] ++ []), H3)))))))) fun vs3 H5 =>
 some (.ret (.int .i64 1), H5))
def F211 (N lim : Nat) (a0 : Value) (H : IHeap) : RV := B211 N (F210 N) (F271 N) lim a0 H
def G211 (N : Nat) : G := w1 (F211 N)
theorem eq211 (N : Nat) (g210 : RF1) (g271 : RF2) (lim : Nat) (a0 : Value) (H : IHeap) : ifun Tryz.prog { fn := envOf [(210, Ideal.w1 g210), (271, Ideal.w2 g271)], wr := [] } { promo := [1, 3], share := false } N (okOf Tryz.prog { promo := [1, 3], share := false } []) Tryz.f211 (.seq (.region []) (.seq (.region []) (.seq (.seq (.region []) (.block [] [] [] (.seq (.region []) (.inl (.seq (.region []) .leaf) (.seq (.seq (.region []) (.join [14] [] [] .leaf (.region []))) (.inl (.seq (.region []) .leaf) (.seq (.seq (.region []) (.join [20] [] [] .leaf (.region []))) (.inl (.seq (.region []) .leaf) (.seq (.region []) (.inl (.seq (.region []) .leaf) (.seq (.region []) (.inl (.seq (.region []) .leaf) (.seq (.region []) (.inl (.seq (.region []) .leaf) .leaf)))))))))))))) (.seq (.region []) .leaf)))) lim [a0] H = B211 N g210 g271 lim a0 H := by kernel_rfl
theorem sim211 (N : Nat) : SimF Tryz.prog 211 (G211 N) := by
  refine SimF.gen [(210, G210 N), (271, G271 N)] [] { promo := [1, 3], share := false } N (.seq (.region []) (.seq (.region []) (.seq (.seq (.region []) (.block [] [] [] (.seq (.region []) (.inl (.seq (.region []) .leaf) (.seq (.seq (.region []) (.join [14] [] [] .leaf (.region []))) (.inl (.seq (.region []) .leaf) (.seq (.seq (.region []) (.join [20] [] [] .leaf (.region []))) (.inl (.seq (.region []) .leaf) (.seq (.region []) (.inl (.seq (.region []) .leaf) (.seq (.region []) (.inl (.seq (.region []) .leaf) (.seq (.region []) (.inl (.seq (.region []) .leaf) .leaf)))))))))))))) (.seq (.region []) .leaf)))) Tryz.func211 (by kernel_rfl) (by kernel_rfl) (env_cons (sim210 N) (env_cons (sim271 N) env_nil)) ?_
  intro lim args H r h
  unfold G211 w1 at h
  split at h
  · exact (eq211 N (F210 N) (F271 N) lim _ H).trans h
  · simp at h
/-- (besom/flow.step).after -/
def B135 (N : Nat) (g30 : RF1) (g208 : RF1) (g209 : RF1) (g210 : RF1) (g211 : RF1) (lim : Nat) (s0 : Value) (H : IHeap) : RV :=
 retK ((cellsOf true 13 s0).bind fun cs1 =>
 (iload false 1 cs1 12).bind fun t9 =>
 callK (g30 lim t9 H) fun t10 H1 =>
 (iload true 13 cs1 0).bind fun t11 =>
 callK (g208 lim t11 H1) fun t12 H2 =>
 (iload true 4 cs1 8).bind fun t15 =>
 callK (g209 lim t15 H2) fun t16 H3 =>
 (iextract 0 t16).bind fun t17 =>
 (iextract 1 t16).bind fun t18 =>
 (gval true t18).bind fun w1 => grpK (bif w1 then
 ((iload false 1 cs1 8).bind fun t23 =>
 (ibin .neq .no t23 (.int .i64 21)).bind fun t24 =>
 some ([t24], H3))
 else some ([Value.tuple #[]], H3)) fun vs1 H4 =>
 (gval false (nthV 0 vs1)).bind fun w2 => grpK (bif w2 then
 ((iload true 13 cs1 0).bind fun t26 =>
 callK (g210 lim t26 H4) fun t27 H6 =>
 (ifield false 1 1 t27).bind fun t28 =>
 (ibin .neq .no t28 (.int .i64 0)).bind fun t29 =>
 some ([t29], H6))
 else some ([Value.tuple #[]], H4)) fun vs2 H5 =>
 (gval true t18).bind fun w3 => grpK (bif w3 then
 ((pickK (nthV 0 vs1) (.bool true) (nthV 0 vs2)).bind fun t30 =>
 some ([t30], H5))
 else some ([Value.tuple #[]], H5)) fun vs3 H7 =>
 (pickK t18 (nthV 0 vs3) (.bool false)).bind fun t31 =>
 joinK (boolK t31 fun b3 => bif b3 then
 ((iidx 1 t10 t17).bind fun t34 =>
 (hstore false 1 lim H7 t34 (.int .i64 0)).bind fun H8 =>
 joinK (boolK t12 fun b4 => bif b4 then
 ((iload true 13 cs1 0).bind fun t38 =>
 callK (g211 lim t38 H8) fun t39 H9 =>
 (iidx 1 t10 t17).bind fun t40 =>
 (hstore false 1 lim H9 t40 t39).bind fun H10 =>
 some (.norm ([] ++ []), H10))
 else
 some (.norm ([] ++ []), H8)) fun vs4 H11 =>
 some (.norm ([] ++ []), H11))
 else
 some (.norm ([] ++ []), H7)) fun vs5 H12 =>
 (iload false 1 cs1 8).bind fun t43 =>
 (ibin .eql .no t43 (.int .i64 26)).bind fun t44 =>
 joinK (boolK t44 fun b5 => bif b5 then
 ((iload false 1 cs1 10).bind fun t48 =>
 (iidx 1 t10 t48).bind fun t49 =>
 (hstore false 1 lim H12 t49 (.int .i64 16)).bind fun H13 =>
 some (.norm ([] ++ []), H13))
 else
 some (.norm ([] ++ []), H12)) fun vs6 H14 =>
 some (.ret (.tuple ⟨[t10, t12]⟩), H14))
def F135 (N lim : Nat) (a0 : Value) (H : IHeap) : RV := B135 N (F30 N) (F208 N) (F209 N) (F210 N) (F211 N) lim a0 H
def G135 (N : Nat) : G := w1 (F135 N)
theorem eq135 (N : Nat) (g30 : RF1) (g208 : RF1) (g209 : RF1) (g210 : RF1) (g211 : RF1) (lim : Nat) (a0 : Value) (H : IHeap) : ifun Tryz.prog { fn := envOf [(30, Ideal.w1 g30), (208, Ideal.w1 g208), (209, Ideal.w1 g209), (210, Ideal.w1 g210), (211, Ideal.w1 g211)], wr := [30, 208] } { promo := [1], share := false } N (okOf Tryz.prog { promo := [1], share := false } [30, 208]) Tryz.f135 (.seq (.region []) (.seq (.region []) (.seq (.seq (.region []) (.seq (.region [[25], [29], [30]]) (.join [] [] [] (.seq (.region []) (.seq (.region []) (.join [] [] [] (.region []) .leaf))) .leaf))) (.seq (.seq (.region []) (.join [] [] [] (.region []) .leaf)) (.seq (.region []) .leaf))))) lim [a0] H = B135 N g30 g208 g209 g210 g211 lim a0 H := by kernel_rfl
theorem sim135 (N : Nat) : SimF Tryz.prog 135 (G135 N) := by
  refine SimF.gen [(30, G30 N), (208, G208 N), (209, G209 N), (210, G210 N), (211, G211 N)] [30, 208] { promo := [1], share := false } N (.seq (.region []) (.seq (.region []) (.seq (.seq (.region []) (.seq (.region [[25], [29], [30]]) (.join [] [] [] (.seq (.region []) (.seq (.region []) (.join [] [] [] (.region []) .leaf))) .leaf))) (.seq (.seq (.region []) (.join [] [] [] (.region []) .leaf)) (.seq (.region []) .leaf))))) Tryz.func135 (by kernel_rfl) (by kernel_rfl) (env_cons (sim30 N) (env_cons (sim208 N) (env_cons (sim209 N) (env_cons (sim210 N) (env_cons (sim211 N) env_nil))))) ?_
  intro lim args H r h
  unfold G135 w1 at h
  split at h
  · exact (eq135 N (F30 N) (F208 N) (F209 N) (F210 N) (F211 N) lim _ H).trans h
  · simp at h
/-- besom/flow.Next -/
def B136 (N : Nat) (g205 : RF2) (lim : Nat) (p0 at1 : Value) (H : IHeap) : RV :=
 retK ((cellsOf true 3 p0).bind fun cs1 =>
 (cellsOf true 2 at1).bind fun cs2 =>
 (iload true 3 cs1 0).bind fun t6 =>
 (iload true 2 cs2 0).bind fun t7 =>
 callK (g205 lim t6 t7 H) fun t8 H1 =>
 (ibin .eql .no t8 (.int .i64 1)).bind fun t9 =>
 (boolK t9 fun b1 => bif b1 then
 (some (.ret (.slice none 0 0), H1))
 else
 (iload false 1 cs1 2).bind fun t11 =>
 (iload false 1 cs2 0).bind fun t13 =>
 (iidx 5 t11 t13).bind fun t14 =>
 (paddr 4 t14).bind fun t15 =>
 (hload false 1 H1 t15).bind fun t16 =>
 (iload false 1 cs2 1).bind fun t18 =>
 (iidx 4 t16 t18).bind fun t19 =>
 (hload true 4 H1 t19).bind fun t20 =>
 (istore true 4 [(.int .i64 0), (.int .i64 0), (.int .i64 0), (.int .i64 0)] 0 t20).bind fun cs3 =>
 (iload false 1 cs3 0).bind fun t22 =>
 catchK 0 ((ibin .eql .no t22 (.int .i64 22)).bind fun t24 =>
 joinK (boolK t24 fun b2 => bif b2 then
 (some (.norm ([t24] ++ []), H1))
 else
 (ibin .eql .no t22 (.int .i64 25)).bind fun t25 =>
 joinK (boolK t25 fun b3 => bif b3 then
 (some (.norm ([t25] ++ []), H1))
 else
 (ibin .eql .no t22 (.int .i64 27)).bind fun t26 =>
 some (.norm ([t26] ++ []), H1)) fun vs1 H2 =>
 some (.norm ([(nthV 0 vs1)] ++ []), H2)) fun vs2 H3 =>
 (boolK (nthV 0 vs2) fun b4 => bif b4 then
 (some (.ret (.slice none 0 0), H3))
 else
 (ibin .eql .no t22 (.int .i64 9)).bind fun t28 =>
 (boolK t28 fun b5 => bif b5 then
 ((iload false 1 cs3 2).bind fun t30 =>
 (istore false 1 [(.int .i64 0)] 0 t30).bind fun cs4 =>
 some (.ret (slc 1 H3.next 0 1 2), (H3.push (.cells cs4 0))))
 else
 (ibin .eql .no t22 (.int .i64 10)).bind fun t33 =>
 joinK (boolK t33 fun b6 => bif b6 then
 ((iload false 1 cs3 2).bind fun t35 =>
 (iload false 1 cs2 1).bind fun t37 =>
 (ibin .add .no t37 (.int .i64 1)).bind fun t38 =>
 (ibin .neq .no t35 t38).bind fun t39 =>
 (boolK t39 fun b7 => bif b7 then
 ((iload false 1 cs2 1).bind fun t41 =>
 (ibin .add .no t41 (.int .i64 1)).bind fun t42 =>
 (iload false 1 cs3 2).bind fun t44 =>
 (istore false 1 [(.int .i64 0), (.int .i64 0)] 0 t42).bind fun cs5 =>
 (istore false 1 cs5 1 t44).bind fun cs6 =>
 some (.ret (slc 1 H3.next 0 2 3), (H3.push (.cells cs6 0))))
 else
 some (.norm ([] ++ []), H3)))
 else
 some (.norm ([] ++ []), H3)) fun vs3 H4 =>
 some (.norm ([] ++ []), H4)))) fun vs4 H5 =>
 (iload false 1 cs2 1).bind fun t47 =>
 (ibin .add .no t47 (.int .i64 1)).bind fun t48 =>
 (istore false 1 [(.int .i64 0)] 0 t48).bind fun cs7 =>
 some (.ret (slc 1 H5.next 0 1 2), (H5.push (.cells cs7 0)))))
def F136 (N lim : Nat) (a0 a1 : Value) (H : IHeap) : RV := B136 N (F205 N) lim a0 a1 H
def G136 (N : Nat) : G := w2 (F136 N)
theorem eq136 (N : Nat) (g205 : RF2) (lim : Nat) (a0 a1 : Value) (H : IHeap) : ifun Tryz.prog { fn := envOf [(205, Ideal.w2 g205)], wr := [] } { promo := [2, 3, 5], share := false } N (okOf Tryz.prog { promo := [2, 3, 5], share := false } []) Tryz.f136 (.seq (.region []) (.seq (.seq (.region []) (.inl (.seq (.region []) .leaf) .leaf)) (.seq (.region []) (.seq (.seq (.region []) (.block [] [] [] (.seq (.seq (.region []) (.join [23] [] [] .leaf (.seq (.region []) (.join [23] [] [] .leaf (.region []))))) (.inl (.seq (.region []) .leaf) (.seq (.region []) (.inl (.seq (.region []) .leaf) (.seq (.region []) (.join [] [] [] (.seq (.region []) (.inl (.seq (.region []) .leaf) .leaf)) .leaf)))))))) (.seq (.region []) .leaf))))) lim [a0, a1] H = B136 N g205 lim a0 a1 H := by kernel_rfl
theorem sim136 (N : Nat) : SimF Tryz.prog 136 (G136 N) := by
  refine SimF.gen [(205, G205 N)] [] { promo := [2, 3, 5], share := false } N (.seq (.region []) (.seq (.seq (.region []) (.inl (.seq (.region []) .leaf) .leaf)) (.seq (.region []) (.seq (.seq (.region []) (.block [] [] [] (.seq (.seq (.region []) (.join [23] [] [] .leaf (.seq (.region []) (.join [23] [] [] .leaf (.region []))))) (.inl (.seq (.region []) .leaf) (.seq (.region []) (.inl (.seq (.region []) .leaf) (.seq (.region []) (.join [] [] [] (.seq (.region []) (.inl (.seq (.region []) .leaf) .leaf)) .leaf)))))))) (.seq (.region []) .leaf))))) Tryz.func136 (by kernel_rfl) (by kernel_rfl) (env_cons (sim205 N) env_nil) ?_
  intro lim args H r h
  unfold G136 w2 at h
  split at h
  · exact (eq136 N (F205 N) lim _ _ H).trans h
  · simp at h
/-- (*besom/flow.walk).run -/
def B66 (N : Nat) (g134 : RF3) (g135 : RF1) (g136 : RF2) (lim : Nat) (w0 : Value) (H : IHeap) : RV :=
 retK ((inilc w0).bind fun t11 =>
 (paddr 0 t11).bind fun t12 =>
 (paddr 2 t12).bind fun t13 =>
 (hload false 1 H t13).bind fun t14 =>
 (inilc w0).bind fun t16 =>
 (paddr 3 t16).bind fun t17 =>
 (hload false 1 H t17).bind fun t18 =>
 (iidx 5 t14 t18).bind fun t19 =>
 (hload true 5 H t19).bind fun t20 =>
 (istore true 5 [(.slice none 0 0), (.int .i64 0), (.int .i64 0), (.slice none 0 0), (.slice none 0 0)] 0 t20).bind fun cs1 =>
 (iload false 1 cs1 2).bind fun t22 =>
 callK (imake 8 [(.int .i64 0)] H t22 t22) fun t23 H1 =>
 (iload false 1 cs1 0).bind fun t26 =>
 rowK (hrow 1 H1 t26) fun m1 new1 =>
 callK (icopy 1 lim H1 t23 m1 new1) fun t27 H2 =>
 callK (g134 lim w0 (.int .i64 0) t23 H2) fun t30 H3 =>
 catchK 0 (iloop (fun vs1 H4 =>
 (inilc w0).bind fun t32 =>
 (paddr 5 t32).bind fun t33 =>
 (hload false 1 H4 t33).bind fun t34 =>
 (ilenS t34).bind fun t35 =>
 (ibin .gtr .no t35 (.int .i64 0)).bind fun t36 =>
 (boolK t36 fun b1 => bif b1 then
 (catchK 1 ((inilc w0).bind fun t38 =>
 (paddr 5 t38).bind fun t39 =>
 (hload false 1 H4 t39).bind fun t40 =>
 (iidx 1 t40 (.int .i64 0)).bind fun t41 =>
 (hload false 1 H4 t41).bind fun t42 =>
 (inilc w0).bind fun t45 =>
 (paddr 5 t45).bind fun t46 =>
 (hload false 1 H4 t46).bind fun t47 =>
 (isliceS 1 t47 (some (.int .i64 1)) none none).bind fun t48 =>
 (inilc w0).bind fun t49 =>
 (paddr 5 t49).bind fun t50 =>
 (hstore false 1 lim H4 t50 t48).bind fun H5 =>
 (inilc w0).bind fun t52 =>
 (paddr 3 t52).bind fun t53 =>
 (hload false 1 H5 t53).bind fun t54 =>
 (istore false 1 [(.int .i64 0), (.int .i64 0)] 0 t54).bind fun cs2 =>
 (istore false 1 cs2 1 t42).bind fun cs3 =>
 (istore true 2 [(.int .i64 0), (.int .i64 0)] 0 (.agg ⟨cs3⟩)).bind fun cs4 =>
 (inilc w0).bind fun t59 =>
 (paddr 0 t59).bind fun t60 =>
 (hload true 3 H5 t60).bind fun t61 =>
 (iload true 5 cs1 0).bind fun t62 =>
 (iload false 1 cs1 4).bind fun t64 =>
 (iidx 4 t64 t42).bind fun t66 =>
 (hload true 4 H5 t66).bind fun t67 =>
 (inilc w0).bind fun t69 =>
 (paddr 4 t69).bind fun t70 =>
 (hload false 1 H5 t70).bind fun t71 =>
 (iload true 2 cs4 0).bind fun t72 =>
 (ilookup 3 (.slice none 0 0) false H5 t71 t72).bind fun t73 =>
 (istore true 3 [(.slice none 0 0), (.slice none 0 0), (.slice none 0 0), (.slice none 0 0), (.int .i64 0), (.int .i64 0), (.slice none 0 0), (.slice none 0 0), (.int .i64 0), (.int .i64 0), (.int .i64 0), (.int .i64 0), (.slice none 0 0)] 0 t61).bind fun cs5 =>
 (istore true 5 cs5 3 t62).bind fun cs6 =>
 (istore true 4 cs6 8 t67).bind fun cs7 =>
 (istore false 1 cs7 12 t73).bind fun cs8 =>
 callK (g135 lim (.agg ⟨cs8⟩) H5) fun t75 H6 =>
 (iextract 0 t75).bind fun t76 =>
 (iextract 1 t75).bind fun t77 =>
 (inilc w0).bind fun t79 =>
 (paddr 0 t79).bind fun t80 =>
 (hload true 3 H6 t80).bind fun t81 =>
 (iload true 2 cs4 0).bind fun t82 =>
 callK (g136 lim t81 t82 H6) fun t83 H7 =>
 (ilenS t83).bind fun t84 =>
 catchK 2 (iloop (fun vs2 H8 =>
 (ibin .lss .no (nthV 0 vs2) t84).bind fun t86 =>
 (boolK t86 fun b2 => bif b2 then
 (catchK 3 ((iidx 1 t83 (nthV 0 vs2)).bind fun t87 =>
 (hload false 1 H8 t87).bind fun t88 =>
 (iload false 1 cs1 4).bind fun t91 =>
 (ilenS t91).bind fun t92 =>
 (ibin .lss .no t88 t92).bind fun t93 =>
 joinK (boolK t93 fun b3 => bif b3 then
 (callK (g134 lim w0 t88 t76 H8) fun t97 H9 =>
 some (.norm ([] ++ []), H9))
 else
 some (.norm ([] ++ []), H8)) fun vs3 H10 =>
 some (.norm ([] ++ []), H10)) fun vs4 H11 =>
 (ibin .add .no (nthV 0 vs2) (.int .i64 1)).bind fun t98 =>
 some (.norm ([t98] ++ []), H11))
 else
 some (.exit 2 ([] ++ []), H8))) N ([(.int .i64 0)] ++ []) H7) fun vs5 H12 =>
 some (.norm ([] ++ []), H12)) fun vs6 H13 =>
 some (.norm ([] ++ []), H13))
 else
 some (.exit 0 ([] ++ []), H4))) N ([] ++ []) H3) fun vs7 H14 =>
 some (.ret (.tuple ⟨[]⟩), H14))
def F66 (N lim : Nat) (a0 : Value) (H : IHeap) : RV := B66 N (F134 N) (F135 N) (F136 N) lim a0 H
def G66 (N : Nat) : G := w1 (F66 N)
theorem eq66 (N : Nat) (g134 : RF3) (g135 : RF1) (g136 : RF2) (lim : Nat) (a0 : Value) (H : IHeap) : ifun Tryz.prog { fn := envOf [(134, Ideal.w3 g134), (135, Ideal.w1 g135), (136, Ideal.w2 g136)], wr := [135, 136] } { promo := [2, 5], share := false } N (okOf Tryz.prog { promo := [2, 5], share := false } [135, 136]) Tryz.f66 (.seq (.region []) (.seq (.region []) (.seq (.region []) (.seq (.region []) (.block [] [] [5] (.loop [] [] [5] (.seq (.seq (.region []) (.inl .leaf .leaf)) (.block [] [] [5] (.seq (.region []) (.seq (.region []) (.seq (.region []) (.seq (.region []) (.seq (.region []) (.block [] [] [] (.loop [85] [] [] (.seq (.region []) (.seq (.inl .leaf .leaf) (.seq (.block [] [] [] (.seq (.region []) (.seq (.region []) (.join [] [] [] (.region []) .leaf)))) (.region []))))))))))))))))))) lim [a0] H = B66 N g134 g135 g136 lim a0 H := by kernel_rfl
theorem sim66 (N : Nat) : SimF Tryz.prog 66 (G66 N) := by
  refine SimF.gen [(134, G134 N), (135, G135 N), (136, G136 N)] [135, 136] { promo := [2, 5], share := false } N (.seq (.region []) (.seq (.region []) (.seq (.region []) (.seq (.region []) (.block [] [] [5] (.loop [] [] [5] (.seq (.seq (.region []) (.inl .leaf .leaf)) (.block [] [] [5] (.seq (.region []) (.seq (.region []) (.seq (.region []) (.seq (.region []) (.seq (.region []) (.block [] [] [] (.loop [85] [] [] (.seq (.region []) (.seq (.inl .leaf .leaf) (.seq (.block [] [] [] (.seq (.region []) (.seq (.region []) (.join [] [] [] (.region []) .leaf)))) (.region []))))))))))))))))))) Tryz.func66 (by kernel_rfl) (by kernel_rfl) (env_cons (sim134 N) (env_cons (sim135 N) (env_cons (sim136 N) env_nil))) ?_
  intro lim args H r h
  unfold G66 w1 at h
  split at h
  · exact (eq66 N (F134 N) (F135 N) (F136 N) lim _ H).trans h
  · simp at h
/-- (*besom/flow.walk).runsOut -/
def B68 (N : Nat) (g136 : RF2) (g137 : RF2) (lim : Nat) (w0 at1 : Value) (H : IHeap) : RV :=
 retK ((cellsOf true 2 at1).bind fun cs1 =>
 (inilc w0).bind fun t6 =>
 (paddr 0 t6).bind fun t7 =>
 (hload true 3 H t7).bind fun t8 =>
 (iload true 2 cs1 0).bind fun t9 =>
 callK (g136 H.next t8 t9 H) fun t10 H1 =>
 (inilc w0).bind fun t12 =>
 (paddr 0 t12).bind fun t13 =>
 (paddr 2 t13).bind fun t14 =>
 (hload false 1 H1 t14).bind fun t15 =>
 (inilc w0).bind fun t17 =>
 (paddr 3 t17).bind fun t18 =>
 (hload false 1 H1 t18).bind fun t19 =>
 (iidx 5 t15 t19).bind fun t20 =>
 (paddr 4 t20).bind fun t21 =>
 (hload false 1 H1 t21).bind fun t22 =>
 (ilenS t22).bind fun t23 =>
 callK (g137 lim t10 t23 H1) fun t24 H2 =>
 some (.ret t24, H2))
def F68 (N lim : Nat) (a0 a1 : Value) (H : IHeap) : RV := B68 N (F136 N) (F137 N) lim a0 a1 H
def G68 (N : Nat) : G := w2 (F68 N)
theorem eq68 (N : Nat) (g136 : RF2) (g137 : RF2) (lim : Nat) (a0 a1 : Value) (H : IHeap) : ifun Tryz.prog { fn := envOf [(136, Ideal.w2 g136), (137, Ideal.w2 g137)], wr := [137] } { promo := [3], share := false } N (okOf Tryz.prog { promo := [3], share := false } [137]) Tryz.f68 (.seq (.region []) (.seq (.region []) .leaf)) lim [a0, a1] H = B68 N g136 g137 lim a0 a1 H := by kernel_rfl
theorem sim68 (N : Nat) : SimF Tryz.prog 68 (G68 N) := by
  refine SimF.gen [(136, G136 N), (137, G137 N)] [137] { promo := [3], share := false } N (.seq (.region []) (.seq (.region []) .leaf)) Tryz.func68 (by kernel_rfl) (by kernel_rfl) (env_cons (sim136 N) (env_cons (sim137 N) env_nil)) ?_
  intro lim args H r h
  unfold G68 w2 at h
  split at h
  · exact (eq68 N (F136 N) (F137 N) lim _ _ H).trans h
  · simp at h
/-- besom/flow.Step -/
def B138 (N : Nat) (g135 : RF1) (g205 : RF2) (lim : Nat) (p0 at1 kinds2 : Value) (H : IHeap) : RV :=
 retK ((cellsOf true 3 p0).bind fun cs1 =>
 (cellsOf true 2 at1).bind fun cs2 =>
 (iload true 3 cs1 0).bind fun t11 =>
 (iload true 2 cs2 0).bind fun t12 =>
 callK (g205 lim t11 t12 H) fun t13 H1 =>
 (ibin .eql .no t13 (.int .i64 1)).bind fun t14 =>
 (gval false t14).bind fun w1 => grpK (bif w1 then
 ((ilenS kinds2).bind fun t17 =>
 (iload false 1 cs1 2).bind fun t19 =>
 (iload false 1 cs2 0).bind fun t21 =>
 (iidx 5 t19 t21).bind fun t22 =>
 (paddr 2 t22).bind fun t23 =>
 (hload false 1 H1 t23).bind fun t24 =>
 (ibin .neq .no t17 t24).bind fun t25 =>
 some ([t25], H1))
 else some ([Value.tuple #[]], H1)) fun vs1 H2 =>
 (pickK t14 (.bool true) (nthV 0 vs1)).bind fun t26 =>
 (boolK t26 fun b2 => bif b2 then
 (some (.ret (.tuple ⟨[(.slice none 0 0), (.int .i64 1)]⟩), H2))
 else
 (iload false 1 cs1 2).bind fun t28 =>
 (iload false 1 cs2 0).bind fun t30 =>
 (iidx 5 t28 t30).bind fun t31 =>
 (hload true 5 H2 t31).bind fun t32 =>
 (istore true 5 [(.slice none 0 0), (.int .i64 0), (.int .i64 0), (.slice none 0 0), (.slice none 0 0)] 0 t32).bind fun cs3 =>
 (iload true 3 cs1 0).bind fun t34 =>
 (iload true 5 cs3 0).bind fun t35 =>
 (iload false 1 cs3 4).bind fun t37 =>
 (iload false 1 cs2 1).bind fun t39 =>
 (iidx 4 t37 t39).bind fun t40 =>
 (hload true 4 H2 t40).bind fun t41 =>
 (istore true 3 [(.slice none 0 0), (.slice none 0 0), (.slice none 0 0), (.slice none 0 0), (.int .i64 0), (.int .i64 0), (.slice none 0 0), (.slice none 0 0), (.int .i64 0), (.int .i64 0), (.int .i64 0), (.int .i64 0), (.slice none 0 0)] 0 t34).bind fun cs4 =>
 (istore true 5 cs4 3 t35).bind fun cs5 =>
 (istore true 4 cs5 8 t41).bind fun cs6 =>
 (istore false 1 cs6 12 kinds2).bind fun cs7 =>
 callK (g135 lim (.agg ⟨cs7⟩) H2) fun t44 H3 =>
 (iextract 0 t44).bind fun t45 =>
 (iextract 1 t44).bind fun t46 =>
 (iun .not t46).bind fun t48 =>
 (boolK t48 fun b3 => bif b3 then
 (some (.ret (.tuple ⟨[(.slice none 0 0), (.int .i64 3)]⟩), H3))
 else
 some (.ret (.tuple ⟨[t45, (.int .i64 0)]⟩), H3))))
def F138 (N lim : Nat) (a0 a1 a2 : Value) (H : IHeap) : RV := B138 N (F135 N) (F205 N) lim a0 a1 a2 H
def G138 (N : Nat) : G := w3 (F138 N)
theorem eq138 (N : Nat) (g135 : RF1) (g205 : RF2) (lim : Nat) (a0 a1 a2 : Value) (H : IHeap) : ifun Tryz.prog { fn := envOf [(135, Ideal.w1 g135), (205, Ideal.w2 g205)], wr := [135] } { promo := [3, 4, 8], share := false } N (okOf Tryz.prog { promo := [3, 4, 8], share := false } [135]) Tryz.f138 (.seq (.region []) (.seq (.seq (.region [[25]]) (.inl (.seq (.region []) .leaf) .leaf)) (.seq (.region []) (.seq (.region []) (.seq (.seq (.region []) (.inl (.seq (.region []) .leaf) .leaf)) (.seq (.region []) .leaf)))))) lim [a0, a1, a2] H = B138 N g135 g205 lim a0 a1 a2 H := by kernel_rfl
theorem sim138 (N : Nat) : SimF Tryz.prog 138 (G138 N) := by
  refine SimF.gen [(135, G135 N), (205, G205 N)] [135] { promo := [3, 4, 8], share := false } N (.seq (.region []) (.seq (.seq (.region [[25]]) (.inl (.seq (.region []) .leaf) .leaf)) (.seq (.region []) (.seq (.region []) (.seq (.seq (.region []) (.inl (.seq (.region []) .leaf) .leaf)) (.seq (.region []) .leaf)))))) Tryz.func138 (by kernel_rfl) (by kernel_rfl) (env_cons (sim135 N) (env_cons (sim205 N) env_nil)) ?_
  intro lim args H r h
  unfold G138 w3 at h
  split at h
  · exact (eq138 N (F135 N) (F205 N) lim _ _ _ H).trans h
  · simp at h
/-- (*besom/flow.walk).wrong -/
def B69 (N : Nat) (g138 : RF3) (lim : Nat) (w0 at1 : Value) (H : IHeap) : RV :=
 retK ((cellsOf true 2 at1).bind fun cs1 =>
 (inilc w0).bind fun t9 =>
 (paddr 0 t9).bind fun t10 =>
 (hload true 3 H t10).bind fun t11 =>
 (iload true 2 cs1 0).bind fun t12 =>
 (inilc w0).bind fun t14 =>
 (paddr 4 t14).bind fun t15 =>
 (hload false 1 H t15).bind fun t16 =>
 (iload true 2 cs1 0).bind fun t17 =>
 (ilookup 3 (.slice none 0 0) false H t16 t17).bind fun t18 =>
 callK (g138 lim t11 t12 t18 H) fun t19 H1 =>
 (iextract 0 t19).bind fun t20 =>
 (iextract 1 t19).bind fun t21 =>
 (ibin .neq .no t21 (.int .i64 0)).bind fun t23 =>
 some (.ret t23, H1))
def F69 (N lim : Nat) (a0 a1 : Value) (H : IHeap) : RV := B69 N (F138 N) lim a0 a1 H
def G69 (N : Nat) : G := w2 (F69 N)
theorem eq69 (N : Nat) (g138 : RF3) (lim : Nat) (a0 a1 : Value) (H : IHeap) : ifun Tryz.prog { fn := envOf [(138, Ideal.w3 g138)], wr := [138] } { promo := [3], share := false } N (okOf Tryz.prog { promo := [3], share := false } [138]) Tryz.f69 (.seq (.region []) (.seq (.region []) (.seq (.region []) .leaf))) lim [a0, a1] H = B69 N g138 lim a0 a1 H := by kernel_rfl
theorem sim69 (N : Nat) : SimF Tryz.prog 69 (G69 N) := by
  refine SimF.gen [(138, G138 N)] [138] { promo := [3], share := false } N (.seq (.region []) (.seq (.region []) (.seq (.region []) .leaf))) Tryz.func69 (by kernel_rfl) (by kernel_rfl) (env_cons (sim138 N) env_nil) ?_
  intro lim args H r h
  unfold G69 w2 at h
  split at h
  · exact (eq69 N (F138 N) lim _ _ H).trans h
  · simp at h
/-- (*besom/flow.walk).look -/
def B67 (N : Nat) (g68 : RF2) (g69 : RF2) (lim : Nat) (w0 question1 : Value) (H : IHeap) : RV :=
 retK ((inilc w0).bind fun t11 =>
 (paddr 0 t11).bind fun t12 =>
 (paddr 2 t12).bind fun t13 =>
 (hload false 1 H t13).bind fun t14 =>
 (inilc w0).bind fun t16 =>
 (paddr 3 t16).bind fun t17 =>
 (hload false 1 H t17).bind fun t18 =>
 (iidx 5 t14 t18).bind fun t19 =>
 (paddr 4 t19).bind fun t20 =>
 (hload false 1 H t20).bind fun t21 =>
 (ilenS t21).bind fun t22 =>
 catchK 0 (iloop (fun vs1 H1 =>
 (ibin .lss .no (nthV 0 vs1) t22).bind fun t24 =>
 (boolK t24 fun b1 => bif b1 then
 (catchK 1 ((inilc w0).bind fun t27 =>
 (paddr 3 t27).bind fun t28 =>
 (hload false 1 H1 t28).bind fun t29 =>
 (istore false 1 [(.int .i64 0), (.int .i64 0)] 0 t29).bind fun cs1 =>
 (istore false 1 cs1 1 (nthV 0 vs1)).bind fun cs2 =>
 (istore true 2 [(.int .i64 0), (.int .i64 0)] 0 (.agg ⟨cs2⟩)).bind fun cs3 =>
 (inilc w0).bind fun t34 =>
 (paddr 4 t34).bind fun t35 =>
 (hload false 1 H1 t35).bind fun t36 =>
 (iload true 2 cs3 0).bind fun t37 =>
 (ilookup 3 (.slice none 0 0) true H1 t36 t37).bind fun t38 =>
 (iextract 0 t38).bind fun t39 =>
 (iextract 1 t38).bind fun t40 =>
 (gval true t40).bind fun w1 => grpK (bif w1 then
 ((iload true 2 cs3 0).bind fun t44 =>
 funcK question1 fun fid1 fi1 ca1 => (envOf [(68, Ideal.w2 g68), (69, Ideal.w2 g69)] fid1).bind fun g1 =>
 callK (g1 lim (fi1 ++ [t44] ++ ca1) H1) fun t45 H3 =>
 some ([t45], H3))
 else some ([Value.tuple #[]], H1)) fun vs2 H2 =>
 (pickK t40 (nthV 0 vs2) (.bool false)).bind fun t46 =>
 (boolK t46 fun b3 => bif b3 then
 ((iload true 2 cs3 0).bind fun t47 =>
 (aggs (nthV 0 (vs1.drop 1))).bind fun cs4 =>
 (istore true 2 cs4 0 t47).bind fun cs5 =>
 (iload true 2 cs5 0).bind fun r1 =>
 some (.ret (.tuple ⟨[r1, (.bool true)]⟩), H2))
 else
 (aggs (nthV 0 (vs1.drop 1))).bind fun cs6 =>
 some (.norm ([] ++ [.agg ⟨cs6⟩]), H2))) fun vs3 H4 =>
 (ibin .add .no (nthV 0 vs1) (.int .i64 1)).bind fun t48 =>
 (aggs (nthV 0 (vs3.drop 0))).bind fun cs7 =>
 some (.norm ([t48] ++ [.agg ⟨cs7⟩]), H4))
 else
 (aggs (nthV 0 (vs1.drop 1))).bind fun cs8 =>
 some (.exit 0 ([] ++ [.agg ⟨cs8⟩]), H1))) N ([(.int .i64 0)] ++ [.agg ⟨[(.int .i64 0), (.int .i64 0)]⟩]) H) fun vs4 H5 =>
 (aggs (nthV 0 (vs4.drop 0))).bind fun cs9 =>
 (istore true 2 cs9 0 (.agg ⟨[(.int .i64 0), (.int .i64 0)]⟩)).bind fun cs10 =>
 (iload true 2 cs10 0).bind fun r2 =>
 some (.ret (.tuple ⟨[r2, (.bool false)]⟩), H5))
def F67 (N lim : Nat) (a0 a1 : Value) (H : IHeap) : RV := B67 N (F68 N) (F69 N) lim a0 a1 H
def G67 (N : Nat) : G := w2 (F67 N)
theorem eq67 (N : Nat) (g68 : RF2) (g69 : RF2) (lim : Nat) (a0 a1 : Value) (H : IHeap) : ifun Tryz.prog { fn := envOf [(68, Ideal.w2 g68), (69, Ideal.w2 g69)], wr := [] } { promo := [4, 7], share := false } N (okOf Tryz.prog { promo := [4, 7], share := false } []) Tryz.f67 (.seq (.region []) (.seq (.seq (.region []) (.block [] [4] [4, 7] (.loop [23] [4] [4, 7] (.seq (.region []) (.seq (.inl .leaf .leaf) (.seq (.block [] [4] [4, 7] (.seq (.region []) (.seq (.region []) (.seq (.region []) (.seq (.region [[45]]) (.inl (.seq (.region []) .leaf) .leaf)))))) (.region []))))))) (.seq (.region []) .leaf))) lim [a0, a1] H = B67 N g68 g69 lim a0 a1 H := by kernel_rfl
theorem sim67 (N : Nat) : SimF Tryz.prog 67 (G67 N) := by
  refine SimF.gen [(68, G68 N), (69, G69 N)] [] { promo := [4, 7], share := false } N (.seq (.region []) (.seq (.seq (.region []) (.block [] [4] [4, 7] (.loop [23] [4] [4, 7] (.seq (.region []) (.seq (.inl .leaf .leaf) (.seq (.block [] [4] [4, 7] (.seq (.region []) (.seq (.region []) (.seq (.region []) (.seq (.region [[45]]) (.inl (.seq (.region []) .leaf) .leaf)))))) (.region []))))))) (.seq (.region []) .leaf))) Tryz.func67 (by kernel_rfl) (by kernel_rfl) (env_cons (sim68 N) (env_cons (sim69 N) env_nil)) ?_
  intro lim args H r h
  unfold G67 w2 at h
  split at h
  · exact (eq67 N (F68 N) (F69 N) lim _ _ H).trans h
  · simp at h
/-- besom/flow.Program -/
def B24 (N : Nat) (g65 : RF1) (g66 : RF1) (g67 : RF2) (lim : Nat) (p0 : Value) (H : IHeap) : RV :=
 retK ((cellsOf true 3 p0).bind fun cs1 =>
 (iload true 3 cs1 0).bind fun t15 =>
 callK (g65 lim t15 H) fun t16 H1 =>
 (iextract 0 t16).bind fun t17 =>
 (iextract 1 t16).bind fun t18 =>
 (istore true 2 [(.int .i64 0), (.int .i64 0)] 0 t18).bind fun cs2 =>
 (ibin .neq .no t17 (.int .i64 0)).bind fun t20 =>
 (boolK t20 fun b1 => bif b1 then
 ((iload true 2 cs2 0).bind fun t22 =>
 (istore true 2 [(.int .i64 0), (.int .i64 0)] 0 t22).bind fun cs3 =>
 (iload true 2 cs3 0).bind fun r1 =>
 some (.ret (.tuple ⟨[(.pointer none), t17, r1]⟩), H1))
 else
 (iload false 1 cs1 2).bind fun t25 =>
 (ilenS t25).bind fun t26 =>
 catchK 0 (iloop (fun vs1 H2 =>
 (ibin .lss .no (nthV 0 vs1) t26).bind fun t28 =>
 (boolK t28 fun b2 => bif b2 then
 (catchK 1 ((iload true 3 cs1 0).bind fun t30 =>
 (istore true 3 [(.slice none 0 0), (.slice none 0 0), (.slice none 0 0), (.int .i64 0), (.map none), (.slice none 0 0)] 0 t30).bind fun cs4 =>
 (istore false 1 cs4 3 (nthV 0 vs1)).bind fun cs5 =>
 (istore false 1 cs5 4 (.map (some H1.next))).bind fun cs6 =>
 (cellsOf true 6 (.agg ⟨cs6⟩)).bind fun cs7 =>
 callK (g66 lim (ptr H2.next 0) (H2.push (.cells cs7 0))) fun t36 H3 =>
 callK (g67 lim (ptr H2.next 0) (.func (.func 68) ⟨[(ptr H2.next 0)]⟩ ⟨[]⟩) H3) fun t41 H4 =>
 (iextract 0 t41).bind fun t42 =>
 (iextract 1 t41).bind fun t43 =>
 (istore true 2 [(.int .i64 0), (.int .i64 0)] 0 t42).bind fun cs8 =>
 (boolK t43 fun b3 => bif b3 then
 ((iload true 2 cs8 0).bind fun t45 =>
 (aggs (nthV 0 (vs1.drop 1))).bind fun cs9 =>
 (istore true 2 cs9 0 t45).bind fun cs10 =>
 (iload true 2 cs10 0).bind fun r2 =>
 some (.ret (.tuple ⟨[(.pointer none), (.int .i64 7), r2]⟩), H4))
 else
 callK (g67 lim (ptr H2.next 0) (.func (.func 69) ⟨[(ptr H2.next 0)]⟩ ⟨[]⟩) H4) fun t50 H5 =>
 (iextract 0 t50).bind fun t51 =>
 (iextract 1 t50).bind fun t52 =>
 (istore true 2 [(.int .i64 0), (.int .i64 0)] 0 t51).bind fun cs11 =>
 (boolK t52 fun b4 => bif b4 then
 ((iload true 2 cs11 0).bind fun t54 =>
 (aggs (nthV 0 (vs1.drop 1))).bind fun cs12 =>
 (istore true 2 cs12 0 t54).bind fun cs13 =>
 (iload true 2 cs13 0).bind fun r3 =>
 some (.ret (.tuple ⟨[(.pointer none), (.int .i64 3), r3]⟩), H5))
 else
 (aggs (nthV 0 (vs1.drop 1))).bind fun cs14 =>
 some (.norm ([] ++ [.agg ⟨cs14⟩]), H5)))) fun vs2 H6 =>
 (ibin .add .no (nthV 0 vs1) (.int .i64 1)).bind fun t55 =>
 (aggs (nthV 0 (vs2.drop 0))).bind fun cs15 =>
 some (.norm ([t55] ++ [.agg ⟨cs15⟩]), H6))
 else
 (aggs (nthV 0 (vs1.drop 1))).bind fun cs16 =>
 some (.exit 0 ([] ++ [.agg ⟨cs16⟩]), H2))) N ([(.int .i64 0)] ++ [.agg ⟨[(.int .i64 0), (.int .i64 0)]⟩]) (H1.push (.map 3 [] 0))) fun vs3 H7 =>
 (istore false 1 [(.map none)] 0 (.map (some H1.next))).bind fun cs17 =>
 (cellsOf true 1 (.agg ⟨cs17⟩)).bind fun cs18 =>
 (aggs (nthV 0 (vs3.drop 0))).bind fun cs19 =>
 (istore true 2 cs19 0 (.agg ⟨[(.int .i64 0), (.int .i64 0)]⟩)).bind fun cs20 =>
 (iload true 2 cs20 0).bind fun r4 =>
 some (.ret (.tuple ⟨[(ptr H7.next 0), (.int .i64 0), r4]⟩), (H7.push (.cells cs18 0)))))
def F24 (N lim : Nat) (a0 : Value) (H : IHeap) : RV := B24 N (F65 N) (F66 N) (F67 N) lim a0 H
def G24 (N : Nat) : G := w1 (F24 N)
theorem eq24 (N : Nat) (g65 : RF1) (g66 : RF1) (g67 : RF2) (lim : Nat) (a0 : Value) (H : IHeap) : ifun Tryz.prog { fn := envOf [(65, Ideal.w1 g65), (66, Ideal.w1 g66), (67, Ideal.w2 g67)], wr := [] } { promo := [1, 4, 6, 10, 12], share := false } N (okOf Tryz.prog { promo := [1, 4, 6, 10, 12], share := false } []) Tryz.f24 (.seq (.region []) (.seq (.seq (.region []) (.seq (.region []) (.inl (.seq (.region []) .leaf) .leaf))) (.seq (.region []) (.seq (.seq (.region []) (.block [] [4] [4, 10, 12] (.loop [27] [4] [4, 10, 12] (.seq (.region []) (.seq (.inl .leaf .leaf) (.seq (.block [] [4] [4, 10, 12] (.seq (.region []) (.seq (.region []) (.seq (.region []) (.seq (.seq (.region []) (.seq (.region []) (.inl (.seq (.region []) .leaf) .leaf))) (.seq (.region []) (.seq (.region []) (.inl (.seq (.region []) .leaf) .leaf)))))))) (.region []))))))) (.seq (.region []) .leaf))))) lim [a0] H = B24 N g65 g66 g67 lim a0 H := by kernel_rfl
theorem sim24 (N : Nat) : SimF Tryz.prog 24 (G24 N) := by
  refine SimF.gen [(65, G65 N), (66, G66 N), (67, G67 N)] [] { promo := [1, 4, 6, 10, 12], share := false } N (.seq (.region []) (.seq (.seq (.region []) (.seq (.region []) (.inl (.seq (.region []) .leaf) .leaf))) (.seq (.region []) (.seq (.seq (.region []) (.block [] [4] [4, 10, 12] (.loop [27] [4] [4, 10, 12] (.seq (.region []) (.seq (.inl .leaf .leaf) (.seq (.block [] [4] [4, 10, 12] (.seq (.region []) (.seq (.region []) (.seq (.region []) (.seq (.seq (.region []) (.seq (.region []) (.inl (.seq (.region []) .leaf) .leaf))) (.seq (.region []) (.seq (.region []) (.inl (.seq (.region []) .leaf) .leaf)))))))) (.region []))))))) (.seq (.region []) .leaf))))) Tryz.func24 (by kernel_rfl) (by kernel_rfl) (env_cons (sim65 N) (env_cons (sim66 N) (env_cons (sim67 N) env_nil))) ?_
  intro lim args H r h
  unfold G24 w1 at h
  split at h
  · exact (eq24 N (F65 N) (F66 N) (F67 N) lim _ H).trans h
  · simp at h
/-- slices.Clone[[]besom/api.Instr,besom/api.Instr] -/
def B71 (N : Nat) (lim : Nat) (s0 : Value) (H : IHeap) : RV :=
 retK ((ibin .eql .slice s0 (.slice none 0 0)).bind fun t4 =>
 (boolK t4 fun b1 => bif b1 then
 (some (.ret (.slice none 0 0), H))
 else
 rowK (hrow 4 (H.push (.cells [] 0)) s0) fun m1 new1 =>
 callK (iappend false 4 32 lim (H.push (.cells [] 0)) (slc 4 H.next 0 0 1) m1 new1) fun t7 H1 =>
 some (.ret t7, H1)))
def F71 (N lim : Nat) (a0 : Value) (H : IHeap) : RV := B71 N lim a0 H
def G71 (N : Nat) : G := w1 (F71 N)
theorem eq71 (N : Nat) (lim : Nat) (a0 : Value) (H : IHeap) : ifun Tryz.prog { fn := envOf [], wr := [] } { promo := [], share := false } N (okOf Tryz.prog { promo := [], share := false } []) Tryz.f71 (.seq (.region []) (.seq (.seq (.region []) (.inl (.seq (.region []) .leaf) .leaf)) (.seq (.region []) .leaf))) lim [a0] H = B71 N lim a0 H := by kernel_rfl
theorem sim71 (N : Nat) : SimF Tryz.prog 71 (G71 N) := by
  refine SimF.gen [] [] { promo := [], share := false } N (.seq (.region []) (.seq (.seq (.region []) (.inl (.seq (.region []) .leaf) .leaf)) (.seq (.region []) .leaf))) Tryz.func71 (by kernel_rfl) (by kernel_rfl) env_nil ?_
  intro lim args H r h
  unfold G71 w1 at h
  split at h
  · exact (eq71 N lim _ H).trans h
  · simp at h
/-- besom/image.Copy -/
def B26 (N : Nat) (g30 : RF1) (g71 : RF1) (lim : Nat) (p0 : Value) (H : IHeap) : RV :=
 retK ((cellsOf true 3 p0).bind fun cs1 =>
 (iload false 1 cs1 0).bind fun t9 =>
 callK (g30 lim t9 H) fun t10 H1 =>
 (istore false 1 [(.slice none 0 0), (.slice none 0 0), (.slice none 0 0)] 0 t10).bind fun cs2 =>
 (istore true 3 [(.slice none 0 0), (.slice none 0 0), (.slice none 0 0)] 0 (.agg ⟨cs2⟩)).bind fun cs3 =>
 (iload false 1 cs1 1).bind fun t13 =>
 (ilenS t13).bind fun t14 =>
 catchK 0 (iloop (fun vs1 H2 =>
 (ibin .lss .no (nthV 0 vs1) t14).bind fun t16 =>
 (boolK t16 fun b1 => bif b1 then
 (catchK 1 ((iidx 1 t13 (nthV 0 vs1)).bind fun t17 =>
 (hload true 1 H2 t17).bind fun t18 =>
 (istore true 1 [(.slice none 0 0)] 0 t18).bind fun cs4 =>
 (aggs (nthV 0 (vs1.drop 1))).bind fun cs5 =>
 (iload false 1 cs5 1).bind fun t20 =>
 (iload false 1 cs4 0).bind fun t22 =>
 callK (g30 lim t22 H2) fun t23 H3 =>
 (istore false 1 [(.slice none 0 0)] 0 t23).bind fun cs6 =>
 (istore true 1 [(.slice none 0 0)] 0 (.agg ⟨cs6⟩)).bind fun cs7 =>
 rowK (lrow 1 1 cs7) fun m1 new1 =>
 callK (iappend false 1 24 lim H3 t20 m1 new1) fun t26 H4 =>
 (aggs (nthV 0 (vs1.drop 1))).bind fun cs8 =>
 (istore false 1 cs8 1 t26).bind fun cs9 =>
 some (.norm ([] ++ [.agg ⟨cs9⟩]), H4)) fun vs2 H5 =>
 (ibin .add .no (nthV 0 vs1) (.int .i64 1)).bind fun t28 =>
 (aggs (nthV 0 (vs2.drop 0))).bind fun cs10 =>
 some (.norm ([t28] ++ [.agg ⟨cs10⟩]), H5))
 else
 (aggs (nthV 0 (vs1.drop 1))).bind fun cs11 =>
 some (.exit 0 ([] ++ [.agg ⟨cs11⟩]), H2))) N ([(.int .i64 0)] ++ [.agg ⟨cs3⟩]) H1) fun vs3 H6 =>
 (iload false 1 cs1 2).bind fun t30 =>
 (ilenS t30).bind fun t31 =>
 catchK 2 ((aggs (nthV 0 (vs3.drop 0))).bind fun cs22 =>
 iloop (fun vs4 H7 =>
 (ibin .lss .no (nthV 0 vs4) t31).bind fun t33 =>
 (boolK t33 fun b2 => bif b2 then
 (catchK 3 ((iidx 5 t30 (nthV 0 vs4)).bind fun t34 =>
 (hload true 5 H7 t34).bind fun t35 =>
 (istore true 5 [(.slice none 0 0), (.int .i64 0), (.int .i64 0), (.slice none 0 0), (.slice none 0 0)] 0 t35).bind fun cs12 =>
 (iload false 1 cs12 0).bind fun t37 =>
 callK (g30 lim t37 H7) fun t38 H8 =>
 (iload false 1 cs12 3).bind fun t40 =>
 callK (g30 lim t40 H8) fun t41 H9 =>
 (iload false 1 cs12 4).bind fun t43 =>
 callK (g71 lim t43 H9) fun t44 H10 =>
 (istore false 1 cs12 0 t38).bind fun cs13 =>
 (istore false 1 cs13 3 t41).bind fun cs14 =>
 (istore false 1 cs14 4 t44).bind fun cs15 =>
 (aggs (nthV 0 (vs4.drop 1))).bind fun cs16 =>
 (iload false 1 cs16 2).bind fun t49 =>
 (iload true 5 cs15 0).bind fun t50 =>
 (istore true 5 [(.slice none 0 0), (.int .i64 0), (.int .i64 0), (.slice none 0 0), (.slice none 0 0)] 0 t50).bind fun cs17 =>
 rowK (lrow 5 1 cs17) fun m2 new2 =>
 callK (iappend false 5 88 lim H10 t49 m2 new2) fun t52 H11 =>
 (aggs (nthV 0 (vs4.drop 1))).bind fun cs18 =>
 (istore false 1 cs18 2 t52).bind fun cs19 =>
 some (.norm ([] ++ [.agg ⟨cs19⟩]), H11)) fun vs5 H12 =>
 (ibin .add .no (nthV 0 vs4) (.int .i64 1)).bind fun t54 =>
 (aggs (nthV 0 (vs5.drop 0))).bind fun cs20 =>
 some (.norm ([t54] ++ [.agg ⟨cs20⟩]), H12))
 else
 (aggs (nthV 0 (vs4.drop 1))).bind fun cs21 =>
 some (.exit 2 ([] ++ [.agg ⟨cs21⟩]), H7))) N ([(.int .i64 0)] ++ [.agg ⟨cs22⟩]) H6) fun vs6 H13 =>
 (aggs (nthV 0 (vs6.drop 0))).bind fun cs23 =>
 (iload true 3 cs23 0).bind fun t55 =>
 (istore true 3 [(.slice none 0 0), (.slice none 0 0), (.slice none 0 0)] 0 t55).bind fun cs24 =>
 (iload true 3 cs24 0).bind fun r1 =>
 some (.ret r1, H13))
def F26 (N lim : Nat) (a0 : Value) (H : IHeap) : RV := B26 N (F30 N) (F71 N) lim a0 H
def G26 (N : Nat) : G := w1 (F26 N)
theorem eq26 (N : Nat) (g30 : RF1) (g71 : RF1) (lim : Nat) (a0 : Value) (H : IHeap) : ifun Tryz.prog { fn := envOf [(30, Ideal.w1 g30), (71, Ideal.w1 g71)], wr := [30, 71] } { promo := [1, 2, 3, 5, 7, 25, 51], share := false } N (okOf Tryz.prog { promo := [1, 2, 3, 5, 7, 25, 51], share := false } [30, 71]) Tryz.f26 (.seq (.region []) (.seq (.region []) (.seq (.seq (.region []) (.block [] [3] [3, 5, 25] (.loop [15] [3] [3, 5, 25] (.seq (.region []) (.seq (.inl .leaf .leaf) (.seq (.block [] [3] [3, 5, 25] (.seq (.region []) (.region []))) (.region []))))))) (.seq (.seq (.region []) (.block [] [3] [3, 7, 51] (.loop [32] [3] [3, 7, 51] (.seq (.region []) (.seq (.inl .leaf .leaf) (.seq (.block [] [3] [3, 7, 51] (.seq (.region []) (.seq (.region []) (.region [])))) (.region []))))))) (.seq (.region []) .leaf))))) lim [a0] H = B26 N g30 g71 lim a0 H := by kernel_rfl
theorem sim26 (N : Nat) : SimF Tryz.prog 26 (G26 N) := by
  refine SimF.gen [(30, G30 N), (71, G71 N)] [30, 71] { promo := [1, 2, 3, 5, 7, 25, 51], share := false } N (.seq (.region []) (.seq (.region []) (.seq (.seq (.region []) (.block [] [3] [3, 5, 25] (.loop [15] [3] [3, 5, 25] (.seq (.region []) (.seq (.inl .leaf .leaf) (.seq (.block [] [3] [3, 5, 25] (.seq (.region []) (.region []))) (.region []))))))) (.seq (.seq (.region []) (.block [] [3] [3, 7, 51] (.loop [32] [3] [3, 7, 51] (.seq (.region []) (.seq (.inl .leaf .leaf) (.seq (.block [] [3] [3, 7, 51] (.seq (.region []) (.seq (.region []) (.region [])))) (.region []))))))) (.seq (.region []) .leaf))))) Tryz.func26 (by kernel_rfl) (by kernel_rfl) (env_cons (sim30 N) (env_cons (sim71 N) env_nil)) ?_
  intro lim args H r h
  unfold G26 w1 at h
  split at h
  · exact (eq26 N (F30 N) (F71 N) lim _ H).trans h
  · simp at h
/-- besom/arena.New -/
def B73 (N : Nat) (lim : Nat) (pages0 : Value) (H : IHeap) : RV :=
 retK ((iminmax false [pages0, (.int .i64 0)]).bind fun t5 =>
 (iminmax true [t5, (.int .i64 64)]).bind fun t6 =>
 callK (imake 8 [(.pointer none)] H t6 t6) fun t8 H1 =>
 (ibin .shl .no t6 (.int .u64 5)).bind fun t10 =>
 callK (imake 8 [(.int .i64 0)] H1 t10 t10) fun t11 H2 =>
 (istore false 1 [(.slice none 0 0), (.slice none 0 0)] 0 t8).bind fun cs1 =>
 (istore false 1 cs1 1 t11).bind fun cs2 =>
 (cellsOf true 2 (.agg ⟨cs2⟩)).bind fun cs3 =>
 some (.ret (ptr H2.next 0), (H2.push (.cells cs3 0))))
def F73 (N lim : Nat) (a0 : Value) (H : IHeap) : RV := B73 N lim a0 H
def G73 (N : Nat) : G := w1 (F73 N)
theorem eq73 (N : Nat) (lim : Nat) (a0 : Value) (H : IHeap) : ifun Tryz.prog { fn := envOf [], wr := [] } { promo := [], share := false } N (okOf Tryz.prog { promo := [], share := false } []) Tryz.f73 (.seq (.region []) (.seq (.region []) (.seq (.region []) .leaf))) lim [a0] H = B73 N lim a0 H := by kernel_rfl
theorem sim73 (N : Nat) : SimF Tryz.prog 73 (G73 N) := by
  refine SimF.gen [] [] { promo := [], share := false } N (.seq (.region []) (.seq (.region []) (.seq (.region []) .leaf))) Tryz.func73 (by kernel_rfl) (by kernel_rfl) env_nil ?_
  intro lim args H r h
  unfold G73 w1 at h
  split at h
  · exact (eq73 N lim _ H).trans h
  · simp at h
/-- besom/heap.New -/
def B27 (N : Nat) (g72 : RF1) (g73 : RF1) (lim : Nat) (pages0 shapes1 : Value) (H : IHeap) : RV :=
 retK (callK (g72 lim shapes1 H) fun t11 H1 =>
 (ibin .neq .no t11 (.int .i64 0)).bind fun t13 =>
 (boolK t13 fun b1 => bif b1 then
 (some (.ret (.tuple ⟨[(.pointer none), t11]⟩), H1))
 else
 (ilenS shapes1).bind fun t16 =>
 catchK 0 (iloop (fun vs1 H2 =>
 (ibin .lss .no (nthV 1 vs1) t16).bind fun t18 =>
 (boolK t18 fun b2 => bif b2 then
 (catchK 1 ((iidx 1 shapes1 (nthV 1 vs1)).bind fun t19 =>
 (hload true 1 H2 t19).bind fun t20 =>
 (istore true 1 [(.slice none 0 0)] 0 t20).bind fun cs1 =>
 (iload false 1 cs1 0).bind fun t23 =>
 rowK (hrow 1 H2 t23) fun m1 new1 =>
 callK (iappend false 1 8 lim H2 (.slice none 0 0) m1 new1) fun t24 H3 =>
 (istore false 1 [(.slice none 0 0)] 0 t24).bind fun cs2 =>
 (istore true 1 [(.slice none 0 0)] 0 (.agg ⟨cs2⟩)).bind fun cs3 =>
 rowK (lrow 1 1 cs3) fun m2 new2 =>
 callK (iappend false 1 24 lim H3 (nthV 0 vs1) m2 new2) fun t27 H4 =>
 some (.norm ([t27] ++ []), H4)) fun vs2 H5 =>
 (ibin .add .no (nthV 1 vs1) (.int .i64 1)).bind fun t28 =>
 some (.norm ([(nthV 0 vs2), t28] ++ []), H5))
 else
 some (.exit 0 ([(nthV 0 vs1)] ++ []), H2))) N ([(.slice none 0 0), (.int .i64 0)] ++ []) H1) fun vs3 H6 =>
 callK (g73 lim pages0 H6) fun t30 H7 =>
 (istore false 1 [(.pointer none), (.slice none 0 0), (.map none), (.int .i64 0), (.int .i64 0)] 0 t30).bind fun cs4 =>
 (istore false 1 cs4 1 (nthV 0 vs3)).bind fun cs5 =>
 (istore false 1 cs5 2 (.map (some H7.next))).bind fun cs6 =>
 (cellsOf true 5 (.agg ⟨cs6⟩)).bind fun cs7 =>
 some (.ret (.tuple ⟨[(ptr (H7.push (.map 3 [] 0)).next 0), (.int .i64 0)]⟩), ((H7.push (.map 3 [] 0)).push (.cells cs7 0)))))
def F27 (N lim : Nat) (a0 a1 : Value) (H : IHeap) : RV := B27 N (F72 N) (F73 N) lim a0 a1 H
def G27 (N : Nat) : G := w2 (F27 N)
theorem eq27 (N : Nat) (g72 : RF1) (g73 : RF1) (lim : Nat) (a0 a1 : Value) (H : IHeap) : ifun Tryz.prog { fn := envOf [(72, Ideal.w1 g72), (73, Ideal.w1 g73)], wr := [] } { promo := [9, 26], share := false } N (okOf Tryz.prog { promo := [9, 26], share := false } []) Tryz.f27 (.seq (.region []) (.seq (.seq (.region []) (.seq (.region []) (.inl (.seq (.region []) .leaf) .leaf))) (.seq (.region []) (.seq (.seq (.region []) (.block [7] [] [9, 26] (.loop [7, 17] [] [9, 26] (.seq (.region []) (.seq (.inl .leaf .leaf) (.seq (.block [7] [] [9, 26] (.seq (.region []) (.region []))) (.region []))))))) (.seq (.region []) .leaf))))) lim [a0, a1] H = B27 N g72 g73 lim a0 a1 H := by kernel_rfl
theorem sim27 (N : Nat) : SimF Tryz.prog 27 (G27 N) := by
  refine SimF.gen [(72, G72 N), (73, G73 N)] [] { promo := [9, 26], share := false } N (.seq (.region []) (.seq (.seq (.region []) (.seq (.region []) (.inl (.seq (.region []) .leaf) .leaf))) (.seq (.region []) (.seq (.seq (.region []) (.block [7] [] [9, 26] (.loop [7, 17] [] [9, 26] (.seq (.region []) (.seq (.inl .leaf .leaf) (.seq (.block [7] [] [9, 26] (.seq (.region []) (.region []))) (.region []))))))) (.seq (.region []) .leaf))))) Tryz.func27 (by kernel_rfl) (by kernel_rfl) (env_cons (sim72 N) (env_cons (sim73 N) env_nil)) ?_
  intro lim args H r h
  unfold G27 w2 at h
  split at h
  · exact (eq27 N (F72 N) (F73 N) lim _ _ H).trans h
  · simp at h
/-- besom/pile.New -/
def B28 (N : Nat) (lim : Nat) (room0 : Value) (H : IHeap) : RV :=
 retK ((iminmax false [room0, (.int .i64 1)]).bind fun t4 =>
 (iminmax true [t4, (.int .i64 1000)]).bind fun t5 =>
 (istore false 1 [(.int .i64 0), (.slice none 0 0), (.bool false)] 0 t5).bind fun cs1 =>
 (cellsOf true 3 (.agg ⟨cs1⟩)).bind fun cs2 =>
 some (.ret (ptr H.next 0), (H.push (.cells cs2 0))))
def F28 (N lim : Nat) (a0 : Value) (H : IHeap) : RV := B28 N lim a0 H
def G28 (N : Nat) : G := w1 (F28 N)
theorem eq28 (N : Nat) (lim : Nat) (a0 : Value) (H : IHeap) : ifun Tryz.prog { fn := envOf [], wr := [] } { promo := [], share := false } N (okOf Tryz.prog { promo := [], share := false } []) Tryz.f28 (.seq (.region []) (.seq (.region []) .leaf)) lim [a0] H = B28 N lim a0 H := by kernel_rfl
theorem sim28 (N : Nat) : SimF Tryz.prog 28 (G28 N) := by
  refine SimF.gen [] [] { promo := [], share := false } N (.seq (.region []) (.seq (.region []) .leaf)) Tryz.func28 (by kernel_rfl) (by kernel_rfl) env_nil ?_
  intro lim args H r h
  unfold G28 w1 at h
  split at h
  · exact (eq28 N lim _ H).trans h
  · simp at h
/-- besom/world.New -/
def B11 (N : Nat) (g23 : RF1) (g24 : RF1) (g25 : RF2) (g26 : RF1) (g27 : RF2) (g28 : RF1) (g29 : RF3) (lim : Nat) (p0 c1 : Value) (H : IHeap) : RV :=
 retK ((cellsOf true 3 p0).bind fun cs1 =>
 (cellsOf true 5 c1).bind fun cs2 =>
 (iload true 5 cs2 0).bind fun t14 =>
 callK (g23 lim t14 H) fun t15 H1 =>
 (ibin .neq .no t15 (.int .i64 0)).bind fun t17 =>
 (boolK t17 fun b1 => bif b1 then
 ((istore true 2 [(.int .i64 0), (.int .i64 0)] 0 (.agg ⟨[(.int .i64 0), (.int .i64 0)]⟩)).bind fun cs3 =>
 (iload true 2 cs3 0).bind fun r1 =>
 some (.ret (.tuple ⟨[(.pointer none), t15, r1]⟩), H1))
 else
 (iload true 3 cs1 0).bind fun t21 =>
 callK (g24 lim t21 H1) fun t22 H2 =>
 (iextract 0 t22).bind fun t23 =>
 (iextract 1 t22).bind fun t24 =>
 (iextract 2 t22).bind fun t25 =>
 (istore true 2 [(.int .i64 0), (.int .i64 0)] 0 t25).bind fun cs4 =>
 (ibin .neq .no t24 (.int .i64 0)).bind fun t27 =>
 (boolK t27 fun b2 => bif b2 then
 ((iload true 2 cs4 0).bind fun t29 =>
 (istore true 2 [(.int .i64 0), (.int .i64 0)] 0 t29).bind fun cs5 =>
 (iload true 2 cs5 0).bind fun r2 =>
 some (.ret (.tuple ⟨[(.pointer none), t24, r2]⟩), H2))
 else
 (iload true 3 cs1 0).bind fun t30 =>
 callK (g25 lim t30 (.int .i64 0) H2) fun t31 H3 =>
 (iload false 1 cs2 2).bind fun t33 =>
 (ibin .gtr .no t31 t33).bind fun t34 =>
 (boolK t34 fun b3 => bif b3 then
 ((istore true 2 [(.int .i64 0), (.int .i64 0)] 0 (.agg ⟨[(.int .i64 0), (.int .i64 0)]⟩)).bind fun cs6 =>
 (iload true 2 cs6 0).bind fun r3 =>
 some (.ret (.tuple ⟨[(.pointer none), (.int .i64 5), r3]⟩), H3))
 else
 (iload true 3 cs1 0).bind fun t36 =>
 callK (g26 lim t36 H3) fun t37 H4 =>
 (istore true 3 cs1 0 t37).bind fun cs7 =>
 (iload false 1 cs2 0).bind fun t40 =>
 (iload false 1 cs7 1).bind fun t42 =>
 callK (g27 lim t40 t42 H4) fun t43 H5 =>
 (iextract 0 t43).bind fun t44 =>
 (iextract 1 t43).bind fun t45 =>
 (iload true 3 cs7 0).bind fun t46 =>
 (iload true 5 cs2 0).bind fun t47 =>
 (iload false 1 cs2 4).bind fun t51 =>
 callK (g28 H5.next t51 H5) fun t52 H6 =>
 (iload false 1 cs7 0).bind fun t54 =>
 (ilenS t54).bind fun t55 =>
 callK (imake 8 [(.int .i64 0)] H6 t55 t55) fun t56 H7 =>
 (istore true 3 [(.slice none 0 0), (.slice none 0 0), (.slice none 0 0), (.int .i64 0), (.int .i64 0), (.int .i64 0), (.int .i64 0), (.int .i64 0), (.pointer none), (.pointer none), (.pointer none), (.int .u64 0), (.int .i64 0), (.int .i64 0), (.int .i64 0), (.slice none 0 0), (.slice none 0 0), (.slice none 0 0), (.slice none 0 0), (.int .i64 0), (.int .i64 0), (.int .i64 0)] 0 t46).bind fun cs8 =>
 (istore true 5 cs8 3 t47).bind fun cs9 =>
 (istore false 1 cs9 8 t23).bind fun cs10 =>
 (istore false 1 cs10 9 t44).bind fun cs11 =>
 (istore false 1 cs11 10 t52).bind fun cs12 =>
 (istore false 1 cs12 17 t56).bind fun cs13 =>
 (cellsOf true 22 (.agg ⟨cs13⟩)).bind fun cs14 =>
 callK (g29 lim (ptr H7.next 0) (.int .i64 0) (.slice none 0 0) (H7.push (.cells cs14 0))) fun t60 H8 =>
 (istore true 2 [(.int .i64 0), (.int .i64 0)] 0 (.agg ⟨[(.int .i64 0), (.int .i64 0)]⟩)).bind fun cs15 =>
 (iload true 2 cs15 0).bind fun r4 =>
 some (.ret (.tuple ⟨[(ptr H7.next 0), (.int .i64 0), r4]⟩), H8)))))
def F11 (N lim : Nat) (a0 a1 : Value) (H : IHeap) : RV := B11 N (F23 N) (F24 N) (F25 N) (F26 N) (F27 N) (F28 N) (F29 N) lim a0 a1 H
def G11 (N : Nat) : G := w2 (F11 N)
theorem eq11 (N : Nat) (g23 : RF1) (g24 : RF1) (g25 : RF2) (g26 : RF1) (g27 : RF2) (g28 : RF1) (g29 : RF3) (lim : Nat) (a0 a1 : Value) (H : IHeap) : ifun Tryz.prog { fn := envOf [(23, Ideal.w1 g23), (24, Ideal.w1 g24), (25, Ideal.w2 g25), (26, Ideal.w1 g26), (27, Ideal.w2 g27), (28, Ideal.w1 g28), (29, Ideal.w3 g29)], wr := [25] } { promo := [2, 3, 6, 10], share := false } N (okOf Tryz.prog { promo := [2, 3, 6, 10], share := false } [25]) Tryz.f11 (.seq (.region []) (.seq (.seq (.region []) (.seq (.region []) (.inl (.seq (.region []) .leaf) .leaf))) (.seq (.region []) (.seq (.seq (.region []) (.inl (.seq (.region []) .leaf) .leaf)) (.seq (.seq (.region []) (.inl (.seq (.region []) .leaf) .leaf)) (.seq (.region []) (.seq (.region []) (.seq (.region []) (.seq (.region []) (.seq (.region []) .leaf)))))))))) lim [a0, a1] H = B11 N g23 g24 g25 g26 g27 g28 g29 lim a0 a1 H := by kernel_rfl
theorem sim11 (N : Nat) : SimF Tryz.prog 11 (G11 N) := by
  refine SimF.gen [(23, G23 N), (24, G24 N), (25, G25 N), (26, G26 N), (27, G27 N), (28, G28 N), (29, G29 N)] [25] { promo := [2, 3, 6, 10], share := false } N (.seq (.region []) (.seq (.seq (.region []) (.seq (.region []) (.inl (.seq (.region []) .leaf) .leaf))) (.seq (.region []) (.seq (.seq (.region []) (.inl (.seq (.region []) .leaf) .leaf)) (.seq (.seq (.region []) (.inl (.seq (.region []) .leaf) .leaf)) (.seq (.region []) (.seq (.region []) (.seq (.region []) (.seq (.region []) (.seq (.region []) .leaf)))))))))) Tryz.func11 (by kernel_rfl) (by kernel_rfl) (env_cons (sim23 N) (env_cons (sim24 N) (env_cons (sim25 N) (env_cons (sim26 N) (env_cons (sim27 N) (env_cons (sim28 N) (env_cons (sim29 N) env_nil))))))) ?_
  intro lim args H r h
  unfold G11 w2 at h
  split at h
  · exact (eq11 N (F23 N) (F24 N) (F25 N) (F26 N) (F27 N) (F28 N) (F29 N) lim _ _ H).trans h
  · simp at h
/-- (*besom/world.World).Out -/
def B12 (N : Nat) (g16 : RF1) (g30 : RF1) (lim : Nat) (w0 : Value) (H : IHeap) : RV :=
 retK (callK (g16 lim w0 H) fun t4 H1 =>
 (boolK t4 fun b1 => bif b1 then
 (some (.ret (.slice none 0 0), H1))
 else
 (inilc w0).bind fun t6 =>
 (paddr 18 t6).bind fun t7 =>
 (hload false 1 H1 t7).bind fun t8 =>
 callK (g30 lim t8 H1) fun t9 H2 =>
 some (.ret t9, H2)))
def F12 (N lim : Nat) (a0 : Value) (H : IHeap) : RV := B12 N (F16 N) (F30 N) lim a0 H
def G12 (N : Nat) : G := w1 (F12 N)
theorem eq12 (N : Nat) (g16 : RF1) (g30 : RF1) (lim : Nat) (a0 : Value) (H : IHeap) : ifun Tryz.prog { fn := envOf [(16, Ideal.w1 g16), (30, Ideal.w1 g30)], wr := [] } { promo := [], share := false } N (okOf Tryz.prog { promo := [], share := false } []) Tryz.f12 (.seq (.region []) (.seq (.seq (.region []) (.inl (.seq (.region []) .leaf) .leaf)) (.seq (.region []) .leaf))) lim [a0] H = B12 N g16 g30 lim a0 H := by kernel_rfl
theorem sim12 (N : Nat) : SimF Tryz.prog 12 (G12 N) := by
  refine SimF.gen [(16, G16 N), (30, G30 N)] [] { promo := [], share := false } N (.seq (.region []) (.seq (.seq (.region []) (.inl (.seq (.region []) .leaf) .leaf)) (.seq (.region []) .leaf))) Tryz.func12 (by kernel_rfl) (by kernel_rfl) (env_cons (sim16 N) (env_cons (sim30 N) env_nil)) ?_
  intro lim args H r h
  unfold G12 w1 at h
  split at h
  · exact (eq12 N (F16 N) (F30 N) lim _ H).trans h
  · simp at h
/-- besom/besomlaw24.alive -/
def B4 (N : Nat) (g7 : RF0) (g8 : RF2) (g9 : RF1) (g11 : RF2) (g12 : RF1) (lim : Nat) (H : IHeap) : RV :=
 retK ((istore false 1 [(.int .i64 0), (.int .i64 0), (.int .i64 0), (.int .i64 0)] 0 (.int .i64 1)).bind fun cs1 =>
 (istore false 1 cs1 2 (.int .i64 5)).bind fun cs2 =>
 (istore false 1 [(.int .i64 0), (.int .i64 0), (.int .i64 0), (.int .i64 0)] 0 (.int .i64 29)).bind fun cs3 =>
 (istore false 1 [(.int .i64 0), (.int .i64 0), (.int .i64 0), (.int .i64 0)] 0 (.int .i64 27)).bind fun cs4 =>
 (istore true 4 [(.int .i64 0), (.int .i64 0), (.int .i64 0), (.int .i64 0), (.int .i64 0), (.int .i64 0), (.int .i64 0), (.int .i64 0), (.int .i64 0), (.int .i64 0), (.int .i64 0), (.int .i64 0)] 0 (.agg ⟨cs2⟩)).bind fun cs5 =>
 (istore true 4 cs5 4 (.agg ⟨cs3⟩)).bind fun cs6 =>
 (istore true 4 cs6 8 (.agg ⟨cs4⟩)).bind fun cs7 =>
 (istore false 1 [(.slice none 0 0), (.int .i64 0), (.int .i64 0), (.slice none 0 0), (.slice none 0 0)] 2 (.int .i64 1)).bind fun cs8 =>
 (istore false 1 cs8 4 (slc 4 H.next 0 3 4)).bind fun cs9 =>
 (istore true 5 [(.slice none 0 0), (.int .i64 0), (.int .i64 0), (.slice none 0 0), (.slice none 0 0)] 0 (.agg ⟨cs9⟩)).bind fun cs10 =>
 (istore false 1 [(.slice none 0 0), (.slice none 0 0), (.slice none 0 0)] 2 (slc 5 (H.push (.cells cs7 0)).next 0 1 2)).bind fun cs11 =>
 (istore true 3 [(.slice none 0 0), (.slice none 0 0), (.slice none 0 0)] 0 (.agg ⟨cs11⟩)).bind fun cs12 =>
 (iload true 3 cs12 0).bind fun t15 =>
 callK (g7 lim ((H.push (.cells cs7 0)).push (.cells cs10 0))) fun t16 H1 =>
 callK (g11 lim t15 t16 H1) fun t17 H2 =>
 (iextract 0 t17).bind fun t18 =>
 (iextract 1 t17).bind fun t19 =>
 (iextract 2 t17).bind fun t20 =>
 (istore true 2 [(.int .i64 0), (.int .i64 0)] 0 t20).bind fun cs13 =>
 (ibin .neq .no t19 (.int .i64 0)).bind fun t22 =>
 (gval false t22).bind fun w1 => grpK (bif w1 then
 ((ibin .eql .ptr t18 (.pointer none)).bind fun t25 =>
 some ([t25], H2))
 else some ([Value.tuple #[]], H2)) fun vs1 H3 =>
 (pickK t22 (.bool true) (nthV 0 vs1)).bind fun t26 =>
 (boolK t26 fun b2 => bif b2 then
 (some (.ret (.bool false), H3))
 else
 (istore true 2 [(.int .i64 0), (.int .i64 0), (.int .i64 0), (.int .i64 0), (.int .i64 0), (.int .i64 0), (.int .i64 0), (.int .i64 0), (.int .i64 0), (.int .i64 0), (.int .i64 0), (.int .i64 0)] 0 (.agg ⟨[(.int .i64 0), (.int .i64 0)]⟩)).bind fun cs14 =>
 (istore true 2 cs14 2 (.agg ⟨[(.int .i64 0), (.int .i64 0)]⟩)).bind fun cs15 =>
 (istore true 2 cs15 4 (.agg ⟨[(.int .i64 0), (.int .i64 0)]⟩)).bind fun cs16 =>
 (istore true 2 cs16 6 (.agg ⟨[(.int .i64 0), (.int .i64 0)]⟩)).bind fun cs17 =>
 (istore true 2 cs17 8 (.agg ⟨[(.int .i64 0), (.int .i64 0)]⟩)).bind fun cs18 =>
 (istore true 2 cs18 10 (.agg ⟨[(.int .i64 0), (.int .i64 0)]⟩)).bind fun cs19 =>
 callK (g8 lim t18 (slc 2 H3.next 0 6 7) (H3.push (.cells cs19 0))) fun t35 H4 =>
 callK (g12 lim t18 H4) fun t37 H5 =>
 (ibin .eql .no t35 (.int .i64 5)).bind fun t39 =>
 (gval true t39).bind fun w2 => grpK (bif w2 then
 (callK (g9 lim t18 H5) fun t42 H7 =>
 (ibin .eql .no t42 (.int .i64 1)).bind fun t43 =>
 some ([t43], H7))
 else some ([Value.tuple #[]], H5)) fun vs2 H6 =>
 (pickK t39 (nthV 0 vs2) (.bool false)).bind fun t44 =>
 (gval true t44).bind fun w3 => grpK (bif w3 then
 ((ilenS t37).bind fun t47 =>
 (ibin .eql .no t47 (.int .i64 1)).bind fun t48 =>
 some ([t48], H6))
 else some ([Value.tuple #[]], H6)) fun vs3 H8 =>
 (pickK t44 (nthV 0 vs3) (.bool false)).bind fun t49 =>
 (gval true t49).bind fun w4 => grpK (bif w4 then
 ((iidx 1 t37 (.int .i64 0)).bind fun t52 =>
 (hload false 1 H8 t52).bind fun t53 =>
 (ibin .eql .no t53 (.int .i64 5)).bind fun t54 =>
 some ([t54], H8))
 else some ([Value.tuple #[]], H8)) fun vs4 H9 =>
 (pickK t49 (nthV 0 vs4) (.bool false)).bind fun t55 =>
 some (.ret t55, H9)))
def F4 (N lim : Nat) (H : IHeap) : RV := B4 N (F7 N) (F8 N) (F9 N) (F11 N) (F12 N) lim H
def G4 (N : Nat) : G := w0 (F4 N)
theorem eq4 (N : Nat) (g7 : RF0) (g8 : RF2) (g9 : RF1) (g11 : RF2) (g12 : RF1) (lim : Nat) (H : IHeap) : ifun Tryz.prog { fn := envOf [(7, Ideal.w0 g7), (8, Ideal.w2 g8), (9, Ideal.w1 g9), (11, Ideal.w2 g11), (12, Ideal.w1 g12)], wr := [7, 11] } { promo := [1, 4], share := false } N (okOf Tryz.prog { promo := [1, 4], share := false } [7, 11]) Tryz.f4 (.seq (.region []) (.seq (.region []) (.seq (.region []) (.seq (.seq (.region [[25]]) (.inl (.seq (.region []) .leaf) .leaf)) (.seq (.region []) (.seq (.region []) (.seq (.region [[43], [48], [54]]) .leaf))))))) lim [] H = B4 N g7 g8 g9 g11 g12 lim H := by kernel_rfl
theorem sim4 (N : Nat) : SimF Tryz.prog 4 (G4 N) := by
  refine SimF.gen [(7, G7 N), (8, G8 N), (9, G9 N), (11, G11 N), (12, G12 N)] [7, 11] { promo := [1, 4], share := false } N (.seq (.region []) (.seq (.region []) (.seq (.region []) (.seq (.seq (.region [[25]]) (.inl (.seq (.region []) .leaf) .leaf)) (.seq (.region []) (.seq (.region []) (.seq (.region [[43], [48], [54]]) .leaf))))))) Tryz.func4 (by kernel_rfl) (by kernel_rfl) (env_cons (sim7 N) (env_cons (sim8 N) (env_cons (sim9 N) (env_cons (sim11 N) (env_cons (sim12 N) env_nil))))) ?_
  intro lim args H r h
  unfold G4 w0 at h
  split at h
  · exact (eq4 N (F7 N) (F8 N) (F9 N) (F11 N) (F12 N) lim H).trans h
  · simp at h
/-- besom/besomref1.Of -/
def B5 (N : Nat) (lim : Nat) (v0 : Value) (H : IHeap) : RV :=
 retK ((ibin .and .no v0 (.int .i64 4294967295)).bind fun t5 =>
 (ibin .geq .no t5 (.int .i64 2147483648)).bind fun t7 =>
 (boolK t7 fun b1 => bif b1 then
 ((ibin .sub .no t5 (.int .i64 4294967296)).bind fun t9 =>
 some (.ret t9, H))
 else
 some (.ret t5, H)))
def F5 (N lim : Nat) (a0 : Value) (H : IHeap) : RV := B5 N lim a0 H
def G5 (N : Nat) : G := w1 (F5 N)
theorem eq5 (N : Nat) (lim : Nat) (a0 : Value) (H : IHeap) : ifun Tryz.prog { fn := envOf [], wr := [] } { promo := [], share := false } N (okOf Tryz.prog { promo := [], share := false } []) Tryz.f5 (.seq (.region []) (.seq (.region []) (.seq (.seq (.region []) (.inl (.seq (.region []) .leaf) .leaf)) (.seq (.region []) .leaf)))) lim [a0] H = B5 N lim a0 H := by kernel_rfl
theorem sim5 (N : Nat) : SimF Tryz.prog 5 (G5 N) := by
  refine SimF.gen [] [] { promo := [], share := false } N (.seq (.region []) (.seq (.region []) (.seq (.seq (.region []) (.inl (.seq (.region []) .leaf) .leaf)) (.seq (.region []) .leaf)))) Tryz.func5 (by kernel_rfl) (by kernel_rfl) env_nil ?_
  intro lim args H r h
  unfold G5 w1 at h
  split at h
  · exact (eq5 N lim _ H).trans h
  · simp at h
end Go.Ideal
